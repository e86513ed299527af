import PyProof.Rows.All
import Wide.All
import OpenK.AllK
import Wide.FinOn
import HandS.ForMost
import HandS.Exc
import HandS.TryOnly
import HandS.ExcOwn
import HandS.WordsExc
import HandS.Wide
import HandS.WideBits
import HandS.IsInst
import HandS.SortInts
import HandS.Style
import HandS.ExcIs
import HandS.ExcValue
import HandS.Conv
import HandS.Dict
import KE.DataMinMax
import HandS.RevRange
import HandS.More
import PyProof.SetRoads
import HandS.SetKeys
import HandS.TupAny
import HandS.NoneIn
import PyProof.EqKinds
import PyProof.FactsAll.dict
import HandS.ListItems
import PyProof.ReprRoads
import PyProof.ReprLen
import PyProof.Rows.StrJoinMade
import HandS.Set
import HandS.SetFor
import PySem.Challenge.RW_blindtouch_k74_pockets_counted
set_option Elab.async false
set_option linter.all false
set_option maxRecDepth 100000
set_option maxHeartbeats 4000000
/-! KL: readings over what is known of the heap: a frozen part G, and cells M that may be written. -/
namespace BT
open PySem PySem.Spec L2
open PyProof.Rows hiding St

abbrev Mem := List (Addr × HO)
structure Hv (G : Hp) (M : Mem) (H : Hp) : Prop where
  ex : ∀ a o, G a = some o → H a = some o
  mu : ∀ x, x ∈ M → H x.1 = some x.2
  nd : (M.map (·.1)).Nodup
  dj : ∀ x, x ∈ M → G x.1 = none
def Fr (G : Hp) (M : Mem) (p : Addr) : Prop := G p = none ∧ ∀ x, x ∈ M → x.1 ≠ p
def At (G : Hp) (M : Mem) (a : Addr) (o : HO) : Prop := (a, o) ∈ M ∨ G a = some o
section
variable {G : Hp} {M : Mem} {H : Hp} {p a : Addr} {o o' : HO} {n : Nat}
theorem Hv.self (H : Hp) : Hv H [] H := ⟨fun _ _ h => h, fun _ h => (nomatch h), List.nodup_nil, fun _ h => (nomatch h)⟩
theorem Hv.fr (h : Hv G M H) (hp : H p = none) : Fr G M p := by
  refine ⟨?_, fun x hx e => ?_⟩
  · cases e : G p with
    | none => rfl
    | some o => rw [h.ex p o e] at hp; cases hp
  · have := h.mu x hx
    rw [e, hp] at this; cases this
theorem Hv.at (h : Hv G M H) (q : At G M a o) : H a = some o := by
  rcases q with q | q
  · exact h.mu _ q
  · exact h.ex _ _ q
theorem Hv.newM (h : Hv G M H) (hp : H p = none) : Hv G ((p, o) :: M) (upd H p o) := by
  have f := h.fr hp
  refine ⟨fun b u e => ?_, fun x hx => ?_, ?_, fun x hx => ?_⟩
  · rw [upd_ne (ne_of_none (h.ex b u e) hp)]; exact h.ex b u e
  · rcases List.mem_cons.mp hx with rfl | hx
    · exact upd_same
    · rw [upd_ne (f.2 x hx)]; exact h.mu x hx
  · rw [List.map_cons, List.nodup_cons]
    refine ⟨fun hm => ?_, h.nd⟩
    obtain ⟨x, hx, e⟩ := List.mem_map.mp hm
    exact f.2 x hx e
  · rcases List.mem_cons.mp hx with rfl | hx
    · exact f.1
    · exact h.dj x hx
theorem Hv.newG (h : Hv G M H) (hp : H p = none) : Hv (upd G p o) M (upd H p o) := by
  have f := h.fr hp
  refine ⟨fun b u e => ?_, fun x hx => ?_, h.nd, fun x hx => ?_⟩
  · by_cases hb : b = p
    · subst hb; rw [upd_same] at e ⊢; exact e
    · rw [upd_ne hb] at e ⊢; exact h.ex b u e
  · rw [upd_ne (f.2 x hx)]; exact h.mu x hx
  · rw [upd_ne (f.2 x hx)]; exact h.dj x hx
/-- an object that nobody knows of is laid: nothing known changes -/
theorem Hv.junk (h : Hv G M H) (hp : H p = none) : Hv G M (upd H p o) := by
  have f := h.fr hp
  refine ⟨fun b u e => ?_, fun x hx => ?_, h.nd, h.dj⟩
  · rw [upd_ne (ne_of_none (h.ex b u e) hp)]; exact h.ex b u e
  · rw [upd_ne (f.2 x hx)]; exact h.mu x hx
theorem Hv.get (h : Hv G M H) (hn : M[n]? = some (p, o)) : H p = some o := h.mu _ (List.mem_of_getElem? hn)
theorem map_set_fst : ∀ (M : Mem) (n : Nat) (p : Addr) (o o' : HO), M[n]? = some (p, o) → (M.set n (p, o')).map (·.1) = M.map (·.1)
  | [], _, _, _, _, h => by simp at h
  | x :: M, 0, p, o, o', h => by
    have e : x = (p, o) := by simpa using h
    subst e; rfl
  | x :: M, n + 1, p, o, o', h => by
    have e : M[n]? = some (p, o) := by simpa using h
    show x.1 :: (M.set n (p, o')).map (·.1) = _
    rw [map_set_fst M n p o o' e]; rfl
theorem nodup_at : ∀ (M : Mem) (n : Nat) (p : Addr) (o : HO) (x : Addr × HO) (m : Nat), (M.map (·.1)).Nodup → M[n]? = some (p, o) → M[m]? = some x → x.1 = p → m = n := by
  intro M n p o x m hd h1 h2 e
  have q1 : (M.map (·.1))[n]? = some p := by rw [List.getElem?_map, h1]; rfl
  have q2 : (M.map (·.1))[m]? = some p := by rw [List.getElem?_map, h2, ← e]; rfl
  obtain ⟨l1, e1⟩ := List.getElem?_eq_some_iff.mp q1
  obtain ⟨l2, e2⟩ := List.getElem?_eq_some_iff.mp q2
  exact (List.getElem_inj hd).mp (e2.trans e1.symm)
theorem Hv.set (h : Hv G M H) (hn : M[n]? = some (p, o)) : Hv G (M.set n (p, o')) (upd H p o') := by
  have hlt : n < M.length := (List.getElem?_eq_some_iff.mp hn).1
  refine ⟨fun b u e => ?_, fun x hx => ?_, ?_, fun x hx => ?_⟩
  · have : b ≠ p := fun z => by
      have q := h.dj _ (List.mem_of_getElem? hn)
      rw [z] at e
      rw [show G p = none from q] at e; cases e
    rw [upd_ne this]; exact h.ex b u e
  · obtain ⟨m, hm⟩ := List.getElem?_of_mem hx
    by_cases e : m = n
    · subst e
      rw [List.getElem?_set_self hlt] at hm
      cases hm
      exact upd_same
    · rw [List.getElem?_set_ne (Ne.symm e)] at hm
      have : x.1 ≠ p := fun z => e (nodup_at M n p o x m h.nd hn hm z)
      rw [upd_ne this]
      exact h.mu x (List.mem_of_getElem? hm)
  · rw [map_set_fst M n p o o' hn]; exact h.nd
  · have : x.1 ∈ M.map (·.1) := by
      rw [← map_set_fst M n p o o' hn]; exact List.mem_map.mpr ⟨x, hx, rfl⟩
    obtain ⟨y, hy, e⟩ := List.mem_map.mp this
    rw [← e]; exact h.dj y hy
/-- what is known may be forgotten, and what may be written may be frozen -/
def Wk (G : Hp) (M : Mem) (G' : Hp) (M' : Mem) : Prop := ∀ H, Hv G M H → Hv G' M' H
theorem Wk.refl : Wk G M G M := fun _ h => h
theorem Wk.trans {G1 G2 G3 : Hp} {M1 M2 M3 : Mem} (a : Wk G1 M1 G2 M2) (b : Wk G2 M2 G3 M3) : Wk G1 M1 G3 M3 := fun H h => b H (a H h)
theorem Wk.drop (M1 : Mem) {x : Addr × HO} {M2 : Mem} : Wk G (M1 ++ x :: M2) G (M1 ++ M2) := fun H h => by
  refine ⟨h.ex, fun y hy => h.mu y ?_, ?_, fun y hy => h.dj y ?_⟩
  · rcases List.mem_append.mp hy with q | q
    · exact List.mem_append.mpr (.inl q)
    · exact List.mem_append.mpr (.inr (List.mem_cons_of_mem _ q))
  · refine h.nd.sublist ?_
    simp
  · rcases List.mem_append.mp hy with q | q
    · exact List.mem_append.mpr (.inl q)
    · exact List.mem_append.mpr (.inr (List.mem_cons_of_mem _ q))
theorem Wk.drop0 {x : Addr × HO} : Wk G (x :: M) G M := Wk.drop []
theorem Wk.drop1 {x y : Addr × HO} : Wk G (y :: x :: M) G (y :: M) := Wk.drop [y]
theorem Wk.frz (M1 : Mem) {M2 : Mem} : Wk G (M1 ++ (p, o) :: M2) (upd G p o) (M1 ++ M2) := fun H h => by
  have hp : H p = some o := h.mu (p, o) (by simp)
  have hg : G p = none := h.dj (p, o) (by simp)
  have h2 := Wk.drop (G := G) M1 (x := (p, o)) (M2 := M2) H h
  refine ⟨fun b u e => ?_, h2.mu, h2.nd, fun x hx => ?_⟩
  · by_cases hb : b = p
    · subst hb; rw [upd_same] at e; cases e; exact hp
    · rw [upd_ne hb] at e; exact h.ex b u e
  · have : x.1 ≠ p := fun z => by
      have nd := h.nd
      rw [List.map_append, List.map_cons, List.nodup_append] at nd
      obtain ⟨n1, n2, n3⟩ := nd
      rcases List.mem_append.mp hx with q | q
      · exact n3 x.1 (List.mem_map.mpr ⟨x, q, rfl⟩) p (by simp) z
      · rw [List.nodup_cons] at n2
        exact n2.1 (by rw [← z]; exact List.mem_map.mpr ⟨x, q, rfl⟩)
    rw [upd_ne this]; exact h2.dj x hx
theorem Wk.frz0 : Wk G ((p, o) :: M) (upd G p o) M := Wk.frz []
theorem Wk.perm {M' : Mem} (e : M'.Perm M) : Wk G M G M' := fun H h =>
  ⟨h.ex, fun x hx => h.mu x (e.mem_iff.mp hx), (e.map _).nodup_iff.mpr h.nd, fun x hx => h.dj x (e.mem_iff.mp hx)⟩
theorem Wk.swap {x y : Addr × HO} : Wk G (x :: y :: M) G (y :: x :: M) := Wk.perm (List.Perm.swap x y M)
/-- less of the frozen part -/
theorem Wk.less {G' : Hp} (e : ∀ a o, G' a = some o → G a = some o) : Wk G M G' M := fun H h =>
  ⟨fun a o q => h.ex a o (e a o q), h.mu, h.nd, fun x hx => by
    cases q : G' x.1 with
    | none => rfl
    | some o => have := h.dj x hx; rw [e _ _ q] at this; cases this⟩
end

/-! ### extension of the frozen part -/
def Ex (G G' : Hp) : Prop := ∀ a o, G a = some o → G' a = some o
theorem Ex.refl {G : Hp} : Ex G G := fun _ _ h => h
theorem Ex.trans {G G1 G2 : Hp} (a : Ex G G1) (b : Ex G1 G2) : Ex G G2 := fun x o h => b x o (a x o h)
theorem Ex.new {G : Hp} {M : Mem} {p : Addr} {o : HO} (h : Fr G M p) : Ex G (upd G p o) := fun a u e => by
  rw [upd_ne (ne_of_none e h.1)]; exact e
theorem Ex.new' {G : Hp} {p : Addr} {o : HO} (h : G p = none) : Ex G (upd G p o) := fun a u e => by
  rw [upd_ne (ne_of_none e h)]; exact e
theorem ex_rd {H H' : Hp} {a : Addr} {u : HO} (e : Ex H H') (h : Rd H a u) : Rd H' a u := by
  rcases h with h | ⟨o, h⟩
  · exact .inl (e a _ h)
  · exact .inr ⟨o, e a _ h⟩
theorem ex_l {K : PySem.W.Frag} {H H' : Hp} {a : Addr} {xs : List V} (e : Ex H H') (h : SqL K H a xs) : SqL K H' a xs := by
  rcases h with h | h
  · exact .inl (ex_rd e h)
  · exact .inr h
theorem ex_t {K : PySem.W.Frag} {H H' : Hp} {a : Addr} {xs : List V} (e : Ex H H') (h : SqT K H a xs) : SqT K H' a xs := by
  rcases h with h | h
  · exact .inl (ex_rd e h)
  · exact .inr h
mutual
theorem ex_d {K : PySem.W.Frag} {H H' : Hp} (e : Ex H H') : ∀ (d : PyData) {v : V}, Dp K H v d → Dp K H' v d
  | _, _, .non => .non
  | _, _, .bl b => .bl b
  | _, _, .int b => .int b
  | _, _, .str b => .str b
  | .list ds, _, .lst s a => .lst (ex_l e s) (ex_ds e ds a)
  | .tuple ds, _, .tup s a => .tup (ex_t e s) (ex_ds e ds a)
theorem ex_ds {K : PySem.W.Frag} {H H' : Hp} (e : Ex H H') : ∀ (ds : List PyData) {vs : List V}, DpAll K H vs ds → DpAll K H' vs ds
  | _, _, .nil => .nil
  | d :: ds, _, .cons a b => .cons (ex_d e d a) (ex_ds e ds b)
end
/-- a list, a tuple that can be read -/
def LstAt (K : PySem.W.Frag) (G : Hp) (M : Mem) (a : Addr) (xs : List V) : Prop := (a, HO.lst xs) ∈ M ∨ SqL K G a xs
def SeqAt' (K : PySem.W.Frag) (G : Hp) (M : Mem) (a : Addr) (xs : List V) : Prop := LstAt K G M a xs ∨ SqT K G a xs
/-- data that can be read -/
def DatAt (K : PySem.W.Frag) (G : Hp) (M : Mem) (v : V) (d : PyData) : Prop := ∀ H, Hv G M H → Dp K H v d
section
variable {K : PySem.W.Frag} {G : Hp} {M : Mem} {H : Hp} {a : Addr} {xs : List V}
theorem Hv.exx (h : Hv G M H) : Ex G H := h.ex
theorem Hv.lst (h : Hv G M H) (q : LstAt K G M a xs) : SqL K H a xs := by
  rcases q with q | q
  · exact .inl (.inl (h.mu _ q))
  · exact ex_l h.exx q
theorem Hv.tup (h : Hv G M H) (q : SqT K G a xs) : SqT K H a xs := ex_t h.exx q
theorem Hv.dat (h : Hv G M H) {v : V} {d : PyData} (q : DatAt K G M v d) : Dp K H v d := q H h
end

/-! ### judgements -/
abbrev KR := V → Hp → Mem → Prop
abbrev KX := Value → Option Addr → Hp → Mem → Prop
abbrev KK (α : Type) := St → Hp → Mem → (α → Hp → Mem → Prop) → KX → Prop
abbrev KE := KK V
abbrev KA := KK (List V)
abbrev KT := KK Bool
def upG {α : Type} (W : WX) (t : KK α) : St → Hp → (α → Hp → Prop) → Prop := fun σ H Q =>
  ∃ G M R E, Hv G M H ∧ t σ G M R E ∧ (∀ v G' M' H', Hv G' M' H' → R v G' M' → Q v H') ∧ (∀ c d G' M' H', Hv G' M' H' → E c d G' M' → W c d σ H')
def JE (X : Cx) (W : WX) (e : Expr) (t : KE) : Prop := PE X e (upG W t)
def JT (X : Cx) (W : WX) (e : Expr) (t : KT) : Prop := PT X e (upG W t)
def JW (X : Cx) (W : WX) (e : Expr) (t : KT) : Prop := PW X e (upG W t)
def JA (X : Cx) (W : WX) (es : List Expr) (t : KA) : Prop := PA X es (upG W t)
theorem pe_mono {X : Cx} {e : Expr} {t t' : TE} (h : PE X e t) (i : ∀ σ H Q, t' σ H Q → t σ H Q) : PE X e t' := ⟨fun pins s σ H Q I q => h.run pins s σ H Q I (i σ H Q q)⟩
theorem pt_mono {X : Cx} {e : Expr} {t t' : TT} (h : PT X e t) (i : ∀ σ H Q, t' σ H Q → t σ H Q) : PT X e t' := ⟨fun pins s σ H Q I q => h.run pins s σ H Q I (i σ H Q q)⟩
theorem pw_mono {X : Cx} {e : Expr} {t t' : TT} (h : PW X e t) (i : ∀ σ H Q, t' σ H Q → t σ H Q) : PW X e t' := ⟨fun wh pins s σ H Q I q => h.run wh pins s σ H Q I (i σ H Q q)⟩
theorem pa_mono {X : Cx} {e : List Expr} {t t' : TA} (h : PA X e t) (i : ∀ σ H Q, t' σ H Q → t σ H Q) : PA X e t' := ⟨fun pos pins s σ H Q I q => h.run pos pins s σ H Q I (i σ H Q q)⟩

section
variable {X : Cx} {W : WX} {pos : Pos}
/-- names, constants -/
def kVar (i : Nat) : KE := fun σ G M R _ => match σ[i]? with
  | some (some v) => R v G M
  | _ => False
def kC (v : V) : KE := fun _ G M R _ => R v G M
theorem je_var (i : Nat) {x : Str} (hN : X.N[i]? = some x := by rfl) (hv : Vis X.env.scope x := by first | exact Or.inl rfl | exact Or.inr (Or.inl rfl) | exact Or.inr (Or.inr rfl)) (hd : (x == ("__debug__" : Str)) = false := by decide)
    (hcd : (x == ("__classdict__" : Str)) = false := by decide) : JE X W (.Name x pos) (kVar i) := pe_mono (pe_var hN hv hd hcd) fun σ H Q ⟨G, M, R, E, hv, h, hR, _⟩ => by
  unfold kVar at h
  split at h
  · rename_i v e
    exact ⟨v, e, hR v G M H hv h⟩
  · exact h.elim
theorem je_c {e : Expr} {v : V} (h : PE X e (tC v)) : JE X W e (kC v) := pe_mono h fun σ H Q ⟨G, M, R, E, hv, h, hR, _⟩ => hR v G M H hv h
theorem je_int {i : Int} {j pos} : JE X W (.Constant (.int i) j pos) (kC (.int i)) := je_c pe_int
theorem je_bl {i : Bool} {j pos} : JE X W (.Constant (.bool i) j pos) (kC (.bl i)) := je_c pe_bl
theorem je_non {j pos} : JE X W (.Constant .none j pos) (kC .non) := je_c pe_non
theorem je_str {i : Str} {j pos} : JE X W (.Constant (.str i) j pos) (kC (.str i)) := je_c pe_str
/-- two in a row -/
def kBin {β : Type} (k : V → V → Hp → Mem → (β → Hp → Mem → Prop) → Prop) (ta tb : KE) : KK β := fun σ G M R E => ta σ G M (fun x G M => tb σ G M (fun y G M => k x y G M R) E) E
abbrev KR2 := V → V → Hp → Mem → KR → Prop
def KOp (X : Cx) (f : Value → Value → Sem Value) (k : KR2) : Prop :=
  ∀ (pins : List (Addr × Obj)) (s : Shared) (σ : St) (H : Hp) (x y : V) (v u : Value) (Q : VK) (G : Hp) (M : Mem) (R : KR), Inv X pins σ H s → RelV x v → RelV y u → Hv G M H → k x y G M R →
    (∀ v G' M' H', Hv G' M' H' → R v G' M' → Q v H') → wpAny (model X.prog X.w) X.A (f v u) (EP X pins σ Q) X.xe s
theorem kop_of {f : Value → Value → Sem Value} {r : R2} {k : KR2} (ho : OpR X f r)
    (s : ∀ x y G M R H Q, Hv G M H → k x y G M R → (∀ v G' M' H', Hv G' M' H' → R v G' M' → Q v H') → r x y H Q) : KOp X f k :=
  fun pins st σ H x y v u Q G M R I rx ry hv h hR => ho pins st σ H x y v u Q I rx ry (s x y G M R H Q hv h hR)
/-- an OpR whose reading is: it holds of k in some knowledge -/
def rUp (k : KR2) : R2 := fun x y H Q => ∃ G M R, Hv G M H ∧ k x y G M R ∧ ∀ v G' M' H', Hv G' M' H' → R v G' M' → Q v H'
theorem KOp.opr {f : Value → Value → Sem Value} {k : KR2} (h : KOp X f k) : OpR X f (rUp k) := fun pins s σ H x y v u Q I rx ry ⟨G, M, R, hv, hk, hR⟩ => h pins s σ H x y v u Q G M R I rx ry hv hk hR
theorem bin_sim {ta tb : KE} {k : KR2} {σ : St} {H : Hp} {Q : VK} (h : upG W (kBin k ta tb) σ H Q) : tOp (rUp k) (upG W ta) (upG W tb) σ H Q := by
  obtain ⟨G, M, R, E, hv, h, hR, hE⟩ := h
  exact ⟨G, M, _, E, hv, h, fun x G1 M1 H1 hv1 h1 => ⟨G1, M1, _, E, hv1, h1, fun y G2 M2 H2 hv2 h2 => ⟨G2, M2, R, hv2, h2, hR⟩, hE⟩, hE⟩
theorem je_op {a b : Expr} {op : Operator} {k : KR2} {ta tb : KE} (ho : KOp X (binaryOp op) k) (ha : JE X W a ta) (hb : JE X W b tb) : JE X W (.BinOp a op b pos) (kBin k ta tb) :=
  pe_mono (pe_op ho.opr ha hb) fun _ _ _ h => bin_sim h
theorem je_cmp {a b : Expr} {op : CmpOp} {k : KR2} {ta tb : KE} (ho : KOp X (compareOp op) k) (ha : JE X W a ta) (hb : JE X W b tb) (hm : behindInMarks op b = false) : JE X W (.Compare a [op] [b] pos) (kBin k ta tb) :=
  pe_mono (pe_cmpR ho.opr ha hb hm) fun _ _ _ h => bin_sim h
/-- a value as a test -/
def asB (R : Bool → Hp → Mem → Prop) : KR := fun v G M => match v with
  | .bl b => R b G M
  | _ => False
def kT (t : KE) : KT := fun σ G M R E => t σ G M (asB R) E
theorem asB_of {R : Bool → Hp → Mem → Prop} {v : V} {G : Hp} {M : Mem} (h : asB R v G M) : ∃ c, v = .bl c ∧ R c G M := by
  cases v <;> first | exact ⟨_, rfl, h⟩ | exact h.elim
theorem t_sim {t : KE} {σ : St} {H : Hp} {Q : Bool → Hp → Prop} (h : upG W (kT t) σ H Q) : tTest (upG W t) σ H Q := by
  obtain ⟨G, M, R, E, hv, h, hR, hE⟩ := h
  refine ⟨G, M, _, E, hv, h, fun v G1 M1 H1 hv1 h1 => ?_, hE⟩
  obtain ⟨c, rfl, h2⟩ := asB_of h1
  exact ⟨c, rfl, hR c G1 M1 H1 hv1 h2⟩
theorem jt_cmp {a b : Expr} {op : CmpOp} {k : KR2} {ta tb : KE} (ho : KOp X (compareOp op) k) (ha : JE X W a ta) (hb : JE X W b tb) (hm : behindInMarks op b = false) : JT X W (.Compare a [op] [b] pos) (kT (kBin k ta tb)) :=
  pt_mono (pt_cmpR ho.opr ha hb hm) fun σ H Q h => by
    have h2 := t_sim h
    exact bin_sim h2
theorem jt_val {e : Expr} {t : KE} (h : JE X W e t) (he : ∀ whole, isTrue e X.env whole = (do let v ← whole; standAt e.pos; holding [v] (truthy v)) := by intro _; rfl) : JT X W e (kT t) :=
  pt_mono (pt_val h he) fun σ H Q h => t_sim h
/-- chains -/
def kChain (k k' : KR2) (ta tb tc : KE) : KE := fun σ G M R E => ta σ G M (fun x G M => tb σ G M (fun y G M => k x y G M (asB fun c G M => if c = true then tc σ G M (fun z G M => k' y z G M R) E else R (.bl false) G M)) E) E
theorem chain_sim {ta tb tc : KE} {k k' : KR2} {σ : St} {H : Hp} {Q : VK} (h : upG W (kChain k k' ta tb tc) σ H Q) : tChain (rUp k) (rUp k') (upG W ta) (upG W tb) (upG W tc) σ H Q := by
  obtain ⟨G, M, R, E, hv, h, hR, hE⟩ := h
  refine ⟨G, M, _, E, hv, h, fun x G1 M1 H1 hv1 h1 => ⟨G1, M1, _, E, hv1, h1, fun y G2 M2 H2 hv2 h2 => ⟨G2, M2, _, hv2, h2, fun v G3 M3 H3 hv3 h3 => ?_⟩, hE⟩, hE⟩
  obtain ⟨c, rfl, h4⟩ := asB_of h3
  refine ⟨c, rfl, ?_⟩
  cases c with
  | true =>
    rw [if_pos rfl] at h4 ⊢
    exact ⟨G3, M3, _, E, hv3, h4, fun z G4 M4 H4 hv4 h5 => ⟨G4, M4, R, hv4, h5, hR⟩, hE⟩
  | false =>
    rw [if_neg Bool.false_ne_true] at h4 ⊢
    exact hR _ G3 M3 H3 hv3 h4
theorem je_chain {a b c : Expr} {op op' : CmpOp} {k k' : KR2} {ta tb tc : KE} (ho : KOp X (compareOp op) k) (ho' : KOp X (compareOp op') k') (ha : JE X W a ta) (hb : JE X W b tb) (hc : JE X W c tc)
    (hm : lastMarks [op, op'] [b, c] = false := by with_unfolding_all rfl) : JE X W (.Compare a [op, op'] [b, c] pos) (kChain k k' ta tb tc) := pe_mono (pe_chain ho.opr ho'.opr ha hb hc hm) fun _ _ _ h => chain_sim h
/-- and, or, not -/
def kAnd (t u : KT) : KT := fun σ G M R E => t σ G M (fun c G M => if c = true then u σ G M R E else R false G M) E
def kOr (t u : KT) : KT := fun σ G M R E => t σ G M (fun c G M => if c = true then R true G M else u σ G M R E) E
def kNot (t : KT) : KT := fun σ G M R E => t σ G M (fun c G M => R (!c) G M) E
def kAndV (t u : KE) : KE := fun σ G M R E => t σ G M (asB fun c G M => if c = true then u σ G M R E else R (.bl false) G M) E
def kNotV (t : KE) : KE := fun σ G M R E => t σ G M (asB fun c G M => R (.bl (!c)) G M) E
variable {a b : Expr} {rest : List Expr}
theorem jw_and1 {t : KT} (h : JT X W a t) : JW X W (.BoolOp .And [a] pos) t := pw_and1 h
theorem jw_or1 {t : KT} (h : JT X W a t) : JW X W (.BoolOp .Or [a] pos) t := pw_or1 h
theorem jw_and {t u : KT} (ha : JT X W a t) (hb : JW X W (.BoolOp .And (b :: rest) pos) u) : JW X W (.BoolOp .And (a :: b :: rest) pos) (kAnd t u) :=
  pw_mono (pw_and ha hb) fun σ H Q ⟨G, M, R, E, hv, h, hR, hE⟩ => ⟨G, M, _, E, hv, h, fun c G1 M1 H1 hv1 h1 => by
    cases c with
    | true => rw [if_pos rfl] at h1 ⊢; exact ⟨G1, M1, R, E, hv1, h1, hR, hE⟩
    | false => rw [if_neg Bool.false_ne_true] at h1 ⊢; exact hR _ G1 M1 H1 hv1 h1, hE⟩
theorem jw_or {t u : KT} (ha : JT X W a t) (hb : JW X W (.BoolOp .Or (b :: rest) pos) u) : JW X W (.BoolOp .Or (a :: b :: rest) pos) (kOr t u) :=
  pw_mono (pw_or ha hb) fun σ H Q ⟨G, M, R, E, hv, h, hR, hE⟩ => ⟨G, M, _, E, hv, h, fun c G1 M1 H1 hv1 h1 => by
    cases c with
    | true => rw [if_pos rfl] at h1 ⊢; exact hR _ G1 M1 H1 hv1 h1
    | false => rw [if_neg Bool.false_ne_true] at h1 ⊢; exact ⟨G1, M1, R, E, hv1, h1, hR, hE⟩, hE⟩
theorem JW.jt {e : Expr} {t : KT} (h : JW X W e t) : JT X W e t := PW.pt h
theorem jt_not {t : KT} (h : JT X W a t) : JT X W (.UnaryOp .Not a pos) (kNot t) :=
  pt_mono (pt_not h) fun σ H Q ⟨G, M, R, E, hv, h, hR, hE⟩ => ⟨G, M, _, E, hv, h, fun c G1 M1 H1 hv1 h1 => hR _ G1 M1 H1 hv1 h1, hE⟩
theorem je_one {op} {t : KE} (h : JE X W a t) : JE X W (.BoolOp op [a] pos) t := pe_one h
theorem je_and {t u : KE} (ha : JE X W a t) (hb : JE X W (.BoolOp .And (b :: rest) pos) u) : JE X W (.BoolOp .And (a :: b :: rest) pos) (kAndV t u) :=
  pe_mono (pe_and ha hb) fun σ H Q ⟨G, M, R, E, hv, h, hR, hE⟩ => ⟨G, M, _, E, hv, h, fun v G1 M1 H1 hv1 h1 => by
    obtain ⟨c, rfl, h2⟩ := asB_of h1
    refine ⟨c, rfl, ?_⟩
    cases c with
    | true => rw [if_pos rfl] at h2 ⊢; exact ⟨G1, M1, R, E, hv1, h2, hR, hE⟩
    | false => rw [if_neg Bool.false_ne_true] at h2 ⊢; exact hR _ G1 M1 H1 hv1 h2, hE⟩
theorem je_not {t : KE} (h : JE X W a t) : JE X W (.UnaryOp .Not a pos) (kNotV t) :=
  pe_mono (pe_not h) fun σ H Q ⟨G, M, R, E, hv, h, hR, hE⟩ => ⟨G, M, _, E, hv, h, fun v G1 M1 H1 hv1 h1 => by
    obtain ⟨c, rfl, h2⟩ := asB_of h1
    exact ⟨c, rfl, hR _ G1 M1 H1 hv1 h2⟩, hE⟩
/-- a if c else b -/
def kIte (t : KT) (ta tb : KE) : KE := fun σ G M R E => t σ G M (fun c G M => if c = true then ta σ G M R E else tb σ G M R E) E
end
end BT
set_option Elab.async false
set_option linter.all false
set_option maxRecDepth 100000
set_option maxHeartbeats 4000000
namespace BT
open PySem PySem.Spec L2
open PyProof.Rows hiding St
section
variable {X : Cx} {W : WX} {pos : Pos} {a b c e : Expr} {es : List Expr}
theorem je_ite {t : KT} {ta tb : KE} (hc : JT X W c t) (ha : JE X W a ta) (hb : JE X W b tb) : JE X W (.IfExp c a b pos) (kIte t ta tb) :=
  pe_mono (pe_ifExp hc ha hb) fun σ H Q ⟨G, M, R, E, hv, h, hR, hE⟩ => ⟨G, M, _, E, hv, h, fun c G1 M1 H1 hv1 h1 => by
    cases c with
    | true => rw [if_pos rfl] at h1 ⊢; exact ⟨G1, M1, R, E, hv1, h1, hR, hE⟩
    | false => rw [if_neg Bool.false_ne_true] at h1 ⊢; exact ⟨G1, M1, R, E, hv1, h1, hR, hE⟩, hE⟩
/-! ### arguments, displays -/
def kNil : KA := fun _ G M R _ => R [] G M
def kCons (t : KE) (u : KA) : KA := fun σ G M R E => t σ G M (fun x G M => u σ G M (fun xs G M => R (x :: xs) G M) E) E
theorem ja_nil : JA X W [] kNil := pa_mono pa_nil fun σ H Q ⟨G, M, R, E, hv, h, hR, _⟩ => hR _ G M H hv h
theorem ja_cons {t : KE} {u : KA} (ha : JE X W e t) (hr : JA X W es u) (hs : starEach (e :: es) X.env = (false, eval e X.env) :: starEach es X.env := by rfl) : JA X W (e :: es) (kCons t u) :=
  pa_mono (pa_cons ha hr hs) fun σ H Q ⟨G, M, R, E, hv, h, hR, hE⟩ => ⟨G, M, _, E, hv, h, fun x G1 M1 H1 hv1 h1 => ⟨G1, M1, _, E, hv1, h1, fun xs G2 M2 H2 hv2 h2 => hR _ G2 M2 H2 hv2 h2, hE⟩, hE⟩
def kLst (t : KA) : KE := fun σ G M R E => t σ G M (fun xs G M => xs.length ≤ sizeLine ∧ ∀ p, Fr G M p → R (.ref p) G ((p, .lst xs) :: M)) E
def kTup (t : KA) : KE := fun σ G M R E => t σ G M (fun xs G M => xs.length ≤ sizeLine ∧ ∀ p, Fr G M p → R (.ref p) (upd G p (.tup xs)) M) E
theorem je_lst {t : KA} (h : JA X W es t) : JE X W (.List es pos) (kLst t) :=
  pe_mono (pe_lst h) fun σ H Q ⟨G, M, R, E, hv, h, hR, hE⟩ => ⟨G, M, _, E, hv, h, fun xs G1 M1 H1 hv1 h1 => ⟨h1.1, fun p hp => hR _ G1 _ _ (hv1.newM hp) (h1.2 p (hv1.fr hp))⟩, hE⟩
theorem je_tup {t : KA} {k : Nat} (h : JA X W es t) : JE X W (.Tuple es k pos) (kTup t) :=
  pe_mono (pe_tup h) fun σ H Q ⟨G, M, R, E, hv, h, hR, hE⟩ => ⟨G, M, _, E, hv, h, fun xs G1 M1 H1 hv1 h1 => ⟨h1.1, fun p hp => hR _ _ M1 _ (hv1.newG hp) (h1.2 p (hv1.fr hp))⟩, hE⟩
/-! ### operators -/
def kAdd : KR2 := fun x y G M R => match x, y with
  | .int i, .int j => R (.int (i + j)) G M
  | .str i, .str j => i.length + j.length ≤ sizeLine ∧ R (.str (i ++ j)) G M
  | .ref a, .ref b => ∃ xs ys, At G M a (.lst xs) ∧ At G M b (.lst ys) ∧ xs.length + ys.length ≤ sizeLine ∧ ∀ p, Fr G M p → R (.ref p) G ((p, .lst (xs ++ ys)) :: M)
  | _, _ => False
theorem kop_add : KOp X (binaryOp .Add) kAdd := fun pins s σ H x y v u Q G M R I rx ry hv h hR => by
  cases x <;> cases y <;> first
    | exact op_add pins s σ H _ _ v u Q I rx ry ⟨_, _, rfl, rfl, hR _ G M H hv h⟩
    | exact op_add_str pins s σ H _ _ v u Q I rx ry ⟨_, _, rfl, rfl, h.1, hR _ G M H hv h.2⟩
    | (obtain ⟨xs, ys, h1, h2, h3, h4⟩ := h
       exact op_cat pins s σ H _ _ v u Q I rx ry ⟨_, _, xs, ys, rfl, rfl, hv.at h1, hv.at h2, h3, fun p hp => hR _ G _ _ (hv.newM hp) (h4 p (hv.fr hp))⟩)
    | exact h.elim
def kI (C : Int → Int → Prop) (g : Int → Int → V) : KR2 := fun x y G M R => match x, y with
  | .int i, .int j => C i j ∧ R (g i j) G M
  | _, _ => False
def kI0 (g : Int → Int → V) : KR2 := fun x y G M R => match x, y with
  | .int i, .int j => R (g i j) G M
  | _, _ => False
theorem kop_I {f : Value → Value → Sem Value} {C : Int → Int → Prop} {g : Int → Int → V} (h : OpR X f (rI C g)) : KOp X f (kI C g) := kop_of h fun x y G M R H Q hv h hR => by
  cases x <;> cases y <;> first
    | exact ⟨_, _, rfl, rfl, h.1, hR _ G M H hv h.2⟩
    | exact h.elim
theorem kop_I0 {f : Value → Value → Sem Value} {g : Int → Int → V} (h : OpR X f (rI0 g)) : KOp X f (kI0 g) := kop_of h fun x y G M R H Q hv h hR => by
  cases x <;> cases y <;> first
    | exact ⟨_, _, rfl, rfl, hR _ G M H hv h⟩
    | exact h.elim
/-- sizes of products, quotients -/
def MulOk (i j : Int) : Prop := CMul i j ∨ CMulW i j
theorem kop_sub : KOp X (binaryOp .Sub) (kI0 fun i j => .int (i - j)) := kop_I0 op_sub
/-- a product of ints, a list repeated -/
def kMul : KR2 := fun x y G M R => match x, y with
  | .int i, .int j => MulOk i j ∧ R (.int (i * j)) G M
  | .ref a, .int k => ∃ xs, At G M a (.lst xs) ∧ -(2 ^ 63) ≤ k ∧ k < 2 ^ 63 ∧ xs.length * k.toNat ≤ sizeLine ∧ ∀ p, Fr G M p → R (.ref p) G ((p, .lst (List.replicate k.toNat xs).flatten) :: M)
  | _, _ => False
theorem kop_mul : KOp X (binaryOp .Mult) kMul := fun pins s σ H x y v u Q G M R I rx ry hv h hR => by
  cases x <;> cases y <;> first
    | (obtain ⟨hc, h⟩ := h
       rcases hc with hc | hc
       · exact op_mul pins s σ H _ _ v u Q I rx ry ⟨_, _, rfl, rfl, hc, hR _ G M H hv h⟩
       · exact op_mulW pins s σ H _ _ v u Q I rx ry ⟨_, _, rfl, rfl, hc, hR _ G M H hv h⟩)
    | (obtain ⟨xs, h1, h2, h3, h4, h5⟩ := h
       exact op_rep pins s σ H _ _ v u Q I rx ry ⟨_, _, xs, rfl, rfl, hv.at h1, h2, h3, h4, fun p hp => hR _ G _ _ (hv.newM hp) (h5 p (hv.fr hp))⟩)
    | exact h.elim
theorem kop_mod : KOp X (binaryOp .Mod) (kI (fun _ j => 0 < j) fun i j => .int (i % j)) := kop_I op_mod
theorem kop_fdiv : KOp X (binaryOp .FloorDiv) (kI CDivW fun i j => .int (i / j)) := kop_I op_fdivW
theorem kop_pow : KOp X (binaryOp .Pow) (kI CPow fun i j => .int (i ^ j.toNat)) := kop_I op_pow
theorem kop_shl : KOp X (binaryOp .LShift) (kI CPow fun i j => .int (i * 2 ^ j.toNat)) := kop_I op_shl
theorem kop_shr : KOp X (binaryOp .RShift) (kI (fun _ j => 0 ≤ j) fun i j => .int (i / 2 ^ j.toNat)) := kop_I op_shr
theorem kop_lt : KOp X (compareOp .Lt) (kI0 fun i j => .bl (decide (i < j))) := kop_I0 op_lt
theorem kop_le : KOp X (compareOp .LtE) (kI0 fun i j => .bl (decide (i ≤ j))) := kop_I0 op_le
theorem kop_gt : KOp X (compareOp .Gt) (kI0 fun i j => .bl (decide (j < i))) := kop_I0 op_gt
theorem kop_ge : KOp X (compareOp .GtE) (kI0 fun i j => .bl (decide (j ≤ i))) := kop_I0 op_ge
/-- equality: of plain values at once, of data by what they hold -/
def kEqv (neg : Bool) (K : PySem.W.Frag) : KR2 := fun x y G M R =>
  match scal x y with
  | true => R (.bl (if neg then !decide (x = y) else decide (x = y))) G M
  | false => ∃ d e, DatAt K G M x d ∧ DatAt K G M y e ∧ SeqAt.shaped d = true ∧ SeqAt.shaped e = true ∧ R (.bl (if neg then !PyData.eqv d e else PyData.eqv d e)) G M
theorem kop_eq (hu : X.A.units + 64 < cLine) : KOp X (compareOp .Eq) (kEqv false X.K) := fun pins s σ H x y v u Q G M R I rx ry hv h hR => by
  unfold kEqv at h
  split at h
  · rename_i e
    exact op_eq pins s σ H _ _ v u Q I rx ry ⟨e, hR _ G M H hv h⟩
  · obtain ⟨d, e, h1, h2, h3, h4, h5⟩ := h
    exact op_eqD hu pins s σ H _ _ v u Q I rx ry ⟨d, e, hv.dat h1, hv.dat h2, h3, h4, hR _ G M H hv h5⟩
theorem kop_ne (hu : X.A.units + 64 < cLine) : KOp X (compareOp .NotEq) (kEqv true X.K) := fun pins s σ H x y v u Q G M R I rx ry hv h hR => by
  unfold kEqv at h
  split at h
  · rename_i e
    exact op_ne pins s σ H _ _ v u Q I rx ry ⟨e, hR _ G M H hv h⟩
  · obtain ⟨d, e, h1, h2, h3, h4, h5⟩ := h
    exact op_neD hu pins s σ H _ _ v u Q I rx ry ⟨d, e, hv.dat h1, hv.dat h2, h3, h4, hR _ G M H hv h5⟩
def kUn (k : V → Hp → Mem → KR → Prop) (t : KE) : KE := fun σ G M R E => t σ G M (fun x G M => k x G M R) E
def kNeg : V → Hp → Mem → KR → Prop := fun x G M R => match x with
  | .int i => R (.int (-i)) G M
  | _ => False
theorem je_neg {t : KE} (h : JE X W a t) : JE X W (.UnaryOp .USub a pos) (kUn kNeg t) :=
  pe_mono (pe_un un_neg h) fun σ H Q ⟨G, M, R, E, hv, h, hR, hE⟩ => ⟨G, M, _, E, hv, h, fun x G1 M1 H1 hv1 h1 => by
    cases x <;> first
      | exact ⟨_, rfl, hR _ G1 M1 H1 hv1 h1⟩
      | exact h1.elim, hE⟩
/-! ### subscripts, slices -/
def kIx (K : PySem.W.Frag) : KR2 := fun x y G M R => match x, y with
  | .ref a, .int i => ∃ xs v, SeqAt' K G M a xs ∧ atI xs i = some v ∧ R v G M
  | .str z, .int i => ∃ c, z.length ≤ sizeLine ∧ atI z.cps.toList i = some c ∧ R (.str ⟨#[c]⟩) G M
  | _, _ => False
theorem ix_k : IxR X (rUp (kIx X.K)) := fun value slice pins s σ H x y v u Q I rx ry ⟨G, M, R, hv, h, hR⟩ hs => by
  cases x <;> cases y <;> first
    | (obtain ⟨xs, w, h1, h2, h3⟩ := h
       rcases h1 with h1 | h1
       · exact ix_list value slice pins s σ H _ _ v u Q I rx ry ⟨_, xs, _, w, rfl, rfl, hv.lst h1, h2, hR _ G M H hv h3⟩ hs
       · exact ix_tup value slice pins s σ H _ _ v u Q I rx ry ⟨_, xs, _, w, rfl, rfl, hv.tup h1, h2, hR _ G M H hv h3⟩ hs)
    | (obtain ⟨c, h1, h2, h3⟩ := h
       exact ix_str value slice pins s σ H _ _ v u Q I rx ry ⟨_, _, c, rfl, rfl, h1, h2, hR _ G M H hv h3⟩ hs)
    | exact h.elim
theorem je_ix {ta tb : KE} (ha : JE X W a ta) (hb : JE X W b tb) (hs : PlainIx b := by exact fun _ _ => rfl) : JE X W (.Subscript a b pos) (kBin (kIx X.K) ta tb) :=
  pe_mono (pe_ix ix_k ha hb hs) fun _ _ _ h => bin_sim h
abbrev KO := KK (Option Int)
def JO (X : Cx) (W : WX) (e : Option Expr) (t : KO) : Prop := PO X e (upG W t)
theorem po_mono {X : Cx} {e : Option Expr} {t t' : TO} (h : PO X e t) (i : ∀ σ H Q, t' σ H Q → t σ H Q) : PO X e t' := ⟨fun pins s σ H Q I q => h.run pins s σ H Q I (i σ H Q q)⟩
def kNoP : KO := fun _ G M R _ => R none G M
def asI (R : Option Int → Hp → Mem → Prop) : KR := fun v G M => match v with
  | .int i => R (some i) G M
  | _ => False
def kPart (t : KE) : KO := fun σ G M R E => t σ G M (asI R) E
theorem jo_none : JO X W none kNoP := po_mono po_none fun σ H Q ⟨G, M, R, E, hv, h, hR, _⟩ => hR _ G M H hv h
theorem jo_some {t : KE} (h : JE X W e t) : JO X W (some e) (kPart t) := po_mono (po_some h) fun σ H Q ⟨G, M, R, E, hv, h, hR, hE⟩ => ⟨G, M, _, E, hv, h, fun v G1 M1 H1 hv1 h1 => by
    cases v <;> first
      | exact ⟨_, rfl, hR _ G1 M1 H1 hv1 h1⟩
      | exact h1.elim, hE⟩
/-- xs[lo:hi] of a list -/
def kSl (K : PySem.W.Frag) (t : KE) (tl th : KO) : KE := fun σ G M R E => t σ G M (fun x G M => tl σ G M (fun l G M => th σ G M (fun u G M => match x with
  | .ref a => ∃ xs, LstAt K G M a xs ∧ ∀ p, Fr G M p → R (.ref p) G ((p, .lst (cutV xs l u)) :: M)
  | _ => False) E) E) E
theorem je_slice {t : KE} {lo hi : Option Expr} {tl th : KO} {p2 : Pos} (he : JE X W e t) (hl : JO X W lo tl) (hu : JO X W hi th) : JE X W (.Subscript e (.Slice lo hi none p2) pos) (kSl X.K t tl th) :=
  pe_mono (pe_slice sl_list he hl hu) fun σ H Q ⟨G, M, R, E, hv, h, hR, hE⟩ => ⟨G, M, _, E, hv, h, fun x G1 M1 H1 hv1 h1 => ⟨G1, M1, _, E, hv1, h1, fun l G2 M2 H2 hv2 h2 => ⟨G2, M2, _, E, hv2, h2, fun u G3 M3 H3 hv3 h3 => by
    cases x <;> first
      | (obtain ⟨xs, q1, q2⟩ := h3
         exact ⟨_, xs, rfl, hv3.lst q1, fun p hp => hR _ G3 _ _ (hv3.newM hp) (q2 p (hv3.fr hp))⟩)
      | exact h3.elim, hE⟩, hE⟩, hE⟩
/-! ### calls of built-ins -/
abbrev KC := List V → Hp → Mem → KR → Prop
def rUpC (k : KC) : List V → Hp → VK → Prop := fun vs H Q => ∃ G M R, Hv G M H ∧ k vs G M R ∧ ∀ v G' M' H', Hv G' M' H' → R v G' M' → Q v H'
def kCB (k : KC) (t : KA) : KE := fun σ G M R E => t σ G M (fun vs G M => k vs G M R) E
def KCall (X : Cx) (f : Value) (k : KC) : Prop := CallR X f (rUpC k)
theorem kcall_of {f : Value} {r : List V → Hp → VK → Prop} {k : KC} (h : CallR X f r)
    (s : ∀ vs G M R H Q, Hv G M H → k vs G M R → (∀ v G' M' H', Hv G' M' H' → R v G' M' → Q v H') → r vs H Q) : KCall X f k :=
  fun pins st σ H xs us Q I rv ⟨G, M, R, hv, hk, hR⟩ => h pins st σ H xs us Q I rv (s xs G M R H Q hv hk hR)
theorem cb_sim {t : KA} {k : KC} {σ : St} {H : Hp} {Q : VK} (h : upG W (kCB k t) σ H Q) : tCB (rUpC k) (upG W t) σ H Q := by
  obtain ⟨G, M, R, E, hv, h, hR, hE⟩ := h
  exact ⟨G, M, _, E, hv, h, fun vs G1 M1 H1 hv1 h1 => ⟨G1, M1, R, hv1, h1, hR⟩, hE⟩
variable {x : Str} {p : Pos} {id T : String}
theorem je_callB {k : KC} {t : KA} (hc : KCall X (.builtin id) k) (hm : X.mg x = none) (ha : JA X W (e :: es) t) (hv : bootBuiltins x = some (.builtin id) := by decide +kernel) (hg : Gl X x := by rfl) (hn : x ≠ "__name__" := by decide) (hdb : (x == ("__debug__" : Str)) = false := by decide)
    (he : starEach (e :: es) X.env = (false, eval e X.env) :: starEach es X.env := by rfl) (hpl : (backTo pos (starEach es X.env)).any (·.1) = false := by rfl) : JE X W (.Call (.Name x p) (e :: es) [] pos) (kCB k t) :=
  pe_mono (pe_callB hc hg hm hv ha hn hdb he hpl) fun _ _ _ h => cb_sim h
theorem je_callTy {k : KC} {t : KA} (hc : KCall X (.type T) k) (hm : X.mg x = none) (ha : JA X W (e :: es) t) (hv : bootBuiltins x = some (.type T) := by decide +kernel) (hg : Gl X x := by rfl) (hn : x ≠ "__name__" := by decide) (hdb : (x == ("__debug__" : Str)) = false := by decide)
    (he : starEach (e :: es) X.env = (false, eval e X.env) :: starEach es X.env := by rfl) (hpl : (backTo pos (starEach es X.env)).any (·.1) = false := by rfl) : JE X W (.Call (.Name x p) (e :: es) [] pos) (kCB k t) :=
  pe_mono (pe_callTy hc hg hm hv ha hn hdb he hpl) fun _ _ _ h => cb_sim h
/-- a built-in type's name as a value -/
theorem je_ty {T : String} {x : Str} {pos : Pos} (hm : X.mg x = none) (hv : bootBuiltins x = some (.type T) := by decide +kernel) (hg : Gl X x := by rfl) (hn : x ≠ "__name__" := by decide) (hd : (x == ("__debug__" : Str)) = false := by decide) : JE X W (.Name x pos) (kC (.ty T)) :=
  je_c (pe_bltn hg hm hv rfl hn hd)
/-- a module's constant -/
theorem je_glob {x : Str} {v : V} {u : Value} {pos : Pos} (hm : X.mg x = some u) (r : RelV v u) (hg : Gl X x := by rfl) (hd : (x == ("__debug__" : Str)) = false := by decide) : JE X W (.Name x pos) (kC v) := je_c (pe_glob hg hm r hd)
def kLen (K : PySem.W.Frag) : KC := fun vs G M R => match vs with
  | [.ref a] => ∃ xs, SeqAt' K G M a xs ∧ R (.int xs.length) G M
  | _ => False
theorem kc_len : KCall X (.builtin "len") (kLen X.K) := kcall_of call_len_seq fun vs G M R H Q hv h hR => by
  match vs, h with
  | [.ref a], ⟨xs, h1, h2⟩ => exact ⟨a, xs, rfl, h1.elim (fun q => .inl (hv.lst q)) (fun q => .inr (hv.tup q)), hR _ G M H hv h2⟩
def kList (K : PySem.W.Frag) : KC := fun vs G M R => match vs with
  | [.ref a] => ∃ xs, SeqAt' K G M a xs ∧ ∀ p, Fr G M p → R (.ref p) G ((p, .lst xs) :: M)
  | _ => False
theorem kc_list : KCall X (.type "list") (kList X.K) := kcall_of call_list_of fun vs G M R H Q hv h hR => by
  match vs, h with
  | [.ref a], ⟨xs, h1, h2⟩ => exact ⟨a, xs, rfl, h1.elim (fun q => .inl (hv.lst q)) (fun q => .inr (hv.tup q)), fun p hp => hR _ G _ _ (hv.newM hp) (h2 p (hv.fr hp))⟩
def kMin2 : KC := fun vs G M R => match vs with
  | [.int i, .int j] => R (.int (min i j)) G M
  | _ => False
def kMax2 : KC := fun vs G M R => match vs with
  | [.int i, .int j] => R (.int (max i j)) G M
  | _ => False
theorem kc_min2 (hc : X.calm = true := by rfl) : KCall X (.builtin "min") kMin2 := kcall_of (call_min2 hc) fun vs G M R H Q hv h hR => by
  match vs, h with
  | [.int i, .int j], h =>
    refine ⟨i, j, rfl, ?_⟩
    have e : (if j < i then j else i) = min i j := by split <;> omega
    rw [e]
    exact hR _ G M H hv h
theorem kc_max2 (hc : X.calm = true := by rfl) : KCall X (.builtin "max") kMax2 := kcall_of (call_max2 hc) fun vs G M R H Q hv h hR => by
  match vs, h with
  | [.int i, .int j], h =>
    refine ⟨i, j, rfl, ?_⟩
    have e : (if j > i then j else i) = max i j := by split <;> omega
    rw [e]
    exact hR _ G M H hv h
def kInt : KC := fun vs G M R => match vs with
  | [.int i] => R (.int i) G M
  | [.bl k] => R (.int (if k then 1 else 0)) G M
  | _ => False
theorem kc_int : KCall X (.type "int") kInt := kcall_of call_int1 fun vs G M R H Q hv h hR => by
  match vs, h with
  | [.int i], h => exact .inl ⟨i, rfl, hR _ G M H hv h⟩
  | [.bl i], h => exact .inr ⟨i, rfl, hR _ G M H hv h⟩
def kAll (K : PySem.W.Frag) : KC := fun vs G M R => match vs with
  | [.ref a] => ∃ bs : List Bool, LstAt K G M a (bs.map V.bl) ∧ R (.bl (bs.all _root_.id)) G M
  | _ => False
theorem kc_all (hc : X.calm = true := by rfl) : KCall X (.builtin "all") (kAll X.K) := kcall_of (cr_all hc) fun vs G M R H Q hv h hR => by
  match vs, h with
  | [.ref a], ⟨ns, h1, h2⟩ => exact ⟨a, ns, rfl, hv.lst h1, hR _ G M H hv h2⟩
/-- isinstance(x, c) -/
def kIsi (K : PySem.W.Frag) : KC := fun vs G M R => match vs with
  | [x, c] => ∃ (t u : Value) (b : Bool), ClsV c u ∧ (∀ H, Hv G M H → TyX K H x t) ∧ PySem.W.kitOne K t u = some b ∧ R (.bl b) G M
  | _ => False
theorem kc_isi : KCall X (.builtin "isinstance") (kIsi X.K) := kcall_of call_isi fun vs G M R H Q hv h hR => by
  match vs, h with
  | [x, c], ⟨t, u, b, h1, h2, h3, h4⟩ => exact ⟨x, c, t, u, b, rfl, h1, h2 H hv, h3, hR _ G M H hv h4⟩
/-! ### methods of built-in types -/
abbrev KM := V → List V → Hp → Mem → KR → Prop
def rUpM (k : KM) : V → List V → Hp → VK → Prop := fun x vs H Q => ∃ G M R, Hv G M H ∧ k x vs G M R ∧ ∀ v G' M' H', Hv G' M' H' → R v G' M' → Q v H'
def KMt (X : Cx) (id : String) (k : KM) : Prop := MtR X id (rUpM k)
theorem kmt_of {r : V → List V → Hp → VK → Prop} {k : KM} (h : MtR X id r)
    (s : ∀ x vs G M R H Q, Hv G M H → k x vs G M R → (∀ v G' M' H', Hv G' M' H' → R v G' M' → Q v H') → r x vs H Q) : KMt X id k :=
  fun pins st σ H x xs v us Q I rx rv ⟨G, M, R, hv, hk, hR⟩ => h pins st σ H x xs v us Q I rx rv (s x xs G M R H Q hv hk hR)
def kBM (K : PySem.W.Frag) (T : String) (k : KM) (to : KE) (t : KA) : KE := fun σ G M R E => to σ G M (fun x G M => (∀ H, Hv G M H → tyV K T x H) ∧ t σ G M (fun vs G M => k x vs G M R) E) E
def kBM0 (K : PySem.W.Frag) (T : String) (k : KM) (to : KE) : KE := fun σ G M R E => to σ G M (fun x G M => (∀ H, Hv G M H → tyV K T x H) ∧ k x [] G M R) E
variable {o : Expr} {name : Str} {apos cpos : Pos}
theorem je_bm {k : KM} {to : KE} {t : KA} (pa : PlainAttrs T) (slot : Slot T name id) (hty : typeOf (.builtin id) = pure (.type "method_descriptor")) (hm : KMt X id k) (ho : JE X W o to) (ha : JA X W (e :: es) t)
    (hbase : attributeBase o name X.env (eval o X.env) = eval o X.env := by rfl)
    (hfew : ((backTo cpos (starEach (e :: es) X.env)).all (fun x => !x.1) && (backToKw cpos (keywordEach [] X.env)).all (fun x => x.1.isSome)
      && decide ((e :: es).length + ([] : List Keyword).length + (if ([] : List Keyword).isEmpty then 0 else 1) < 30)) = true := by rfl)
    (hline : (apos.endLine == cpos.line) = true := by rfl) (hs : starEach (e :: es) X.env = (false, eval e X.env) :: starEach es X.env := by rfl) (hplain : (backTo cpos (starEach es X.env)).any (·.1) = false := by rfl) :
    JE X W (.Call (.Attribute o name apos) (e :: es) [] cpos) (kBM X.K T k to t) :=
  pe_mono (pe_bm pa slot hty hm ho ha hbase hfew hline hs hplain) fun σ H Q ⟨G, M, R, E, hv, h, hR, hE⟩ => ⟨G, M, _, E, hv, h, fun x G1 M1 H1 hv1 h1 => ⟨h1.1 H1 hv1, G1, M1, _, E, hv1, h1.2, fun vs G2 M2 H2 hv2 h2 => ⟨G2, M2, R, hv2, h2, hR⟩, hE⟩, hE⟩
theorem je_bm0 {k : KM} {to : KE} (pa : PlainAttrs T) (slot : Slot T name id) (hty : typeOf (.builtin id) = pure (.type "method_descriptor")) (hm : KMt X id k) (ho : JE X W o to)
    (hbase : attributeBase o name X.env (eval o X.env) = eval o X.env := by rfl) (hline : (apos.endLine == cpos.line) = true := by rfl) : JE X W (.Call (.Attribute o name apos) [] [] cpos) (kBM0 X.K T k to) :=
  pe_mono (pe_bm0 pa slot hty hm ho hbase hline) fun σ H Q ⟨G, M, R, E, hv, h, hR, hE⟩ => ⟨G, M, _, E, hv, h, fun x G1 M1 H1 hv1 h1 => ⟨h1.1 H1 hv1, G1, M1, R, hv1, h1.2, hR⟩, hE⟩
def kAppend : KM := fun x vs G M R => match x, vs with
  | .ref a, [y] => ∃ n xs, M[n]? = some (a, .lst xs) ∧ xs.length < sizeLine ∧ R .non G (M.set n (a, .lst (xs ++ [y])))
  | _, _ => False
theorem km_append : KMt X "list.append" kAppend := kmt_of mt_append fun x vs G M R H Q hv h hR => by
  match x, vs, h with
  | .ref a, [y], ⟨n, xs, h1, h2, h3⟩ => exact ⟨a, xs, y, rfl, rfl, hv.get h1, h2, hR _ G _ _ (hv.set h1) h3⟩
def kReverse : KM := fun x vs G M R => match x, vs with
  | .ref a, [] => ∃ n xs, M[n]? = some (a, .lst xs) ∧ R .non G (M.set n (a, .lst xs.reverse))
  | _, _ => False
theorem km_reverse : KMt X "list.reverse" kReverse := kmt_of mt_reverse fun x vs G M R H Q hv h hR => by
  match x, vs, h with
  | .ref a, [], ⟨n, xs, h1, h3⟩ => exact ⟨a, xs, rfl, rfl, hv.get h1, hR _ G _ _ (hv.set h1) h3⟩
end
/-! ### defs -/
abbrev KSp := List V → Hp → Mem → KR → KX → Prop
def lift (S : KSp) : Sp := fun vs H Q E => ∃ G M R X, Hv G M H ∧ S vs G M R X ∧ (∀ v G' M' H', Hv G' M' H' → R v G' M' → Q v H') ∧ (∀ c d G' M' H', Hv G' M' H' → X c d G' M' → E c d H')
def kCall (S : KSp) (t : KA) : KE := fun σ G M R E => t σ G M (fun vs G M => S vs G M R E) E
section
variable {X : Cx} {W : WX} {pos p : Pos} {e : Expr} {es : List Expr} {x : Str} {k : Nat} {f : Addr} {fd : FuncData} {ps : List Str} {S : KSp} {t : KA}
theorem je_call (F : FnOk X.prog X.w X.K X.mg X.base (L2.CX X.prog X.w) k f fd ps (lift S)) (hr : Room k X.A) (tk : Takes X W) (hm : X.mg x = some (.ref f)) (hk : PySem.W.keepIn X.K (.ref f) = true) (hb : Binds X.K fd ps []) (ha : JA X W (e :: es) t) (hg : Gl X x := by rfl)
    (hdb : (x == ("__debug__" : Str)) = false := by decide) (he : starEach (e :: es) X.env = (false, eval e X.env) :: starEach es X.env := by rfl) (hpl : (backTo pos (starEach es X.env)).any (·.1) = false := by rfl) :
    JE X W (.Call (.Name x p) (e :: es) [] pos) (kCall S t) :=
  pe_mono (pe_callS F hr hg hm hk hb (passAt tk) ha hdb he hpl) fun σ H Q ⟨G, M, R, E, hv, h, hR, hE⟩ =>
    ⟨G, M, _, E, hv, h, fun vs G1 M1 H1 hv1 h1 => ⟨G1, M1, R, E, hv1, h1, hR, hE⟩, hE⟩
end
end BT
set_option Elab.async false
set_option linter.all false
set_option maxRecDepth 100000
set_option maxHeartbeats 4000000
namespace BT
open PySem PySem.Spec L2
open PyProof.Rows hiding St
/-! ### statements -/
structure Kd where
  nx : St → Hp → Mem → Prop
  rt : KR
  bk : St → Hp → Mem → Prop := fun _ _ _ => False
  ct : St → Hp → Mem → Prop := fun _ _ _ => False
  xc : Value → Option Addr → St → Hp → Mem → Prop := fun _ _ _ _ _ => False
abbrev KS := Kd → St → Hp → Mem → Prop
structure EndsTo (W : WX) (d : Kd) (D : Ends) : Prop where
  nx : ∀ σ G M H, Hv G M H → d.nx σ G M → D.nx σ H
  rt : ∀ v G M H, Hv G M H → d.rt v G M → D.rt v H
  bk : ∀ σ G M H, Hv G M H → d.bk σ G M → D.bk σ H
  ct : ∀ σ G M H, Hv G M H → d.ct σ G M → D.ct σ H
  xc : ∀ c a σ G M H, Hv G M H → d.xc c a σ G M → W c a σ H
def upS (W : WX) (t : KS) : TS := fun D σ H => ∃ G M d, Hv G M H ∧ t d σ G M ∧ EndsTo W d D
def JS (X : Cx) (W : WX) (s : Stmt) (t : KS) : Prop := PS X s (upS W t)
def JSs (X : Cx) (W : WX) (s : List Stmt) (t : KS) : Prop := PSs X s (upS W t)
theorem ps_mono {X : Cx} {s : Stmt} {t t' : TS} (h : PS X s t) (i : ∀ D σ H, t' D σ H → t D σ H) : PS X s t' := ⟨fun pins st σ H D I q => h.run pins st σ H D I (i D σ H q)⟩
theorem pss_mono {X : Cx} {s : List Stmt} {t t' : TS} (h : PSs X s t) (i : ∀ D σ H, t' D σ H → t D σ H) : PSs X s t' := ⟨fun pins st σ H D I q => h.run pins st σ H D I (i D σ H q)⟩
def Kd.x (d : Kd) (σ : St) : KX := fun c a G M => d.xc c a σ G M
section
variable {X : Cx} {W : WX} {pos : Pos} {s : Stmt} {ss : List Stmt} {e : Expr} {t u : KS}
def kNext : KS := fun D σ G M => D.nx σ G M
def kSeq (t u : KS) : KS := fun D σ G M => ∃ G' M', Wk G M G' M' ∧ t { D with nx := u D } σ G' M'
def kNever : KS := fun _ _ _ _ => False
theorem jss_nil : JSs X W [] kNext := pss_mono pss_nil fun D σ H ⟨G, M, d, hv, h, en⟩ => en.nx σ G M H hv h
theorem jss_cons (h1 : JS X W s t) (h2 : JSs X W ss u) : JSs X W (s :: ss) (kSeq t u) := pss_mono (pss_cons h1 h2) fun D σ H ⟨G, M, d, hv, ⟨G', M', wk, h⟩, en⟩ =>
  ⟨G', M', _, wk H hv, h, ⟨fun σ' G2 M2 H2 hv2 q => ⟨G2, M2, d, hv2, q, en⟩, en.rt, en.bk, en.ct, en.xc⟩⟩
theorem js_never : JS X W s kNever := ps_mono ps_never fun D σ H ⟨G, M, d, hv, h, en⟩ => h
def kSet (i : Nat) (t : KE) : KS := fun D σ G M => t σ G M (fun v G M => D.nx (σ.set i (some v)) G M) (D.x σ)
theorem js_set {i : Nat} {x : Str} {t : KE} {pos' : Pos} (he : JE X W e t) (hN : X.N.Nodup) (hi : X.N[i]? = some x := by rfl) (hx : Loc X.env.scope x := by first | exact Or.inl rfl | exact Or.inr rfl)
    (hs : swapsWith e (some (.Name x pos')) pos.line X.env = pure false := by rfl) (hf : X.fn x = true ∨ X.env.scope.names.lookup x = some .local := by first | exact .inl rfl | exact .inr rfl | assumption) :
    JS X W (.Assign [.Name x pos'] e pos) (kSet i t) := ps_mono (ps_set hN hi hx he hs hf) fun D σ H ⟨G, M, d, hv, h, en⟩ =>
  ⟨G, M, _, _, hv, h, fun v G' M' H' hv' q => en.nx _ G' M' H' hv' q, fun c a G' M' H' hv' q => en.xc c a σ G' M' H' hv' q⟩
def kExpr (t : KE) : KS := fun D σ G M => t σ G M (fun _ G M => D.nx σ G M) (D.x σ)
theorem js_expr {t : KE} (he : JE X W e t) (hs : swapsWith e none pos.line X.env = pure false := by rfl) : JS X W (.Expr e pos) (kExpr t) := ps_mono (ps_expr he hs) fun D σ H ⟨G, M, d, hv, h, en⟩ =>
  ⟨G, M, _, _, hv, h, fun v G' M' H' hv' q => en.nx _ G' M' H' hv' q, fun c a G' M' H' hv' q => en.xc c a σ G' M' H' hv' q⟩
def kRet (t : KE) : KS := fun D σ G M => t σ G M D.rt (D.x σ)
theorem js_ret {t : KE} (he : JE X W e t) : JS X W (.Return (some e) pos) (kRet t) := ps_mono (ps_ret he) fun D σ H ⟨G, M, d, hv, h, en⟩ =>
  ⟨G, M, _, _, hv, h, fun v G' M' H' hv' q => en.rt _ G' M' H' hv' q, fun c a G' M' H' hv' q => en.xc c a σ G' M' H' hv' q⟩
def kIf (c : KT) (t u : KS) : KS := fun D σ G M => c σ G M (fun b G M => if b = true then t D σ G M else u D σ G M) (D.x σ)
theorem js_if {c : Expr} {a b : List Stmt} {tc : KT} (hc : JT X W c tc) (ha : JSs X W a t) (hb : JSs X W b u) : JS X W (.If c a b pos) (kIf tc t u) := ps_mono (ps_if hc ha hb) fun D σ H ⟨G, M, d, hv, h, en⟩ =>
  ⟨G, M, _, _, hv, h, fun v G' M' H' hv' q => by
    cases v with
    | true => rw [if_pos rfl] at q ⊢; exact ⟨G', M', d, hv', q, en⟩
    | false => rw [if_neg Bool.false_ne_true] at q ⊢; exact ⟨G', M', d, hv', q, en⟩, fun c a G' M' H' hv' q => en.xc c a σ G' M' H' hv' q⟩
/-! ### targets -/
structure KG where
  val : V → St → Hp → Mem → (St → Hp → Mem → Prop) → Prop
  tup : List V → St → Hp → Mem → (St → Hp → Mem → Prop) → Prop
structure JG (X : Cx) (tg : Expr) (g : KG) (gr : TG) : Prop where
  pg : PG X tg gr
  val : ∀ v σ G M R H Q, Hv G M H → g.val v σ G M R → (∀ σ' G' M' H', Hv G' M' H' → R σ' G' M' → Q σ' H') → gr v σ H Q
  tup : ∀ T vs σ G M R H Q, Hv G M H → H T = none → g.tup vs σ G M R → (∀ σ' G' M' H', Hv G' M' H' → R σ' G' M' → Q σ' H') → gr (.ref T) σ (upd H T (.tup vs)) Q
def kgName (i : Nat) : KG := ⟨fun v σ G M R => R (σ.set i (some v)) G M, fun vs σ G M R => ∀ T, Fr G M T → R (σ.set i (some (.ref T))) (upd G T (.tup vs)) M⟩
theorem jg_name {i : Nat} {x : Str} (hN : X.N.Nodup) (hi : X.N[i]? = some x := by rfl) (hx : Loc X.env.scope x := by first | exact Or.inl rfl | exact Or.inr rfl) (hf : X.fn x = true ∨ X.env.scope.names.lookup x = some .local := by first | exact .inl rfl | exact .inr rfl | assumption) : JG X (.Name x pos) (kgName i) (gName i) :=
  ⟨pg_name hN hi hx hf, fun v σ G M R H Q hv h hR => hR _ G M H hv h, fun T vs σ G M R H Q hv hT h hR => hR _ _ M _ (hv.newG hT) (h T (hv.fr hT))⟩
/-- several targets at once -/
abbrev KGs := List V → St → Hp → Mem → (St → Hp → Mem → Prop) → Prop
def kgsNil : KGs := fun vs σ G M R => match vs with
  | [] => R σ G M
  | _ => False
def kgsCons (g : KG) (r : KGs) : KGs := fun vs σ G M R => match vs with
  | v :: vs => g.val v σ G M (fun σ G M => r vs σ G M R)
  | [] => False
structure JGs (X : Cx) (ts : List Expr) (g : KGs) (gr : TGs) : Prop where
  pgs : PGs X ts gr
  sim : ∀ vs σ G M R H Q, Hv G M H → g vs σ G M R → (∀ σ' G' M' H', Hv G' M' H' → R σ' G' M' → Q σ' H') → gr vs σ H Q
theorem jgs_nil : JGs X [] kgsNil gNil := ⟨pgs_nil, fun vs σ G M R H Q hv h hR => by
  match vs, h with
  | [], h => exact ⟨rfl, hR _ G M H hv h⟩⟩
theorem jgs_cons {tg : Expr} {ts : List Expr} {g : KG} {r : KGs} {gr : TG} {gs : TGs} (h1 : JG X tg g gr) (hr : JGs X ts r gs)
    (hs : (assignEach (tg :: ts) X.env).map (·.2) = assign tg X.env :: (assignEach ts X.env).map (·.2) := by rfl) : JGs X (tg :: ts) (kgsCons g r) (gCons gr gs) :=
  ⟨pgs_cons h1.pg hr.pgs hs, fun vs σ G M R H Q hv h hR => by
    match vs, h with
    | v :: vs, h => exact ⟨v, vs, rfl, h1.val v σ G M _ H _ hv h fun σ' G' M' H' hv' q => hr.sim vs σ' G' M' R H' Q hv' q hR⟩⟩
def onLen (n : Nat) (g : KGs) : KGs := fun vs σ G M R => match vs.length == n with
  | true => g vs σ G M R
  | false => False
theorem onLen_of {n : Nat} {g : KGs} {vs : List V} {σ : St} {G : Hp} {M : Mem} {R : St → Hp → Mem → Prop} (h : onLen n g vs σ G M R) : vs.length = n ∧ g vs σ G M R := by
  unfold onLen at h
  split at h
  · rename_i e; exact ⟨beq_iff_eq.mp e, h⟩
  · exact h.elim
def kgTup (K : PySem.W.Frag) (n : Nat) (g : KGs) : KG := ⟨fun v σ G M R => match v with
    | .ref a => ∃ xs, SqT K G a xs ∧ onLen n g xs σ G M R
    | _ => False, onLen n g⟩
theorem jg_tup {K : PySem.W.Frag} {ts : List Expr} {g : KGs} {gs : TGs} {n k : Nat} (hc : X.calm = true) (h : JGs X ts g gs) (hK : X.K = K := by rfl) (hn : (assignEach ts X.env).length = n := by rfl) (hst : (assignEach ts X.env).findIdx? (·.1) = none := by rfl) :
    JG X (.Tuple ts k pos) (kgTup K n g) (gTup K n gs) := by
  subst hK
  exact ⟨pg_tup hc h.pgs hn hst, fun v σ G M R H Q hv q hR => by
    match v, q with
    | .ref a, ⟨xs, q1, q2⟩ =>
      obtain ⟨e, q3⟩ := onLen_of q2
      exact ⟨a, xs, rfl, hv.tup q1, e, h.sim xs σ G M R H Q hv q3 hR⟩,
   fun T vs σ G M R H Q hv hT q hR => by
    obtain ⟨e, q3⟩ := onLen_of q
    exact ⟨T, vs, rfl, .inl (.inl upd_same), e, h.sim vs σ G M R _ Q (hv.junk hT) q3 hR⟩⟩
/-- nothing is raised -/
def W0 : WX := fun _ _ _ _ => False
/-- a place of a list as a target -/
def setL (o i v : V) (G : Hp) (M : Mem) (R : Hp → Mem → Prop) : Prop := match o, i with
  | .ref a, .int k => ∃ n xs j, M[n]? = some (a, .lst xs) ∧ ixN xs.length k = some j ∧ R G (M.set n (a, .lst (xs.set j v)))
  | _, _ => False
def kgIx (to ti : KE) : KG := ⟨fun v σ G M R => to σ G M (fun o G M => ti σ G M (fun i G M => setL o i v G M (fun G M => R σ G M)) (fun _ _ _ _ => False)) (fun _ _ _ _ => False), fun _ _ _ _ _ => False⟩
theorem jg_ix {o i : Expr} {to ti : KE} (ho : JE X W0 o to) (hi : JE X W0 i ti)
    (ha : ∀ v, assign (.Subscript o i pos) X.env v = (do
      let ov ← holding [v] (eval o X.env)
      let iv ← holding [v, ov] (eval i X.env)
      standAt pos
      holding [v, ov, iv] (setItem ov iv v)
      release [v, ov, iv] []) := by intro _; rfl) : JG X (.Subscript o i pos) (kgIx to ti) (gSub (upG W0 to) (upG W0 ti) rSetL) :=
  ⟨pg_sub ho hi set_list ha, fun v σ G M R H Q hv q hR => ⟨G, M, _, _, hv, q, fun ov G2 M2 H2 hv2 q2 => ⟨G2, M2, _, _, hv2, q2, fun iv G3 M3 H3 hv3 q3 => by
    match ov, iv, q3 with
    | .ref a, .int k, ⟨n, xs, j, e1, e2, q⟩ => exact ⟨a, xs, k, j, rfl, rfl, hv3.get e1, e2, hR σ G3 _ _ (hv3.set e1) q⟩, fun _ _ _ _ _ _ z => z.elim⟩, fun _ _ _ _ _ _ z => z.elim⟩,
   fun _ _ _ _ _ _ _ _ _ _ z => z.elim⟩
/-- a target of an assignment -/
def kAsg (t : KE) (g : KG) : KS := fun D σ G M => t σ G M (fun v G M => g.val v σ G M D.nx) (D.x σ)
theorem js_asg {tg : Expr} {t : KE} {g : KG} {gr : TG} (he : JE X W e t) (hg : JG X tg g gr) (hs : swapsWithSole [tg] e pos.line X.env = pure false := by rfl) (hw : swappedStores [tg] e X.env = pure none := by rfl)
    (h1 : (assignEach [tg] X.env).map (·.2) = [assign tg X.env] := by rfl) : JS X W (.Assign [tg] e pos) (kAsg t g) := ps_mono (ps_asg he hg.pg hs hw h1) fun D σ H ⟨G, M, d, hv, h, en⟩ =>
  ⟨G, M, _, _, hv, h, fun v G' M' H' hv' q => hg.val v σ G' M' _ H' _ hv' q fun σ' G2 M2 H2 hv2 q2 => en.nx _ G2 M2 H2 hv2 q2, fun c a G' M' H' hv' q => en.xc c a σ G' M' H' hv' q⟩
end
end BT
set_option Elab.async false
set_option linter.all false
set_option maxRecDepth 100000
set_option maxHeartbeats 4000000
namespace BT
open PySem PySem.Spec L2
open PyProof.Rows hiding St
/-! ### what is walked -/
structure Src where
  n : Nat
  get : Nat → V ⊕ List V
  ok : Hp → Mem → Prop
abbrev KI := KK Src
/-- an iterator that gives what the source says -/
structure Goes (src : Src) (J : It) : Prop where
  go : ∀ i G M H, Hv G M H → src.ok G M → i < src.n → J.go i H
  stop : ∀ i G M H, Hv G M H → src.ok G M → src.n ≤ i → J.stop i H
  yld : ∀ i G M H x H', Hv G M H → src.ok G M → i < src.n → J.yld i H x H' → match src.get i with
    | .inl v => x = v ∧ H' = H
    | .inr vs => ∃ T, x = .ref T ∧ H T = none ∧ H' = upd H T (.tup vs)
def upI (W : WX) (t : KI) : TI := fun σ H Q => ∃ G M R E, Hv G M H ∧ t σ G M R E ∧ (∀ src G' M' H', Hv G' M' H' → R src G' M' → ∀ J, Goes src J → Q J H') ∧ (∀ c d G' M' H', Hv G' M' H' → E c d G' M' → W c d σ H')
def JI (X : Cx) (W : WX) (tg it : Expr) (t : KI) : Prop := PI X tg it (upI W t)
theorem pi_mono {X : Cx} {tg it : Expr} {t t' : TI} (h : PI X tg it t) (i : ∀ σ H Q, t' σ H Q → t σ H Q) : PI X tg it t' := ⟨fun pins s σ H Q I q => h.run pins s σ H Q I (i σ H Q q)⟩
def srcL (K : PySem.W.Frag) (a : Addr) (xs : List V) : Src := ⟨xs.length, fun i => .inl (xs.getD i .non), fun G M => LstAt K G M a xs⟩
def srcT (K : PySem.W.Frag) (a : Addr) (xs : List V) : Src := ⟨xs.length, fun i => .inl (xs.getD i .non), fun G M => SqT K G a xs⟩
def srcR (lo : Int) (n : Nat) : Src := ⟨n, fun i => .inl (.int (lo + i)), fun _ _ => True⟩
def srcC (lo c : Int) (n : Nat) : Src := ⟨n, fun i => .inl (.int (lo + (i : Nat) * c)), fun _ _ => True⟩
def srcE (K : PySem.W.Frag) (a : Addr) (xs : List V) : Src := ⟨xs.length, fun i => .inr [.int i, xs.getD i .non], fun G M => LstAt K G M a xs⟩
def srcV (K : PySem.W.Frag) (a : Addr) (xs : List V) : Src := ⟨xs.length, fun i => .inl (xs.getD (xs.length - 1 - i) .non), fun G M => LstAt K G M a xs⟩
theorem getD_of {xs : List V} {i : Nat} {x : V} (h : xs[i]? = some x) : xs.getD i .non = x := by
  rw [List.getD_eq_getElem?_getD, h]; rfl
theorem get_lt {xs : List V} {i : Nat} (h : i < xs.length) : xs[i]? = some (xs.getD i .non) := by
  rw [List.getD_eq_getElem?_getD, List.getElem?_eq_getElem h]; rfl
theorem goes_L {K : PySem.W.Frag} {a : Addr} {xs : List V} : Goes (srcL K a xs) (Itl K a) where
  go := fun i G M H hv ok hi => ⟨xs, _, hv.lst ok, get_lt hi⟩
  stop := fun i G M H hv ok hi => ⟨xs, hv.lst ok, hi⟩
  yld := fun i G M H x H' hv ok hi y => ⟨(getD_of (y.2 xs (hv.lst ok))).symm, y.1⟩
theorem goes_T {K : PySem.W.Frag} {a : Addr} {xs : List V} : Goes (srcT K a xs) (Itt K a) where
  go := fun i G M H hv ok hi => ⟨xs, _, hv.tup ok, get_lt hi⟩
  stop := fun i G M H hv ok hi => ⟨xs, hv.tup ok, hi⟩
  yld := fun i G M H x H' hv ok hi y => ⟨(getD_of (y.2 xs (hv.tup ok))).symm, y.1⟩
theorem goes_R {lo : Int} {n : Nat} : Goes (srcR lo n) (Itr lo n) where
  go := fun i G M H hv ok hi => hi
  stop := fun i G M H hv ok hi => hi
  yld := fun i G M H x H' hv ok hi y => ⟨y.2, y.1⟩
theorem goes_C {lo c : Int} {n : Nat} : Goes (srcC lo c n) (Itc lo c n) where
  go := fun i G M H hv ok hi => hi
  stop := fun i G M H hv ok hi => hi
  yld := fun i G M H x H' hv ok hi y => ⟨y.2, y.1⟩
theorem goes_E {K : PySem.W.Frag} {a : Addr} {xs : List V} : Goes (srcE K a xs) (Ite K a) where
  go := fun i G M H hv ok hi => ⟨xs, _, hv.lst ok, get_lt hi⟩
  stop := fun i G M H hv ok hi => ⟨xs, hv.lst ok, hi⟩
  yld := fun i G M H x H' hv ok hi y => by
    obtain ⟨T, z, e1, e2, e3, e4⟩ := y
    have e5 := getD_of (e4 xs (hv.lst ok))
    exact ⟨T, e1, e2, by rw [e3, ← e5]⟩
theorem goes_V {K : PySem.W.Frag} {a : Addr} {xs : List V} : Goes (srcV K a xs) (Itv K a xs.length) where
  go := fun i G M H hv ok hi => ⟨hi, xs, _, hv.lst ok, get_lt (by have hi : i < xs.length := hi; omega)⟩
  stop := fun i G M H hv ok hi => hi
  yld := fun i G M H x H' hv ok hi y => ⟨(getD_of (y.2 xs (hv.lst ok))).symm, y.1⟩
section
variable {X : Cx} {W : WX} {pos p tpos : Pos} {e e2 a b c : Expr} {es : List Expr} {tg : Expr}
def kiSeq (K : PySem.W.Frag) (t : KE) : KI := fun σ G M R E => t σ G M (fun x G M => match x with
  | .ref a => ∃ xs, LstAt K G M a xs ∧ R (srcL K a xs) G M
  | _ => False) E
def kiTup (K : PySem.W.Frag) (t : KE) : KI := fun σ G M R E => t σ G M (fun x G M => match x with
  | .ref a => ∃ xs, SqT K G a xs ∧ R (srcT K a xs) G M
  | _ => False) E
theorem ji_list {t : KE} (h : JE X W e t) : JI X W tg e (kiSeq X.K t) := pi_mono (pi_list h) fun σ H Q ⟨G, M, R, E, hv, h, hR, hE⟩ => ⟨G, M, _, E, hv, h, fun x G1 M1 H1 hv1 q => by
    match x, q with
    | .ref a, ⟨xs, q1, q2⟩ => exact ⟨a, rfl, ⟨xs, hv1.lst q1⟩, hR _ G1 M1 H1 hv1 q2 _ goes_L⟩, hE⟩
theorem ji_tup {t : KE} (h : JE X W e t) : JI X W tg e (kiTup X.K t) := pi_mono (pi_tup h) fun σ H Q ⟨G, M, R, E, hv, h, hR, hE⟩ => ⟨G, M, _, E, hv, h, fun x G1 M1 H1 hv1 q => by
    match x, q with
    | .ref a, ⟨xs, q1, q2⟩ => exact ⟨a, rfl, ⟨xs, hv1.tup q1⟩, hR _ G1 M1 H1 hv1 q2 _ goes_T⟩, hE⟩
/-- range(n), range(a, b), range(a, b, c) -/
def kiR1 (t : KA) : KI := fun σ G M R E => t σ G M (fun vs G M => match vs with
  | [.int j] => (-(2 ^ 62) ≤ j ∧ j < 2 ^ 62) ∧ R (srcR 0 j.toNat) G M
  | _ => False) E
def kiR2 (t : KA) : KI := fun σ G M R E => t σ G M (fun vs G M => match vs with
  | [.int i, .int j] => (-(2 ^ 62) ≤ i ∧ i < 2 ^ 62 ∧ -(2 ^ 62) ≤ j ∧ j < 2 ^ 62) ∧ R (srcR i (j - i).toNat) G M
  | _ => False) E
def kiR3 (t : KA) : KI := fun σ G M R E => t σ G M (fun vs G M => match vs with
  | [.int i, .int j, .int c] => ∃ n, RgC i j c n ∧ R (srcC i c n) G M
  | _ => False) E
theorem ji_range1 {t : KA} (hm : X.mg "range" = none) (ha : JA X W [a] t) (hg : Gl X "range" := by rfl) (hs : starEach [a] X.env = [(false, eval a X.env)] := by rfl) : JI X W tg (.Call (.Name "range" p) [a] [] pos) (kiR1 t) :=
  pi_mono (pi_range1 hg hm ha hs) fun σ H Q ⟨G, M, R, E, hv, h, hR, hE⟩ => ⟨G, M, _, E, hv, h, fun vs G1 M1 H1 hv1 q => by
    match vs, q with
    | [.int j], ⟨⟨q1, q2⟩, q3⟩ => exact ⟨j, rfl, q1, q2, hR _ G1 M1 H1 hv1 q3 _ goes_R⟩, hE⟩
theorem ji_range2 {t : KA} (hm : X.mg "range" = none) (ha : JA X W [a, b] t) (hg : Gl X "range" := by rfl) (hs : starEach [a, b] X.env = [(false, eval a X.env), (false, eval b X.env)] := by rfl) (hs2 : starEach [b] X.env = [(false, eval b X.env)] := by rfl) : JI X W tg (.Call (.Name "range" p) [a, b] [] pos) (kiR2 t) :=
  pi_mono (pi_range2 hg hm ha hs hs2) fun σ H Q ⟨G, M, R, E, hv, h, hR, hE⟩ => ⟨G, M, _, E, hv, h, fun vs G1 M1 H1 hv1 q => by
    match vs, q with
    | [.int i, .int j], ⟨q1, q3⟩ => exact ⟨i, j, rfl, q1, hR _ G1 M1 H1 hv1 q3 _ goes_R⟩, hE⟩
theorem ji_range3 {t : KA} (hm : X.mg "range" = none) (ha : JA X W [a, b, c] t) (hg : Gl X "range" := by rfl) (hs : starEach [a, b, c] X.env = (false, eval a X.env) :: starEach [b, c] X.env := by rfl) (hpl : (backTo pos (starEach [b, c] X.env)).any (·.1) = false := by rfl) : JI X W tg (.Call (.Name "range" p) [a, b, c] [] pos) (kiR3 t) :=
  pi_mono (pi_range3 hg hm ha hs hpl) fun σ H Q ⟨G, M, R, E, hv, h, hR, hE⟩ => ⟨G, M, _, E, hv, h, fun vs G1 M1 H1 hv1 q => by
    match vs, q with
    | [.int i, .int j, .int c], ⟨n, q1, q3⟩ => exact ⟨i, j, c, n, rfl, q1, hR _ G1 M1 H1 hv1 q3 _ goes_C⟩, hE⟩
def kiEnum (K : PySem.W.Frag) (t : KA) : KI := fun σ G M R E => t σ G M (fun vs G M => match vs with
  | [.ref a] => ∃ xs, LstAt K G M a xs ∧ R (srcE K a xs) G M
  | _ => False) E
def kiRev (K : PySem.W.Frag) (t : KA) : KI := fun σ G M R E => t σ G M (fun vs G M => match vs with
  | [.ref a] => ∃ xs, LstAt K G M a xs ∧ R (srcV K a xs) G M
  | _ => False) E
variable {elts : List Expr} {kk : Nat}
theorem ji_enum {t : KA} (hm : X.mg "enumerate" = none) (ha : JA X W [e] t) (hg : Gl X "enumerate" := by rfl) (hs : starEach [e] X.env = [(false, eval e X.env)] := by rfl) : JI X W (.Tuple elts kk tpos) (.Call (.Name "enumerate" p) [e] [] pos) (kiEnum X.K t) :=
  pi_mono (pi_enum hg hm ha hs) fun σ H Q ⟨G, M, R, E, hv, h, hR, hE⟩ => ⟨G, M, _, E, hv, h, fun vs G1 M1 H1 hv1 q => by
    match vs, q with
    | [.ref a], ⟨xs, q1, q3⟩ => exact ⟨a, xs, rfl, hv1.lst q1, hR _ G1 M1 H1 hv1 q3 _ goes_E⟩, hE⟩
theorem ji_rev {t : KA} (hm : X.mg "reversed" = none) (ha : JA X W [e] t) (hg : Gl X "reversed" := by rfl) (hs : starEach [e] X.env = [(false, eval e X.env)] := by rfl) : JI X W tg (.Call (.Name "reversed" p) [e] [] pos) (kiRev X.K t) :=
  pi_mono (pi_reversed hg hm ha hs) fun σ H Q ⟨G, M, R, E, hv, h, hR, hE⟩ => ⟨G, M, _, E, hv, h, fun vs G1 M1 H1 hv1 q => by
    match vs, q with
    | [.ref a], ⟨xs, q1, q3⟩ => exact ⟨a, xs, rfl, hv1.lst q1, hR _ G1 M1 H1 hv1 q3 _ goes_V⟩, hE⟩
/-! ### for -/
def asg (g : KG) (w : V ⊕ List V) : St → Hp → Mem → (St → Hp → Mem → Prop) → Prop := match w with
  | .inl v => g.val v
  | .inr vs => g.tup vs
def wk1 (Pv : St → Hp → Mem → Prop) : St → Hp → Mem → Prop := fun σ G M => ∃ G' M', Wk G M G' M' ∧ Pv σ G' M'
def kFor (ti : KI) (g : KG) (tb : KS) : KS := fun D σ G M => ti σ G M (fun src G M => ∃ Pv : Nat → St → Hp → Mem → Prop, Pv 0 σ G M ∧ (∀ i σ G M, i ≤ src.n → Pv i σ G M → src.ok G M) ∧
  (∀ i σ G M, i < src.n → Pv i σ G M → asg g (src.get i) σ G M (fun σ G M => tb { D with nx := wk1 (Pv (i + 1)), ct := wk1 (Pv (i + 1)), bk := D.nx } σ G M)) ∧ (∀ σ G M, Pv src.n σ G M → D.nx σ G M)) (D.x σ)
theorem asg_sim {g : KG} {gr : TG} (hg : JG X tg g gr) {w : V ⊕ List V} {σ : St} {G : Hp} {M : Mem} {R : St → Hp → Mem → Prop} {H H' : Hp} {x : V} {Q : St → Hp → Prop} (hv : Hv G M H)
    (y : match w with | .inl v => x = v ∧ H' = H | .inr vs => ∃ T, x = .ref T ∧ H T = none ∧ H' = upd H T (.tup vs)) (h : asg g w σ G M R) (hR : ∀ σ' G' M' H', Hv G' M' H' → R σ' G' M' → Q σ' H') : gr x σ H' Q := by
  cases w with
  | inl v =>
    obtain ⟨rfl, rfl⟩ := y
    exact hg.val _ σ G M R _ Q hv h hR
  | inr vs =>
    obtain ⟨T, rfl, hT, rfl⟩ := y
    exact hg.tup T vs σ G M R H Q hv hT h hR
theorem js_for {it : Expr} {body : List Stmt} {ti : KI} {g : KG} {gr : TG} {tb : KS} (hp : PassesOwn (model X.prog X.w) X.A X.env X.xe) (hc : X.calm = true) (hi : JI X W tg it ti) (hg : JG X tg g gr) (hb : JSs X W body tb)
    (hs : ∀ x, foldedSetIterable it X.env x = pure x := by intro _; rfl) : JS X W (.For tg it body [] pos) (kFor ti g tb) := ps_mono (ps_for hp hc hi hg.pg hb hs) fun D σ H ⟨G, M, d, hv, h, en⟩ => by
  refine ⟨G, M, _, _, hv, h, fun src G1 M1 H1 hv1 q J go => ?_, fun c a G' M' H' hv' q => en.xc c a σ G' M' H' hv' q⟩
  obtain ⟨Pv, p0, pok, pst, pend⟩ := q
  refine ⟨fun i m σ H => m = src.n - i ∧ i ≤ src.n ∧ ∃ G M, Hv G M H ∧ Pv i σ G M, ⟨src.n, by simp, Nat.zero_le _, G1, M1, hv1, p0⟩, ?_⟩
  rintro i m σ2 H2 ⟨rfl, hi2, G2, M2, hv2, p2⟩
  have ok := pok i σ2 G2 M2 hi2 p2
  by_cases hlt : i < src.n
  · refine .inr ⟨go.go i G2 M2 H2 hv2 ok hlt, fun σ' H' => ∃ G M, Hv G M H' ∧ Pv (i + 1) σ' G M, fun σ' H' ⟨G3, M3, hv3, p3⟩ => ⟨src.n - (i + 1), by omega, rfl, hlt, G3, M3, hv3, p3⟩, fun x H' y => ?_⟩
    refine asg_sim hg hv2 (go.yld i G2 M2 H2 x H' hv2 ok hlt y) (pst i σ2 G2 M2 hlt p2) fun σ3 G3 M3 H3 hv3 q3 => ?_
    have e1 : ∀ σ G M H, Hv G M H → wk1 (Pv (i + 1)) σ G M → ∃ G M, Hv G M H ∧ Pv (i + 1) σ G M := fun σ G M H hv ⟨G', M', wk, q⟩ => ⟨G', M', wk H hv, q⟩
    exact ⟨G3, M3, _, hv3, q3, ⟨e1, en.rt, en.nx, e1, en.xc⟩⟩
  · have e : i = src.n := by omega
    subst e
    exact .inl ⟨go.stop _ G2 M2 H2 hv2 ok (Nat.le_refl _), en.nx _ G2 M2 H2 hv2 (pend σ2 G2 M2 p2)⟩
/-! ### while -/
def kWhile (c : KT) (tb : KS) : KS := fun D σ G M => ∃ Pv : Nat → St → Hp → Mem → Prop, (∃ m, Pv m σ G M) ∧ ∀ m σ G M, Pv m σ G M →
  c σ G M (fun b G M => if b = true then tb { D with nx := fun σ G M => ∃ m', m' < m ∧ wk1 (Pv m') σ G M, ct := fun σ G M => ∃ m', m' < m ∧ wk1 (Pv m') σ G M, bk := D.nx } σ G M else D.nx σ G M) (D.x σ)
theorem js_while {c : Expr} {body : List Stmt} {tc : KT} {tb : KS} (hp : PassesOwn (model X.prog X.w) X.A X.env X.xe) (hc : JT X W c tc) (hb : JSs X W body tb) : JS X W (.While c body [] pos) (kWhile tc tb) := ps_mono (ps_while hp hc hb) fun D σ H ⟨G, M, d, hv, ⟨Pv, ⟨m0, p0⟩, st⟩, en⟩ => by
  refine ⟨fun m σ H => ∃ G M, Hv G M H ∧ Pv m σ G M, ⟨m0, G, M, hv, p0⟩, ?_⟩
  rintro m σ1 H1 ⟨G1, M1, hv1, p1⟩
  refine ⟨G1, M1, _, _, hv1, st m σ1 G1 M1 p1, fun b G2 M2 H2 hv2 q2 => ?_, fun c a G' M' H' hv' q => en.xc c a σ1 G' M' H' hv' q⟩
  cases b with
  | true =>
    rw [if_pos rfl] at q2 ⊢
    refine ⟨fun σ' H' => ∃ m', m' < m ∧ ∃ G M, Hv G M H' ∧ Pv m' σ' G M, fun σ' H' h => h, ?_⟩
    have e1 : ∀ σ G M H, Hv G M H → (∃ m', m' < m ∧ wk1 (Pv m') σ G M) → ∃ m', m' < m ∧ ∃ G M, Hv G M H ∧ Pv m' σ G M := fun σ G M H hv ⟨m', l, G', M', wk, q⟩ => ⟨m', l, G', M', wk H hv, q⟩
    exact ⟨G2, M2, _, hv2, q2, ⟨e1, en.rt, en.nx, e1, en.xc⟩⟩
  | false =>
    rw [if_neg Bool.false_ne_true] at q2 ⊢
    exact en.nx _ G2 M2 H2 hv2 q2
/-! ### list comprehensions -/
def E0 : KX := fun _ _ _ _ => False
def kYes : KT := fun _ G M R _ => R true G M
def JTs (X : Cx) (W : WX) (es : List Expr) (t : KT) : Prop := PTs X es (upG W t)
theorem jts_nil : JTs X W [] kYes := ⟨fun pins s σ H Q I ⟨G, M, R, E, hv, h, hR, _⟩ => pts_nil.run pins s σ H Q I (hR _ G M H hv h)⟩
theorem jts_one {t : KT} (h : JT X W c t) : JTs X W [c] t := pts_one h
def kComp (ti : KI) (g : KG) (tt : KT) (te : KE) (own : List Nat) : KE := fun σ G M R E => ti σ G M (fun src G M => src.n ≤ sizeLine ∧ ∃ Pv : Nat → List V → Hp → Mem → Prop, Pv 0 [] G M ∧ (∀ i acc G M, i ≤ src.n → Pv i acc G M → src.ok G M) ∧
  (∀ i acc G M D, i < src.n → acc.length ≤ i → Pv i acc G M → Fr G M D → asg g (src.get i) (wipe σ own) G ((D, .lst acc) :: M) (fun σ2 G M => wipe σ2 own = wipe σ own ∧ tt σ2 G M (fun b G M =>
    if b = true then te σ2 G M (fun y G M => ∃ G' M', Wk G M G' ((D, .lst acc) :: M') ∧ Pv (i + 1) (acc ++ [y]) G' M') E0 else ∃ G' M', Wk G M G' ((D, .lst acc) :: M') ∧ Pv (i + 1) acc G' M') E0)) ∧
  (∀ acc G M p, Pv src.n acc G M → acc.length ≤ src.n → Fr G M p → R (.ref p) G ((p, .lst acc) :: M))) E
theorem comp_sim {K : PySem.W.Frag} {ti : KI} {g : KG} {gr : TG} {tt : KT} {te : KE} {own : List Nat} {σ : St} {H : Hp} {Q : VK}
    (hgv : ∀ v σ G M R H Q, Hv G M H → g.val v σ G M R → (∀ σ' G' M' H', Hv G' M' H' → R σ' G' M' → Q σ' H') → gr v σ H Q)
    (hgt : ∀ T vs σ G M R H Q, Hv G M H → H T = none → g.tup vs σ G M R → (∀ σ' G' M' H', Hv G' M' H' → R σ' G' M' → Q σ' H') → gr (.ref T) σ (upd H T (.tup vs)) Q)
    (h : upG W (kComp ti g tt te own) σ H Q) : tLc (upI W ti) gr (upG W0 tt) (upG W0 te) own σ H Q := by
  obtain ⟨G, M, R, E, hv, h, hR, hE⟩ := h
  refine ⟨G, M, _, E, hv, h, fun src G1 M1 H1 hv1 q J go => ?_, hE⟩
  obtain ⟨hn, Pv, p0, pok, pst, pend⟩ := q
  intro D hD
  refine ⟨fun i m H => m = src.n - i ∧ i ≤ src.n ∧ ∃ acc G M, acc.length ≤ i ∧ Hv G ((D, .lst acc) :: M) H ∧ Pv i acc G M, ⟨src.n, by simp, Nat.zero_le _, [], G1, M1, Nat.le_refl _, hv1.newM hD, p0⟩, ?_⟩
  rintro i m H2 ⟨rfl, hi2, acc, G2, M2, hacc, hv2, p2⟩
  have hv2' : Hv G2 M2 H2 := Wk.drop0 H2 hv2
  have ok := pok i acc G2 M2 hi2 p2
  have fD : Fr G2 M2 D := by
    refine ⟨hv2.dj (D, .lst acc) List.mem_cons_self, fun x hx e => ?_⟩
    have nd := hv2.nd
    rw [List.map_cons, List.nodup_cons] at nd
    exact nd.1 (by rw [← e]; exact List.mem_map.mpr ⟨x, hx, rfl⟩)
  by_cases hlt : i < src.n
  · refine .inr ⟨go.go i G2 M2 H2 hv2' ok hlt, fun H' => ∃ acc G M, acc.length ≤ i + 1 ∧ Hv G ((D, .lst acc) :: M) H' ∧ Pv (i + 1) acc G M, fun H' ⟨acc', G3, M3, l3, hv3, p3⟩ => ⟨src.n - (i + 1), by omega, rfl, hlt, acc', G3, M3, l3, hv3, p3⟩, fun x H' y => ?_⟩
    have step := pst i acc G2 M2 D hlt hacc p2 fD
    have yy := go.yld i G2 M2 H2 x H' hv2' ok hlt y
    have fin : ∀ σ3 G3 M3 H3, Hv G3 M3 H3 → (wipe σ3 own = wipe σ own ∧ tt σ3 G3 M3 (fun b G M =>
        if b = true then te σ3 G M (fun y G M => ∃ G' M', Wk G M G' ((D, .lst acc) :: M') ∧ Pv (i + 1) (acc ++ [y]) G' M') E0 else ∃ G' M', Wk G M G' ((D, .lst acc) :: M') ∧ Pv (i + 1) acc G' M') E0) →
        (wipe σ3 own = wipe σ own ∧ upG W0 tt σ3 H3 fun b H3 => if b = true then upG W0 te σ3 H3 fun y H4 => ∃ acc, H4 D = some (.lst acc) ∧ acc.length < sizeLine ∧ (∃ acc' G M, acc'.length ≤ i + 1 ∧ Hv G ((D, .lst acc') :: M) (upd H4 D (.lst (acc ++ [y]))) ∧ Pv (i + 1) acc' G M) else ∃ acc' G M, acc'.length ≤ i + 1 ∧ Hv G ((D, .lst acc') :: M) H3 ∧ Pv (i + 1) acc' G M) := by
      rintro σ3 G3 M3 H3 hv3 ⟨ew, q3⟩
      refine ⟨ew, G3, M3, _, _, hv3, q3, fun b G4 M4 H4 hv4 q4 => ?_, fun _ _ _ _ _ _ z => z.elim⟩
      cases b with
      | true =>
        rw [if_pos rfl] at q4 ⊢
        refine ⟨G4, M4, _, _, hv4, q4, fun y G5 M5 H5 hv5 ⟨G6, M6, wk, p6⟩ => ?_, fun _ _ _ _ _ _ z => z.elim⟩
        have hv6 := wk H5 hv5
        refine ⟨acc, hv6.mu (D, .lst acc) List.mem_cons_self, by omega, acc ++ [y], G6, M6, by rw [List.length_append]; exact Nat.succ_le_succ hacc, ?_, p6⟩
        exact hv6.set (n := 0) (o' := .lst (acc ++ [y])) rfl
      | false =>
        rw [if_neg Bool.false_ne_true] at q4 ⊢
        obtain ⟨G6, M6, wk, p6⟩ := q4
        exact ⟨acc, G6, M6, by omega, wk H4 hv4, p6⟩
    revert yy step
    cases src.get i with
    | inl v =>
      rintro step ⟨rfl, rfl⟩
      exact hgv _ _ G2 _ _ _ _ hv2 step fin
    | inr vs =>
      rintro step ⟨T, rfl, hT, rfl⟩
      exact hgt T vs _ G2 _ _ _ _ hv2 hT step fin
  · have e : i = src.n := by omega
    subst e
    exact .inl ⟨go.stop _ G2 M2 H2 hv2' ok (Nat.le_refl _), hR _ _ _ _ hv2 (pend acc G2 M2 D p2 hacc fD)⟩
variable {elt it : Expr} {ifs : List Expr} {scope : Scope} {own : List (Str × Nat)} {spos py : Pos}
theorem je_comp {ti : KI} {g : KG} {gr : TG} {tt : KT} {te : KE} (hc : X.calm = true) (hN : X.N.Nodup) (hi : JI X W tg it ti) (ok : BlkOk X.N X.env.scope scope own)
    (hg : ∀ (s : Shared) (H : Hp) (C : Addr) (cl : List (Str × Addr)) (fp : List Addr), JG (X.blk s H scope (compEnvC scope cl C X.env) fp) tg g gr) (ht : ∀ (s : Shared) (H : Hp) (C : Addr) (cl : List (Str × Addr)) (fp : List Addr), JTs (X.blk s H scope (compEnvC scope cl C X.env) fp) W0 ifs tt)
    (he : ∀ (s : Shared) (H : Hp) (C : Addr) (cl : List (Str × Addr)) (fp : List Addr), JE (X.blk s H scope (compEnvC scope cl C X.env) fp) W0 elt te) (hs : ∀ x, foldedSetIterable it X.env x = pure x := by intro _; rfl) :
    JE X W (.ListComp elt [⟨tg, it, ifs, 0⟩] scope pos) (kComp ti g tt te (own.map (·.2))) :=
  pe_mono (pe_lc hc hN hi ok (fun s H C cl fp => (hg s H C cl fp).pg) ht he hs) fun σ H Q h =>
    comp_sim (K := X.K) (fun v σ G M R H Q hv => ((hg X.s_0 H 0 [] []).val v σ G M R H Q hv)) (fun T vs σ G M R H Q hv => ((hg X.s_0 H 0 [] []).tup T vs σ G M R H Q hv)) h
theorem js_setComp {i : Nat} {y : Str} {ti : KI} {g : KG} {gr : TG} {tt : KT} {te : KE} (hc : X.calm = true) (hN : X.N.Nodup) (hsw : swapsWith (.ListComp elt [⟨tg, it, ifs, 0⟩] scope pos) (some (.Name y py)) spos.line X.env = pure true) (hi : JI X W tg it ti) (ok : BlkOk X.N X.env.scope scope own)
    (hg : ∀ (s : Shared) (H : Hp) (C : Addr) (cl : List (Str × Addr)) (fp : List Addr), JG (X.blk s H scope (compEnvC scope cl C X.env) fp) tg g gr) (ht : ∀ (s : Shared) (H : Hp) (C : Addr) (cl : List (Str × Addr)) (fp : List Addr), JTs (X.blk s H scope (compEnvC scope cl C X.env) fp) W0 ifs tt)
    (he : ∀ (s : Shared) (H : Hp) (C : Addr) (cl : List (Str × Addr)) (fp : List Addr), JE (X.blk s H scope (compEnvC scope cl C X.env) fp) W0 elt te) (hy : X.N[i]? = some y := by rfl) (hyl : X.env.scope.names.lookup y = some .local := by rfl) (hs : ∀ x, foldedSetIterable it X.env x = pure x := by intro _; rfl) :
    JS X W (.Assign [.Name y py] (.ListComp elt [⟨tg, it, ifs, 0⟩] scope pos) spos) (kSet i (kComp ti g tt te (own.map (·.2)))) :=
  ps_mono (ps_setLc hc hN hy hyl hsw hi ok (fun s H C cl fp => (hg s H C cl fp).pg) ht he hs) fun D σ H ⟨G, M, d, hv, h, en⟩ =>
    comp_sim (K := X.K) (fun v σ G M R H Q hv => ((hg X.s_0 H 0 [] []).val v σ G M R H Q hv)) (fun T vs σ G M R H Q hv => ((hg X.s_0 H 0 [] []).tup T vs σ G M R H Q hv))
      ⟨G, M, _, _, hv, h, fun v G' M' H' hv' q => en.nx _ G' M' H' hv' q, fun c a G' M' H' hv' q => en.xc c a σ G' M' H' hv' q⟩
end
/-! ### a def -/
/-- what is known may be weakened at the end -/
def wkR (R : KR) : KR := fun v G M => ∀ H, Hv G M H → ∃ G' M', Hv G' M' H ∧ R v G' M'
def wkX (Z : KX) : KX := fun c d G M => ∃ G' M', Wk G M G' M' ∧ Z c d G' M'
theorem ret0 {R : KR} {v : V} {G : Hp} {M : Mem} (h : R v G M) : wkR R v G M := fun _ hv => ⟨G, M, hv, h⟩
theorem retW {R : KR} {v : V} {G G' : Hp} {M M' : Mem} (w : Wk G M G' M') (h : R v G' M') : wkR R v G M := fun H hv => ⟨G', M', w H hv, h⟩
section
variable {P : Program} {w : World} {K : PySem.W.Frag} {mg : Str → Option Value} {base : Heap}
theorem fn_ok {x qual : Str} {st : Stmt} {f : Addr} {fd : FuncData} {N ps : List Str} {k : Nat} {S : KSp} (F : Fun K x qual st f fd) (sc : FnScope N ps (defScope st)) (len : ∀ vs G M R X, S vs G M R X → vs.length = ps.length)
    (hbody : ∀ (cdv : Value) (A : Around) (outer : List Env) (s : Shared) (H : Hp) (E : XK), Room k (A.deeper (envOfC qual (defScope st) s.heap.objs.size f cdv)) →
      ∃ t, JSs (cxOf (L2.CX P w) P w K mg base N qual (defScope st) f cdv A outer s H E) (fun c d _ H => E c d H) (defBody st) t ∧
        ∀ vs G M R Z, S vs G M R Z → t { nx := fun _ G M => wkR R .non G M, rt := wkR R, xc := fun c d _ G M => wkX Z c d G M } (start N vs) G M) : FnOk P w K mg base (L2.CX P w) (k + 1) f fd ps (lift S) := by
  refine F.okX sc (fun vs H Q E ⟨G, M, R, Z, _, h, _⟩ => len vs G M R Z h) fun cdv A outer s H vs Q E hr ⟨G, M, R, Z, hv, h, hR, hZ⟩ => ?_
  obtain ⟨t, j, q⟩ := hbody cdv A outer s H E hr
  exact ⟨_, j, G, M, _, hv, q vs G M R Z h, ⟨fun σ G M H hv h => (h H hv).elim fun G' h => h.elim fun M' h => hR _ G' M' H h.1 h.2, fun v G M H hv h => (h H hv).elim fun G' h => h.elim fun M' h => hR _ G' M' H h.1 h.2, fun _ _ _ _ _ z => z.elim, fun _ _ _ _ _ z => z.elim, fun c a σ G M H hv ⟨G', M', w, q⟩ => hZ c a G' M' H (w H hv) q⟩⟩
/-- a def that keeps its promise -/
structure Def (P : Program) (w : World) (K : PySem.W.Frag) (mg : Str → Option Value) (base : Heap) (lev : Nat) (x : Str) (ps : List Str) (S : KSp) : Prop where
  ex : ∃ f fd, FnOk P w K mg base (L2.CX P w) lev f fd ps (lift S) ∧ mg x = some (.ref f) ∧ PySem.W.keepIn K (.ref f) = true ∧ Binds K fd ps []
end
section
variable {X : Cx} {W : WX} {pos p : Pos} {e : Expr} {es : List Expr} {x : Str} {k lev : Nat} {ps : List Str} {S : KSp} {t : KA}
theorem je_callD (D : Def X.prog X.w X.K X.mg X.base lev x ps S) (hr : Room k X.A) (tk : Takes X W) (ha : JA X W (e :: es) t) (hl : lev ≤ k := by decide) (hg : Gl X x := by rfl)
    (hdb : (x == ("__debug__" : Str)) = false := by decide) (he : starEach (e :: es) X.env = (false, eval e X.env) :: starEach es X.env := by rfl) (hpl : (backTo pos (starEach es X.env)).any (·.1) = false := by rfl) :
    JE X W (.Call (.Name x p) (e :: es) [] pos) (kCall S t) := by
  obtain ⟨f, fd, F, hm, hk, hb⟩ := D.ex
  exact je_call (F.mono hl) hr tk hm hk hb ha hg hdb he hpl
end
end BT
set_option Elab.async false
set_option linter.all false
set_option maxRecDepth 100000
set_option maxHeartbeats 4000000
namespace BT
open PySem PySem.Spec L2
open PyProof.Rows hiding St
/-! ### promises by the number of arguments -/
def sp1 (f : V → Hp → Mem → KR → KX → Prop) : KSp := fun vs G M R Z => match vs with
  | [x] => f x G M R Z
  | _ => False
def sp2 (f : V → V → Hp → Mem → KR → KX → Prop) : KSp := fun vs G M R Z => match vs with
  | [x, y] => f x y G M R Z
  | _ => False
def sp3 (f : V → V → V → Hp → Mem → KR → KX → Prop) : KSp := fun vs G M R Z => match vs with
  | [x, y, z] => f x y z G M R Z
  | _ => False
def sp4 (f : V → V → V → V → Hp → Mem → KR → KX → Prop) : KSp := fun vs G M R Z => match vs with
  | [x, y, z, u] => f x y z u G M R Z
  | _ => False
def sp5 (f : V → V → V → V → V → Hp → Mem → KR → KX → Prop) : KSp := fun vs G M R Z => match vs with
  | [x, y, z, u, t] => f x y z u t G M R Z
  | _ => False
section
variable {vs : List V} {G : Hp} {M : Mem} {R : KR} {Z : KX}
theorem sp1_of {f} (h : sp1 f vs G M R Z) : ∃ x, vs = [x] ∧ f x G M R Z := by
  match vs, h with
  | [x], h => exact ⟨x, rfl, h⟩
theorem sp2_of {f} (h : sp2 f vs G M R Z) : ∃ x y, vs = [x, y] ∧ f x y G M R Z := by
  match vs, h with
  | [x, y], h => exact ⟨x, y, rfl, h⟩
theorem sp3_of {f} (h : sp3 f vs G M R Z) : ∃ x y z, vs = [x, y, z] ∧ f x y z G M R Z := by
  match vs, h with
  | [x, y, z], h => exact ⟨x, y, z, rfl, h⟩
theorem sp4_of {f} (h : sp4 f vs G M R Z) : ∃ x y z u, vs = [x, y, z, u] ∧ f x y z u G M R Z := by
  match vs, h with
  | [x, y, z, u], h => exact ⟨x, y, z, u, rfl, h⟩
theorem sp5_of {f} (h : sp5 f vs G M R Z) : ∃ x y z u t, vs = [x, y, z, u, t] ∧ f x y z u t G M R Z := by
  match vs, h with
  | [x, y, z, u, t], h => exact ⟨x, y, z, u, t, rfl, h⟩
theorem sp_len1 {f} (h : sp1 f vs G M R Z) : vs.length = 1 := by obtain ⟨_, rfl, _⟩ := sp1_of h; rfl
theorem sp_len2 {f} (h : sp2 f vs G M R Z) : vs.length = 2 := by obtain ⟨_, _, rfl, _⟩ := sp2_of h; rfl
theorem sp_len3 {f} (h : sp3 f vs G M R Z) : vs.length = 3 := by obtain ⟨_, _, _, rfl, _⟩ := sp3_of h; rfl
theorem sp_len4 {f} (h : sp4 f vs G M R Z) : vs.length = 4 := by obtain ⟨_, _, _, _, rfl, _⟩ := sp4_of h; rfl
theorem sp_len5 {f} (h : sp5 f vs G M R Z) : vs.length = 5 := by obtain ⟨_, _, _, _, _, rfl, _⟩ := sp5_of h; rfl
end
/-- what a body has at its ends -/
abbrev ends (R : KR) (Z : KX) : Kd := { nx := fun _ G M => wkR R .non G M, rt := wkR R, xc := fun c d _ G M => wkX Z c d G M }
/-! ### small helps -/
section
variable {K : PySem.W.Frag} {G : Hp} {M : Mem} {a p : Addr} {xs : List V} {o : HO} {n : Nat}
theorem lst_n (h : M[n]? = some (a, .lst xs)) : SeqAt' K G M a xs := .inl (.inl (List.mem_of_getElem? h))
theorem lat_n (h : M[n]? = some (a, .lst xs)) : LstAt K G M a xs := .inl (List.mem_of_getElem? h)
theorem lst_g (h : SqL K G a xs) : SeqAt' K G M a xs := .inl (.inr h)
theorem lat_g (h : SqL K G a xs) : LstAt K G M a xs := .inr h
theorem tup_g (h : SqT K G a xs) : SeqAt' K G M a xs := .inr h
theorem at_n (h : M[n]? = some (a, o)) : At G M a o := .inl (List.mem_of_getElem? h)
theorem set_n {x : Addr × HO} (h : M[n]? = some (p, o)) : (M.set n x)[n]? = some x := List.getElem?_set_self (List.getElem?_eq_some_iff.mp h).1
theorem sqt_new {xs : List V} : SqT K (upd G p (.tup xs)) p xs := .inl (.inl upd_same)
theorem sql_new {xs : List V} : SqL K (upd G p (.lst xs)) p xs := .inl (.inl upd_same)
theorem ite2' {c : Bool} {A B : Prop} (h1 : c = true → A) (h2 : c = false → B) : if c = true then A else B := by
  cases c with
  | true => rw [if_pos rfl]; exact h1 rfl
  | false => rw [if_neg Bool.false_ne_true]; exact h2 rfl
theorem sz {n : Nat} (h : n ≤ 16777216) : n ≤ sizeLine := h
theorem tyl_n (h : M[n]? = some (a, .lst xs)) : ∀ H, Hv G M H → tyV K "list" (.ref a) H := fun H hv => .inl ⟨rfl, xs, .inl (.inl (hv.get h))⟩
end
/-! ### the law's pool of numbers -/
def pool (c s : Int) : HO := .lst [.int c, .int s]
def PoolOk (s : Int) : Prop := 0 ≤ s ∧ s < 2147483647
def S_law_take (K : PySem.W.Frag) : KSp := sp2 fun x y G M R Z => ∃ (p : Addr) (m : Int) (n : Nat) (c s : Int), x = .ref p ∧ y = .int m ∧ M[n]? = some (p, pool c s) ∧ PoolOk s ∧ 0 < m ∧ m < 2 ^ 200 ∧
  ∀ r c' s', 0 ≤ r → r < m → PoolOk s' → R (.int r) G (M.set n (p, pool c' s'))
def S_law_pool (K : PySem.W.Frag) : KSp := sp2 fun x y G M R Z => ∃ (a : Addr) (ns : List Int) (k : Int), x = .ref a ∧ y = .int k ∧ SqL K G a (ns.map V.int) ∧ 0 ≤ k ∧ k ≤ 100 ∧ ns.length ≤ 63 ∧
  ∀ p c s, Fr G M p → PoolOk s → R (.ref p) G ((p, pool c s) :: M)
end BT
set_option Elab.async false
set_option linter.all false
set_option maxRecDepth 100000
set_option maxHeartbeats 4000000
namespace BT
open PySem PySem.Spec L2
open PyProof.Rows hiding St
/-! ### shapes of data -/
inductive Shp : Nat → PyData → Prop
  | non {n} : Shp n .none
  | bl {n b} : Shp n (.bool b)
  | int {n i} : Shp n (.int i)
  | str {n x} : PyData.strOk x = true → Shp n (.str x)
  | list {n ds} : (∀ d, d ∈ ds → Shp n d) → Shp (n + 1) (.list ds)
  | tuple {n ds} : (∀ d, d ∈ ds → Shp n d) → Shp (n + 1) (.tuple ds)
theorem shp_all {n : Nat} (ih : ∀ d, Shp n d → d.canLay0 = true ∧ d.depth ≤ n) : ∀ ds : List PyData, (∀ d, d ∈ ds → Shp n d) → PyData.canLayAll0 ds = true ∧ PyData.depthAll ds ≤ n
  | [], _ => by
    refine ⟨by simp [PyData.canLayAll0], by simp [PyData.depthAll]⟩
  | d :: ds, h => by
    obtain ⟨a, b⟩ := ih d (h d List.mem_cons_self)
    obtain ⟨c, e⟩ := shp_all ih ds fun x hx => h x (List.mem_cons_of_mem _ hx)
    refine ⟨by simp [PyData.canLayAll0, a, c], ?_⟩
    show max d.depth (PyData.depthAll ds) ≤ n
    omega
theorem shp_of : ∀ (n : Nat) (d : PyData), Shp n d → d.canLay0 = true ∧ d.depth ≤ n
  | n, _, .non => by refine ⟨by simp [PyData.canLay0], by simp [PyData.depth]⟩
  | n, _, .bl => by refine ⟨by simp [PyData.canLay0], by simp [PyData.depth]⟩
  | n, _, .int => by refine ⟨by simp [PyData.canLay0], by simp [PyData.depth]⟩
  | n, _, .str h => by refine ⟨by simp [PyData.canLay0, h], by simp [PyData.depth]⟩
  | n + 1, .list ds, .list h => by
    obtain ⟨a, b⟩ := shp_all (shp_of n) ds h
    refine ⟨by simp [PyData.canLay0, a], ?_⟩
    show PyData.depthAll ds + 1 ≤ n + 1
    omega
  | n + 1, .tuple ds, .tuple h => by
    obtain ⟨a, b⟩ := shp_all (shp_of n) ds h
    refine ⟨by simp [PyData.canLay0, a], ?_⟩
    show PyData.depthAll ds + 1 ≤ n + 1
    omega
theorem Shp.shaped {n : Nat} {d : PyData} (h : Shp n d) (hn : n ≤ 64) : SeqAt.shaped d = true := by
  obtain ⟨a, b⟩ := shp_of n d h
  unfold SeqAt.shaped
  rw [a, decide_eq_true (Nat.le_trans b hn)]; rfl
theorem Shp.refl {n : Nat} {d : PyData} (h : Shp n d) : PyData.eqv d d = true := by
  obtain ⟨a, b⟩ := shp_of n d h
  exact SeqAt.eqv_refl d a
/-! ### data known -/
section
variable {K : PySem.W.Frag} {G G' : Hp} {M : Mem} {a : Addr} {v : V} {d : PyData} {vs : List V} {ds : List PyData}
def DatAll (K : PySem.W.Frag) (G : Hp) (M : Mem) (vs : List V) (ds : List PyData) : Prop := ∀ H, Hv G M H → DpAll K H vs ds
theorem dats_g (h : DpAll K G vs ds) : DatAll K G M vs ds := fun H hv => ex_ds hv.exx ds h
theorem dat_list (h : LstAt K G M a vs) (hs : DatAll K G M vs ds) : DatAt K G M (.ref a) (.list ds) := fun H hv => .lst (hv.lst h) (hs H hv)
theorem dat_str {i : Str} : DatAt K G M (.str i) (.str i) := fun H hv => .str i
theorem dpall_snoc : ∀ {vs : List V} {ds : List PyData}, DpAll K G vs ds → Dp K G v d → DpAll K G (vs ++ [v]) (ds ++ [d])
  | _, _, .nil, h => .cons h .nil
  | _, _, .cons a b, h => .cons a (dpall_snoc b h)
theorem dpall_len : ∀ {vs : List V} {ds : List PyData}, DpAll K G vs ds → vs.length = ds.length
  | _, _, .nil => rfl
  | _, _, .cons _ b => by simp [dpall_len b]
theorem dpall_get : ∀ {vs : List V} {ds : List PyData} {i : Nat} {d : PyData}, DpAll K G vs ds → ds[i]? = some d → ∃ v, vs[i]? = some v ∧ Dp K G v d
  | _, _, _, _, .nil, e => by simp at e
  | _, _, 0, _, .cons a _, e => by
    rw [List.getElem?_cons_zero] at e
    cases e; exact ⟨_, rfl, a⟩
  | _, _, i + 1, d, .cons _ b, e => by
    obtain ⟨v, h1, h2⟩ := dpall_get (i := i) (d := d) b (by simpa using e)
    exact ⟨v, by simpa using h1, h2⟩
theorem dp_int_inv {i : Int} (h : Dp K G v (.int i)) : v = .int i := by cases h; rfl
theorem dp_tup_inv (h : Dp K G v (.tuple ds)) : ∃ t xs, v = .ref t ∧ SqT K G t xs ∧ DpAll K G xs ds := by
  cases h with
  | tup s a => exact ⟨_, _, rfl, s, a⟩
theorem dpall_ints_inv : ∀ {vs : List V} {ns : List Int}, DpAll K G vs (ns.map .int) → vs = ns.map V.int
  | _, [], h => by cases h; rfl
  | _, n :: ns, h => by
    cases h with
    | cons a b =>
      have e := dp_int_inv a
      subst e
      rw [dpall_ints_inv b]; rfl
end
/-! ### pairs of ints -/
/-! ### lists of ints by place -/
section
theorem atI_int {ns : List Int} {k : Int} (h0 : 0 ≤ k) (h1 : k < ns.length) : atI (ns.map V.int) k = some (.int (ns.getD k.toNat 0)) := by
  obtain ⟨j, rfl⟩ : ∃ j : Nat, k = j := ⟨k.toNat, by omega⟩
  have hj : j < ns.length := by omega
  refine atI_nat ?_
  rw [List.getElem?_map, List.getElem?_eq_getElem hj, Int.toNat_natCast, List.getD_eq_getElem?_getD, List.getElem?_eq_getElem hj]; rfl
theorem ixN_int {n : Nat} {k : Int} (h0 : 0 ≤ k) (h1 : k < n) : ixN n k = some k.toNat := by
  unfold ixN
  rw [if_pos h0, if_pos h1]
theorem lat_cons {K : PySem.W.Frag} {G : Hp} {M : Mem} {a : Addr} {xs : List V} {x : Addr × HO} (h : LstAt K G M a xs) : LstAt K G (x :: M) a xs := by
  rcases h with h | h
  · exact .inl (List.mem_cons_of_mem _ h)
  · exact .inr h
theorem lat_ex {K : PySem.W.Frag} {G G' : Hp} {M : Mem} {a : Addr} {xs : List V} (e : Ex G G') (h : LstAt K G M a xs) : LstAt K G' M a xs := by
  rcases h with h | h
  · exact .inl h
  · exact .inr (ex_l e h)
theorem lat_0 {K : PySem.W.Frag} {G : Hp} {M : Mem} {a : Addr} {xs : List V} : LstAt K G ((a, .lst xs) :: M) a xs := .inl List.mem_cons_self
theorem seq_0 {K : PySem.W.Frag} {G : Hp} {M : Mem} {a : Addr} {xs : List V} : SeqAt' K G ((a, .lst xs) :: M) a xs := .inl lat_0
theorem mul_l {i j : Int} (h0 : -(2 ^ 64) < i) (h1 : i < 2 ^ 64) : MulOk i j := .inl (.inl ⟨h0, h1⟩)
theorem mul_r {i j : Int} (h0 : -(2 ^ 64) < j) (h1 : j < 2 ^ 64) : MulOk i j := .inl (.inr ⟨h0, h1⟩)
theorem divW {m : Int} (h0 : 0 < m) (h1 : m < 2 ^ 200) (c : Int) : CDivW c m := wide_div (b := 200) h0 (by omega) (by decide) (by decide)
theorem sz0 : (0 : Nat) ≤ sizeLine := by decide
theorem sz1 : (1 : Nat) ≤ sizeLine := by decide
theorem sz2 : (2 : Nat) ≤ sizeLine := by decide
theorem sz3 : (3 : Nat) ≤ sizeLine := by decide
theorem pow10_18 : CPow 10 18 := ⟨by decide, by decide, by decide⟩
end
end BT
namespace BT
open PySem PySem.Spec L2
section
variable {K : PySem.W.Frag} {G : Hp} {M : Mem} {a b : Addr} {vs ws : List V} {i : Nat} {v u : V} {g : KG} {σ : St} {R : St → Hp → Mem → Prop}
theorem asg_L (h : vs[i]? = some v) (q : g.val v σ G M R) : asg g ((srcL K a vs).get i) σ G M R := by
  show g.val (vs.getD i .non) σ G M R
  rw [getD_of h]; exact q
theorem asg_T (h : vs[i]? = some v) (q : g.val v σ G M R) : asg g ((srcT K a vs).get i) σ G M R := by
  show g.val (vs.getD i .non) σ G M R
  rw [getD_of h]; exact q
theorem asg_V (h : vs[vs.length - 1 - i]? = some v) (q : g.val v σ G M R) : asg g ((srcV K a vs).get i) σ G M R := by
  show g.val (vs.getD (vs.length - 1 - i) .non) σ G M R
  rw [getD_of h]; exact q
theorem asg_E (h : vs[i]? = some v) (q : g.tup [.int i, v] σ G M R) : asg g ((srcE K a vs).get i) σ G M R := by
  show g.tup [.int i, vs.getD i .non] σ G M R
  rw [getD_of h]; exact q
end
end BT
namespace BT
open PySem PySem.Spec L2
/-- a cell becomes frozen -/
theorem frz {G : Hp} {M : Mem} {p : Addr} (o : HO) (h : Fr G M p) : ∃ G', Ex G G' ∧ G' p = some o ∧ Wk G ((p, o) :: M) G' M ∧ ∀ q M0, Fr G M0 q → q ≠ p → Fr G' M0 q :=
  ⟨upd G p o, Ex.new h, upd_same, Wk.frz0, fun q M0 f hq => ⟨by rw [upd_ne hq]; exact f.1, f.2⟩⟩
theorem Wk.nil' {G : Hp} {M : Mem} : Wk G M G [] := fun H h => ⟨h.ex, fun _ z => (nomatch z), List.nodup_nil, fun _ z => (nomatch z)⟩
theorem sql_of {K : PySem.W.Frag} {G : Hp} {a : Addr} {xs : List V} (h : G a = some (.lst xs)) : SqL K G a xs := .inl (.inl h)
theorem Fr.cons {G : Hp} {M : Mem} {p : Addr} {x : Addr × HO} (h : Fr G (x :: M) p) : Fr G M p := ⟨h.1, fun y hy => h.2 y (List.mem_cons_of_mem _ hy)⟩
end BT
set_option Elab.async false
set_option linter.all false
set_option maxRecDepth 100000
set_option maxHeartbeats 4000000
namespace BT
open PySem PySem.Spec L2
open PyProof.Rows hiding St
/-- the slots at a body's start -/
def sta (n : Nat) (vs : List V) : St := vs.map some ++ List.replicate (n - vs.length) none
/-! ### ranges with a step -/
theorem rg_up {i j c : Int} (hc : 0 < c) (hc2 : c < 1000000) (hi : -1000000000000 < i) (hi2 : i < 1000000000000) (hj : -1000000000000 < j) (hj2 : j < 1000000000000) :
    RgC i j c (if i < j then ((j - i - 1) / c + 1).toNat else 0) := by
  have e : Builtin.Range.rangeSize i j c = if i < j then (j - i - 1) / c + 1 else 0 := by
    unfold Builtin.Range.rangeSize
    rw [if_pos hc]
  have hb : 0 ≤ (j - i - 1) / c ∨ ¬ i < j := by
    by_cases h : i < j
    · exact .inl (Int.ediv_nonneg (by omega) (by omega))
    · exact .inr h
  have hb2 : (j - i - 1) / c ≤ 2000000000000 ∨ ¬ i < j := by
    by_cases h : i < j
    · left
      have := Int.ediv_le_self c (show 0 ≤ j - i - 1 by omega)
      omega
    · exact .inr h
  refine ⟨by omega, by omega, ?_, ?_⟩
  · unfold Builtin.Range.small
    rw [e]
    simp only [Builtin.Range.rangeFitsLong, Bool.and_eq_true, Bool.or_eq_true, decide_eq_true_eq, beq_iff_eq, hc, gt_iff_lt, if_true]
    by_cases h : i < j
    · rw [if_pos h]; omega
    · rw [if_neg h]; omega
  · rw [e]
    by_cases h : i < j
    · rw [if_pos h, if_pos h]; omega
    · rw [if_neg h, if_neg h]; rfl
theorem rg_down {i j : Int} (hi : -1000000000000 < i) (hi2 : i < 1000000000000) (hj : -1000000000000 < j) (hj2 : j < 1000000000000) : RgC i j (-1) (i - j).toNat :=
  RgC.neg (by omega) (by omega) (by omega) (by omega)
section
variable {X : Cx} {W : WX} {pos : Pos} {a b c e : Expr} {es : List Expr}
/-! ### sorted, xs[::-1] -/
def kRevL (K : PySem.W.Frag) : V → Hp → Mem → KR → Prop := fun x G M R => match x with
  | .ref a => ∃ xs, LstAt K G M a xs ∧ ∀ p, Fr G M p → R (.ref p) G ((p, .lst xs.reverse) :: M)
  | _ => False
theorem je_revl {t : KE} {k : Nat} {p1 p2 p3 : Pos} (he : JE X W e t) : JE X W (.Subscript e (.Slice none none (some (.UnaryOp .USub (.Constant (.int 1) k p1) p2)) p3) pos) (kUn (kRevL X.K) t) :=
  pe_mono (pe_revL he) fun σ H Q ⟨G, M, R, E, hv, h, hR, hE⟩ => ⟨G, M, _, E, hv, h, fun x G1 M1 H1 hv1 h1 => by
    match x, h1 with
    | .ref a, ⟨xs, q1, q2⟩ => exact ⟨a, xs, rfl, hv1.lst q1, fun p hp => hR _ G1 _ _ (hv1.newM hp) (q2 p (hv1.fr hp))⟩, hE⟩
/-! ### in, not in: flat things in a list or a tuple -/
def kIn (neg : Bool) (K : PySem.W.Frag) : KR2 := fun x y G M R => match y with
  | .ref a => ∃ xs, SeqAt' K G M a xs ∧ flatV x = true ∧ xs.all flatV = true ∧ R (.bl (if neg then !inV x xs else inV x xs)) G M
  | _ => False
theorem kop_notin : KOp X (compareOp .NotIn) (kIn true X.K) := kop_of op_notIn_seq fun x y G M R H Q hv h hR => by
  match y, h with
  | .ref a, ⟨xs, h1, h2, h3, h4⟩ => exact ⟨a, xs, rfl, h1.elim (fun q => .inl (hv.lst q)) (fun q => .inr (hv.tup q)), h2, h3, hR _ G M H hv h4⟩
/-! ### list.index, list.insert, tuple(xs), bool(x), list(range) -/
end
end BT
namespace BT
open PySem PySem.Spec L2
open PyProof.Rows hiding St
theorem cx_none {P : Program} {w : World} {l : List Env} {H : Hp} {s : Shared} {e : Value} {s' : Shared} (h : L2.CX P w l H s (fun _ _ _ => False) e s') : False := by
  obtain ⟨_, _, _, _, _, _, _, _, _, _, _, _, z⟩ := h
  exact z.elim
/-- a law's promise -/
def S_law (K : PySem.W.Frag) : KSp := sp1 fun x G M R Z => ∃ (a : Addr) (ns : List Int), x = .ref a ∧ SqL K G a (ns.map V.int) ∧ ns.length ≤ 63 ∧ ∀ G' M', R (.bl true) G' M'
theorem law_start {K : PySem.W.Frag} {H : Hp} {a : Addr} {ns : List Int} (hl : ns.length ≤ 63) (hS : SqL K H a (ns.map V.int)) : lift (S_law K) [.ref a] H (fun v _ => v = .bl true) fun _ _ _ => False :=
  ⟨H, [], fun v _ _ => v = .bl true, fun _ _ _ _ => False, Hv.self H, ⟨a, ns, rfl, hS, hl, fun _ _ => rfl⟩, fun _ _ _ _ _ h => h, fun _ _ _ _ _ _ z => z⟩
end BT
namespace BT
open PySem PySem.Spec L2
open PyProof.Rows hiding St
/-! ### is of None and of truths -/
def kIs2 (neg : Bool) : KR2 := fun x y G M R => match x, y with
  | .bl a, .bl b => R (.bl (if neg then !decide (a = b) else decide (a = b))) G M
  | x, .non => R (.bl (if neg then !decide (x = .non) else decide (x = .non))) G M
  | _, _ => False
theorem kop_is2 {X : Cx} : KOp X (compareOp .Is) (kIs2 false) := fun pins s σ H x y v u Q G M R I rx ry hv h hR => by
  cases y <;> cases x <;> first
    | exact op_isBl pins s σ H _ _ v u Q I rx ry ⟨_, _, rfl, rfl, hR _ G M H hv h⟩
    | exact op_isN pins s σ H _ _ v u Q I rx ry ⟨rfl, hR _ G M H hv h⟩
    | exact h.elim
theorem kop_isnot2 {X : Cx} : KOp X (compareOp .IsNot) (kIs2 true) := fun pins s σ H x y v u Q G M R I rx ry hv h hR => by
  cases y <;> cases x <;> first
    | exact op_notBl pins s σ H _ _ v u Q I rx ry ⟨_, _, rfl, rfl, hR _ G M H hv h⟩
    | exact op_notN pins s σ H _ _ v u Q I rx ry ⟨rfl, hR _ G M H hv h⟩
    | exact h.elim
/-! ### types of values -/
inductive PT | int | bool | non | str | list | tuple | dict
  deriving DecidableEq
def PT.name : PT → String
  | .int => "int" | .bool => "bool" | .non => "NoneType" | .str => "str" | .list => "list" | .tuple => "tuple" | .dict => "dict"
def TyK (K : PySem.W.Frag) (G : Hp) (M : Mem) (x : V) (T : PT) : Prop := ∀ H, Hv G M H → TyX K H x (.type T.name)
section
variable {K : PySem.W.Frag} {G : Hp} {M : Mem} {a : Addr} {xs : List V} {n : Nat}
theorem ty_int {i : Int} : TyK K G M (.int i) .int := fun H hv => .base (.int i)
theorem ty_str {i : Str} : TyK K G M (.str i) .str := fun H hv => .base (.str i)
theorem ty_lst (h : LstAt K G M a xs) : TyK K G M (.ref a) .list := fun H hv => by
  rcases hv.lst h with (z | ⟨o, z⟩) | ⟨o, its, m, z1, z2, _⟩
  · exact .base (.lst z)
  · exact .base (.frz z)
  · exact .kList z1 z2
theorem ty_tup (h : SqT K G a xs) : TyK K G M (.ref a) .tuple := fun H hv => by
  rcases hv.tup h with (z | ⟨o, z⟩) | ⟨o, its, m, z1, z2, _⟩
  · exact .base (.tup z)
  · exact .fTuple z
  · exact .kTuple z1 z2
/-- isinstance(x, T): both answers -/
def isaB (T U : PT) : Bool := T == U || (T == .bool && U == .int)
theorem kit_pt (T U : PT) : PySem.W.kitOne K (.type T.name) (.type U.name) = some (isaB T U) := by
  cases T <;> cases U <;> exact kit_ty (by decide +kernel)
end
end BT
namespace BT
open PySem PySem.Spec L2
/-! ### steps by name -/
section
variable {D : Kd} {σ : St} {G : Hp} {M : Mem} {i : Nat} {te ta tb : KE}
end
end BT
set_option Elab.async false
set_option linter.all false
set_option maxRecDepth 100000
set_option maxHeartbeats 4000000
namespace BT
open PySem PySem.Spec L2
open PyProof.Rows hiding St
/-! ### own errors: raised, caught, held -/
/-- the address of a class, by its name -/
def cl (K : PySem.W.Frag) (x : Str) : Addr := match PySem.W.nsIn K mainGlobals x with
  | some (some (.ref a)) => a
  | _ => 0
theorem cl_of {K : PySem.W.Frag} {x : Str} {C : Addr} (a : PySem.W.nsIn K mainGlobals x = some (some (.ref C))) : cl K x = C := by
  unfold cl
  rw [a]
/-- a class that is known -/
structure XG (K : PySem.W.Frag) (mg : Str → Option Value) (x : Str) : Prop where
  g : mg x = some (.ref (cl K x))
  k : PySem.W.keepIn K (.ref (cl K x)) = true
/-- a class without own __init__ under ValueError, to be raised -/
structure XR (K : PySem.W.Frag) (x : Str) : Prop where
  n : PySem.W.excIn K (cl K x) [.type "ValueError", .type "Exception", .type "BaseException", .type "object"] "ValueError.__new__" = true
  b : PySem.W.subIn K (.ref (cl K x)) (.type "BaseException") = some true
  t : PySem.W.typeIn K (.ref (cl K x)) = some (.type "type")
theorem xg_mk {K : PySem.W.Frag} {mg : Str → Option Value} {h : Heap} {x : Str} {C : Addr} (X : K.In h) (G : h.Ns mainGlobals mg) (a : PySem.W.nsIn K mainGlobals x = some (some (.ref C))) (k : PySem.W.keepIn K (.ref C) = true) : XG K mg x := by
  have e := cl_of a
  exact ⟨by rw [e]; exact PySem.W.mg_of X G a, by rw [e]; exact k⟩
theorem xr_mk {K : PySem.W.Frag} {x : Str} {C : Addr} (a : PySem.W.nsIn K mainGlobals x = some (some (.ref C)))
    (q : PySem.W.excIn K C [.type "ValueError", .type "Exception", .type "BaseException", .type "object"] "ValueError.__new__" = true)
    (b : PySem.W.subIn K (.ref C) (.type "BaseException") = some true) (t : PySem.W.typeIn K (.ref C) = some (.type "type")) : XR K x := by
  have e := cl_of a
  exact ⟨by rw [e]; exact q, by rw [e]; exact b, by rw [e]; exact t⟩
section
variable {X : Cx} {W : WX} {pos : Pos}
/-- raise C('m') -/
def kRaise (K : PySem.W.Frag) (x : Str) : KS := fun D σ G M => D.xc (.ref (cl K x)) none σ G M
theorem js_raise {x m : Str} {j : Nat} {p p2 pos2 : Pos} (g : XG X.K X.mg x) (r : XR X.K x) (tk : Takes X W) (hc : X.calm = true := by rfl) (hg : Gl X x := by rfl) (hdb : (x == ("__debug__" : Str)) = false := by decide) :
    JS X W (.Raise (some (.Call (.Name x p) [.Constant (.str m) j p2] [] pos2)) none pos) (kRaise X.K x) :=
  ps_mono (ps_raise hc tk (pmk_own PySem.F.excBase_ValueError r.n g.g g.k (raises_own r.b r.t) hg hdb)) fun D σ H ⟨G, M, d, hv, h, en⟩ => en.xc _ _ _ _ _ _ hv h

end

section
variable {X : Cx} {x n y : Str} {c : Value} {i j : Nat} {body : List Stmt} {np pos pos' q1 q2 q3 : Pos} {tb : WX → TS} {Wout : WX}
end
/-! ### the readings -/
section
variable {X : Cx} {W : WX} {pos : Pos}
end
end BT
set_option Elab.async false
set_option linter.all false
set_option maxRecDepth 100000
set_option maxHeartbeats 4000000
namespace BT
open PySem PySem.Spec L2
open PyProof.Rows hiding St
section
variable {X : Cx} {W : WX} {pos p : Pos} {a b : Expr}
/-! ### list(range(..)) -/
/-! ### an empty dict -/
def kDNew : KE := fun _ G M R _ => ∀ q, Fr G M q → R (.ref q) G ((q, .dK []) :: M)
theorem je_dnew : JE X W (.Dict [] [] pos) kDNew := pe_mono pe_dnewK fun σ H Q ⟨G, M, R, E, hv, h, hR, hE⟩ => fun w hw => hR _ G _ _ (hv.newM hw) (h w (hv.fr hw))
/-! ### constants of the module -/
theorem je_const {x : Str} {v : V} (h : ∃ u, X.mg x = some u ∧ RelV v u) (hg : Gl X x := by rfl) (hd : (x == ("__debug__" : Str)) = false := by decide) : JE X W (.Name x pos) (kC v) := by
  obtain ⟨u, hm, r⟩ := h
  exact je_glob hm r hg hd
/-- a tuple of texts that the module holds -/
def kConT (K : PySem.W.Frag) (x : Str) (xs : List V) : KE := fun _ G M R _ => (∀ H, SqT K H (cl K x) xs) → R (.ref (cl K x)) G M
structure XT (K : PySem.W.Frag) (mg : Str → Option Value) (x : Str) (xs : List V) : Prop where
  g : mg x = some (.ref (cl K x))
  s : ∀ H, SqT K H (cl K x) xs
theorem je_conT {K : PySem.W.Frag} {x : Str} {xs : List V} (h : XT X.K X.mg x xs) (hK : X.K = K := by rfl) (hg : Gl X x := by rfl) (hd : (x == ("__debug__" : Str)) = false := by decide) : JE X W (.Name x pos) (kConT K x xs) := by
  subst hK
  exact pe_mono (je_glob (W := W) (v := .ref (cl X.K x)) h.g rfl hg hd) fun σ H Q ⟨G, M, R, E, hv, q, hR, hE⟩ => ⟨G, M, R, E, hv, q h.s, hR, hE⟩
end
theorem vals_abs : ∀ {us : List Value} {xs : List V}, us.map absV = xs.map some → (∀ x, x ∈ xs → (∃ i, x = .int i) ∨ ∃ s, x = .str s) → Vals xs us
  | [], [], _, _ => .nil
  | [], _ :: _, h, _ => by cases h
  | _ :: _, [], h, _ => by cases h
  | u :: us, x :: xs, h, hx => by
    rw [List.map_cons, List.map_cons] at h
    injection h with h1 h2
    refine .cons ?_ (vals_abs h2 fun y hy => hx y (List.mem_cons_of_mem _ hy))
    rcases hx x List.mem_cons_self with ⟨i, rfl⟩ | ⟨s, rfl⟩
    · cases u <;> simp only [absV] at h1 <;> first | (cases h1; done) | (injection h1 with h1; first | (cases h1; exact ⟨_, rfl⟩) | cases h1)
    · cases u <;> simp only [absV] at h1 <;> first | (cases h1; done) | (injection h1 with h1; first | (cases h1; exact ⟨_, rfl⟩) | cases h1)
theorem xt_mk {K : PySem.W.Frag} {mg : Str → Option Value} {h : Heap} {x : Str} {C : Addr} {xs : List V} {od : Option Addr} {its : Array Value} {n : Nat} {sl : Array (Option Value)} (X : K.In h) (G : h.Ns mainGlobals mg) (a : PySem.W.nsIn K mainGlobals x = some (some (.ref C)))
    (l : K.lookup C = some ⟨.type "tuple", od, .seq its n, sl⟩) (e : its.toList.map absV = xs.map some) (hx : ∀ x, x ∈ xs → (∃ i, x = .int i) ∨ ∃ s, x = .str s) (hs : its.size ≤ 1000) : XT K mg x xs := by
  have ec := cl_of a
  refine ⟨by rw [ec]; exact PySem.W.mg_of X G a, fun H => ?_⟩
  rw [ec]
  exact .inr ⟨_, its, n, l, rfl, rfl, Nat.le_trans hs (by decide), vals_abs e hx⟩
/-! ### sum of a tuple -/
section
variable {prog : Program} {w : World} {A : Around} {E : Value → Shared → Prop} {s : Shared} {l : Addr} {its : List Value} {ns : List Int} {Q : Value → Shared → Prop}
theorem sum_tupT (hh : A.handled = none) (hl : s.heap.IsTuple l its.toArray) (hi : IntsAre its ns)
    (h : ∀ h' tk t', (∀ b o, s.heap.get? b = some o → h'.get? b = some o) → Q (.int ns.sum t') { s with heap := h', toks := tk }) : wpAny (model prog w) A (call (.builtin "sum") [.ref l]) Q E s := by
  obtain ⟨xs, e⟩ := hi.allInts.items
  have hn : numsOf (intItems xs).toList = ns := by rw [← e]; exact hi.numsOf
  rw [nums_intItems] at hn
  rw [e] at hl
  have hlt : l < s.heap.objs.size := by obtain ⟨_, e, _⟩ := hl; exact Heap.lt_size e
  refine call_sum_walkG (wpAny_pyIter_tuple hl ?_)
  refine ⟨_, _, _, _, _, _, numAt xs, rfl, Walks.tuple (A := A.in1) hh _ l (Nat.ne_of_lt hlt) (intItems xs), ⟨⟨_, Heap.get?_push_size _ rfl, rfl, rfl⟩, hl.push _⟩, fun b hb => ?_, (fun _ _ => intItems_at), fun h' tk t' hk => ?_⟩
  · show b < (s.heap.push _).objs.size
    rw [Heap.size_push]
    simp only [List.mem_cons, List.not_mem_nil, or_false] at hb
    rcases hb with z | z
    · rw [z]; exact Nat.lt_succ_self _
    · rw [z]; exact Nat.lt_succ_of_lt hlt
  · have := h h' tk t' fun b o eb => hk b o (fun hm => absurd (Heap.lt_size eb) ((List.mem_singleton.mp hm) ▸ Nat.lt_irrefl _)) (Heap.get?_push_of_some _ eb)
    have e2 : preSum (numAt xs) (intItems xs).size = ns.sum := by
      rw [preSum_eq, List.take_of_length_le (by simp [intItems]), hn]
    rw [e2]; exact this
end
section
variable {X : Cx}
def kSumS (K : PySem.W.Frag) : KC := fun vs G M R => match vs with
  | [.ref a] => ∃ ns : List Int, SeqAt' K G M a (ns.map V.int) ∧ R (.int ns.sum) G M
  | _ => False
theorem kc_sumS (hc : X.calm = true := by rfl) : KCall X (.builtin "sum") (kSumS X.K) := by
  intro pins s σ H vs us Q I r h
  obtain ⟨G, M, R, hv, h, hR⟩ := h
  match vs, h with
  | [.ref a], ⟨ns, h1, h2⟩ =>
    rcases h1 with h1 | h1
    · exact cr_sum hc pins s σ H [.ref a] us Q I r ⟨a, ns, rfl, hv.lst h1, hR _ _ _ _ hv h2⟩
    · obtain ⟨its, rv, ht, _⟩ := I.tuple (ex_t hv.exx h1)
      rw [Vals.ref1 r]
      exact sum_tupT (I.ok.hd hc) ht rv.ints fun h' tk t' hk => ⟨.int _, H, I.kept hk, ⟨_, rfl⟩, hR _ _ _ _ hv h2⟩
end
end BT
set_option Elab.async false
set_option linter.all false
set_option maxRecDepth 100000
set_option maxHeartbeats 4000000
namespace BT
open PySem PySem.Spec L2
open PyProof.Rows hiding St
/-! ### len(set(xs)) of ints -/
section
variable {X : Cx} {W : WX}
/-! ### reversed(range(..)) -/
/-! ### index, insert, pop, clear, tuple(), bool() -/
def kTuple (K : PySem.W.Frag) : KC := fun vs G M R => match vs with
  | [.ref a] => (∃ xs, LstAt K G M a xs ∧ ∀ p, Fr G M p → R (.ref p) (upd G p (.tup xs)) M) ∨ ∃ xs, SqT K G a xs ∧ R (.ref a) G M
  | _ => False
/-! ### {k: v, ..} -/
end
end BT
namespace BT
open PySem PySem.Spec L2
/-- what is walked, behind which something may be forgotten -/
def kiW (t : KI) : KI := fun σ G M R E => t σ G M (fun src G M => ∃ G' M', Wk G M G' M' ∧ R src G' M') E
theorem ji_w {X : Cx} {W : WX} {tg it : Expr} {t : KI} (h : JI X W tg it t) : JI X W tg it (kiW t) := pi_mono h fun σ H Q ⟨G, M, R, E, hv, h, hR, hE⟩ =>
  ⟨G, M, _, E, hv, h, fun src G1 M1 H1 hv1 ⟨G2, M2, w, q⟩ J go => hR src G2 M2 H1 (w H1 hv1) q J go, hE⟩
end BT
set_option Elab.async false
set_option linter.all false
set_option maxRecDepth 100000
set_option maxHeartbeats 4000000
namespace BT
open PySem PySem.Spec L2
open PyProof.Rows hiding St
/-! ### objects: the program's classes by number, their attributes by place -/
def clsN : Nat → Str × List Str
  | 0 => ("Plain", ["words"])
  | 1 => ("Keeper", ["log"])
  | 2 => ("Shelf", ["keeper", "number", "things"])
  | 3 => ("Scan", ["cells", "limit", "draws", "keeper", "made", "shelf"])
  | 4 => ("Spare", ["cells", "limit", "draws", "keeper", "made", "side", "order", "shelf", "hand"])
  | 5 => ("Stairs", ["cells", "limit", "draws", "keeper", "made", "climb", "hand", "shelves", "orders"])
  | 6 => ("Tree", ["cells", "limit", "draws", "keeper", "made", "body", "table"])
  | 7 => ("Grove", ["cells", "limit", "draws", "keeper", "made", "highs", "bodies", "start", "table"])
  | 8 => ("Body", ["shelf", "high", "firsts", "hand"])
  | 9 => ("Climb", ["cells", "last", "full", "drawn", "home", "held"])
  | 10 => ("Runner", ["program", "slates", "place"])
  | _ => ("Desk", ["stores"])
theorem cls_all {P : Str × List Str → Prop} (h : ∀ k, k < 12 → P (clsN k)) : ∀ k, P (clsN k) := fun k => by
  by_cases e : k < 12
  · exact h k e
  · have : clsN k = clsN 11 := by
      unfold clsN
      split <;> first | omega | rfl
    rw [this]; exact h 11 (by decide)
theorem cls_nodup : ∀ k, (clsN k).2.Nodup := cls_all (P := fun x => x.2.Nodup) (by decide +kernel)
theorem cls_few : ∀ k, (clsN k).2.length < 20 := cls_all (P := fun x => x.2.length < 20) (by decide +kernel)
def Ob (K : PySem.W.Frag) (k : Nat) (dx : Addr) (vs : List V) : HO := .ins (cl K (clsN k).1) dx ((clsN k).2.zip vs)
def putV : Nat → V → List V → List V
  | 0, y, [] => [y]
  | 0, y, _ :: r => y :: r
  | n + 1, y, x :: r => x :: putV n y r
  | _ + 1, _, [] => []
theorem zip_lookup : ∀ (ns : List Str) (vs : List V) (i : Nat) (f : Str), ns.Nodup → ns[i]? = some f → (ns.zip vs).lookup f = vs[i]?
  | [], _, _, _, _, h => by simp at h
  | n :: ns, [], i, f, _, _ => by simp
  | n :: ns, v :: vs, 0, f, _, h => by
    have e : n = f := by simpa using h
    subst e
    simp [List.zip_cons_cons, List.lookup]
  | n :: ns, v :: vs, i + 1, f, hn, h => by
    rw [List.nodup_cons] at hn
    have h2 : ns[i]? = some f := by simpa using h
    have ne : (f == n) = false := by
      rw [beq_eq_false_iff_ne]
      intro z
      exact hn.1 (z ▸ List.mem_of_getElem? h2)
    rw [List.zip_cons_cons, List.lookup, ne]
    simp only []
    rw [zip_lookup ns vs i f hn.2 h2]; simp
theorem zip_none : ∀ (ns : List Str) (vs : List V) (f : Str), f ∉ ns → (ns.zip vs).lookup f = none
  | [], _, _, _ => by simp
  | n :: ns, [], f, _ => by simp
  | n :: ns, v :: vs, f, h => by
    have ne : (f == n) = false := by
      rw [beq_eq_false_iff_ne]
      intro z
      exact h (z ▸ List.mem_cons_self)
    rw [List.zip_cons_cons, List.lookup, ne]
    exact zip_none ns vs f fun z => h (List.mem_cons_of_mem _ z)
theorem zip_put : ∀ (ns : List Str) (vs : List V) (i : Nat) (f : Str) (y : V), ns.Nodup → ns[i]? = some f → i ≤ vs.length → putF f y (ns.zip vs) = ns.zip (putV i y vs)
  | [], _, _, _, _, _, h, _ => by simp at h
  | n :: ns, [], 0, f, y, _, h, _ => by
    have e : n = f := by simpa using h
    subst e
    cases ns <;> rfl
  | n :: ns, [], i + 1, f, y, _, _, h => by simp at h
  | n :: ns, v :: vs, 0, f, y, _, h, _ => by
    have e : n = f := by simpa using h
    subst e
    show putF n y ((n, v) :: ns.zip vs) = _
    unfold putF
    rw [if_pos rfl]; rfl
  | n :: ns, v :: vs, i + 1, f, y, hn, h, hi => by
    rw [List.nodup_cons] at hn
    have h2 : ns[i]? = some f := by simpa using h
    have ne : ¬ n = f := fun z => hn.1 (z ▸ List.mem_of_getElem? h2)
    show putF f y ((n, v) :: ns.zip vs) = _
    unfold putF
    rw [if_neg ne, zip_put ns vs i f y hn.2 h2 (by simpa using hi)]; rfl
/-- what of the text a class must have -/
structure CK (K : PySem.W.Frag) (k : Nat) : Prop where
  cls : Cls K (cl K (clsN k).1)
  na : ∀ f ∈ (clsN k).2, NoAttr K (cl K (clsN k).1) f
theorem lookup_mem {α β : Type} [BEq α] [LawfulBEq α] : ∀ {l : List (α × β)} {a : α} {b : β}, l.lookup a = some b → (a, b) ∈ l
  | [], _, _, h => by simp at h
  | (x, y) :: l, a, b, h => by
    rw [List.lookup] at h
    split at h
    · rename_i e
      have e := eq_of_beq e
      cases h; subst e; exact List.mem_cons_self
    · exact List.mem_cons_of_mem _ (lookup_mem h)
section
variable {X : Cx} {W : WX} {pos : Pos}
/-- e.f; tab: the classes that have it, and its place -/
def kFld (K : PySem.W.Frag) (tab : List (Nat × Nat)) (t : KE) : KE := fun σ G M R E => t σ G M (fun x G M => match x with
  | .ref a => ∃ (k : Nat) (dx : Addr) (vs : List V) (i : Nat) (v : V), At G M a (Ob K k dx vs) ∧ tab.lookup k = some i ∧ vs[i]? = some v ∧ R v G M
  | _ => False) E
theorem je_fld {e : Expr} {f : Str} {tab : List (Nat × Nat)} {t : KE} (he : JE X W e t) (ht : ∀ p ∈ tab, CK X.K p.1 ∧ (clsN p.1).2[p.2]? = some f) (hb : attributeBase e f X.env (eval e X.env) = eval e X.env := by rfl) : JE X W (.Attribute e f pos) (kFld X.K tab t) :=
  pe_mono (pe_fld he hb) fun σ H Q ⟨G, M, R, E, hv, h, hR, hE⟩ => ⟨G, M, _, E, hv, h, fun x G1 M1 H1 hv1 q => by
    match x, q with
    | .ref a, ⟨k, dx, vs, i, v, q1, q2, q3, q4⟩ =>
      obtain ⟨ck, hf⟩ := ht (k, i) (lookup_mem q2)
      exact ⟨a, _, dx, _, v, rfl, hv1.at q1, ck.cls, ck.na f (List.mem_of_getElem? hf), by rw [zip_lookup _ _ i f (cls_nodup k) hf]; exact q3, hR _ G1 M1 H1 hv1 q4⟩, hE⟩
/-- o.f = e -/
def kFSet (K : PySem.W.Frag) (tab : List (Nat × Nat)) (to tv : KE) : KS := fun D σ G M => tv σ G M (fun y G M => to σ G M (fun x G M => match x with
  | .ref a => ∃ (n k : Nat) (dx : Addr) (vs : List V) (i : Nat), M[n]? = some (a, Ob K k dx vs) ∧ tab.lookup k = some i ∧ i ≤ vs.length ∧ D.nx σ G (M.set n (a, Ob K k dx (putV i y vs)))
  | _ => False) (D.x σ)) (D.x σ)
theorem js_fset {o value : Expr} {f : Str} {tab : List (Nat × Nat)} {to tv : KE} {pos' : Pos} (ho : JE X W o to) (hv : JE X W value tv) (ht : ∀ p ∈ tab, CK X.K p.1 ∧ (clsN p.1).2[p.2]? = some f)
    (hs : swapsWith value (some (.Attribute o f pos')) pos.line X.env = pure false := by rfl) : JS X W (.Assign [.Attribute o f pos'] value pos) (kFSet X.K tab to tv) :=
  ps_mono (ps_fld ho hv hs) fun D σ H ⟨G, M, d, hv, h, en⟩ => ⟨G, M, _, _, hv, h, fun y G1 M1 H1 hv1 q => ⟨G1, M1, _, _, hv1, q, fun x G2 M2 H2 hv2 q2 => by
    match x, q2 with
    | .ref a, ⟨n, k, dx, vs, i, q3, q4, q5, q6⟩ =>
      obtain ⟨ck, hf⟩ := ht (k, i) (lookup_mem q4)
      refine ⟨a, _, dx, _, rfl, hv2.get q3, ck.cls, ck.na f (List.mem_of_getElem? hf), ?_, ?_⟩
      · have := cls_few k
        rw [List.length_zip]; omega
      · rw [zip_put _ _ i f y (cls_nodup k) hf q5]
        exact en.nx _ G2 _ _ (hv2.set q3) q6, fun c a G' M' H' hv' q => en.xc c a σ G' M' H' hv' q⟩, fun c a G' M' H' hv' q => en.xc c a σ G' M' H' hv' q⟩
/-- a method that keeps its promise, of the class k -/
structure MDef (P : Program) (w : World) (K : PySem.W.Frag) (mg : Str → Option Value) (base : Heap) (lev : Nat) (k : Nat) (m : Str) (S : KSp) : Prop where
  ex : ∃ f fd ps, FnOk P w K mg base (L2.CX P w) lev f fd ps (lift S) ∧ Meth K (cl K (clsN k).1) m f ∧ Binds K fd ps []
  ck : CK K k
  no : m ∉ (clsN k).2
theorem MDef.mono {P : Program} {w : World} {K : PySem.W.Frag} {mg : Str → Option Value} {base : Heap} {lev lev' k : Nat} {m : Str} {S : KSp} (D : MDef P w K mg base lev k m S) (h : lev ≤ lev') : MDef P w K mg base lev' k m S := by
  obtain ⟨⟨f, fd, ps, F, a, b⟩, c, d⟩ := D
  exact ⟨⟨f, fd, ps, F.mono h, a, b⟩, c, d⟩
def kMeth (K : PySem.W.Frag) (tab : List (Nat × KSp)) (to : KE) (t : KA) : KE := fun σ G M R E => to σ G M (fun x G M => match x with
  | .ref a => ∃ (k : Nat) (dx : Addr) (vs : List V) (S : KSp), At G M a (Ob K k dx vs) ∧ tab.lookup k = some S ∧ t σ G M (fun ws G M => S (.ref a :: ws) G M R E) E
  | _ => False) E
theorem je_meth {pl : Sem Bool} {o e : Expr} {es : List Expr} {m : Str} {apos : Pos} {tab : List (Nat × KSp)} {k : Nat} {to : KE} {t : KA} (D : ∀ p ∈ tab, MDef X.prog X.w X.K X.mg X.base k p.1 m p.2) (hr : Room k X.A) (tk : Takes X W) (ho : JE X W o to) (ha : JA X W (e :: es) t)
    (hst : starEach (e :: es) X.env = (false, eval e X.env) :: starEach es X.env := by rfl) (hpl : (backTo pos (starEach es X.env)).any (·.1) = false := by rfl)
    (ht : eval (.Call (.Attribute o m apos) (e :: es) [] pos) X.env = (do
      let ov ← eval o X.env
      standAt apos.atName
      let (f, first) ← holding [ov] (getMethod ov m pl)
      callWith pos f first (backTo pos (starEach (e :: es) X.env)) (backToKw pos (keywordEach [] X.env))) := by rfl) :
    JE X W (.Call (.Attribute o m apos) (e :: es) [] pos) (kMeth X.K tab to t) := by
  refine ⟨fun pins s σ H Q I ⟨G, M, R, E, hv, h, hR, hE⟩ => ?_⟩
  refine PySem.W.methodCall_KW (pl := pl) (thn (ho.run pins s σ H (fun x H1 => ∃ (a k : Nat) (dx : Addr) (vs : List V) (S : KSp), x = .ref a ∧ H1 a = some (Ob X.K k dx vs) ∧ tab.lookup k = some S ∧ upG W t σ H1 fun ws H2 => lift S (.ref a :: ws) H2 Q (WE W σ)) I ?_) fun u s1 ⟨x, H1, I1, rx, a, k, dx, vs, S, ex, ea, l, q⟩ => ?_) ht
  · refine ⟨G, M, _, E, hv, h, fun x G1 M1 H1 hv1 q => ?_, hE⟩
    match x, q with
    | .ref a, ⟨k, dx, vs, S, q1, q2, q3⟩ => exact ⟨a, k, dx, vs, S, rfl, hv1.at q1, q2, G1, M1, _, E, hv1, q3, fun ws G2 M2 H2 hv2 q4 => ⟨G2, M2, R, E, hv2, q4, hR, hE⟩, hE⟩
  subst ex
  obtain rfl : u = Value.ref a := rx
  obtain ⟨⟨f, fd, ps, F, mt, hb⟩, ck, no⟩ := D (k, S) (lookup_mem l)
  refine getmeth_ok I1 ea ck.cls mt (zip_none _ _ _ no) ?_
  refine PySem.W.callWith_K (first := [.ref a]) (h₀ := X.base) I.ok.mod.kin mt.kp (thn (ha.run pos pins s1 σ H1 _ I1 q) fun us s2 ⟨vs, H2, I2, r, q2⟩ => ⟨I2.kIn, ?_⟩) hst hpl
  exact run_fnS (us := .ref a :: us) (vs := .ref a :: vs) F hr hb (passAt tk σ) I2 (.cons rfl r) q2
theorem je_meth0 {pl : Sem Bool} {o : Expr} {m : Str} {apos : Pos} {tab : List (Nat × KSp)} {k : Nat} {to : KE} (D : ∀ p ∈ tab, MDef X.prog X.w X.K X.mg X.base k p.1 m p.2) (hr : Room k X.A) (tk : Takes X W) (ho : JE X W o to)
    (ht : eval (.Call (.Attribute o m apos) [] [] pos) X.env = (do
      let ov ← eval o X.env
      standAt apos.atName
      let (f, first) ← holding [ov] (getMethod ov m pl)
      callWith pos f first (backTo pos (starEach [] X.env)) (backToKw pos (keywordEach [] X.env))) := by rfl) :
    JE X W (.Call (.Attribute o m apos) [] [] pos) (kMeth X.K tab to kNil) := by
  refine ⟨fun pins s σ H Q I ⟨G, M, R, E, hv, h, hR, hE⟩ => ?_⟩
  refine PySem.W.methodCall_KW (pl := pl) (thn (ho.run pins s σ H (fun x H1 => ∃ (a k : Nat) (dx : Addr) (vs : List V) (S : KSp), x = .ref a ∧ H1 a = some (Ob X.K k dx vs) ∧ tab.lookup k = some S ∧ lift S [.ref a] H1 Q (WE W σ)) I ?_) fun u s1 ⟨x, H1, I1, rx, a, k, dx, vs, S, ex, ea, l, q⟩ => ?_) ht
  · refine ⟨G, M, _, E, hv, h, fun x G1 M1 H1 hv1 q => ?_, hE⟩
    match x, q with
    | .ref a, ⟨k, dx, vs, S, q1, q2, q3⟩ => exact ⟨a, k, dx, vs, S, rfl, hv1.at q1, q2, G1, M1, R, E, hv1, q3, hR, hE⟩
  subst ex
  obtain rfl : u = Value.ref a := rx
  obtain ⟨⟨f, fd, ps, F, mt, hb⟩, ck, no⟩ := D (k, S) (lookup_mem l)
  refine getmeth_ok I1 ea ck.cls mt (zip_none _ _ _ no) ?_
  exact PySem.W.callWith_K0 (first := [.ref a]) I1.kIn mt.kp (run_fnS (us := [.ref a]) (vs := [.ref a]) F hr hb (passAt tk σ) I1 (.cons rfl .nil) q)
/-! C(..) -/
theorem run_makeS {CX : CXT} {k : Nat} {C f : Addr} {fd : FuncData} {ps : List Str} {sp : Sp} {E : XK} {pins : List (Addr × Obj)} {σ : St} {H : Hp} {s : Shared} {Q : VK} {us : List Value} {vs : List V} (M : Mk X.K C f) (F : FnOk X.prog X.w X.K X.mg X.base CX k f fd ps sp) (hr : Room (k + 1) X.A) (hb : Binds X.K fd ps [])
    (hx : PassesAt CX X σ E) (I : Inv X pins σ H s) (r : Vals vs us)
    (h : ∀ x dx, H x = none → H dx = none → dx ≠ x → sp (.ref x :: vs) (upd (upd H dx (.own x)) x (.ins C dx [])) (fun v H2 => v = .non ∧ Q (.ref x) H2) E) :
    wpAny (model X.prog X.w) X.A (call (.ref C) us) (EP X pins σ Q) X.xe s := by
  have hq := h (s.heap.objs.size + 1) s.heap.objs.size (I.hok.fresh (Nat.le_succ _)) (I.hok.fresh (Nat.le_refl _)) (Nat.ne_of_lt (Nat.lt_succ_self _))
  have I2 := Inv.made (C := C) I
  have r2 : Vals (V.ref (s.heap.objs.size + 1) :: vs) (Value.ref (s.heap.objs.size + 1) :: us) := .cons rfl r
  have hl : (Value.ref (s.heap.objs.size + 1) :: us ++ []).length = ps.length := by
    have e := r2.length
    rw [F.len _ _ _ _ hq] at e
    rw [List.append_nil]
    exact e.symm
  have hb2 := hb _ (Value.ref (s.heap.objs.size + 1) :: us) I2.kIn hl
  rw [List.append_nil] at hb2
  refine wpAny_call (make_map (f := f) I.kIn M.makes M.init (beq_iff_eq.mp M.fn) (codeAny_mono (F.run _ X.stack _ _ ⟨Value.ref (s.heap.objs.size + 1) :: us, []⟩ (Value.ref (s.heap.objs.size + 1) :: us) _ _ E (hr.make C us [])
    (I2.env0.make C us []) hb2 r2 hq) fun r s' hq' => ?_))
  cases r with
  | error e => exact hx pins _ _ e s' I2 hq'
  | ok fl =>
    cases fl with
    | ret u =>
      obtain ⟨v, H', I3, rv, ev, q3⟩ := I2.after hq'
      subst ev
      exact ⟨rv, ⟨V.ref (s.heap.objs.size + 1), H', I3, rfl, q3⟩⟩
    | next => exact False.elim hq'
    | brk => exact False.elim hq'
    | cont => exact False.elim hq'
structure CDef (P : Program) (w : World) (K : PySem.W.Frag) (mg : Str → Option Value) (base : Heap) (lev : Nat) (k : Nat) (x : Str) (S : KSp) : Prop where
  ex : ∃ f fd ps, FnOk P w K mg base (L2.CX P w) lev f fd ps (lift S) ∧ Mk K (cl K (clsN k).1) f ∧ Binds K fd ps []
  g : mg x = some (.ref (cl K (clsN k).1))
def kMake (K : PySem.W.Frag) (k : Nat) (S : KSp) (t : KA) : KE := fun σ G M R E => t σ G M (fun vs G M => ∀ x dx, Fr G M x → S (.ref x :: vs) G ((x, Ob K k dx []) :: M) (fun v G M => v = .non ∧ R (.ref x) G M) E) E
theorem ob_nil {K : PySem.W.Frag} {k : Nat} {dx : Addr} : Ob K k dx [] = .ins (cl K (clsN k).1) dx [] := by unfold Ob; rw [List.zip_nil_right]
theorem make_sim {k : Nat} {S : KSp} {σ : St} {vs : List V} {G : Hp} {M : Mem} {R : KR} {E : KX} {H : Hp} {Q : VK} (hv : Hv G M H) (q : ∀ x dx, Fr G M x → S (.ref x :: vs) G ((x, Ob X.K k dx []) :: M) (fun v G M => v = .non ∧ R (.ref x) G M) E)
    (hR : ∀ v G' M' H', Hv G' M' H' → R v G' M' → Q v H') (hE : ∀ c d G' M' H', Hv G' M' H' → E c d G' M' → W c d σ H') (x dx : Addr) (hx : H x = none) (hd : H dx = none) (hne : dx ≠ x) :
    lift S (.ref x :: vs) (upd (upd H dx (.own x)) x (.ins (cl X.K (clsN k).1) dx [])) (fun v H2 => v = .non ∧ Q (.ref x) H2) (WE W σ) := by
  have h1 : Hv G M (upd H dx (.own x)) := hv.junk hd
  have h2 : (upd H dx (.own x)) x = none := by rw [upd_ne (Ne.symm hne)]; exact hx
  refine ⟨G, _, fun v G M => v = .non ∧ R (.ref x) G M, E, h1.newM (o := .ins (cl X.K (clsN k).1) dx []) h2, by rw [← ob_nil]; exact q x dx (hv.fr hx), fun v G' M' H' hv' q => ⟨q.1, hR _ G' M' H' hv' q.2⟩, fun c d G' M' H' hv' q => hE c d G' M' H' hv' q⟩
theorem je_make {k lev cid : Nat} {x : Str} {p : Pos} {e : Expr} {es : List Expr} {S : KSp} {t : KA} (D : CDef X.prog X.w X.K X.mg X.base lev cid x S) (hk : PySem.W.keepIn X.K (.ref (cl X.K (clsN cid).1)) = true) (hr : Room k X.A) (tk : Takes X W) (ha : JA X W (e :: es) t) (hl : lev + 1 ≤ k := by decide) (hg : Gl X x := by rfl)
    (hdb : (x == ("__debug__" : Str)) = false := by decide) (he : starEach (e :: es) X.env = (false, eval e X.env) :: starEach es X.env := by rfl) (hpl : (backTo pos (starEach es X.env)).any (·.1) = false := by rfl) :
    JE X W (.Call (.Name x p) (e :: es) [] pos) (kMake X.K cid S t) := by
  obtain ⟨⟨f, fd, ps, F, mk, hb⟩, hm⟩ := D
  obtain ⟨k', rfl⟩ : ∃ k', k = k' + 1 := ⟨k - 1, by omega⟩
  refine ⟨fun pins s σ H Q I ⟨G, M, R, E, hv, h, hR, hE⟩ => ?_⟩
  refine wpAny_Call_Name_kw (ld_glob I hg hm ?_ hdb)
  refine PySem.W.callWith_K (h₀ := X.base) I.ok.mod.kin hk (thn (ha.run pos pins s σ H (fun vs H1 => ∀ x dx, H1 x = none → H1 dx = none → dx ≠ x → lift S (.ref x :: vs) (upd (upd H1 dx (.own x)) x (.ins (cl X.K (clsN cid).1) dx [])) (fun v H2 => v = .non ∧ Q (.ref x) H2) (WE W σ)) I ?_) fun us s1 ⟨vs, H1, I1, r, q⟩ => ⟨I1.kIn, ?_⟩) he hpl
  · exact ⟨G, M, _, E, hv, h, fun vs G1 M1 H1 hv1 q x dx hx hd hne => make_sim hv1 q hR hE x dx hx hd hne, hE⟩
  · exact run_makeS mk (F.mono (by omega)) hr hb (passAt tk σ) I1 r q
theorem je_make0 {k lev cid : Nat} {x : Str} {p : Pos} {S : KSp} (D : CDef X.prog X.w X.K X.mg X.base lev cid x S) (hk : PySem.W.keepIn X.K (.ref (cl X.K (clsN cid).1)) = true) (hr : Room k X.A) (tk : Takes X W) (hl : lev + 1 ≤ k := by decide) (hg : Gl X x := by rfl)
    (hdb : (x == ("__debug__" : Str)) = false := by decide) : JE X W (.Call (.Name x p) [] [] pos) (kMake X.K cid S kNil) := by
  obtain ⟨⟨f, fd, ps, F, mk, hb⟩, hm⟩ := D
  obtain ⟨k', rfl⟩ : ∃ k', k = k' + 1 := ⟨k - 1, by omega⟩
  refine ⟨fun pins s σ H Q I ⟨G, M, R, E, hv, h, hR, hE⟩ => ?_⟩
  refine wpAny_Call_Name_kw (ld_glob I hg hm ?_ hdb)
  refine PySem.W.callWith_K0 I.kIn hk (run_makeS (us := []) (vs := []) mk (F.mono (by omega)) hr hb (passAt tk σ) I .nil fun x dx hx hd hne => make_sim hv h hR hE x dx hx hd hne)
/-! C.m(self, ..), m a def of the class C -/
structure FDef (P : Program) (w : World) (K : PySem.W.Frag) (mg : Str → Option Value) (base : Heap) (lev : Nat) (x m : Str) (S : KSp) : Prop where
  ex : ∃ f fd ps, FnOk P w K mg base (L2.CX P w) lev f fd ps (lift S) ∧ PySem.W.findCls K (.ref (cl K x)) (.type "type") m = some (.val (.ref f)) ∧ Binds K fd ps [] ∧ PySem.W.keepIn K (.ref f) = true
  g : mg x = some (.ref (cl K x))
  rd : PySem.W.readsIn K (cl K x) (.type "type") = true
  ga : PySem.W.specialIn K (.ref (cl K x)) "__getattribute__" = some (some (.builtin "type.__getattribute__"))
theorem je_clsCall {pl : Sem Bool} {k lev : Nat} {x m : Str} {p apos : Pos} {e : Expr} {es : List Expr} {S : KSp} {t : KA} (D : FDef X.prog X.w X.K X.mg X.base lev x m S) (hr : Room k X.A) (tk : Takes X W) (ha : JA X W (e :: es) t) (hl : lev ≤ k := by decide) (hg : Gl X x := by rfl)
    (hdb : (x == ("__debug__" : Str)) = false := by decide) (hst : starEach (e :: es) X.env = (false, eval e X.env) :: starEach es X.env := by rfl) (hpl : (backTo pos (starEach es X.env)).any (·.1) = false := by rfl)
    (ht : eval (.Call (.Attribute (.Name x p) m apos) (e :: es) [] pos) X.env = (do
      let ov ← eval (.Name x p) X.env
      standAt apos.atName
      let (f, first) ← holding [ov] (getMethod ov m pl)
      callWith pos f first (backTo pos (starEach (e :: es) X.env)) (backToKw pos (keywordEach [] X.env))) := by rfl) :
    JE X W (.Call (.Attribute (.Name x p) m apos) (e :: es) [] pos) (kCall S t) := by
  obtain ⟨⟨f, fd, ps, F, hf, hb, hkp⟩, hm, rd, ga⟩ := D
  refine ⟨fun pins s σ H Q I ⟨G, M, R, E, hv, h, hR, hE⟩ => ?_⟩
  refine PySem.W.methodCall_KW (pl := pl) (ld_glob I hg hm ?_ hdb) ht
  refine PySem.W.method_cls I.kIn ga (PySem.W.cls_value I.kIn rd hf rfl ?_)
  refine PySem.W.callWith_K (first := []) (h₀ := X.base) I.ok.mod.kin hkp (thn (ha.run pos pins _ σ H (fun vs H1 => lift S vs H1 Q (WE W σ)) (I.tok _) ?_) fun us s2 ⟨vs, H2, I2, r, q2⟩ => ⟨I2.kIn, ?_⟩) hst hpl
  · exact ⟨G, M, _, E, hv, h, fun vs G1 M1 H1 hv1 q => ⟨G1, M1, R, E, hv1, q, hR, hE⟩, hE⟩
  · exact run_fnS (us := us) (vs := vs) (F.mono hl) hr hb (passAt tk σ) I2 r q2
end
end BT
namespace BT
open PySem PySem.Spec L2
open PyProof.Rows hiding St
section
variable {P : Program} {w : World} {K : PySem.W.Frag} {mg : Str → Option Value} {base : Heap} {k lev : Nat} {C f : Addr} {fd : FuncData} {ps : List Str} {S : KSp} {x m : Str}
theorem ck_mk (a : PySem.W.nsIn K mainGlobals (clsN k).1 = some (some (.ref C))) (h1 : PySem.W.plainGet K C Str.empty = true) (h2 : PySem.W.hasDictIn K C = true) (h3 : PySem.W.plainOver K C = true)
    (h4 : PySem.W.findIn K (.ref C) "__setattr__" = some (some (.builtin "object.__setattr__"))) (h5 : ∀ f ∈ (clsN k).2, PySem.W.findIn K (.ref C) f = some none) : CK K k := by
  have e := cl_of a
  exact ⟨by rw [e]; exact ⟨h1, h2, h3, h4⟩, by rw [e]; exact h5⟩
theorem keep_mk (a : PySem.W.nsIn K mainGlobals (clsN k).1 = some (some (.ref C))) (h : PySem.W.keepIn K (.ref C) = true) : PySem.W.keepIn K (.ref (cl K (clsN k).1)) = true := by
  rw [cl_of a]; exact h
theorem cd_mk (hx : (clsN k).1 = x) (a : PySem.W.nsIn K mainGlobals (clsN k).1 = some (some (.ref C))) (g : mg x = some (.ref C)) (F : FnOk P w K mg base (L2.CX P w) lev f fd ps (lift S)) (h1 : PySem.W.makesIn K C = true) (h2 : PySem.W.findIn K (.ref C) "__init__" = some (some (.ref f)))
    (h3 : PySem.W.isFn K (.ref f) = true) (h4 : PySem.W.keepIn K (.ref C) = true) (b : Binds K fd ps []) : CDef P w K mg base lev k x S := by
  have e := cl_of a
  exact ⟨⟨f, fd, ps, F, by rw [e]; exact ⟨h1, h2, h3, h4⟩, b⟩, by rw [e]; exact g⟩
theorem md_mk (a : PySem.W.nsIn K mainGlobals (clsN k).1 = some (some (.ref C))) (F : FnOk P w K mg base (L2.CX P w) lev f fd ps (lift S)) (h1 : PySem.W.findIn K (.ref C) m = some (some (.ref f))) (h2 : PySem.W.isFn K (.ref f) = true) (h3 : PySem.W.keepIn K (.ref f) = true) (b : Binds K fd ps [])
    (ck : CK K k) (no : m ∉ (clsN k).2) : MDef P w K mg base lev k m S := by
  have e := cl_of a
  exact ⟨⟨f, fd, ps, F, by rw [e]; exact ⟨h1, h2, h3⟩, b⟩, ck, no⟩
theorem fd_mk (a : PySem.W.nsIn K mainGlobals x = some (some (.ref C))) (g : mg x = some (.ref C)) (F : FnOk P w K mg base (L2.CX P w) lev f fd ps (lift S)) (h1 : PySem.W.findCls K (.ref C) (.type "type") m = some (.val (.ref f))) (b : Binds K fd ps []) (h2 : PySem.W.keepIn K (.ref f) = true)
    (h3 : PySem.W.readsIn K C (.type "type") = true) (h4 : PySem.W.specialIn K (.ref C) "__getattribute__" = some (some (.builtin "type.__getattribute__"))) : FDef P w K mg base lev x m S := by
  have e := cl_of a
  exact ⟨⟨f, fd, ps, F, by rw [e]; exact h1, b, h2⟩, by rw [e]; exact g, by rw [e]; exact h3, by rw [e]; exact h4⟩
end
end BT
set_option Elab.async false
set_option linter.all false
set_option maxRecDepth 100000
set_option maxHeartbeats 4000000
namespace BT
open PySem PySem.Spec L2
open PyProof.Rows hiding St
/-! ### dicts whose keys are ints and texts -/
section
variable {X : Cx} {W : WX} {pos : Pos} {o i e f : Expr}
def kDIn (neg : Bool) (ty td : KE) : KE := fun σ G M R E => ty σ G M (fun y G M => td σ G M (fun x G M => match x with
  | .ref a => ∃ (kvs : List (Key × V)) (k : Key), At G M a (.dK kvs) ∧ y = kV k ∧ R (.bl (if neg then !(valV kvs k).isSome else (valV kvs k).isSome)) G M
  | _ => False) E) E
theorem din_sim {ty td : KE} {σ : St} {H : Hp} {Q : VK} (h : upG W (kDIn false ty td) σ H Q) : tDIn (upG W ty) (upG W td) σ H Q := by
  obtain ⟨G, M, R, E, hv, h, hR, hE⟩ := h
  exact ⟨G, M, _, E, hv, h, fun y G1 M1 H1 hv1 q1 => ⟨G1, M1, _, E, hv1, q1, fun x G2 M2 H2 hv2 q2 => by
    match x, q2 with
    | .ref a, ⟨kvs, k, q3, q4, q5⟩ => subst q4; exact ⟨a, _, rfl, DGet.k (hv2.at q3), hR _ G2 M2 H2 hv2 q5⟩, hE⟩, hE⟩
theorem jt_din {ty td : KE} (hu : X.A.units + 64 < cLine) (hi : JE X W i ty) (ho : JE X W o td) (hm : behindInMarks .In o = false := by first | rfl | with_unfolding_all rfl) : JT X W (.Compare i [.In] [o] pos) (kT (kDIn false ty td)) := pt_mono (pt_cmp (pc_din (by omega) hi ho) hm) fun _ _ _ h => din_sim (t_sim h)
/-- d[k] -/
def kDGet : KR2 := fun x y G M R => match x with
  | .ref a => ∃ (kvs : List (Key × V)) (k : Key) (v : V), At G M a (.dK kvs) ∧ y = kV k ∧ valV kvs k = some v ∧ R v G M
  | _ => False
theorem je_dget {ta tb : KE} (hu : X.A.units + 64 < cLine) (ha : JE X W o ta) (hb : JE X W i tb) (hs : NoSl i := by exact fun _ _ => rfl) : JE X W (.Subscript o i pos) (kBin kDGet ta tb) :=
  pe_mono (pe_dget (by omega) ha hb hs) fun σ H Q ⟨G, M, R, E, hv, h, hR, hE⟩ => ⟨G, M, _, E, hv, h, fun x G1 M1 H1 hv1 q1 => ⟨G1, M1, _, E, hv1, q1, fun y G2 M2 H2 hv2 q2 => by
    match x, q2 with
    | .ref a, ⟨kvs, k, v, q3, q4, q5, q6⟩ =>
      subst q4
      refine ⟨a, v, rfl, ?_, hR _ G2 M2 H2 hv2 q6⟩
      rw [← q5]; exact DGet.k (hv2.at q3), hE⟩, hE⟩
/-- d[k] = v -/
def kDSet (td ty tv : KE) : KS := fun D σ G M => tv σ G M (fun v G M => td σ G M (fun x G M => ty σ G M (fun y G M => match x with
  | .ref a => ∃ (n : Nat) (kvs : List (Key × V)) (k : Key), M[n]? = some (a, .dK kvs) ∧ y = kV k ∧ kvs.length < sizeLine ∧ D.nx σ G (M.set n (a, .dK (putK kvs k v)))
  | _ => False) (D.x σ)) (D.x σ)) (D.x σ)
theorem js_dset {td ty tv : KE} {value : Expr} {pos' : Pos} (hu : X.A.units + 64 < cLine) (ho : JE X W o td) (hi : JE X W i ty) (hv : JE X W value tv) (hs : swapsWith value (some (.Subscript o i pos')) pos.line X.env = pure false := by rfl) :
    JS X W (.Assign [.Subscript o i pos'] value pos) (kDSet td ty tv) := ps_mono (ps_dput (by omega) ho hi hv hs) fun D σ H ⟨G, M, d, hv, h, en⟩ =>
  ⟨G, M, _, _, hv, h, fun v G1 M1 H1 hv1 q => ⟨G1, M1, _, _, hv1, q, fun x G2 M2 H2 hv2 q2 => ⟨G2, M2, _, _, hv2, q2, fun y G3 M3 H3 hv3 q3 => by
    match x, q3 with
    | .ref a, ⟨n, kvs, k, q4, q5, q6, q7⟩ => subst q5; exact ⟨a, _, rfl, DPut.k (hv3.get q4) q6, en.nx _ G3 _ _ (hv3.set q4) q7⟩, fun c a G' M' H' hv' q => en.xc c a σ G' M' H' hv' q⟩, fun c a G' M' H' hv' q => en.xc c a σ G' M' H' hv' q⟩, fun c a G' M' H' hv' q => en.xc c a σ G' M' H' hv' q⟩
/-- d.pop(k, x), d.pop(k) -/
def kDPop2 (td ty tx : KE) : KE := fun σ G M R E => td σ G M (fun x G M => match x with
  | .ref a => (∃ kvs, At G M a (.dK kvs)) ∧ ty σ G M (fun y G M => tx σ G M (fun z G M => ∃ (n : Nat) (kvs : List (Key × V)) (k : Key), M[n]? = some (a, .dK kvs) ∧ y = kV k ∧ (∀ v, valV kvs k = some v → R v G (M.set n (a, .dK (dropK kvs k)))) ∧ (valV kvs k = none → R z G M)) E) E
  | _ => False) E
theorem je_dpop2 {td ty tx : KE} {apos cpos : Pos} (ho : JE X W o td) (he : JE X W e ty) (hf : JE X W f tx) (m : M2 X o "pop" apos e f cpos := by exact ⟨rfl, rfl, rfl, rfl⟩) : JE X W (.Call (.Attribute o "pop" apos) [e, f] [] cpos) (kDPop2 td ty tx) :=
  pe_mono (pe_dpop2 ho he hf m) fun σ H Q ⟨G, M, R, E, hv, h, hR, hE⟩ => ⟨G, M, _, E, hv, h, fun x G1 M1 H1 hv1 q1 => by
    match x, q1 with
    | .ref a, ⟨⟨kvs, q2⟩, q3⟩ => exact ⟨a, rfl, .inl ⟨kvs, .inl (hv1.at q2)⟩, G1, M1, _, E, hv1, q3, fun y G2 M2 H2 hv2 q4 => ⟨G2, M2, _, E, hv2, q4, fun z G3 M3 H3 hv3 q5 => by
        obtain ⟨n, kvs, k, q6, q7, q8, q9⟩ := q5
        exact ⟨kvs, k, hv3.get q6, q7, fun v hv => hR _ G3 _ _ (hv3.set q6) (q8 v hv), fun hv => hR _ G3 M3 H3 hv3 (q9 hv)⟩, hE⟩, hE⟩, hE⟩
/-- sorted(d), list(d), len(d) -/
def kSortedD : KC := fun vs G M R => match vs with
  | [.ref a] => ∃ (kvs : List (Key × V)) (ks : List Int), At G M a (.dK kvs) ∧ kvs.map (·.1) = ks.map Sum.inl ∧ ks.length < 64 ∧ ∀ (ys : List Int) (p : Addr), ys.Perm ks → ys.Pairwise (· ≤ ·) → Fr G M p → R (.ref p) G ((p, .lst (ys.map V.int)) :: M)
  | _ => False
theorem kc_sortedD (hc : X.calm = true := by rfl) : KCall X (.builtin "sorted") kSortedD := kcall_of (call_sortedDI hc) fun vs G M R H Q hv h hR => by
  match vs, h with
  | [.ref a], ⟨kvs, ks, h1, h2, h3, h4⟩ => exact ⟨a, kvs, ks, rfl, .inl (hv.at h1), h2, h3, fun ys p q1 q2 q3 => hR _ G _ _ (hv.newM q3) (h4 ys p q1 q2 (hv.fr q3))⟩
end
end BT
set_option Elab.async false
set_option linter.all false
set_option maxRecDepth 100000
set_option maxHeartbeats 4000000
namespace BT
open PySem PySem.Spec L2
open PyProof.Rows hiding St
/-! ### slices and sums of tuples, unpacked lists -/
section
variable {X : Cx} {W : WX} {pos : Pos} {o i e f : Expr}
end
end BT
set_option Elab.async false
set_option linter.all false
set_option maxRecDepth 100000
set_option maxHeartbeats 4000000
namespace BT
open PySem PySem.Spec L2
open PyProof.Rows hiding St
/-! ### isinstance(err, (C, D, ..)); except C without a name -/
def orTab (a b : List (Str × Bool)) : List (Str × Bool) := a.zipWith (fun p q => (p.1, p.2 || q.2)) b
theorem orTab_mem : ∀ {a b : List (Str × Bool)}, a.map (·.1) = b.map (·.1) → ∀ p, p ∈ orTab a b → ∃ x y, (p.1, x) ∈ a ∧ (p.1, y) ∈ b ∧ p.2 = (x || y)
  | [], _, _, p, h => by simp [orTab] at h
  | _ :: _, [], _, p, h => by simp [orTab] at h
  | u :: a, v :: b, e, p, h => by
    have e1 : u.1 = v.1 := by simpa using (List.cons.inj e).1
    rcases List.mem_cons.mp (show p ∈ (u.1, u.2 || v.2) :: orTab a b from h) with rfl | h
    · exact ⟨u.2, v.2, List.mem_cons_self, by rw [e1]; exact List.mem_cons_self, rfl⟩
    · obtain ⟨x, y, h1, h2, h3⟩ := orTab_mem (List.cons.inj e).2 p h
      exact ⟨x, y, List.mem_cons_of_mem _ h1, List.mem_cons_of_mem _ h2, h3⟩
structure IsT (K : PySem.W.Frag) (cs : List V) (us : List Value) (tab : List (Str × Bool)) : Prop where
  p : Paired ClsV cs us
  n : PySem.W.kitAny K (.type "NoneType") us = some false
  t : ∀ p ∈ tab, ExcC K (cl K p.1) ∧ PySem.W.kitAny K (.ref (cl K p.1)) us = some p.2
theorem IsT.cons {K : PySem.W.Frag} {c : V} {u : Value} {cs : List V} {us : List Value} {tab tab1 : List (Str × Bool)} (hc : ClsV c u) (hn : PySem.W.kitOne K (.type "NoneType") u = some false)
    (ht : ∀ p ∈ tab1, ExcC K (cl K p.1) ∧ PySem.W.kitOne K (.ref (cl K p.1)) u = some p.2) (h : IsT K cs us tab) (e : tab1.map (·.1) = tab.map (·.1) := by rfl) : IsT K (c :: cs) (u :: us) (orTab tab1 tab) :=
  ⟨.cons hc h.p, kitAny_cons hn (fun _ => h.n) (fun z => nomatch z), fun p hp => by
    obtain ⟨x, y, h1, h2, h3⟩ := orTab_mem e p hp
    obtain ⟨q1, q2⟩ := ht _ h1
    refine ⟨q1, kitAny_cons q2 (fun z => ?_) (fun z => ?_)⟩
    · rw [h3, show x = false from z]
      exact (h.t _ h2).2
    · rw [h3, show x = true from z]; rfl⟩
theorem IsT.one {K : PySem.W.Frag} {c : V} {u : Value} {tab1 : List (Str × Bool)} (hc : ClsV c u) (hn : PySem.W.kitOne K (.type "NoneType") u = some false)
    (ht : ∀ p ∈ tab1, ExcC K (cl K p.1) ∧ PySem.W.kitOne K (.ref (cl K p.1)) u = some p.2) : IsT K [c] [u] tab1 :=
  ⟨.cons hc .nil, kitAny_cons hn (fun _ => rfl) (fun z => nomatch z), fun p hp => by
    obtain ⟨q1, q2⟩ := ht p hp
    exact ⟨q1, kitAny_cons q2 (fun z => by rw [z]; rfl) (fun z => z)⟩⟩
section
variable {X : Cx} {W : WX} {pos : Pos}
end
end BT
namespace PySem.SeqAt
open AutoSeq1 (wpAny_loadPart')
open MeetsSeq
theorem bt_str_eq_declines (b : Str) (u : Tok) (l : Addr) (c : Value) (es : _) (ep : _) (dd : Option Addr) (sl : Array (Option Value)) :
    Meets (Builtin.«str.__eq__» ⟨[.str b u, .ref l], []⟩) (fun _ R s => s.heap.get? l = some ⟨c, dd, .dict es ep, sl⟩ ∧ R (.ok (.ret .notImplemented)) s) :=
  .of_wp fun prog w A R s h => by obtain ⟨hp, g, d, tk, os⟩ := s; obtain ⟨hl, h⟩ := h; wp_walk using wpAny_loadPart' hl, wpAny_load hl; exact ⟨_, rfl, h⟩
theorem bt_dict_eq_declines (l : Addr) (es : _) (ep : _) (dd : Option Addr) (sl : Array (Option Value)) (b : Str) (u : Tok) :
    Meets (Builtin.«dict.__eq__» ⟨[.ref l, .str b u], []⟩) (fun _ R s => s.heap.get? l = some ⟨.type "dict", dd, .dict es ep, sl⟩ ∧ R (.ok (.ret .notImplemented)) s) :=
  .of_wp fun prog w A R s h => by obtain ⟨hp, g, d, tk, os⟩ := s; obtain ⟨hl, h⟩ := h; have f1 := F.sub_str_dict; wp_walk using wpAny_loadPart' hl, wpAny_load hl; exact ⟨_, rfl, h⟩
theorem bt_dict_str {A : Around} {s : Shared} {l : Addr} {o : Obj} {es : _} {ep : _} (b : Str) (u : Tok) (ho : s.heap.get? l = some o) (hx : o.ExactDict) (hd : o.data = .dict es ep) (hu : A.units < cLine) : RcAt A s (.ref l) (.str b u) false := fun prog w E Q h => by
  obtain ⟨cls, dd, data, sl⟩ := o
  obtain ⟨hc, h2, h3⟩ := hx
  simp only at hc hd
  subst hc hd
  exact rc_eq_decline_or (k := false) ⟨_, ho, rfl⟩ (typeIs_str s b u) (by decide) F.sub_str_dict F.slot_dict_eq F.slot_str_eq_refl
    (fun _ hq => call_meets F.slot_dict_eq ⟨_, ho, rfl⟩ F.entry_dict_eq (F.args_dict_eq_2 _ _) (bt_dict_eq_declines l es ep dd sl b u) ⟨ho, hq⟩)
    (fun _ hq => call_meets F.slot_str_eq_refl (typeIs_str s b u) F.entry_str_eq (F.args_str_eq_2 _ _) (bt_str_eq_declines b u l (.type "dict") es ep dd sl) ⟨ho, hq⟩)
    (fun _ hq => wpAny_of_eq (rfl : isSame (.ref l) (.str b u) = pure false) hq) (.inr hu) h
end PySem.SeqAt
namespace BT
open PySem PySem.Spec L2
open PyProof.Rows hiding St
/-- == of what may be a dict, and a text -/
def kEqD (K : PySem.W.Frag) : KR2 := fun x y G M R => kEqv false K x y G M R ∨ ∃ (a : Addr) (s : Str) (kvs : List (Key × V)), x = .ref a ∧ y = .str s ∧ At G M a (.dK kvs) ∧ R (.bl false) G M
theorem kop_eqD {X : Cx} (hu : X.A.units + 64 < cLine) : KOp X (compareOp .Eq) (kEqD X.K) := fun pins s σ H x y v u Q G M R I rx ry hv h hR => by
  rcases h with h | ⟨a, t, kvs, rfl, rfl, ha, h⟩
  · exact kop_eq hu pins s σ H x y v u Q G M R I rx ry hv h hR
  · cases (show v = Value.ref a from rx)
    obtain ⟨tk, e⟩ := (show ∃ t', u = Value.str t t' from ry)
    subst e
    obtain ⟨_, _, vs, _, o, es, ep, h1, h2, h3, _⟩ := (show ObjOk X.prog X.w H s.heap a (.dK kvs) from I.hok a _ (hv.at ha))
    exact SeqAt.bt_dict_str t tk h1 h2 h3 (by omega) _ _ _ _ ⟨.bl false, H, I, rfl, hR _ G M H hv h⟩
end BT
set_option Elab.async false
set_option linter.all false
set_option maxRecDepth 100000
set_option maxHeartbeats 4000000
namespace BT
open PySem PySem.Spec L2
open PyProof.Rows hiding St
/-! ### written data: what a display of constants lays -/
inductive XD where
  | non
  | bl (b : Bool)
  | int (i : Int)
  | str (s : Str)
  | list (l : List XD)
  | tup (l : List XD)
  | dict
mutual
inductive Rp (K : PySem.W.Frag) (G : Hp) (Mx : Mem) : V → XD → Prop where
  | non : Rp K G Mx .non .non
  | bl (b : Bool) : Rp K G Mx (.bl b) (.bl b)
  | int (i : Int) : Rp K G Mx (.int i) (.int i)
  | str (s : Str) : Rp K G Mx (.str s) (.str s)
  | list {a : Addr} {vs : List V} {ds : List XD} : ((a, HO.lst vs) ∈ Mx ∨ G a = some (.lst vs)) → RpA K G Mx vs ds → Rp K G Mx (.ref a) (.list ds)
  | tup {a : Addr} {vs : List V} {ds : List XD} : SqT K G a vs → RpA K G Mx vs ds → Rp K G Mx (.ref a) (.tup ds)
  | dict {a : Addr} : ((a, HO.dK []) ∈ Mx ∨ G a = some (.dK [])) → Rp K G Mx (.ref a) .dict
inductive RpA (K : PySem.W.Frag) (G : Hp) (Mx : Mem) : List V → List XD → Prop where
  | nil : RpA K G Mx [] []
  | cons {v : V} {d : XD} {vs : List V} {ds : List XD} : Rp K G Mx v d → RpA K G Mx vs ds → RpA K G Mx (v :: vs) (d :: ds)
end
section
variable {K : PySem.W.Frag} {G G' : Hp} {Mx My M : Mem}
mutual
theorem Rp.mono (f : ∀ a o, ((a, o) ∈ Mx ∨ G a = some o) → ((a, o) ∈ My ∨ G' a = some o)) (e : Ex G G') : ∀ {v : V} {d : XD}, Rp K G Mx v d → Rp K G' My v d
  | _, _, .non => .non
  | _, _, .bl b => .bl b
  | _, _, .int b => .int b
  | _, _, .str b => .str b
  | _, _, .list h hs => .list (f _ _ h) (RpA.mono f e hs)
  | _, _, .tup h hs => .tup (ex_t e h) (RpA.mono f e hs)
  | _, _, .dict h => .dict (f _ _ h)
theorem RpA.mono (f : ∀ a o, ((a, o) ∈ Mx ∨ G a = some o) → ((a, o) ∈ My ∨ G' a = some o)) (e : Ex G G') : ∀ {vs : List V} {ds : List XD}, RpA K G Mx vs ds → RpA K G' My vs ds
  | _, _, .nil => .nil
  | _, _, .cons h hs => .cons (Rp.mono f e h) (RpA.mono f e hs)
end
theorem Rp.up {v : V} {d : XD} (e : Ex G G') (s : ∀ x, x ∈ Mx → x ∈ My) (h : Rp K G Mx v d) : Rp K G' My v d := h.mono (fun a o q => q.elim (fun z => .inl (s _ z)) (fun z => .inr (e _ _ z))) e
theorem RpA.up {v : List V} {d : List XD} (e : Ex G G') (s : ∀ x, x ∈ Mx → x ∈ My) (h : RpA K G Mx v d) : RpA K G' My v d := h.mono (fun a o q => q.elim (fun z => .inl (s _ z)) (fun z => .inr (e _ _ z))) e
theorem Rp.ex {v : V} {d : XD} (e : Ex G G') (h : Rp K G Mx v d) : Rp K G' Mx v d := h.up e fun _ z => z
theorem RpA.ex {v : List V} {d : List XD} (e : Ex G G') (h : RpA K G Mx v d) : RpA K G' Mx v d := h.up e fun _ z => z
theorem RpA.len : ∀ {vs : List V} {ds : List XD}, RpA K G Mx vs ds → vs.length = ds.length
  | _, _, .nil => rfl
  | _, _, .cons _ hs => by rw [List.length_cons, List.length_cons, hs.len]
theorem RpA.app : ∀ {vs ws : List V} {ds es : List XD}, RpA K G Mx vs ds → RpA K G Mx ws es → RpA K G Mx (vs ++ ws) (ds ++ es)
  | _, _, _, _, .nil, h => h
  | _, _, _, _, .cons a b, h => .cons a (b.app h)
theorem RpA.get : ∀ {vs : List V} {ds : List XD} {i : Nat}, RpA K G Mx vs ds → i < vs.length → ∃ v d, vs[i]? = some v ∧ ds[i]? = some d ∧ Rp K G Mx v d
  | _, _, _, .nil, h => by simp at h
  | _, _, 0, .cons a _, _ => ⟨_, _, rfl, rfl, a⟩
  | _, _, i + 1, .cons _ b, h => by
    obtain ⟨v, d, h1, h2, h3⟩ := RpA.get (i := i) b (by simpa using h)
    exact ⟨v, d, by simpa using h1, by simpa using h2, h3⟩
/-- cells of its own -/
def NewC (G : Hp) (Mx : Mem) : Prop := (∀ x, x ∈ Mx → G x.1 = none) ∧ (Mx.map (·.1)).Nodup
theorem NewC.nil : NewC G [] := ⟨fun _ z => (nomatch z), List.nodup_nil⟩
def frzA (G : Hp) (Mx : Mem) : Hp := Mx.foldr (fun x g => upd g x.1 x.2) G
theorem frzA_ne : ∀ {Mx : Mem} {G : Hp} {a : Addr}, (∀ x, x ∈ Mx → x.1 ≠ a) → frzA G Mx a = G a
  | [], _, _, _ => rfl
  | x :: Mx, G, a, h => by
    show upd (frzA G Mx) x.1 x.2 a = _
    rw [upd_ne (Ne.symm (h x List.mem_cons_self))]
    exact frzA_ne fun y hy => h y (List.mem_cons_of_mem _ hy)
theorem frzA_ex (h : NewC G Mx) : Ex G (frzA G Mx) := fun a o e => by
  rw [frzA_ne]
  · exact e
  · intro x hx z
    rw [← z, h.1 x hx] at e
    cases e
theorem frzA_at : ∀ {Mx : Mem} {G : Hp}, (Mx.map (·.1)).Nodup → ∀ x, x ∈ Mx → frzA G Mx x.1 = some x.2
  | [], _, _, _, h => nomatch h
  | y :: Mx, G, hn, x, h => by
    rw [List.map_cons, List.nodup_cons] at hn
    show upd (frzA G Mx) y.1 y.2 x.1 = _
    rcases List.mem_cons.mp h with rfl | h
    · exact upd_same
    · rw [upd_ne (fun z => hn.1 (by rw [← z]; exact List.mem_map.mpr ⟨x, h, rfl⟩))]
      exact frzA_at hn.2 x h
theorem Rp.frz {v : V} {d : XD} (n : NewC G Mx) (h : Rp K G Mx v d) : Rp K (frzA G Mx) [] v d := h.mono (fun a o q => q.elim (fun z => .inr (frzA_at n.2 (a, o) z)) (fun z => .inr (frzA_ex n _ _ z))) (frzA_ex n)
theorem RpA.frz {v : List V} {d : List XD} (n : NewC G Mx) (h : RpA K G Mx v d) : RpA K (frzA G Mx) [] v d := h.mono (fun a o q => q.elim (fun z => .inr (frzA_at n.2 (a, o) z)) (fun z => .inr (frzA_ex n _ _ z))) (frzA_ex n)
/-- a cell more, a tuple more -/
theorem NewC.cell {p : Addr} {o : HO} (h : NewC G Mx) (f : Fr G (Mx ++ M) p) : NewC G ((p, o) :: Mx) := by
  refine ⟨fun x hx => ?_, ?_⟩
  · rcases List.mem_cons.mp hx with rfl | hx
    · exact f.1
    · exact h.1 x hx
  · rw [List.map_cons, List.nodup_cons]
    refine ⟨fun z => ?_, h.2⟩
    obtain ⟨y, hy, e⟩ := List.mem_map.mp z
    exact f.2 y (List.mem_append.mpr (.inl hy)) e
theorem NewC.tup {p : Addr} {o : HO} (h : NewC G Mx) (f : Fr G (Mx ++ M) p) : NewC (upd G p o) Mx :=
  ⟨fun x hx => by rw [upd_ne (f.2 x (List.mem_append.mpr (.inl hx)))]; exact h.1 x hx, h.2⟩
/-- an expression that lays written data -/
def LitOk (K : PySem.W.Frag) (te : KE) (σ : St) (G : Hp) (d : XD) : Prop := ∀ (G0 : Hp) (My M : Mem) (R : KR) (E : KX), Ex G G0 → NewC G0 My → (∀ v G' Mx, Ex G0 G' → NewC G' (Mx ++ My) → Rp K G' Mx v d → R v G' (Mx ++ (My ++ M))) → te σ G0 (My ++ M) R E
def LitsOk (K : PySem.W.Frag) (ta : KA) (σ : St) (G : Hp) (ds : List XD) : Prop := ∀ (G0 : Hp) (My M : Mem) (R : List V → Hp → Mem → Prop) (E : KX), Ex G G0 → NewC G0 My → (∀ vs G' Mx, Ex G0 G' → NewC G' (Mx ++ My) → RpA K G' Mx vs ds → R vs G' (Mx ++ (My ++ M))) → ta σ G0 (My ++ M) R E
end
section
variable {K : PySem.W.Frag} {σ : St} {G : Hp} {te ta tb : KE} {tas : KA} {ds es : List XD} {d : XD}
theorem lit_pure {v : V} (h : ∀ G0 M R E, Ex G G0 → R v G0 M → te σ G0 M R E) (r : Rp K G [] v d) : LitOk K te σ G d := fun G0 My M R E e n q => h G0 _ R E e (q v G0 [] Ex.refl n (r.ex e))
theorem lit_int {i : Int} : LitOk K (kC (.int i)) σ G (.int i) := lit_pure (fun _ _ _ _ _ q => q) (.int i)
theorem lit_bl {i : Bool} : LitOk K (kC (.bl i)) σ G (.bl i) := lit_pure (fun _ _ _ _ _ q => q) (.bl i)
theorem lit_str {i : Str} : LitOk K (kC (.str i)) σ G (.str i) := lit_pure (fun _ _ _ _ _ q => q) (.str i)
theorem lit_non : LitOk K (kC .non) σ G .non := lit_pure (fun _ _ _ _ _ q => q) .non
theorem lit_neg {i : Int} : LitOk K (kUn kNeg (kC (.int i))) σ G (.int (-i)) := lit_pure (fun _ _ _ _ _ q => q) (.int _)
theorem lit_var {i : Nat} {v : V} (h : σ[i]? = some (some v)) (r : Rp K G [] v d) : LitOk K (kVar i) σ G d := lit_pure (v := v) (fun _ _ _ _ _ q => by unfold kVar; rw [h]; exact q) r
theorem lit_dict : LitOk K kDNew σ G .dict := fun G0 My M R E e n q p fp => q _ G0 [(p, .dK [])] Ex.refl (n.cell fp) (.dict (.inl List.mem_cons_self))
theorem lits_nil : LitsOk K kNil σ G [] := fun G0 My M R E e n q => q [] G0 [] Ex.refl n .nil
theorem lits_cons (h : LitOk K te σ G d) (hs : LitsOk K tas σ G ds) : LitsOk K (kCons te tas) σ G (d :: ds) := fun G0 My M R E e n q =>
  h G0 My M _ E e n fun v G1 Mx e1 n1 r1 => by
    rw [← List.append_assoc]
    refine hs G1 (Mx ++ My) M _ E (e.trans e1) n1 fun vs G2 Mz e2 n2 r2 => ?_
    have := q (v :: vs) G2 (Mz ++ Mx) (e1.trans e2) (by rw [List.append_assoc]; exact n2) (.cons (r1.up e2 fun x hx => List.mem_append.mpr (.inr hx)) (r2.up Ex.refl fun x hx => List.mem_append.mpr (.inl hx)))
    simpa [List.append_assoc] using this
theorem lit_tup (h : LitsOk K tas σ G ds) (hl : ds.length ≤ 1000) : LitOk K (kTup tas) σ G (.tup ds) := fun G0 My M R E e n q =>
  h G0 My M _ E e n fun vs G1 Mx e1 n1 r1 => ⟨Nat.le_trans (by rw [r1.len]; exact hl) (by decide), fun p fp => by
    rw [← List.append_assoc] at fp
    exact q _ _ Mx (e1.trans (Ex.new fp)) (n1.tup fp) (.tup sqt_new (r1.ex (Ex.new fp)))⟩
theorem lit_lst (h : LitsOk K tas σ G ds) (hl : ds.length ≤ 1000) : LitOk K (kLst tas) σ G (.list ds) := fun G0 My M R E e n q =>
  h G0 My M _ E e n fun vs G1 Mx e1 n1 r1 => ⟨Nat.le_trans (by rw [r1.len]; exact hl) (by decide), fun p fp => by
    rw [← List.append_assoc] at fp
    exact q _ _ ((p, .lst vs) :: Mx) e1 (n1.cell fp) (.list (.inl List.mem_cons_self) (r1.up Ex.refl fun x hx => List.mem_cons_of_mem _ hx))⟩
theorem lit_add (h1 : LitOk K ta σ G (.list ds)) (h2 : LitOk K tb σ G (.list es)) (hl : (ds ++ es).length ≤ 1000) : LitOk K (kBin kAdd ta tb) σ G (.list (ds ++ es)) := fun G0 My M R E e n q =>
  h1 G0 My M _ E e n fun v G1 Mx e1 n1 r1 => by
    rw [← List.append_assoc]
    refine h2 G1 (Mx ++ My) M _ E (e.trans e1) n1 fun u G2 Mz e2 n2 r2 => ?_
    cases r1 with
    | @list a xs _ a1 s1 =>
      cases r2 with
      | @list b ys _ a2 s2 =>
        have l1 := s1.len
        have l2 := s2.len
        refine ⟨xs, ys, ?_, ?_, Nat.le_trans (m := 1000) (by rw [List.length_append] at hl; omega) (by decide), fun p fp => ?_⟩
        · rcases a1 with z | z
          · exact .inl (by simp [z])
          · exact .inr (e2 _ _ z)
        · rcases a2 with z | z
          · exact .inl (by simp [z])
          · exact .inr z
        · have fp' : Fr G2 ((Mz ++ (Mx ++ My)) ++ M) p := by simpa [List.append_assoc] using fp
          have := q (.ref p) G2 ((p, .lst (xs ++ ys)) :: (Mz ++ Mx)) (e1.trans e2) (by
            have := n2.cell (o := .lst (xs ++ ys)) fp'
            simpa [List.append_assoc] using this) (.list (.inl List.mem_cons_self) ((s1.up e2 fun x hx => by simp [hx]).app (s2.up Ex.refl fun x hx => by simp [hx])))
          simpa [List.append_assoc] using this
theorem lit_pow {i j : Int} (h : CPow i j) : LitOk K (kBin (kI CPow fun i j => .int (i ^ j.toNat)) (kC (.int i)) (kC (.int j))) σ G (.int (i ^ j.toNat)) := lit_pure (v := .int (i ^ j.toNat)) (fun _ _ _ _ _ q => ⟨h, q⟩) (.int _)
/-- one of written things is picked by a draw -/
theorem lit_pick {M : Mem} {R : KR} {E : KX} {i n : Nat} {p : Addr} {c s L : Int} (h : LitOk K te σ G (.list ds)) (hv : σ[i]? = some (some (.ref p))) (hn : M[n]? = some (p, pool c s)) (hs : PoolOk s) (hL : L = ds.length) (h0 : 0 < ds.length) (h1 : ds.length ≤ 1000)
    (q : ∀ v d G' Mx c' s', Ex G G' → NewC G' Mx → d ∈ ds → Rp K G' Mx v d → PoolOk s' → R v G' (Mx ++ M.set n (p, pool c' s'))) : kBin (kIx K) te (kCall (S_law_take K) (kCons (kVar i) (kCons (kC (.int L)) kNil))) σ G M R E := by
  refine h G [] M _ E Ex.refl NewC.nil fun v G1 Mx e1 n1 r1 => ?_
  rw [List.append_nil] at n1
  cases r1 with
  | @list a vs _ ha hs1 =>
    have hl := hs1.len
    rw [List.nil_append]
    simp only [kCall, kCons, kVar, hv]
    have hn2 : (Mx ++ M)[Mx.length + n]? = some (p, pool c s) := by rw [List.getElem?_append_right (by omega), Nat.add_sub_cancel_left]; exact hn
    refine ⟨p, L, Mx.length + n, c, s, rfl, rfl, hn2, hs, by omega, by omega, fun r c' s' r0 r1 hs' => ?_⟩
    obtain ⟨j, rfl⟩ := Int.eq_ofNat_of_zero_le r0
    obtain ⟨y, d, hy, hd, ry⟩ := hs1.get (i := j) (by omega)
    have hne : (a, HO.lst vs) ∈ Mx → (a, HO.lst vs) ∈ (Mx ++ M).set (Mx.length + n) (p, pool c' s') := fun z => by
      rw [List.set_append_right _ _ (by omega)]; exact List.mem_append.mpr (.inl z)
    refine ⟨vs, y, ?_, atI_nat hy, ?_⟩
    · rcases ha with z | z
      · exact .inl (.inl (hne z))
      · exact .inl (.inr (sql_of z))
    · have := q y d G1 Mx c' s' e1 n1 (List.mem_of_getElem? hd) ry hs'
      rw [List.set_append_right _ _ (by omega), Nat.add_sub_cancel_left]; exact this
end
/-! what is known of written things -/
def XD.ty : XD → PT
  | .non => .non | .bl _ => .bool | .int _ => .int | .str _ => .str | .list _ => .list | .tup _ => .tuple | .dict => .dict
mutual
def XD.toD : XD → Option PyData
  | .non => some .none
  | .bl b => some (.bool b)
  | .int i => some (.int i)
  | .str s => some (.str s)
  | .list l => (XD.toDs l).map .list
  | .tup l => (XD.toDs l).map .tuple
  | .dict => none
def XD.toDs : List XD → Option (List PyData)
  | [] => some []
  | x :: l => match x.toD, XD.toDs l with
    | some d, some ds => some (d :: ds)
    | _, _ => none
end
mutual
theorem rp_dp {K : PySem.W.Frag} {G : Hp} : ∀ {v : V} {d : XD} {e : PyData}, Rp K G [] v d → d.toD = some e → Dp K G v e
  | _, _, _, .non, h => by cases h; exact .non
  | _, _, _, .bl b, h => by cases h; exact .bl b
  | _, _, _, .int b, h => by cases h; exact .int b
  | _, _, _, .str b, h => by cases h; exact .str b
  | _, _, e, .list (ds := ds) ha hs, h => by
    have h : (XD.toDs ds).map PyData.list = some e := h
    obtain ⟨es, h1, rfl⟩ := Option.map_eq_some_iff.mp h
    rcases ha with z | z
    · cases z
    · exact .lst (sql_of z) (rpa_dp hs h1)
  | _, _, e, .tup (ds := ds) ha hs, h => by
    have h : (XD.toDs ds).map PyData.tuple = some e := h
    obtain ⟨es, h1, rfl⟩ := Option.map_eq_some_iff.mp h
    exact .tup ha (rpa_dp hs h1)
  | _, _, _, .dict _, h => by cases h
theorem rpa_dp {K : PySem.W.Frag} {G : Hp} : ∀ {vs : List V} {ds : List XD} {es : List PyData}, RpA K G [] vs ds → XD.toDs ds = some es → DpAll K G vs es
  | _, _, _, .nil, h => by cases h; exact .nil
  | _, _, es, .cons (d := d) (ds := ds) a b, h => by
    have h : (match d.toD, XD.toDs ds with | some d, some ds => some (d :: ds) | _, _ => none) = some es := h
    split at h
    · rename_i d' ds' e1 e2
      cases h
      exact .cons (rp_dp a e1) (rpa_dp b e2)
    · cases h
end
end BT
namespace BT
open PySem PySem.Spec L2
theorem Wk.dropP {G : Hp} (Mx : Mem) {M : Mem} : Wk G (Mx ++ M) G M := fun H hv => ⟨hv.ex, fun x hx => hv.mu x (List.mem_append.mpr (.inr hx)), hv.nd.sublist ((List.sublist_append_right Mx M).map _), fun x hx => hv.dj x (List.mem_append.mpr (.inr hx))⟩
end BT
set_option Elab.async false
set_option linter.all false
set_option maxRecDepth 100000
set_option maxHeartbeats 4000000
namespace BT
open PySem PySem.Spec L2
open PyProof.Rows hiding St
/-! ### dicts that are walked: locked while it goes on -/
section
variable {X : Cx} {W : WX} {pos : Pos} {o i e f tg : Expr}
/-! what is walked -/
end
end BT
set_option Elab.async false
set_option linter.all false
set_option maxRecDepth 100000
set_option maxHeartbeats 4000000
namespace BT
open PySem PySem.Spec L2
open PyProof.Rows hiding St
/-! ### a statement at which some heap is known to be as told -/
/-- a cell may be frozen -/
theorem Hv.fz {G : Hp} {M : Mem} {p : Addr} {o : HO} (h : ∃ H, Hv G ((p, o) :: M) H) : Ex G (upd G p o) := by
  obtain ⟨H, hv⟩ := h
  exact Ex.new' (hv.dj (p, o) List.mem_cons_self)
theorem Hv.no {G : Hp} {M : Mem} {x : Addr × HO} (h : ∃ H, Hv G M H) (hx : x ∈ M) : G x.1 = none := by
  obtain ⟨H, hv⟩ := h
  exact hv.dj x hx
theorem Hv.ne {G : Hp} {M : Mem} {x y : Addr × HO} {i j : Nat} (h : ∃ H, Hv G M H) (hx : M[i]? = some x) (hy : M[j]? = some y) (n : i ≠ j) : x.1 ≠ y.1 := fun e => by
  obtain ⟨H, hv⟩ := h
  exact n (nodup_at M j y.1 y.2 x i hv.nd hy hx e)
end BT
namespace BT
open PySem PySem.Spec L2
end BT
set_option Elab.async false
set_option linter.all false
set_option maxRecDepth 100000
set_option maxHeartbeats 4000000
namespace BT
open PySem PySem.Spec L2
open PyProof.Rows hiding St
/-! ### defs that are called where no guard stands; repr -/
structure GFn (P : Program) (w : World) (K : PySem.W.Frag) (mg : Str → Option Value) (base : Heap) (k : Nat) (f : Addr) (fd : FuncData) (ps : List Str) (sp : Sp) : Prop where
  len : ∀ vs H Q E, sp vs H Q E → vs.length = ps.length
  go : ∀ {A : Around} {outer : List Env} {s : Shared} {H : Hp} {args : Args} {us : List Value} {vs : List V} {Q : VK} {E : XK}, A.guards = some [] → Room k A → Env0 P w K mg base A outer s H → BindsTo s fd args (ps.zip us) → Vals vs us → sp vs H Q E →
    codeAny (model P w) A (.call (.ref f) args) (CR (L2.CX P w) outer P w H s Q E) s
section
variable {P : Program} {w : World} {K : PySem.W.Frag} {mg : Str → Option Value} {base : Heap} {k : Nat} {f : Addr} {fd : FuncData} {ps : List Str} {sp : Sp}
theorem GFn.mono {j : Nat} (F : GFn P w K mg base j f fd ps sp) (h : j ≤ k) : GFn P w K mg base k f fd ps sp := ⟨F.len, fun g r => F.go g (r.mono h)⟩
structure DefG (P : Program) (w : World) (K : PySem.W.Frag) (mg : Str → Option Value) (base : Heap) (lev : Nat) (x : Str) (ps : List Str) (S : KSp) : Prop where
  ex : ∃ f fd, GFn P w K mg base lev f fd ps (lift S) ∧ mg x = some (.ref f) ∧ PySem.W.keepIn K (.ref f) = true ∧ Binds K fd ps []
end
section
variable {X : Cx} {W : WX} {pos p : Pos} {e : Expr} {es : List Expr} {x : Str} {k lev : Nat} {ps : List Str} {S : KSp} {t : KA}
end
end BT
namespace BT
open PySem PySem.Spec L2
open PyProof.Rows hiding St
end BT
namespace BT
open PySem PySem.Spec L2
/-! ### data that may be shown -/
structure Sho (p w : Nat) (d : PyData) : Prop where
  s : d.showable = true
  n : d.hasDict = false
  l : d.leavesShort 25 = true
  p : d.depth ≤ p
  w : d.weight ≤ w
theorem Sho.up {p p' w w' : Nat} {d : PyData} (h : Sho p w d) (hp : p ≤ p') (hw : w ≤ w') : Sho p' w' d := ⟨h.s, h.n, h.l, Nat.le_trans h.p hp, Nat.le_trans h.w hw⟩
end BT
set_option Elab.async false
set_option linter.all false
set_option maxRecDepth 100000
set_option maxHeartbeats 4000000
/-! sorted(set(xs)), xs a list of ints -/
namespace BT
open PySem PySem.Spec L2
open PyProof.Rows hiding St
section
variable {P : Program} {w : World} {A : Around} {E : Value → Shared → Prop} {s : Shared}
/-- a set that was made just now -/
def setO (b : Bool) : Obj := { cls := .type "set", dict := none, data := .set #[] 0 (.fresh 0 0 b) }
def withO (s : Shared) (o : Obj) : Shared := { s with heap := s.heap.push o }
set_option maxHeartbeats 3200000 in
theorem set_of_ints {l : Addr} {xs : Array Value} (ns : List Int) {Q : Value → Shared → Prop} (quiet : A.handled = none) (isL : s.heap.IsList l xs) (isI : IntsAre xs.toList ns) (few : ns.length + 1 < scanBound)
    (fin : ∀ (h' : Heap) (tk c : Nat), SetR w h' s.heap.objs.size (fun j => decide (j ∈ ns)) c → c ≤ ns.length → (∀ b o, s.heap.get? b = some o → h'.get? b = some o) → Q (.ref s.heap.objs.size) { s with heap := h', toks := tk }) :
    wpAny (model P w) A (call (.type "set") [.ref l]) Q E s := by
  have sameN : xs.size = ns.length := by
    have z := IntsAre.length isI
    rwa [Array.length_toList] at z
  obtain ⟨b, hb⟩ : ∃ b, b = !w.params.followText "set-order" := ⟨_, rfl⟩
  obtain ⟨i0, i1, i2⟩ := PySem.F.called_set.mro
  have i3 := PySem.F.called_set.made
  have i4 := PySem.F.called_set.sub
  refine wpAny_call (codeAny_of_tree (show wpAny _ _ (callAny (.type "set") _) _ _ _ from wpAny_pure ⟨Code.quiet_builtin _ (by decide +kernel), codeAny_builtin PySem.F.entry_type_call ?_⟩))
  rw [Around.under_plain (weight_type_call_type "set" [.ref l] []) rfl]
  have i5 := PySem.F.called_set.notType
  have i6 := PySem.F.called_set.canCreate
  have i7 := PySem.F.typeCall_set_1 (.ref l)
  iterate 20 (try (any_goals (first | assumption | wp_step)))
  refine codeAny_mono (code_set_led1 (.ref l) (E := E) (Q₁ := fun v s1 => v = .ref s.heap.objs.size ∧ s1 = withO s (setO b)) ⟨rfl, by rw [hb]; rfl⟩) fun r1 s1 hr1 => ?_
  match r1, hr1 with
  | .error _, z => exact z
  | .ok (.ret v1), z =>
    obtain ⟨rfl, rfl⟩ := z
    obtain ⟨hp0, hhp0⟩ : ∃ h, h = s.heap.push (setO b) := ⟨_, rfl⟩
    have at0 : hp0.get? s.heap.objs.size = some (setO b) := by rw [hhp0]; exact Heap.get?_push_size _ rfl
    have old0 : ∀ x o, s.heap.get? x = some o → hp0.get? x = some o := fun x o e => by rw [hhp0]; exact Heap.get?_push_of_some _ e
    have sz0 : hp0.objs.size = s.heap.objs.size + 1 := by rw [hhp0]; exact Heap.size_push ..
    have ew : withO s (setO b) = { s with heap := hp0 } := by rw [hhp0]; rfl
    rw [ew]
    have ty0 : Shared.TypeIs { s with heap := hp0 } (.ref s.heap.objs.size) "set" := ⟨_, at0, rfl⟩
    have j1 := PySem.F.called_set.init.lookup
    have j2 := PySem.F.called_set.init.bind (.ref s.heap.objs.size)
    iterate 20 (try (any_goals (first | assumption | wp_step)))
    refine codeAny_mono (codeAny_call_builtin (R := wants (fun v2 s2 => v2 = .none ∧ ∃ (h2 : Heap) (k2 c2 : Nat), s2 = { s with heap := h2, toks := k2 } ∧ SetR w h2 s.heap.objs.size (fun j => decide (j ∈ ns)) c2 ∧ c2 ≤ ns.length ∧ ∀ x o, s.heap.get? x = some o → h2.get? x = some o) E) PySem.F.called_set.init.plain PySem.F.entry_set_init (check_set_init_1 ty0 ?_)) fun r2 s2 hr2 => ?_
    · obtain ⟨ol, hol, cl0, n0, da0⟩ := isL
      obtain ⟨k1, k2, k3, k4⟩ := ol
      dsimp only at cl0 da0
      subst cl0 da0
      have lst0 : hp0.get? l = some { cls := .type "list", dict := k2, data := .seq xs n0, slots := k4 } := old0 _ _ hol
      have m1 := PySem.F.sub_list_set
      have m2 := PySem.F.sub_list_frozenset
      have m3 : ((Value.type "list") == (Value.type "dict")) = false := by decide
      have lst1 : hp0.IsList l xs := ⟨_, lst0, rfl, n0, rfl⟩
      unfold Builtin.«set.__init__» noKeywords Builtin.Frozenset.updateFrom
      generalize itE : pyIter = IT
      wp_walk
      subst itE
      refine wpAny_pyIter_list lst1 (wpAny_bind (wpAny_runValue ?_))
      have ltL : l < s.heap.objs.size := Heap.lt_size hol
      have nh : A.in1.in1.in1.handled = none := by simp [quiet]
      have neL : l ≠ hp0.objs.size := by rw [sz0]; exact Nat.ne_of_lt (Nat.lt_succ_of_lt ltL)
      have notIn : s.heap.objs.size ∉ [hp0.objs.size, l] := by
        rw [sz0]
        simp only [List.mem_cons, List.not_mem_nil, or_false, not_or]
        exact And.intro (Nat.ne_of_lt (Nat.lt_succ_self _)) (Nat.ne_of_gt ltL)
      have isV : ∀ (i : Nat) (v : Value), xs[i]? = some v → ∃ k t, ns[i]? = some k ∧ v = .int k t := fun i v hv => by
        have lt : i < ns.length := by rw [← sameN]; exact (Array.getElem?_eq_some_iff.mp hv).1
        obtain ⟨t, e⟩ := PyProof.Rows.IntsAre.int_at isI i v (by rw [Array.getElem?_toList]; exact hv)
        refine ⟨ns[i], t, List.getElem?_eq_getElem lt, ?_⟩
        rw [e, List.getD_eq_getElem?_getD, List.getElem?_eq_getElem lt]; rfl
      refine set_update_ints (Walks.list nh _ l neL xs).toS s.heap.objs.size notIn ns sameN few isV (xs.size - 0) 0 _ (by omega) (Nat.zero_le _) ⟨⟨_, Heap.get?_push_size _ rfl, rfl, rfl⟩, lst1.push _⟩ ⟨0, Nat.le_refl 0, setR_new_at ?_⟩ fun s3 c3 mv hc3 hS3 => ?_
      · rw [← hb]; exact Heap.get?_push_of_some _ at0
      · obtain ⟨h3, g3, d3, t3, o3⟩ := s3
        obtain rfl : g3 = s.gens := mv.gens
        obtain rfl : d3 = s.drawn := mv.drawn
        obtain rfl : o3 = s.os := mv.os
        rw [sameN] at hc3
        refine wpAny_pure (show wpAny _ _ (ret Value.none) _ _ _ from wpAny_pure ⟨rfl, h3, t3, c3, rfl, hS3, hc3, fun x o e => ?_⟩)
        have ltX : x < s.heap.objs.size := Heap.lt_size e
        refine mv.heap x o ?_ (Heap.get?_push_of_some _ (old0 _ _ e))
        rw [sz0]
        simp only [List.mem_cons, List.not_mem_nil, or_false, not_or]
        exact And.intro (Nat.ne_of_lt ltX) (Nat.ne_of_lt (Nat.lt_succ_of_lt ltX))
    · match r2, hr2 with
      | .error _, z => exact z
      | .ok (.ret v2), z =>
        obtain ⟨rfl, h2, k2, c2, rfl, z1, z2, z3⟩ := z
        iterate 20 (try (any_goals (first | assumption | wp_step)))
        exact fin _ _ _ z1 z2 z3
      | .ok .next, z => exact z.elim
      | .ok .brk, z => exact z.elim
      | .ok .cont, z => exact z.elim
  | .ok .next, z => exact z.elim
  | .ok .brk, z => exact z.elim
  | .ok .cont, z => exact z.elim
end
section
variable {X : Cx} {W : WX}
def kSortedSet (K : PySem.W.Frag) (t : KE) : KE := fun σ G M R E => t σ G M (fun x G M => match x with
  | .ref a => ∃ ns : List Int, LstAt K G M a (ns.map V.int) ∧ ns.length ≤ 60 ∧ ∀ (p : Addr) (ms : List Int), Fr G M p → ms.Pairwise (· < ·) → (∀ k, k ∈ ms ↔ k ∈ ns) → ms.length ≤ ns.length → R (.ref p) G ((p, .lst (ms.map V.int)) :: M)
  | _ => False) E
theorem je_sortedSet {a : Expr} {ta : KE} {p p2 q pos : Pos} (hm : X.mg "sorted" = none) (hm2 : X.mg "set" = none) (ha : JE X W a ta) (hc : X.calm = true := by rfl) (hg : Gl X "sorted" := by rfl) (hg2 : Gl X "set" := by rfl)
    (na : starEach [a] X.env = (false, eval a X.env) :: starEach [] X.env := by rfl) : JE X W (.Call (.Name "sorted" p) [.Call (.Name "set" p2) [a] [] q] [] pos) (kSortedSet X.K ta) := by
  refine ⟨fun pins s σ H Q I ⟨G, M, R, E, hv, h, hR, hE⟩ => ?_⟩
  refine Call_ (ld_blt I hg hm (show bootBuiltins "sorted" = some (.builtin "sorted") by decide +kernel) ?_)
  refine PyProof.Rows.callWith_builtin1 (PyProof.Rows.args_cons ?_ rfl) rfl rfl
  refine Call_ (ld_blt I hg2 hm2 PyProof.Rows.boot_set ?_)
  refine PyProof.Rows.callWith_type1 (PyProof.Rows.args_cons (thn (ha.run pins s σ H (fun x H1 => ∃ (l : Addr) (ns : List Int), x = V.ref l ∧ SqL X.K H1 l (ns.map V.int) ∧ ns.length ≤ 60 ∧ ∀ (p : Addr) (ms : List Int), H1 p = none → ms.Pairwise (· < ·) → (∀ k, k ∈ ms ↔ k ∈ ns) → ms.length ≤ ns.length → Q (.ref p) (upd H1 p (.lst (ms.map V.int)))) I ?_) fun v s1 ⟨x, H1, I1, r1, q1⟩ => PyProof.Rows.args_nil ?_) na) na rfl
  · refine ⟨G, M, _, E, hv, h, fun x G1 M1 H1 hv1 q => ?_, hE⟩
    match x, q with
    | .ref a, ⟨ns, q1, q2, q3⟩ => exact ⟨a, ns, rfl, hv1.lst q1, q2, fun p ms e0 e1 e2 e3 => hR _ G1 _ _ (hv1.newM e0) (q3 p ms (hv1.fr e0) e1 e2 e3)⟩
  obtain ⟨l, ns, rfl, hq, h1, q1⟩ := q1
  cases r1
  obtain ⟨its, r, pl, hz⟩ := I1.list hq
  refine set_of_ints ns (I1.ok.hd hc) pl.isList (by simpa using r.ints) (by unfold scanBound; omega) fun h' tk c hS hcl hk => ?_
  refine PyProof.Rows.args_nil ?_
  have I2 : Inv X pins σ H1 { s1 with heap := h', toks := tk } := I1.kept hk
  refine sorted_set hS (I1.ok.hd hc) (by omega) fun s' p out ep ms k1 g1 o1 hp hat hin hpw hmem hlen => ?_
  have hfr : H1 p = none := I2.hok.fresh hp
  have hlen2 : (ms.map V.int).length ≤ sizeLine := by rw [List.length_map]; exact sz (by omega)
  have hob : ObjOk X.prog X.w (upd H1 p (.lst (ms.map V.int))) s'.heap p (.lst (ms.map V.int)) := ⟨hlen2, out.toList, ep, vals_of_ints hin, by simpa [seqObj] using hat⟩
  have J := I2.call' (s' := s') (ch := []) o1 (Un.laid k1 hp hfr) (I2.hok.laid k1 hp hob) (by rw [g1]; exact I2.bare) (fun b z => absurd z (by simp))
  exact ⟨.ref p, _, J, rfl, q1 p ms hfr hpw (fun k => by rw [hmem k, decide_eq_true_iff]) (by rw [hlen]; exact hcl)⟩
end
end BT
namespace BT
open PySem PySem.Spec L2
open PyProof.Rows hiding St
def storeKs : List Nat := [6]
/-! ### whole numbers -/
def isIntV : V → Bool
  | .int _ => true
  | _ => false
def withinV (x : V) (lo hi : Int) : Bool := match x with
  | .int i => decide (lo ≤ i) && decide (i ≤ hi)
  | _ => false
def S_is_whole (K : PySem.W.Frag) : KSp := sp1 fun x G M R Z => ∃ T : PT, TyK K G M x T ∧ R (.bl (T == .int)) G M
def S_is_within (K : PySem.W.Frag) : KSp := sp3 fun x y z G M R Z => ∃ (T : PT) (lo hi : Int), y = .int lo ∧ z = .int hi ∧ TyK K G M x T ∧ (T == .int) = isIntV x ∧ R (.bl (withinV x lo hi)) G M
def isStrV : V → Bool
  | .str _ => true
  | _ => false

/-! ### things whose type is known -/
def WOk (K : PySem.W.Frag) (G : Hp) (w : V) : Prop := ∃ S : PT, (∀ M, TyK K G M w S) ∧ (S == .str) = isStrV w
def IOk (K : PySem.W.Frag) (G : Hp) (x : V) : Prop := ∃ T : PT, (∀ M, TyK K G M x T) ∧ (T == .int) = isIntV x

/-! ### kinds and draws -/
structure Kn where
  leaf : Bool
  n : Nat
def Kn.txt (k : Kn) : Str := if k.leaf then "leaf" else "shuffle"
def KnOk (k : Kn) : Prop := k.n ≤ 64 ∧ (k.leaf = true → k.n ≤ 6) ∧ (k.leaf = false → 1 ≤ k.n)
def fac : Nat → Nat
  | 0 => 1
  | n + 1 => (n + 1) * fac n
def manyK (k : Kn) : Nat := if k.leaf then 2 ^ k.n else fac k.n
def prK : List Kn → Nat
  | [] => 1
  | k :: ks => manyK k * prK ks
def knD (k : Kn) : PyData := .tuple [.str k.txt, .int k.n]
def rowAt : Nat → Nat → List Nat
  | 0, _ => []
  | s + 1, n => rowAt s (n / (s + 1)) ++ [n % (s + 1)]
/-- a draw: a leaf's number, or a row -/
inductive Dr | leaf (n : Nat) | row (l : List Nat)
def dOf (k : Kn) (n : Nat) : Dr := if k.leaf then .leaf n else .row (rowAt k.n n)
def drR : List Kn → Nat → List Dr
  | [], _ => []
  | k :: ks, n => dOf k (n % manyK k) :: drR ks (n / manyK k)
def drawsAt (ks : List Kn) (n : Nat) : List Dr := (drR ks.reverse n).reverse
def natsV (l : List Nat) : List V := l.map fun (n : Nat) => V.int (n : Int)
inductive A2 {α β : Type} (r : α → β → Prop) : List α → List β → Prop
  | nil : A2 r [] []
  | cons {a : α} {b : β} {as : List α} {bs : List β} : r a b → A2 r as bs → A2 r (a :: as) (b :: bs)
/-- a draw as it lies: a row's list is one of the cells -/
def DrM (M : Mem) (v : V) (d : Dr) : Prop := match d with
  | .leaf n => v = .int n
  | .row l => ∃ b, v = .ref b ∧ (b, HO.lst (natsV l)) ∈ M
def DrV (K : PySem.W.Frag) (G : Hp) (M : Mem) (v : V) (d : Dr) : Prop := match d with
  | .leaf n => v = .int n
  | .row l => ∃ b, v = .ref b ∧ LstAt K G M b (natsV l)
def KnAt (K : PySem.W.Frag) (G : Hp) (M : Mem) (a : Addr) (ks : List Kn) : Prop := ∃ us, LstAt K G M a us ∧ DpAll K G us (ks.map knD) ∧ (∀ k, k ∈ ks → KnOk k) ∧ ks.length ≤ 1000
def DrAt (K : PySem.W.Frag) (G : Hp) (M : Mem) (a : Addr) (ds : List Dr) : Prop := ∃ us, LstAt K G M a us ∧ A2 (DrV K G M) us ds
def DrOk (k : Kn) (d : Dr) : Prop := match d with
  | .leaf n => k.leaf = true ∧ n < 2 ^ k.n
  | .row l => k.leaf = false ∧ l.length = k.n ∧ ∀ (i v : Nat), l[i]? = some v → v ≤ i
def S_leaves (K : PySem.W.Frag) : KSp := sp1 fun x G M R Z => ∃ n : Nat, x = .int n ∧ n ≤ 1000 ∧ R (.int ((2 ^ n : Nat) : Int)) G M
def S_many_of (K : PySem.W.Frag) : KSp := sp1 fun x G M R Z => ∃ k : Kn, Dp K G x (knD k) ∧ k.n ≤ 64 ∧ R (.int (manyK k)) G M
def S_how_many (K : PySem.W.Frag) : KSp := sp1 fun x G M R Z => ∃ (a : Addr) (ks : List Kn), x = .ref a ∧ KnAt K G M a ks ∧ R (.int (prK ks)) G M
def S_row_at (K : PySem.W.Frag) : KSp := sp2 fun x y G M R Z => ∃ s n : Nat, x = .int s ∧ y = .int n ∧ s ≤ 64 ∧ ∀ p, Fr G M p → R (.ref p) G ((p, .lst (natsV (rowAt s n))) :: M)
def S_draws_at (K : PySem.W.Frag) : KSp := sp2 fun x y G M R Z => ∃ (a : Addr) (ks : List Kn) (T : PT), x = .ref a ∧ KnAt K G M a ks ∧ TyK K G M y T ∧ (T == .int) = isIntV y ∧
  (∀ n : Nat, y = .int n → n < prK ks → ∀ (p : Addr) (us : List V) (Mn : Mem), A2 (DrM Mn) us (drawsAt ks n) → R (.ref p) G ((p, .lst us) :: (Mn ++ M))) ∧
  (withinV y 0 ((prK ks : Int) - 1) = false → Z (.ref (cl K "NoNumber")) none G M)

/-! ### sizes and needs -/
def highN (m : Nat) : Nat := ((List.range 6).filter fun k => decide (2 ^ k < m)).length
def lastN (m : Nat) : Nat := highN m - 1
def sideN (m : Nat) : Nat := ((List.range 7).filter fun k => decide (1 ≤ k) && decide (m ≤ k * k)).headD 0
def stairN (m p : Nat) : Nat := ((List.range 6).filter fun k => decide (k = lastN m) || decide (p % (2 * 2 ^ k) ≠ 0)).headD 0
def slotA (m st : Nat) : Nat := if st = lastN m then m else 2 * 2 ^ st
def trN : Nat → Nat → List Nat
  | 0, m => [m]
  | f + 1, m => if 4 < m then m :: trN f ((m + 3) / 4) else [m]
def treesN (m : Nat) : List Nat := trN 3 m
def spareK (m most : Nat) : List Kn := List.replicate ((most + sideN m - 1) / sideN m) ⟨false, m + sideN m⟩
def stairL (m most : Nat) : List Nat := lastN m :: (List.range ((most + 1) / 2 - 1)).map fun i => stairN m (i + 1)
def stairsK (m most : Nat) : List Kn := if most = 0 then [] else (stairL m most).map fun st => ⟨false, slotA m st + 2 * 2 ^ st⟩
def groveK (ts : List Nat) (most : Nat) : List Kn := (ts.flatMap fun m => List.replicate m ⟨true, highN m⟩) ++ (List.replicate most (ts.map fun m => (⟨true, highN m⟩ : Kn))).flatten
def kindsK (w : Str) (m most : Nat) : List Kn := if w = "spare" then spareK m most else if w = "stairs" then stairsK m most else if w = "tree" then groveK [m] most else if w = "grove" then groveK (treesN m) most else []
/-- a list of kinds that was told: a cell of its own -/
def KndsR (K : PySem.W.Frag) (G : Hp) (M : Mem) (ks : List Kn) (R : KR) : Prop := ∀ (t : Addr) (us : List V) (G' : Hp), Ex G G' → Fr G' M t → DpAll K G' us (ks.map knD) → R (.ref t) G' ((t, .lst us) :: M)
def natOk (x : V) (m : Nat) (lo hi : Nat) : Prop := x = .int m ∧ lo ≤ m ∧ m ≤ hi
def S_side_of (K : PySem.W.Frag) : KSp := sp1 fun x G M R Z => ∃ m, natOk x m 1 32 ∧ R (.int (sideN m)) G M
def S_high_of (K : PySem.W.Frag) : KSp := sp1 fun x G M R Z => ∃ m, natOk x m 1 32 ∧ R (.int (highN m)) G M
def S_last_of (K : PySem.W.Frag) : KSp := sp1 fun x G M R Z => ∃ m, natOk x m 1 32 ∧ R (.int (lastN m)) G M
def S_stair_of (K : PySem.W.Frag) : KSp := sp2 fun x y G M R Z => ∃ m p, natOk x m 1 32 ∧ natOk y p 1 30 ∧ R (.int (stairN m p)) G M
def S_slots_of (K : PySem.W.Frag) : KSp := sp2 fun x y G M R Z => ∃ m st, natOk x m 1 32 ∧ natOk y st 0 6 ∧ ∀ t G', Ex G G' → SqT K G' t [.int (slotA m st), .int ((2 * 2 ^ st : Nat) : Int)] → R (.ref t) G' M
def S_trees_of (K : PySem.W.Frag) : KSp := sp1 fun x G M R Z => ∃ m, natOk x m 1 32 ∧ ∀ t, Fr G M t → R (.ref t) G ((t, .lst (natsV (treesN m))) :: M)
def S_look_at_many (K : PySem.W.Frag) : KSp := sp1 fun x G M R Z => ∃ T : PT, TyK K G M x T ∧ (T == .int) = isIntV x ∧ (withinV x 1 32 = true → R .non G M) ∧ (withinV x 1 32 = false → Z (.ref (cl K "NoSize")) none G M)
def S_look_at_sizes (K : PySem.W.Frag) : KSp := sp2 fun x y G M R Z => ∃ T U : PT, TyK K G M x T ∧ (T == .int) = isIntV x ∧ TyK K G M y U ∧ (U == .int) = isIntV y ∧
  ((withinV x 1 32 && withinV y 0 60) = true → R .non G M) ∧ ((withinV x 1 32 && withinV y 0 60) = false → Z (.ref (cl K "NoSize")) none G M)
def S_spare_needs (K : PySem.W.Frag) : KSp := sp2 fun x y G M R Z => ∃ m q, natOk x m 1 32 ∧ natOk y q 0 60 ∧ KndsR K G M (spareK m q) R
def S_stairs_needs (K : PySem.W.Frag) : KSp := sp2 fun x y G M R Z => ∃ m q, natOk x m 1 32 ∧ natOk y q 0 60 ∧ KndsR K G M (stairsK m q) R
def S_grove_needs (K : PySem.W.Frag) : KSp := sp2 fun x y G M R Z => ∃ (a : Addr) (ts : List Nat) (q : Nat), x = .ref a ∧ LstAt K G M a (natsV ts) ∧ (∀ t, t ∈ ts → 1 ≤ t ∧ t ≤ 32) ∧ ts.length ≤ 3 ∧ natOk y q 0 60 ∧ KndsR K G M (groveK ts q) R
def S_kinds_of (K : PySem.W.Frag) : KSp := sp3 fun w x y G M R Z => ∃ (s : Str) (m q : Nat), w = .str s ∧ natOk x m 1 32 ∧ natOk y q 0 60 ∧ KndsR K G M (kindsK s m q) R
/-! ### orders and rows: what they are -/
def swapL (l : List Nat) (i j : Nat) : List Nat := (l.set i (l.getD j 0)).set j (l.getD i 0)
/-- an order of n -/
structure OrdOk (n : Nat) (o : List Nat) : Prop where
  len : o.length = n
  nd : o.Nodup
  lt : ∀ x, x ∈ o → x < n
def ItemsTy (K : PySem.W.Frag) (G : Hp) (M : Mem) (xs : List V) : Prop := ∀ x, x ∈ xs → ∃ T : PT, TyK K G M x T ∧ (T == .int) = isIntV x
/-! ### asks -/
inductive Deed | read (c : Nat) | write (c w : Nat)
def Deed.cell : Deed → Nat
  | .read c => c
  | .write c _ => c
def Deed.vs : Deed → List V
  | .read c => [.str "read", .int c]
  | .write c w => [.str "write", .int c, .int w]
def Deed.upd (ws : List Nat) : Deed → List Nat
  | .read _ => ws
  | .write c w => ws.set c w
def Deed.put (told : Nat) : Deed → Nat
  | .read _ => told
  | .write _ w => w
def DeedOk (m : Nat) (d : Deed) : Prop := d.cell < m ∧ match d with
  | .read _ => True
  | .write _ w => w ≤ 999999999999999999
def DeedAt (K : PySem.W.Frag) (G : Hp) (v : V) (d : Deed) : Prop := ∃ t, v = .ref t ∧ SqT K G t d.vs
/-- a thing whose first item may be compared with a text -/
def HeadOk (K : PySem.W.Frag) (G : Hp) (M : Mem) (x : V) : Prop := match x with
  | .ref a => (∃ d, DatAt K G M x d ∧ SeqAt.shaped d = true ∧ ∀ s, PyData.eqv d (.str s) = false) ∨ ∃ kvs, G a = some (.dK kvs)
  | .non => True
  | .int _ => True
  | .bl _ => True
  | .str _ => True
  | _ => False
def askB (m : Int) (xs : List V) : Bool := match xs with
  | x0 :: x1 :: r => withinV x1 0 (m - 1) && (match r with
    | [] => decide (x0 = .str "read")
    | [x2] => decide (x0 = .str "write") && withinV x2 0 999999999999999999
    | _ => false)
  | _ => false
def AskV (K : PySem.W.Frag) (G : Hp) (M : Mem) (m : Int) (y : V) (b : Bool) : Prop := (∃ T : PT, TyK K G M y T ∧ T ≠ .tuple ∧ b = false) ∨
  ∃ (t : Addr) (xs : List V), y = .ref t ∧ SqT K G t xs ∧ xs.length ≤ 1000 ∧ (∀ x, x ∈ xs → ∃ T : PT, TyK K G M x T ∧ (T == .int) = isIntV x) ∧ (∀ x, xs[0]? = some x → HeadOk K G M x) ∧ b = askB m xs
def S_is_ask (K : PySem.W.Frag) : KSp := sp2 fun x y G M R Z => ∃ (m : Int) (b : Bool), x = .int m ∧ AskV K G M m y b ∧ R (.bl b) G M
def S_need_ask (K : PySem.W.Frag) : KSp := sp2 fun x y G M R Z => ∃ (m : Int) (b : Bool), x = .int m ∧ AskV K G M m y b ∧ (b = true → R .non G M) ∧ (b = false → Z (.ref (cl K "NoAsk")) none G M)
/-- a thing that is no ask, wherever it is looked at -/
def NoAskG (K : PySem.W.Frag) (G : Hp) (m : Int) (v : V) : Prop := ∀ G2 M2, Ex G G2 → AskV K G2 M2 m v false

/-! ### looks at draws -/
def rowB (size : Nat) (xs : List V) : Bool := decide (xs.length = size) && (List.range xs.length).all fun i => withinV (xs.getD i .non) 0 (i : Int)
def RowV (K : PySem.W.Frag) (G : Hp) (M : Mem) (size : Nat) (y : V) (b : Bool) : Prop := (∃ T : PT, TyK K G M y T ∧ T ≠ .list ∧ b = false) ∨ ∃ (a : Addr) (xs : List V), y = .ref a ∧ LstAt K G M a xs ∧ xs.length ≤ 1000 ∧ ItemsTy K G M xs ∧ b = rowB size xs
def DrawV (K : PySem.W.Frag) (G : Hp) (M : Mem) (k : Kn) (y : V) (b : Bool) : Prop := if k.leaf then ∃ T : PT, TyK K G M y T ∧ (T == .int) = isIntV y ∧ b = withinV y 0 (((2 ^ k.n : Nat) : Int) - 1) else RowV K G M k.n y b
def S_is_row (K : PySem.W.Frag) : KSp := sp2 fun x y G M R Z => ∃ (n : Nat) (b : Bool), x = .int n ∧ RowV K G M n y b ∧ R (.bl b) G M
def S_is_draw (K : PySem.W.Frag) : KSp := sp2 fun x y G M R Z => ∃ (k : Kn) (b : Bool), Dp K G x (knD k) ∧ KnOk k ∧ DrawV K G M k y b ∧ R (.bl b) G M
def S_look_at_draws (K : PySem.W.Frag) : KSp := sp2 fun x y G M R Z => ∃ (a b : Addr) (ks : List Kn) (ds : List Dr), x = .ref a ∧ y = .ref b ∧ KnAt K G M a ks ∧ DrAt K G M b ds ∧ A2 DrOk ks ds ∧ R .non G M
/-- draws that are frozen -/
def DrsG (K : PySem.W.Frag) (G : Hp) (p : Addr) (ds : List Dr) : Prop := ∃ us, SqL K G p us ∧ A2 (DrV K G []) us ds
def S_copied (K : PySem.W.Frag) : KSp := sp1 fun x G M R Z => ∃ (b : Addr) (ds : List Dr), x = .ref b ∧ DrAt K G M b ds ∧ ds.length ≤ 1000 ∧ ∀ (p : Addr) (G' : Hp), Ex G G' → DrsG K G' p ds → R (.ref p) G' M

/-! ### keepers and shelves -/
structure Tch where
  lay : Bool
  shelf : Nat
  room : Nat
  deriving DecidableEq
def Tch.txt (t : Tch) : Str := if t.lay then "lay" else "look"
def tchD (t : Tch) : PyData := .tuple [.str t.txt, .int t.shelf, .int t.room]
/-- a list of touches, as it lies -/
def LogC (K : PySem.W.Frag) (G : Hp) (ts : List Tch) (o : HO) : Prop := ∃ vs, o = .lst vs ∧ DpAll K G vs (ts.map tchD)
structure KeepAt (K : PySem.W.Frag) (G : Hp) (M : Mem) (kp dk lg : Addr) (j l : Nat) (o : HO) (ts : List Tch) : Prop where
  k : M[j]? = some (kp, Ob K 1 dk [.ref lg])
  l : M[l]? = some (lg, o)
  c : LogC K G ts o
structure ShelfAt (K : PySem.W.Frag) (M : Mem) (a dx kp th : Addr) (num n i : Nat) (xs : List V) : Prop where
  s : M[n]? = some (a, Ob K 2 dx [.ref kp, .int num, .ref th])
  t : M[i]? = some (th, .lst xs)
/-- a list that is another cell than the one at n, or frozen -/
def LstN (K : PySem.W.Frag) (G : Hp) (M : Mem) (n : Nat) (b : Addr) (xs : List V) : Prop := (∃ i, n ≠ i ∧ M[i]? = some (b, .lst xs)) ∨ SqL K G b xs
def S_Keeper_init (K : PySem.W.Frag) : KSp := sp1 fun x G M R Z => ∃ (a dx : Addr) (n : Nat), x = .ref a ∧ M[n]? = some (a, Ob K 1 dx []) ∧ ∀ lg, Fr G M lg → R .non G ((lg, .lst []) :: M.set n (a, Ob K 1 dx [.ref lg]))
def S_Keeper_sees (K : PySem.W.Frag) : KSp := sp4 fun x y z u G M R Z => ∃ (kp dk lg : Addr) (j l : Nat) (o : HO) (ts : List Tch) (t : Tch), x = .ref kp ∧ y = .str t.txt ∧ z = .int t.shelf ∧ u = .int t.room ∧ KeepAt K G M kp dk lg j l o ts ∧ ts.length ≤ 1000000 ∧
  ∀ G' o', Ex G G' → LogC K G' (ts ++ [t]) o' → R .non G' (M.set l (lg, o'))
def S_Shelf_init (K : PySem.W.Frag) : KSp := sp4 fun x y z u G M R Z => ∃ (a dx b : Addr) (n : Nat) (xs : List V), x = .ref a ∧ u = .ref b ∧ M[n]? = some (a, Ob K 2 dx []) ∧ LstN K G M n b xs ∧ ∀ th, Fr G M th → R .non G ((th, .lst xs) :: M.set n (a, Ob K 2 dx [y, z, .ref th]))
def S_Shelf_need_room (K : PySem.W.Frag) : KSp := sp2 fun x y G M R Z => ∃ (a dx kp th : Addr) (num n i : Nat) (xs : List V) (T : PT), x = .ref a ∧ ShelfAt K M a dx kp th num n i xs ∧ TyK K G M y T ∧ (T == .int) = isIntV y ∧ (withinV y 0 ((xs.length : Int) - 1) = true → R .non G M) ∧ (withinV y 0 ((xs.length : Int) - 1) = false → Z (.ref (cl K "NoRoom")) none G M)
def S_Shelf_look (K : PySem.W.Frag) : KSp := sp2 fun x y G M R Z => ∃ (a dx kp th : Addr) (num n i : Nat) (xs : List V), x = .ref a ∧ ShelfAt K M a dx kp th num n i xs ∧
  ((∃ T : PT, TyK K G M y T ∧ (T == .int) = isIntV y ∧ withinV y 0 ((xs.length : Int) - 1) = false ∧ Z (.ref (cl K "NoRoom")) none G M) ∨
   ∃ (dk lg : Addr) (j l : Nat) (o : HO) (ts : List Tch) (r : Nat) (v : V), y = .int r ∧ KeepAt K G M kp dk lg j l o ts ∧ ts.length ≤ 1000000 ∧ xs[r]? = some v ∧ l ≠ i ∧ ∀ G' o', Ex G G' → LogC K G' (ts ++ [⟨false, num, r⟩]) o' → R v G' (M.set l (lg, o')))
def S_Shelf_lay (K : PySem.W.Frag) : KSp := sp3 fun x y z G M R Z => ∃ (a dx kp th : Addr) (num n i : Nat) (xs : List V), x = .ref a ∧ ShelfAt K M a dx kp th num n i xs ∧
  ((∃ T : PT, TyK K G M y T ∧ (T == .int) = isIntV y ∧ withinV y 0 ((xs.length : Int) - 1) = false ∧ Z (.ref (cl K "NoRoom")) none G M) ∨
   ∃ (dk lg : Addr) (j l : Nat) (o : HO) (ts : List Tch) (r : Nat), y = .int r ∧ KeepAt K G M kp dk lg j l o ts ∧ ts.length ≤ 1000000 ∧ r < xs.length ∧ l ≠ i ∧ l ≠ n ∧ ∀ G' o', Ex G G' → LogC K G' (ts ++ [⟨true, num, r⟩]) o' → R .non G' ((M.set l (lg, o')).set i (th, .lst (xs.set r z))))

/-! ### what stores of all ways have -/
structure StoreF where
  cells : Nat
  limit : Nat
  draws : Addr
  keeper : Addr
  made : Nat
def StoreF.vs (f : StoreF) : List V := [.int f.cells, .int f.limit, .ref f.draws, .ref f.keeper, .int f.made]
def S_Store_left (K : PySem.W.Frag) : KSp := sp1 fun x G M R Z => ∃ (a : Addr) (k : Nat) (dx : Addr) (f : StoreF) (r : List V), x = .ref a ∧ k ∈ storeKs ∧ At G M a (Ob K k dx (f.vs ++ r)) ∧ R (.int ((f.limit : Int) - f.made)) G M
def S_Store_init (K : PySem.W.Frag) : KSp := sp5 fun x w y z u G M R Z => ∃ (a dx b : Addr) (n k : Nat) (s : Str) (m q : Nat) (ds : List Dr), x = .ref a ∧ k ∈ storeKs ∧ M[n]? = some (a, Ob K k dx []) ∧ w = .str s ∧ natOk y m 1 32 ∧ natOk z q 0 60 ∧ u = .ref b ∧ DrAt K G M b ds ∧ A2 DrOk (kindsK s m q) ds ∧ (∀ kn, kn ∈ kindsK s m q → KnOk kn) ∧ (kindsK s m q).length ≤ 1000 ∧
  ∀ (dr kp dk lg : Addr) (G' : Hp), Ex G G' → DrsG K G' dr ds → R .non G' ((lg, .lst []) :: (kp, Ob K 1 dk [.ref lg]) :: M.set n (a, Ob K k dx (StoreF.vs ⟨m, q, dr, kp, 0⟩)))
def Deed.word : Deed → V
  | .read _ => .non
  | .write _ w => .int w
def S_word_asked (K : PySem.W.Frag) : KSp := sp1 fun x G M R Z => ∃ d : Deed, DeedAt K G x d ∧ R d.word G M

/-! ### stores, seen from without -/
def plainW (m : Nat) (ds : List Deed) : List Nat := ds.foldl (fun ws d => d.upd ws) (List.replicate m 0)
theorem plainW_snoc {m : Nat} {ds : List Deed} {d : Deed} : plainW m (ds ++ [d]) = d.upd (plainW m ds) := by unfold plainW; rw [List.foldl_append]; rfl
theorem deedUpd_len {ws : List Nat} {d : Deed} : (d.upd ws).length = ws.length := by
  cases d with
  | read c => rfl
  | write c w => exact List.length_set
def toldW (m : Nat) (ds : List Deed) (d : Deed) : Nat := (plainW m ds).getD d.cell 0
/-- what every law needs to see of a store's cells -/
structure Seen (K : PySem.W.Frag) (w m lim made : Nat) (ts : List Tch) (G : Hp) (a : Addr) (B : Mem) : Prop where
  ex : ∃ (dx dr kp dk lg : Addr) (o : HO) (r : List V), (a, Ob K w dx (StoreF.vs ⟨m, lim, dr, kp, made⟩ ++ r)) ∈ B ∧ (kp, Ob K 1 dk [.ref lg]) ∈ B ∧ (lg, o) ∈ B ∧ LogC K G ts o
/-- a method's call, the object told -/
def mcall (K : PySem.W.Frag) (tab : List (Nat × KSp)) (a : Addr) (ws : List V) (G : Hp) (M : Mem) (R : KR) (E : KX) : Prop := ∃ (k : Nat) (dx : Addr) (vs : List V) (S : KSp), At G M a (Ob K k dx vs) ∧ tab.lookup k = some S ∧ S (.ref a :: ws) G M R E
/-- an ask, of a store of which P is known -/
def faceAsk (K : PySem.W.Frag) (P : Hp → List Deed → Mem → Prop) (m lim : Nat) (y : V) (G : Hp) (M : Mem) (R : KR) (Z : KX) : Prop := ∃ (ds : List Deed) (B F : Mem), M.Perm (F ++ B) ∧ P G ds B ∧
  ((AskV K G M m y false ∧ Z (.ref (cl K "NoAsk")) none G M) ∨ ∃ d : Deed, DeedAt K G y d ∧ DeedOk m d ∧
    ((lim ≤ ds.length ∧ Z (.ref (cl K "Over")) none G M) ∨ (ds.length < lim ∧ ∀ G' B', Ex G G' → P G' (ds ++ [d]) B' → R (.int (toldW m ds d : Nat)) G' (F ++ B'))))

/-! ### trees of rooms -/
/-- what is in hand: words and leaves by cells -/
abbrev HF := Nat → Option (Nat × Nat)
def HF.put (f : HF) (c : Nat) (p : Nat × Nat) : HF := fun x => if x = c then some p else f x
/-- what lies in the rooms -/
abbrev Th := List (Option (Nat × Nat × Nat))
def entD : Option (Nat × Nat × Nat) → PyData
  | none => .none
  | some e => .tuple [.int e.1, .int e.2.1, .int e.2.2]
def nodeN (high d leaf : Nat) : Nat := 2 ^ d - 1 + leaf / 2 ^ (high - d)
def fitB (high d node : Nat) (f : HF) (c : Nat) : Bool := match f c with
  | some p => decide (nodeN high d p.2 = node)
  | none => false
def fitsN (m high d node : Nat) (f : HF) : List Nat := ((List.range m).filter (fitB high d node f)).take 2
def lookR (th : Th) (f : HF) (r : Nat) : HF := match th.getD r none with
  | some e => f.put e.1 e.2
  | none => f
def lookW (th : Th) (high leaf : Nat) (f : HF) (k : Nat) : HF := (List.range k).foldl (fun f d => lookR th (lookR th f (2 * nodeN high d leaf)) (2 * nodeN high d leaf + 1)) f
def lookT (num high leaf k : Nat) : List Tch := (List.range k).flatMap fun d => [⟨false, num, 2 * nodeN high d leaf⟩, ⟨false, num, 2 * nodeN high d leaf + 1⟩]
def takeC (f : HF) (cs : List Nat) (s : Nat) : Option (Nat × Nat × Nat) := match cs[s]? with
  | some c => (f c).map fun p => (c, p)
  | none => none
def layD (m high leaf : Nat) (s : Th × HF) (d : Nat) : Th × HF :=
  ((s.1.set (2 * nodeN high d leaf) (takeC s.2 (fitsN m high d (nodeN high d leaf) s.2) 0)).set (2 * nodeN high d leaf + 1) (takeC s.2 (fitsN m high d (nodeN high d leaf) s.2) 1), fun x => if x ∈ fitsN m high d (nodeN high d leaf) s.2 then none else s.2 x)
def layW (m high leaf : Nat) (s : Th × HF) (k : Nat) : Th × HF := (List.range k).foldl (fun s i => layD m high leaf s (high - i)) s
def layT (num high leaf k : Nat) : List Tch := (List.range k).flatMap fun i => [⟨true, num, 2 * nodeN high (high - i) leaf⟩, ⟨true, num, 2 * nodeN high (high - i) leaf + 1⟩]
def wayT (num high leaf : Nat) : List Tch := lookT num high leaf (high + 1) ++ layT num high leaf (high + 1)
structure HandF (K : PySem.W.Frag) (G : Hp) (m : Nat) (hv : List (Key × V)) (f : HF) : Prop where
  nd : (hv.map (·.1)).Nodup
  key : ∀ p, p ∈ hv → ∃ c : Nat, c < m ∧ p.1 = Sum.inl (c : Int)
  non : ∀ c : Nat, f c = none → valV hv (Sum.inl (c : Int)) = none
  val : ∀ (c : Nat) (p : Nat × Nat), f c = some p → ∃ v, valV hv (Sum.inl (c : Int)) = some v ∧ Dp K G v (.tuple [.int p.1, .int p.2])
structure BodyA where
  b : Addr
  db : Addr
  sh : Addr
  dh : Addr
  th : Addr
  fs : Addr
  hd : Addr
def bodyB (K : PySem.W.Frag) (A : BodyA) (kp : Addr) (num high : Nat) (xs : List V) (hv : List (Key × V)) : Mem :=
  [(A.b, Ob K 8 A.db [.ref A.sh, .int high, .ref A.fs, .ref A.hd]), (A.sh, Ob K 2 A.dh [.ref kp, .int num, .ref A.th]), (A.th, .lst xs), (A.hd, .dK hv)]
def keepB (K : PySem.W.Frag) (kp dk lg : Addr) (o : HO) : Mem := [(kp, Ob K 1 dk [.ref lg]), (lg, o)]
structure BodyI (K : PySem.W.Frag) (G : Hp) (A : BodyA) (m high : Nat) (fs : List Nat) (th : Th) (f : HF) (xs : List V) (hv : List (Key × V)) : Prop where
  sf : SqL K G A.fs (natsV fs)
  fl : fs.length = m
  sx : DpAll K G xs (th.map entD)
  sv : HandF K G m hv f
  tl : th.length = 2 * (2 * 2 ^ high - 1)
  tm : ∀ (r : Nat) (e : Nat × Nat × Nat), th[r]? = some (some e) → e.1 < m
  hi : high ≤ 6
  m1 : m ≤ 32
def S_node_at (K : PySem.W.Frag) : KSp := sp3 fun x y z G M R Z => ∃ h d l : Nat, x = .int h ∧ y = .int d ∧ z = .int l ∧ d ≤ h ∧ h ≤ 6 ∧ R (.int (nodeN h d l : Nat)) G M
def S_room_of (K : PySem.W.Frag) : KSp := sp2 fun x y G M R Z => ∃ n s : Nat, x = .int n ∧ y = .int s ∧ R (.int (2 * n + s : Nat)) G M
def S_Body_init (K : PySem.W.Frag) : KSp := sp5 fun x y z u w G M R Z => ∃ (a dx kp b : Addr) (num high m : Nat) (fs : List Nat) (F : Mem), x = .ref a ∧ y = .ref kp ∧ z = .int num ∧ u = .int high ∧ w = .ref b ∧ M = (a, Ob K 8 dx []) :: F ∧ LstN K G M 0 b (natsV fs) ∧ fs.length = m ∧ m ≤ 32 ∧ high ≤ 6 ∧
  ∀ (A : BodyA) (G' : Hp) (xs : List V), A.b = a → Ex G G' → BodyI K G' A m high fs (List.replicate (2 * (2 * 2 ^ high - 1)) none) (fun _ => none) xs [] → R .non G' (bodyB K A kp num high xs [] ++ F)
def S_Body_look_way (K : PySem.W.Frag) : KSp := sp2 fun x y G M R Z => ∃ (A : BodyA) (kp dk lg : Addr) (o : HO) (ts : List Tch) (num m high leaf : Nat) (fs : List Nat) (th : Th) (f : HF) (xs : List V) (hv : List (Key × V)) (F : Mem), x = .ref A.b ∧ y = .int leaf ∧ M.Perm (bodyB K A kp num high xs hv ++ (keepB K kp dk lg o ++ F)) ∧ BodyI K G A m high fs th f xs hv ∧ LogC K G ts o ∧ leaf < 2 ^ high ∧ ts.length ≤ 900000 ∧
  ∀ G' o' hv', Ex G G' → LogC K G' (ts ++ lookT num high leaf (high + 1)) o' → BodyI K G' A m high fs th (lookW th high leaf f (high + 1)) xs hv' → R .non G' (bodyB K A kp num high xs hv' ++ (keepB K kp dk lg o' ++ F))
def S_Body_word_of (K : PySem.W.Frag) : KSp := sp2 fun x y G M R Z => ∃ (A : BodyA) (kp : Addr) (num m high c : Nat) (fs : List Nat) (th : Th) (f : HF) (xs : List V) (hv : List (Key × V)) (F : Mem), x = .ref A.b ∧ y = .int c ∧ M.Perm (bodyB K A kp num high xs hv ++ F) ∧ BodyI K G A m high fs th f xs hv ∧ c < m ∧ R (.int (match f c with | some p => p.1 | none => fs.getD c 0 : Nat)) G M
def S_Body_keep (K : PySem.W.Frag) : KSp := sp4 fun x y z u G M R Z => ∃ (A : BodyA) (kp : Addr) (num m high c w l : Nat) (fs : List Nat) (th : Th) (f : HF) (xs : List V) (hv : List (Key × V)) (F : Mem), x = .ref A.b ∧ y = .int c ∧ z = .int w ∧ u = .int l ∧ M.Perm (bodyB K A kp num high xs hv ++ F) ∧ BodyI K G A m high fs th f xs hv ∧ c < m ∧
  ∀ G' hv', Ex G G' → BodyI K G' A m high fs th (f.put c (w, l)) xs hv' → R .non G' (bodyB K A kp num high xs hv' ++ F)
def S_Body_fitting (K : PySem.W.Frag) : KSp := sp3 fun x y z G M R Z => ∃ (A : BodyA) (kp : Addr) (num m high d node : Nat) (fs : List Nat) (th : Th) (f : HF) (xs : List V) (hv : List (Key × V)) (F : Mem), x = .ref A.b ∧ y = .int d ∧ z = .int node ∧ M = bodyB K A kp num high xs hv ++ F ∧ BodyI K G A m high fs th f xs hv ∧ d ≤ high ∧
  ∀ p, Fr G M p → R (.ref p) G ((p, .lst (natsV (fitsN m high d node f))) :: M)
def S_Body_lay_way (K : PySem.W.Frag) : KSp := sp2 fun x y G M R Z => ∃ (A : BodyA) (kp dk lg : Addr) (o : HO) (ts : List Tch) (num m high leaf : Nat) (fs : List Nat) (th : Th) (f : HF) (xs : List V) (hv : List (Key × V)) (F : Mem), x = .ref A.b ∧ y = .int leaf ∧ M.Perm (bodyB K A kp num high xs hv ++ (keepB K kp dk lg o ++ F)) ∧ BodyI K G A m high fs th f xs hv ∧ LogC K G ts o ∧ leaf < 2 ^ high ∧ ts.length ≤ 900000 ∧
  ∀ G' o' xs' hv', Ex G G' → LogC K G' (ts ++ layT num high leaf (high + 1)) o' → BodyI K G' A m high fs (layW m high leaf (th, f) (high + 1)).1 (layW m high leaf (th, f) (high + 1)).2 xs' hv' → R .non G' (bodyB K A kp num high xs' hv' ++ (keepB K kp dk lg o' ++ F))
def S_Body_cells_in_hand (K : PySem.W.Frag) : KSp := sp1 fun x G M R Z => ∃ (A : BodyA) (kp : Addr) (num m high : Nat) (fs : List Nat) (th : Th) (f : HF) (xs : List V) (hv : List (Key × V)) (F : Mem), x = .ref A.b ∧ M.Perm (bodyB K A kp num high xs hv ++ F) ∧ BodyI K G A m high fs th f xs hv ∧
  ∀ p, Fr G M p → R (.ref p) G ((p, .lst (natsV ((List.range m).filter fun c => (f c).isSome))) :: M)
/-! ### a tree as a store -/
structure TreeA where
  s : Addr
  ds : Addr
  dr : Addr
  kp : Addr
  dk : Addr
  lg : Addr
  tb : Addr
  b : BodyA
def treeB (K : PySem.W.Frag) (A : TreeA) (m lim made high : Nat) (o : HO) (xs : List V) (hv : List (Key × V)) (tb : List Nat) : Mem :=
  bodyB K A.b A.kp 0 high xs hv ++ (keepB K A.kp A.dk A.lg o ++ [(A.s, Ob K 6 A.ds (StoreF.vs ⟨m, lim, A.dr, A.kp, made⟩ ++ [.ref A.b.b, .ref A.tb])), (A.tb, .lst (natsV tb))])
/-- what a tree is: rooms, hand, leaves -/
structure TrM where
  th : Th
  f : HF
  tb : List Nat
def trKeep (m : Nat) (d : Deed) (fresh : Nat) (s : TrM) : HF := (lookW s.th (highN m) (s.tb.getD d.cell 0) s.f (highN m + 1)).put d.cell ((match lookW s.th (highN m) (s.tb.getD d.cell 0) s.f (highN m + 1) d.cell with | some p => d.put p.1 | none => d.put 0), fresh)
def trTold (m : Nat) (d : Deed) (s : TrM) : Nat := match lookW s.th (highN m) (s.tb.getD d.cell 0) s.f (highN m + 1) d.cell with
  | some p => p.1
  | none => 0
def trAsk (m : Nat) (d : Deed) (fresh : Nat) (s : TrM) : TrM :=
  ⟨(layW m (highN m) (s.tb.getD d.cell 0) (s.th, trKeep m d fresh s) (highN m + 1)).1, (layW m (highN m) (s.tb.getD d.cell 0) (s.th, trKeep m d fresh s) (highN m + 1)).2, s.tb.set d.cell fresh⟩
def trAskT (m : Nat) (d : Deed) (s : TrM) : List Tch := wayT 0 (highN m) (s.tb.getD d.cell 0)
structure TreeI (K : PySem.W.Frag) (G : Hp) (A : TreeA) (m lim : Nat) (drs : List Nat) (s : TrM) (o : HO) (xs : List V) (hv : List (Key × V)) (ts : List Tch) : Prop where
  bd : BodyI K G A.b m (highN m) (List.replicate m 0) s.th s.f xs hv
  log : LogC K G ts o
  dr : SqL K G A.dr (natsV drs)
  dl : drs.length = m + lim
  dk : ∀ x, x ∈ drs → x < 2 ^ highN m
  tl : s.tb.length = m
  tk : ∀ x, x ∈ s.tb → x < 2 ^ highN m
  m0 : 1 ≤ m
  m1 : m ≤ 32
def S_Tree_answered (K : PySem.W.Frag) : KSp := sp3 fun x y z G M R Z => ∃ (A : TreeA) (m lim made : Nat) (drs : List Nat) (s : TrM) (o : HO) (xs : List V) (hv : List (Key × V)) (ts : List Tch) (d : Deed) (F : Mem), x = .ref A.s ∧ y = .int d.cell ∧ z = d.word ∧ M = treeB K A m lim made (highN m) o xs hv s.tb ++ F ∧ TreeI K G A m lim drs s o xs hv ts ∧ DeedOk m d ∧ made < lim ∧ ts.length ≤ 600000 ∧
  ∀ G' o' xs' hv', Ex G G' → TreeI K G' A m lim drs (trAsk m d (drs.getD (m + made) 0) s) o' xs' hv' (ts ++ trAskT m d s) → R (.int (trTold m d s : Nat)) G' (treeB K A m lim made (highN m) o' xs' hv' (trAsk m d (drs.getD (m + made) 0) s).tb ++ F)
def S_Tree_init (K : PySem.W.Frag) : KSp := sp4 fun x y z u G M R Z => ∃ (a dx b : Addr) (m q : Nat) (drs : List Nat) (F : Mem), x = .ref a ∧ M = (a, Ob K 6 dx []) :: F ∧ natOk y m 1 32 ∧ natOk z q 0 60 ∧ u = .ref b ∧ DrAt K G M b (drs.map Dr.leaf) ∧ drs.length = m + q ∧ (∀ x, x ∈ drs → x < 2 ^ highN m) ∧
  ∀ (A : TreeA) (G' : Hp) (o : HO) (xs : List V), A.s = a → Ex G G' → TreeI K G' A m q drs ⟨List.replicate (2 * (2 * 2 ^ highN m - 1)) none, fun _ => none, drs.take m⟩ o xs [] [] → R .non G' (treeB K A m q 0 (highN m) o xs [] (drs.take m) ++ F)
def S_Tree_pocket (K : PySem.W.Frag) : KSp := sp1 fun x G M R Z => ∃ (A : TreeA) (m lim made : Nat) (drs : List Nat) (s : TrM) (o : HO) (xs : List V) (hv : List (Key × V)) (ts : List Tch) (F : Mem), x = .ref A.s ∧ M.Perm (F ++ treeB K A m lim made (highN m) o xs hv s.tb) ∧ TreeI K G A m lim drs s o xs hv ts ∧
  ∀ p, Fr G M p → R (.ref p) G ((p, .lst (natsV ((List.range m).filter fun c => (s.f c).isSome))) :: M)
/-- a tree, asked these -/
def trGo (m : Nat) (drs : List Nat) : Nat → List Deed → TrM → TrM
  | _, [], s => s
  | i, d :: ds, s => trGo m drs (i + 1) ds (trAsk m d (drs.getD (m + i) 0) s)
def trGoT (m : Nat) (drs : List Nat) : Nat → List Deed → TrM → List Tch
  | _, [], _ => []
  | i, d :: ds, s => trAskT m d s ++ trGoT m drs (i + 1) ds (trAsk m d (drs.getD (m + i) 0) s)
def trFirst (m : Nat) (drs : List Nat) : TrM := ⟨List.replicate (2 * (2 * 2 ^ highN m - 1)) none, fun _ => none, drs.take m⟩
def trS (m : Nat) (drs : List Nat) (ds : List Deed) : TrM := trGo m drs 0 ds (trFirst m drs)
def trTs (m : Nat) (drs : List Nat) (ds : List Deed) : List Tch := trGoT m drs 0 ds (trFirst m drs)
def pk6 (m : Nat) (drs : List Nat) (ds : List Deed) : List Nat := (List.range m).filter fun c => ((trS m drs ds).f c).isSome
def St6 (K : PySem.W.Frag) (m lim : Nat) (drs : List Nat) (G : Hp) (ds : List Deed) (a : Addr) (B : Mem) : Prop := ∃ (A : TreeA) (o : HO) (xs : List V) (hv : List (Key × V)), a = A.s ∧ B = treeB K A m lim ds.length (highN m) o xs hv (trS m drs ds).tb ∧ TreeI K G A m lim drs (trS m drs ds) o xs hv (trTs m drs ds) ∧ ds.length ≤ lim ∧ lim ≤ 60 ∧ ∀ d, d ∈ ds → DeedOk m d

/-! ### signs: what they are -/
inductive Sg
  | room (lay : Bool) (sh r : Nat)
  | item (lay : Bool) (sh dr it : Nat)
  | way (lay : Bool) (sh dr dep sd : Nat)
  deriving DecidableEq
def deedS (b : Bool) : Str := if b then "lay" else "look"
def Sg.vs : Sg → List V
  | .room b s r => [.str "room", .str (deedS b), .int s, .int r]
  | .item b s d i => [.str "item", .str (deedS b), .int s, .int d, .int i]
  | .way b s d p e => [.str "way", .str (deedS b), .int s, .int d, .int p, .int e]
def AsksAt (K : PySem.W.Frag) (G : Hp) (M : Mem) (a : Addr) (ds : List Deed) : Prop := ∃ us, LstAt K G M a us ∧ A2 (fun v d => DeedAt K G v d) us ds
def DsOk (m : Nat) (ds : List Deed) : Prop := (∀ d, d ∈ ds → DeedOk m d) ∧ ds.length ≤ 60
/-- a grove's trees hold an ask's cells -/
structure TreesOk (ts : List Nat) (m : Nat) : Prop where
  len : ts.length ≤ 3
  ok : ∀ t, t ∈ ts → 1 ≤ t ∧ t ≤ 32
  le : ∀ t, t < ts.length → ∀ c, c < m → c / 2 ^ (2 * t) < ts.getD t 0
/-- a thing that may be a list of asks -/
def AsksV (K : PySem.W.Frag) (G : Hp) (M : Mem) (m : Int) (y : V) (b : Bool) : Prop := (∃ T : PT, TyK K G M y T ∧ T ≠ .list ∧ b = false) ∨
  ∃ (a : Addr) (xs : List V), y = .ref a ∧ LstAt K G M a xs ∧ xs.length ≤ 1000 ∧ ((60 < xs.length ∧ b = false) ∨ (xs.length ≤ 60 ∧ ∃ bs : List Bool, A2 (fun x b => AskV K G M m x b) xs bs ∧ b = bs.all id))
def S_look_at_asks (K : PySem.W.Frag) : KSp := sp2 fun x y G M R Z => ∃ (m : Nat) (b : Bool), x = .int m ∧ AsksV K G M m y b ∧ (b = true → R .non G M) ∧ (b = false → Z (.ref (cl K "NoAsk")) none G M)

def S_Store_ask (K : PySem.W.Frag) : KSp := sp2 fun x y G M R Z => ∃ (m lim : Nat) (drs : List Nat) (a : Addr), x = .ref a ∧ faceAsk K (fun G ds B => St6 K m lim drs G ds a B) m lim y G M R Z
/-! ### how much the pocket comes to hold -/
def peakF (m : Nat) (drs : List Nat) (ds : List Deed) : Nat := ((List.range ds.length).map fun i => (pk6 m drs (ds.take (i + 1))).length).foldl max 0
def leafKs (m n : Nat) : List Kn := List.replicate n ⟨true, highN m⟩
def lvs (ds : List Dr) : List Nat := ds.map fun d => match d with
  | .leaf n => n
  | .row _ => 0
def tallyF (m : Nat) (ps : List Nat) : List Nat := (List.range (m + 1)).map fun s => (ps.filter fun p => decide (s ≤ p)).length
def pocketsF (m : Nat) (fs : List Nat) (ds : List Deed) : List Nat := tallyF m ((List.range (prK (leafKs m ds.length))).map fun r => peakF m (fs ++ lvs (drawsAt (leafKs m ds.length) r)) ds)
def rowsL (h : Nat) : Nat → List (List Nat)
  | 0 => [[]]
  | n + 1 => (rowsL h n).flatMap fun r => (List.range (2 ^ h)).map fun x => r ++ [x]
def dueF (m : Nat) (fs : List Nat) (ds : List Deed) : List Nat := tallyF m ((rowsL (highN m) ds.length).map fun r => peakF m (fs ++ r) ds)
/-- asks that are frozen -/
def AsksG (K : PySem.W.Frag) (G : Hp) (y : V) (ds : List Deed) : Prop := ∃ (a : Addr) (av : List V), y = .ref a ∧ SqL K G a av ∧ A2 (fun v d => DeedAt K G v d) av ds
def LowN (h : Nat) (l : List Nat) : Prop := ∀ x, x ∈ l → x < 2 ^ h
def S_peak (K : PySem.W.Frag) : KSp := sp3 fun x y z G M R Z => ∃ (m : Nat) (ds : List Deed) (b : Addr) (drs : List Nat), natOk x m 1 32 ∧ AsksG K G y ds ∧ DsOk m ds ∧ z = .ref b ∧ LstAt K G M b (natsV drs) ∧ drs.length = m + ds.length ∧ LowN (highN m) drs ∧ ∀ G', Ex G G' → R (.int (peakF m drs ds : Nat)) G' M
def S_pockets_of (K : PySem.W.Frag) : KSp := sp3 fun x y z G M R Z => ∃ (m : Nat) (ds : List Deed) (b : Addr) (fs : List Nat), natOk x m 1 32 ∧ AsksG K G y ds ∧ DsOk m ds ∧ z = .ref b ∧ At G M b (.lst (natsV fs)) ∧ fs.length = m ∧ LowN (highN m) fs ∧ prK (leafKs m ds.length) ≤ 1000 ∧ ∀ p G', Ex G G' → R (.ref p) G' ((p, .lst (natsV (pocketsF m fs ds))) :: M)
def S_law_node (K : PySem.W.Frag) : KSp := sp3 fun x y z G M R Z => ∃ h d l : Nat, x = .int h ∧ y = .int d ∧ z = .int l ∧ d ≤ h ∧ h ≤ 6 ∧ R (.int (nodeN h d l : Nat)) G M
def S_law_peak (K : PySem.W.Frag) : KSp := sp4 fun x y z u G M R Z => ∃ (m : Nat) (ds : List Deed) (b : Addr) (drs : List Nat), x = .int (highN m : Nat) ∧ natOk y m 1 32 ∧ AsksG K G z ds ∧ DsOk m ds ∧ u = .ref b ∧ LstAt K G M b (natsV drs) ∧ drs.length = m + ds.length ∧ LowN (highN m) drs ∧ ∀ G', Ex G G' → R (.int (peakF m drs ds : Nat)) G' M
def S_law_rows (K : PySem.W.Frag) : KSp := sp2 fun x y G M R Z => ∃ h n : Nat, x = .int h ∧ y = .int n ∧ h ≤ 6 ∧ n ≤ 60 ∧ (∀ i, i ≤ n → (rowsL h i).length ≤ 1000) ∧ ∀ p us G', Ex G G' → A2 (fun v l => ∃ b, v = .ref b ∧ G' b = some (.lst (natsV l))) us (rowsL h n) → R (.ref p) G' ((p, .lst us) :: M)
def S_law_due (K : PySem.W.Frag) : KSp := sp3 fun x y z G M R Z => ∃ (m : Nat) (ds : List Deed) (b : Addr) (fs : List Nat), natOk x m 1 32 ∧ AsksG K G y ds ∧ DsOk m ds ∧ z = .ref b ∧ G b = some (.lst (natsV fs)) ∧ fs.length = m ∧ LowN (highN m) fs ∧ (∀ i, i ≤ ds.length → (rowsL (highN m) i).length ≤ 1000) ∧ ∀ p G', Ex G G' → R (.ref p) G' ((p, .lst (natsV (dueF m fs ds))) :: M)
def S_law_ask (K : PySem.W.Frag) : KSp := sp2 fun x y G M R Z => ∃ (p : Addr) (n : Nat) (c s : Int) (m : Nat), x = .ref p ∧ y = .int m ∧ M[n]? = some (p, pool c s) ∧ PoolOk s ∧ 1 ≤ m ∧ m ≤ 32 ∧
  ∀ (t : Addr) (d : Deed) (c' s' : Int) (G' : Hp), Ex G G' → SqT K G' t d.vs → DeedOk m d → PoolOk s' → R (.ref t) G' (M.set n (p, pool c' s'))
def S_all_draws (K : PySem.W.Frag) : KSp := sp1 fun x G M R Z => ∃ (a : Addr) (ks : List Kn), x = .ref a ∧ KnAt K G M a ks ∧ (∀ k, k ∈ ks → k.leaf = true) ∧ prK ks ≤ 1000 ∧
  ∀ (p : Addr) (vs : List V) (Mx : Mem), A2 (fun v d => ∃ b, v = V.ref b ∧ (b, HO.lst (natsV (lvs d))) ∈ Mx) vs ((List.range (prK ks)).map (drawsAt ks)) → R (.ref p) G ((p, .lst vs) :: (Mx ++ M))
/-! readings of the defs, printed by gen.py -/
def con_SIDES : List V := [.int 0, .int 1]
def tabF_body : List (Nat × Nat) := [(6, 5)]
def tabF_cells : List (Nat × Nat) := [(6, 0)]
def tabF_draws : List (Nat × Nat) := [(6, 2)]
def tabF_firsts : List (Nat × Nat) := [(8, 2)]
def tabF_hand : List (Nat × Nat) := [(8, 3)]
def tabF_high : List (Nat × Nat) := [(8, 1)]
def tabF_keeper : List (Nat × Nat) := [(2, 0), (6, 3)]
def tabF_limit : List (Nat × Nat) := [(6, 1)]
def tabF_log : List (Nat × Nat) := [(1, 0)]
def tabF_made : List (Nat × Nat) := [(6, 4)]
def tabF_number : List (Nat × Nat) := [(2, 1)]
def tabF_shelf : List (Nat × Nat) := [(8, 0)]
def tabF_table : List (Nat × Nat) := [(6, 6)]
def tabF_things : List (Nat × Nat) := [(2, 2)]
def tabM_answered (K : PySem.W.Frag) : List (Nat × KSp) := [(6, S_Tree_answered K)]
def tabM_ask (K : PySem.W.Frag) : List (Nat × KSp) := [(6, S_Store_ask K)]
def tabM_cells_in_hand (K : PySem.W.Frag) : List (Nat × KSp) := [(8, S_Body_cells_in_hand K)]
def tabM_fitting (K : PySem.W.Frag) : List (Nat × KSp) := [(8, S_Body_fitting K)]
def tabM_keep (K : PySem.W.Frag) : List (Nat × KSp) := [(8, S_Body_keep K)]
def tabM_lay (K : PySem.W.Frag) : List (Nat × KSp) := [(2, S_Shelf_lay K)]
def tabM_lay_way (K : PySem.W.Frag) : List (Nat × KSp) := [(8, S_Body_lay_way K)]
def tabM_left (K : PySem.W.Frag) : List (Nat × KSp) := [(6, S_Store_left K)]
def tabM_look (K : PySem.W.Frag) : List (Nat × KSp) := [(2, S_Shelf_look K)]
def tabM_look_way (K : PySem.W.Frag) : List (Nat × KSp) := [(8, S_Body_look_way K)]
def tabM_need_room (K : PySem.W.Frag) : List (Nat × KSp) := [(2, S_Shelf_need_room K)]
def tabM_pocket (K : PySem.W.Frag) : List (Nat × KSp) := [(6, S_Tree_pocket K)]
def tabM_sees (K : PySem.W.Frag) : List (Nat × KSp) := [(1, S_Keeper_sees K)]
def tabM_word_of (K : PySem.W.Frag) : List (Nat × KSp) := [(8, S_Body_word_of K)]
/-- law_pool(_law_script, _law_k); slots 0 _law_script, 1 _law_k, 2 _law_cell, 3 _law_seed -/
def rd_law_pool_3 (K : PySem.W.Frag) : KS :=
  kSeq (kRet (kLst (kCons (kBin (kMul) (kVar 2) (kCB (kInt) (kCons (kBin (kI0 fun i j => .bl (decide (j ≤ i))) (kVar 2) (kBin (kI CPow fun i j => .int (i ^ j.toNat)) (kC (.int 10)) (kC (.int 18)))) (kNil)))) (kCons (kVar 3) (kNil))))) (kNext)
def rd_law_pool_2 (K : PySem.W.Frag) : KS :=
  kSeq (kSet 3 (kBin (kI (fun _ j => 0 < j) fun i j => .int (i % j)) (kBin (kMul) (kBin (kAdd) (kBin (kAdd) (kBin (kI (fun _ j => 0 < j) fun i j => .int (i % j)) (kVar 2) (kC (.int 1000003))) (kBin (kMul) (kC (.int 104729)) (kVar 1))) (kC (.int 71))) (kC (.int 48271))) (kC (.int 2147483647)))) (rd_law_pool_3 K)
def rd_law_pool_1 (K : PySem.W.Frag) : KS :=
  kSeq (kIf (kT (kBin (kI0 fun i j => .bl (decide (i < j))) (kVar 1) (kCB (kLen K) (kCons (kVar 0) (kNil))))) (kSeq (kSet 2 (kBin (kIx K) (kVar 0) (kVar 1))) (kNext)) (kNext)) (rd_law_pool_2 K)
def rd_law_pool (K : PySem.W.Frag) : KS :=
  kSeq (kSet 2 (kCB (kLen K) (kCons (kVar 0) (kNil)))) (rd_law_pool_1 K)
/-- law_take(_law_pool_here, _law_many); slots 0 _law_pool_here, 1 _law_many, 2 _law_digit -/
def rd_law_take_2 (K : PySem.W.Frag) : KS :=
  kSeq (kRet (kBin (kI (fun _ j => 0 < j) fun i j => .int (i % j)) (kBin (kI CDivW fun i j => .int (i / j)) (kBin (kI (fun _ j => 0 < j) fun i j => .int (i % j)) (kBin (kMul) (kBin (kIx K) (kVar 0) (kC (.int 1))) (kBin (kIx K) (kVar 0) (kC (.int 1)))) (kC (.int 2147483629))) (kC (.int 64))) (kVar 1))) (kNext)
def rd_law_take_1 (K : PySem.W.Frag) : KS :=
  kSeq (kAsg (kBin (kI (fun _ j => 0 < j) fun i j => .int (i % j)) (kBin (kAdd) (kBin (kMul) (kBin (kIx K) (kVar 0) (kC (.int 1))) (kC (.int 48271))) (kC (.int 11))) (kC (.int 2147483647))) (kgIx (kVar 0) (kC (.int 1)))) (rd_law_take_2 K)
def rd_law_take (K : PySem.W.Frag) : KS :=
  kSeq (kIf (kT (kBin (kI0 fun i j => .bl (decide (j < i))) (kBin (kIx K) (kVar 0) (kC (.int 0))) (kC (.int 0)))) (kSeq (kSet 2 (kBin (kI (fun _ j => 0 < j) fun i j => .int (i % j)) (kBin (kIx K) (kVar 0) (kC (.int 0))) (kVar 1))) (kSeq (kAsg (kBin (kI CDivW fun i j => .int (i / j)) (kBin (kIx K) (kVar 0) (kC (.int 0))) (kVar 1)) (kgIx (kVar 0) (kC (.int 0)))) (kSeq (kRet (kVar 2)) (kNext)))) (kNext)) (rd_law_take_1 K)
/-- law_ask(_law_pool_here, _law_many); slots 0 _law_pool_here, 1 _law_many, 2 _law_cell -/
def rd_law_ask_1 (K : PySem.W.Frag) : KS :=
  kSeq (kRet (kBin (kIx K) (kLst (kCons (kTup (kCons (kC (.str "read")) (kCons (kVar 2) (kNil)))) (kCons (kTup (kCons (kC (.str "write")) (kCons (kVar 2) (kCons (kCall (S_law_take K) (kCons (kVar 0) (kCons (kC (.int 100)) (kNil)))) (kNil))))) (kNil)))) (kCall (S_law_take K) (kCons (kVar 0) (kCons (kC (.int 2)) (kNil)))))) (kNext)
def rd_law_ask (K : PySem.W.Frag) : KS :=
  kSeq (kSet 2 (kCall (S_law_take K) (kCons (kVar 0) (kCons (kBin (kIx K) (kLst (kCons (kVar 1) (kCons (kCB (kMin2) (kCons (kVar 1) (kCons (kC (.int 2)) (kNil)))) (kNil)))) (kCall (S_law_take K) (kCons (kVar 0) (kCons (kC (.int 2)) (kNil))))) (kNil))))) (rd_law_ask_1 K)
/-- law_rows(_law_high, _law_many); slots 0 _law_high, 1 _law_many, 2 _law_found, 3 _law_k, 4 _law_more, 5 _law_row, 6 _law_leaf -/
def rd_law_rows_b1 (K : PySem.W.Frag) : KS :=
  kSeq (kSet 4 (kBin (kAdd) (kVar 4) (kComp (kiR1 (kCons (kBin (kI CPow fun i j => .int (i * 2 ^ j.toNat)) (kC (.int 1)) (kVar 0)) (kNil))) (kgName 6) (kYes) (kBin (kAdd) (kVar 5) (kLst (kCons (kVar 6) (kNil)))) [6]))) (kNext)
def rd_law_rows_b0_2 (K : PySem.W.Frag) : KS :=
  kSeq (kSet 2 (kVar 4)) (kNext)
def rd_law_rows_b0_1 (K : PySem.W.Frag) : KS :=
  kSeq (kFor (kiSeq K (kVar 2)) (kgName 5) (rd_law_rows_b1 K)) (rd_law_rows_b0_2 K)
def rd_law_rows_b0 (K : PySem.W.Frag) : KS :=
  kSeq (kSet 4 (kLst (kNil))) (rd_law_rows_b0_1 K)
def rd_law_rows_2 (K : PySem.W.Frag) : KS :=
  kSeq (kRet (kVar 2)) (kNext)
def rd_law_rows_1 (K : PySem.W.Frag) : KS :=
  kSeq (kFor (kiR1 (kCons (kVar 1) (kNil))) (kgName 3) (rd_law_rows_b0 K)) (rd_law_rows_2 K)
def rd_law_rows (K : PySem.W.Frag) : KS :=
  kSeq (kSet 2 (kLst (kCons (kLst (kNil)) (kNil)))) (rd_law_rows_1 K)
/-- law_node(_law_high, _law_depth, _law_leaf); slots 0 _law_high, 1 _law_depth, 2 _law_leaf -/
def rd_law_node (K : PySem.W.Frag) : KS :=
  kSeq (kRet (kBin (kAdd) (kBin (kI0 fun i j => .int (i - j)) (kBin (kI CPow fun i j => .int (i * 2 ^ j.toNat)) (kC (.int 1)) (kVar 1)) (kC (.int 1))) (kBin (kI CDivW fun i j => .int (i / j)) (kVar 2) (kBin (kI CPow fun i j => .int (i * 2 ^ j.toNat)) (kC (.int 1)) (kBin (kI0 fun i j => .int (i - j)) (kVar 0) (kVar 1)))))) (kNext)
/-- law_peak(_law_high, _law_many, _law_asks, _law_draws); slots 0 _law_high, 1 _law_many, 2 _law_asks, 3 _law_draws, 4 _law_held, 5 _law_nodes, 6 _law_node_here, 7 _law_hand, 8 _law_found, 9 _law_number, 10 _law_deed, 11 _law_way, 12 _law_depth, 13 _law_fits, 14 _law_cell -/
def rd_law_peak_b1 (K : PySem.W.Frag) : KS :=
  kSeq (kSet 7 (kBin (kAdd) (kVar 7) (kBin (kIx K) (kVar 5) (kVar 6)))) (kNext)
def rd_law_peak_b2_2 (K : PySem.W.Frag) : KS :=
  kSeq (kSet 7 (kComp (kiSeq K (kVar 7)) (kgName 14) (kT (kBin (kIn true K) (kVar 14) (kSl K (kVar 13) (kNoP) (kPart (kC (.int 2)))))) (kVar 14) [14])) (kNext)
def rd_law_peak_b2_1 (K : PySem.W.Frag) : KS :=
  kSeq (kAsg (kSl K (kVar 13) (kNoP) (kPart (kC (.int 2)))) (kgIx (kVar 5) (kBin (kIx K) (kVar 11) (kVar 12)))) (rd_law_peak_b2_2 K)
def rd_law_peak_b2 (K : PySem.W.Frag) : KS :=
  kSeq (kSet 13 (kComp (kiSeq K (kVar 7)) (kgName 14) (kT (kBin (kEqv false K) (kCall (S_law_node K) (kCons (kVar 0) (kCons (kVar 12) (kCons (kBin (kIx K) (kVar 4) (kVar 14)) (kNil))))) (kBin (kIx K) (kVar 11) (kVar 12)))) (kVar 14) [14])) (rd_law_peak_b2_1 K)
def rd_law_peak_b0_5 (K : PySem.W.Frag) : KS :=
  kSeq (kSet 8 (kCB (kMax2) (kCons (kVar 8) (kCons (kCB (kLen K) (kCons (kVar 7) (kNil))) (kNil))))) (kNext)
def rd_law_peak_b0_4 (K : PySem.W.Frag) : KS :=
  kSeq (kFor (kiR3 (kCons (kVar 0) (kCons (kUn kNeg (kC (.int 1))) (kCons (kUn kNeg (kC (.int 1))) (kNil))))) (kgName 12) (rd_law_peak_b2 K)) (rd_law_peak_b0_5 K)
def rd_law_peak_b0_3 (K : PySem.W.Frag) : KS :=
  kSeq (kSet 7 (kSortedSet K (kBin (kAdd) (kVar 7) (kLst (kCons (kBin (kIx K) (kVar 10) (kC (.int 1))) (kNil)))))) (rd_law_peak_b0_4 K)
def rd_law_peak_b0_2 (K : PySem.W.Frag) : KS :=
  kSeq (kFor (kiSeq K (kVar 11)) (kgName 6) (rd_law_peak_b1 K)) (rd_law_peak_b0_3 K)
def rd_law_peak_b0_1 (K : PySem.W.Frag) : KS :=
  kSeq (kAsg (kBin (kIx K) (kVar 3) (kBin (kAdd) (kVar 1) (kVar 9))) (kgIx (kVar 4) (kBin (kIx K) (kVar 10) (kC (.int 1))))) (rd_law_peak_b0_2 K)
def rd_law_peak_b0 (K : PySem.W.Frag) : KS :=
  kSeq (kSet 11 (kComp (kiR1 (kCons (kBin (kAdd) (kVar 0) (kC (.int 1))) (kNil))) (kgName 12) (kYes) (kCall (S_law_node K) (kCons (kVar 0) (kCons (kVar 12) (kCons (kBin (kIx K) (kVar 4) (kBin (kIx K) (kVar 10) (kC (.int 1)))) (kNil))))) [12])) (rd_law_peak_b0_1 K)
def rd_law_peak_5 (K : PySem.W.Frag) : KS :=
  kSeq (kRet (kVar 8)) (kNext)
def rd_law_peak_4 (K : PySem.W.Frag) : KS :=
  kSeq (kFor (kiEnum K (kCons (kVar 2) (kNil))) (kgTup K 2 (kgsCons (kgName 9) (kgsCons (kgName 10) (kgsNil)))) (rd_law_peak_b0 K)) (rd_law_peak_5 K)
def rd_law_peak_3 (K : PySem.W.Frag) : KS :=
  kSeq (kSet 8 (kC (.int 0))) (rd_law_peak_4 K)
def rd_law_peak_2 (K : PySem.W.Frag) : KS :=
  kSeq (kSet 7 (kLst (kNil))) (rd_law_peak_3 K)
def rd_law_peak_1 (K : PySem.W.Frag) : KS :=
  kSeq (kSet 5 (kComp (kiR1 (kCons (kBin (kI0 fun i j => .int (i - j)) (kBin (kI CPow fun i j => .int (i * 2 ^ j.toNat)) (kC (.int 2)) (kVar 0)) (kC (.int 1))) (kNil))) (kgName 6) (kYes) (kLst (kNil)) [6])) (rd_law_peak_2 K)
def rd_law_peak (K : PySem.W.Frag) : KS :=
  kSeq (kSet 4 (kCB (kList K) (kCons (kSl K (kVar 3) (kNoP) (kPart (kVar 1))) (kNil)))) (rd_law_peak_1 K)
/-- law_due(_law_many, _law_asks, _law_firsts); slots 0 _law_many, 1 _law_asks, 2 _law_firsts, 3 _law_high, 4 _law_k, 5 _law_due_here, 6 _law_draws, 7 _law_size -/
def rd_law_due_b1 (K : PySem.W.Frag) : KS :=
  kSeq (kAsg (kBin (kAdd) (kBin (kIx K) (kVar 5) (kVar 7)) (kC (.int 1))) (kgIx (kVar 5) (kVar 7))) (kNext)
def rd_law_due_b0 (K : PySem.W.Frag) : KS :=
  kSeq (kFor (kiR1 (kCons (kBin (kAdd) (kCall (S_law_peak K) (kCons (kVar 3) (kCons (kVar 0) (kCons (kVar 1) (kCons (kBin (kAdd) (kVar 2) (kVar 6)) (kNil)))))) (kC (.int 1))) (kNil))) (kgName 7) (rd_law_due_b1 K)) (kNext)
def rd_law_due_3 (K : PySem.W.Frag) : KS :=
  kSeq (kRet (kVar 5)) (kNext)
def rd_law_due_2 (K : PySem.W.Frag) : KS :=
  kSeq (kFor (kiW (kiSeq K (kCall (S_law_rows K) (kCons (kVar 3) (kCons (kCB (kLen K) (kCons (kVar 1) (kNil))) (kNil)))))) (kgName 6) (rd_law_due_b0 K)) (rd_law_due_3 K)
def rd_law_due_1 (K : PySem.W.Frag) : KS :=
  kSeq (kSet 5 (kBin (kMul) (kLst (kCons (kC (.int 0)) (kNil))) (kBin (kAdd) (kVar 0) (kC (.int 1))))) (rd_law_due_2 K)
def rd_law_due (K : PySem.W.Frag) : KS :=
  kSeq (kSet 3 (kCB (kLen K) (kCons (kComp (kiR1 (kCons (kC (.int 6)) (kNil))) (kgName 4) (kT (kBin (kI0 fun i j => .bl (decide (i < j))) (kBin (kI CPow fun i j => .int (i * 2 ^ j.toNat)) (kC (.int 1)) (kVar 4)) (kVar 0))) (kVar 4) [4]) (kNil)))) (rd_law_due_1 K)
/-- is_whole(thing); slots 0 thing -/
def rd_is_whole (K : PySem.W.Frag) : KS :=
  kSeq (kRet (kAndV (kCB (kIsi K) (kCons (kVar 0) (kCons (kC (.ty "int")) (kNil)))) (kNotV (kCB (kIsi K) (kCons (kVar 0) (kCons (kC (.ty "bool")) (kNil))))))) (kNext)
/-- is_within(thing, least, most); slots 0 thing, 1 least, 2 most -/
def rd_is_within (K : PySem.W.Frag) : KS :=
  kSeq (kRet (kAndV (kCall (S_is_whole K) (kCons (kVar 0) (kNil))) (kChain (kI0 fun i j => .bl (decide (i ≤ j))) (kI0 fun i j => .bl (decide (i ≤ j))) (kVar 1) (kVar 0) (kVar 2)))) (kNext)
/-- look_at_many(many); slots 0 many -/
def rd_look_at_many (K : PySem.W.Frag) : KS :=
  kSeq (kIf (kNot (kT (kCall (S_is_within K) (kCons (kVar 0) (kCons (kC (.int 1)) (kCons (kC (.int 32)) (kNil))))))) (kSeq (kRaise K "NoSize") (kNext)) (kNext)) (kNext)
/-- is_ask(many, thing); slots 0 many, 1 thing -/
def rd_is_ask_2 (K : PySem.W.Frag) : KS :=
  kSeq (kRet (kAndV (kBin (kEqv false K) (kCB (kLen K) (kCons (kVar 1) (kNil))) (kC (.int 3))) (kAndV (kBin (kEqD K) (kBin (kIx K) (kVar 1) (kC (.int 0))) (kC (.str "write"))) (kCall (S_is_within K) (kCons (kBin (kIx K) (kVar 1) (kC (.int 2))) (kCons (kC (.int 0)) (kCons (kC (.int 999999999999999999)) (kNil)))))))) (kNext)
def rd_is_ask_1 (K : PySem.W.Frag) : KS :=
  kSeq (kIf (kT (kBin (kEqv false K) (kCB (kLen K) (kCons (kVar 1) (kNil))) (kC (.int 2)))) (kSeq (kRet (kBin (kEqD K) (kBin (kIx K) (kVar 1) (kC (.int 0))) (kC (.str "read")))) (kNext)) (kNext)) (rd_is_ask_2 K)
def rd_is_ask (K : PySem.W.Frag) : KS :=
  kSeq (kIf (kOr (kNot (kT (kCB (kIsi K) (kCons (kVar 1) (kCons (kC (.ty "tuple")) (kNil)))))) (kOr (kT (kBin (kI0 fun i j => .bl (decide (i < j))) (kCB (kLen K) (kCons (kVar 1) (kNil))) (kC (.int 2)))) (kNot (kT (kCall (S_is_within K) (kCons (kBin (kIx K) (kVar 1) (kC (.int 1))) (kCons (kC (.int 0)) (kCons (kBin (kI0 fun i j => .int (i - j)) (kVar 0) (kC (.int 1))) (kNil))))))))) (kSeq (kRet (kC (.bl false))) (kNext)) (kNext)) (rd_is_ask_1 K)
/-- look_at_asks(many, asks); slots 0 many, 1 asks, 2 deed -/
def rd_look_at_asks_b0 (K : PySem.W.Frag) : KS :=
  kSeq (kIf (kNot (kT (kCall (S_is_ask K) (kCons (kVar 0) (kCons (kVar 2) (kNil)))))) (kSeq (kRaise K "NoAsk") (kNext)) (kNext)) (kNext)
def rd_look_at_asks_1 (K : PySem.W.Frag) : KS :=
  kSeq (kFor (kiSeq K (kVar 1)) (kgName 2) (rd_look_at_asks_b0 K)) (kNext)
def rd_look_at_asks (K : PySem.W.Frag) : KS :=
  kSeq (kIf (kOr (kNot (kT (kCB (kIsi K) (kCons (kVar 1) (kCons (kC (.ty "list")) (kNil)))))) (kT (kBin (kI0 fun i j => .bl (decide (j < i))) (kCB (kLen K) (kCons (kVar 1) (kNil))) (kC (.int 60))))) (kSeq (kRaise K "NoAsk") (kNext)) (kNext)) (rd_look_at_asks_1 K)
/-- high_of(many); slots 0 many, 1 high -/
def rd_high_of_b0 (K : PySem.W.Frag) : KS :=
  kSeq (kSet 1 (kBin (kAdd) (kVar 1) (kC (.int 1)))) (kNext)
def rd_high_of_2 (K : PySem.W.Frag) : KS :=
  kSeq (kRet (kVar 1)) (kNext)
def rd_high_of_1 (K : PySem.W.Frag) : KS :=
  kSeq (kWhile (kT (kBin (kI0 fun i j => .bl (decide (i < j))) (kBin (kI CPow fun i j => .int (i * 2 ^ j.toNat)) (kC (.int 1)) (kVar 1)) (kVar 0))) (rd_high_of_b0 K)) (rd_high_of_2 K)
def rd_high_of (K : PySem.W.Frag) : KS :=
  kSeq (kSet 1 (kC (.int 0))) (rd_high_of_1 K)
/-- leaves(high); slots 0 high -/
def rd_leaves (K : PySem.W.Frag) : KS :=
  kSeq (kRet (kBin (kI CPow fun i j => .int (i * 2 ^ j.toNat)) (kC (.int 1)) (kVar 0))) (kNext)
/-- is_row(size, thing); slots 0 size, 1 thing, 2 place, 3 number -/
def rd_is_row_1 (K : PySem.W.Frag) : KS :=
  kSeq (kRet (kCB (kAll K) (kCons (kComp (kiEnum K (kCons (kVar 1) (kNil))) (kgTup K 2 (kgsCons (kgName 2) (kgsCons (kgName 3) (kgsNil)))) (kYes) (kCall (S_is_within K) (kCons (kVar 3) (kCons (kC (.int 0)) (kCons (kVar 2) (kNil))))) [2, 3]) (kNil)))) (kNext)
def rd_is_row (K : PySem.W.Frag) : KS :=
  kSeq (kIf (kOr (kNot (kT (kCB (kIsi K) (kCons (kVar 1) (kCons (kC (.ty "list")) (kNil)))))) (kT (kBin (kEqv true K) (kCB (kLen K) (kCons (kVar 1) (kNil))) (kVar 0)))) (kSeq (kRet (kC (.bl false))) (kNext)) (kNext)) (rd_is_row_1 K)
/-- is_draw(kind, thing); slots 0 kind, 1 thing -/
def rd_is_draw_1 (K : PySem.W.Frag) : KS :=
  kSeq (kRet (kCall (S_is_row K) (kCons (kBin (kIx K) (kVar 0) (kC (.int 1))) (kCons (kVar 1) (kNil))))) (kNext)
def rd_is_draw (K : PySem.W.Frag) : KS :=
  kSeq (kIf (kT (kBin (kEqv false K) (kBin (kIx K) (kVar 0) (kC (.int 0))) (kC (.str "leaf")))) (kSeq (kRet (kCall (S_is_within K) (kCons (kVar 1) (kCons (kC (.int 0)) (kCons (kBin (kI0 fun i j => .int (i - j)) (kCall (S_leaves K) (kCons (kBin (kIx K) (kVar 0) (kC (.int 1))) (kNil))) (kC (.int 1))) (kNil)))))) (kNext)) (kNext)) (rd_is_draw_1 K)
/-- look_at_draws(kinds, thing); slots 0 kinds, 1 thing, 2 place, 3 kind -/
def rd_look_at_draws_b0 (K : PySem.W.Frag) : KS :=
  kSeq (kIf (kNot (kT (kCall (S_is_draw K) (kCons (kVar 3) (kCons (kBin (kIx K) (kVar 1) (kVar 2)) (kNil)))))) (kSeq (kNever) (kNext)) (kNext)) (kNext)
def rd_look_at_draws_1 (K : PySem.W.Frag) : KS :=
  kSeq (kFor (kiEnum K (kCons (kVar 0) (kNil))) (kgTup K 2 (kgsCons (kgName 2) (kgsCons (kgName 3) (kgsNil)))) (rd_look_at_draws_b0 K)) (kNext)
def rd_look_at_draws (K : PySem.W.Frag) : KS :=
  kSeq (kIf (kOr (kNot (kT (kCB (kIsi K) (kCons (kVar 1) (kCons (kC (.ty "list")) (kNil)))))) (kT (kBin (kEqv true K) (kCB (kLen K) (kCons (kVar 1) (kNil))) (kCB (kLen K) (kCons (kVar 0) (kNil)))))) (kSeq (kNever) (kNext)) (kNext)) (rd_look_at_draws_1 K)
/-- many_of(kind); slots 0 kind, 1 many, 2 number -/
def rd_many_of_b0 (K : PySem.W.Frag) : KS :=
  kSeq (kSet 1 (kBin (kMul) (kVar 1) (kVar 2))) (kNext)
def rd_many_of_3 (K : PySem.W.Frag) : KS :=
  kSeq (kRet (kVar 1)) (kNext)
def rd_many_of_2 (K : PySem.W.Frag) : KS :=
  kSeq (kFor (kiR2 (kCons (kC (.int 1)) (kCons (kBin (kAdd) (kBin (kIx K) (kVar 0) (kC (.int 1))) (kC (.int 1))) (kNil)))) (kgName 2) (rd_many_of_b0 K)) (rd_many_of_3 K)
def rd_many_of_1 (K : PySem.W.Frag) : KS :=
  kSeq (kSet 1 (kC (.int 1))) (rd_many_of_2 K)
def rd_many_of (K : PySem.W.Frag) : KS :=
  kSeq (kIf (kT (kBin (kEqv false K) (kBin (kIx K) (kVar 0) (kC (.int 0))) (kC (.str "leaf")))) (kSeq (kRet (kCall (S_leaves K) (kCons (kBin (kIx K) (kVar 0) (kC (.int 1))) (kNil)))) (kNext)) (kNext)) (rd_many_of_1 K)
/-- how_many(kinds); slots 0 kinds, 1 many, 2 kind -/
def rd_how_many_b0 (K : PySem.W.Frag) : KS :=
  kSeq (kSet 1 (kBin (kMul) (kVar 1) (kCall (S_many_of K) (kCons (kVar 2) (kNil))))) (kNext)
def rd_how_many_2 (K : PySem.W.Frag) : KS :=
  kSeq (kRet (kVar 1)) (kNext)
def rd_how_many_1 (K : PySem.W.Frag) : KS :=
  kSeq (kFor (kiSeq K (kVar 0)) (kgName 2) (rd_how_many_b0 K)) (rd_how_many_2 K)
def rd_how_many (K : PySem.W.Frag) : KS :=
  kSeq (kSet 1 (kC (.int 1))) (rd_how_many_1 K)
/-- row_at(size, number); slots 0 size, 1 number, 2 row, 3 place -/
def rd_row_at_b0_1 (K : PySem.W.Frag) : KS :=
  kSeq (kSet 1 (kBin (kI CDivW fun i j => .int (i / j)) (kVar 1) (kBin (kAdd) (kVar 3) (kC (.int 1))))) (kNext)
def rd_row_at_b0 (K : PySem.W.Frag) : KS :=
  kSeq (kExpr (kBM K "list" (kAppend) (kVar 2) (kCons (kBin (kI (fun _ j => 0 < j) fun i j => .int (i % j)) (kVar 1) (kBin (kAdd) (kVar 3) (kC (.int 1)))) (kNil)))) (rd_row_at_b0_1 K)
def rd_row_at_2 (K : PySem.W.Frag) : KS :=
  kSeq (kRet (kUn (kRevL K) (kVar 2))) (kNext)
def rd_row_at_1 (K : PySem.W.Frag) : KS :=
  kSeq (kFor (kiR3 (kCons (kBin (kI0 fun i j => .int (i - j)) (kVar 0) (kC (.int 1))) (kCons (kUn kNeg (kC (.int 1))) (kCons (kUn kNeg (kC (.int 1))) (kNil))))) (kgName 3) (rd_row_at_b0 K)) (rd_row_at_2 K)
def rd_row_at (K : PySem.W.Frag) : KS :=
  kSeq (kSet 2 (kLst (kNil))) (rd_row_at_1 K)
/-- draws_at(kinds, number); slots 0 kinds, 1 number, 2 draws, 3 kind, 4 own -/
def rd_draws_at_b0_2 (K : PySem.W.Frag) : KS :=
  kSeq (kExpr (kBM K "list" (kAppend) (kVar 2) (kCons (kIte (kT (kBin (kEqv false K) (kBin (kIx K) (kVar 3) (kC (.int 0))) (kC (.str "leaf")))) (kVar 4) (kCall (S_row_at K) (kCons (kBin (kIx K) (kVar 3) (kC (.int 1))) (kCons (kVar 4) (kNil))))) (kNil)))) (kNext)
def rd_draws_at_b0_1 (K : PySem.W.Frag) : KS :=
  kSeq (kSet 1 (kBin (kI CDivW fun i j => .int (i / j)) (kVar 1) (kCall (S_many_of K) (kCons (kVar 3) (kNil))))) (rd_draws_at_b0_2 K)
def rd_draws_at_b0 (K : PySem.W.Frag) : KS :=
  kSeq (kSet 4 (kBin (kI (fun _ j => 0 < j) fun i j => .int (i % j)) (kVar 1) (kCall (S_many_of K) (kCons (kVar 3) (kNil))))) (rd_draws_at_b0_1 K)
def rd_draws_at_3 (K : PySem.W.Frag) : KS :=
  kSeq (kRet (kUn (kRevL K) (kVar 2))) (kNext)
def rd_draws_at_2 (K : PySem.W.Frag) : KS :=
  kSeq (kFor (kiRev K (kCons (kVar 0) (kNil))) (kgName 3) (rd_draws_at_b0 K)) (rd_draws_at_3 K)
def rd_draws_at_1 (K : PySem.W.Frag) : KS :=
  kSeq (kSet 2 (kLst (kNil))) (rd_draws_at_2 K)
def rd_draws_at (K : PySem.W.Frag) : KS :=
  kSeq (kIf (kNot (kT (kCall (S_is_within K) (kCons (kVar 1) (kCons (kC (.int 0)) (kCons (kBin (kI0 fun i j => .int (i - j)) (kCall (S_how_many K) (kCons (kVar 0) (kNil))) (kC (.int 1))) (kNil))))))) (kSeq (kRaise K "NoNumber") (kNext)) (kNext)) (rd_draws_at_1 K)
/-- all_draws(kinds); slots 0 kinds, 1 many, 2 number -/
def rd_all_draws_2 (K : PySem.W.Frag) : KS :=
  kSeq (kRet (kComp (kiR1 (kCons (kVar 1) (kNil))) (kgName 2) (kYes) (kCall (S_draws_at K) (kCons (kVar 0) (kCons (kVar 2) (kNil)))) [2])) (kNext)
def rd_all_draws_1 (K : PySem.W.Frag) : KS :=
  kSeq (kIf (kT (kBin (kI0 fun i j => .bl (decide (j < i))) (kVar 1) (kC (.int 1000)))) (kSeq (kRaise K "TooMany") (kNext)) (kNext)) (rd_all_draws_2 K)
def rd_all_draws (K : PySem.W.Frag) : KS :=
  kSeq (kSet 1 (kCall (S_how_many K) (kCons (kVar 0) (kNil)))) (rd_all_draws_1 K)
/-- look_at_sizes(many, most); slots 0 many, 1 most -/
def rd_look_at_sizes_1 (K : PySem.W.Frag) : KS :=
  kSeq (kIf (kNot (kT (kCall (S_is_within K) (kCons (kVar 1) (kCons (kC (.int 0)) (kCons (kC (.int 60)) (kNil))))))) (kSeq (kRaise K "NoSize") (kNext)) (kNext)) (kNext)
def rd_look_at_sizes (K : PySem.W.Frag) : KS :=
  kSeq (kExpr (kCall (S_look_at_many K) (kCons (kVar 0) (kNil)))) (rd_look_at_sizes_1 K)
/-- side_of(many); slots 0 many, 1 side -/
def rd_side_of_b0 (K : PySem.W.Frag) : KS :=
  kSeq (kSet 1 (kBin (kAdd) (kVar 1) (kC (.int 1)))) (kNext)
def rd_side_of_2 (K : PySem.W.Frag) : KS :=
  kSeq (kRet (kVar 1)) (kNext)
def rd_side_of_1 (K : PySem.W.Frag) : KS :=
  kSeq (kWhile (kT (kBin (kI0 fun i j => .bl (decide (i < j))) (kBin (kMul) (kVar 1) (kVar 1)) (kVar 0))) (rd_side_of_b0 K)) (rd_side_of_2 K)
def rd_side_of (K : PySem.W.Frag) : KS :=
  kSeq (kSet 1 (kC (.int 1))) (rd_side_of_1 K)
/-- spare_needs(many, most); slots 0 many, 1 most, 2 side, 3 start -/
def rd_spare_needs_1 (K : PySem.W.Frag) : KS :=
  kSeq (kRet (kComp (kiR3 (kCons (kC (.int 0)) (kCons (kVar 1) (kCons (kVar 2) (kNil))))) (kgName 3) (kYes) (kTup (kCons (kC (.str "shuffle")) (kCons (kBin (kAdd) (kVar 0) (kVar 2)) (kNil)))) [3])) (kNext)
def rd_spare_needs (K : PySem.W.Frag) : KS :=
  kSeq (kSet 2 (kCall (S_side_of K) (kCons (kVar 0) (kNil)))) (rd_spare_needs_1 K)
/-- last_of(many); slots 0 many -/
def rd_last_of (K : PySem.W.Frag) : KS :=
  kSeq (kRet (kCB (kMax2) (kCons (kC (.int 0)) (kCons (kBin (kI0 fun i j => .int (i - j)) (kCall (S_high_of K) (kCons (kVar 0) (kNil))) (kC (.int 1))) (kNil))))) (kNext)
/-- stair_of(many, pour); slots 0 many, 1 pour, 2 stair -/
def rd_stair_of_b0 (K : PySem.W.Frag) : KS :=
  kSeq (kSet 2 (kBin (kAdd) (kVar 2) (kC (.int 1)))) (kNext)
def rd_stair_of_2 (K : PySem.W.Frag) : KS :=
  kSeq (kRet (kVar 2)) (kNext)
def rd_stair_of_1 (K : PySem.W.Frag) : KS :=
  kSeq (kWhile (kAnd (kT (kBin (kI0 fun i j => .bl (decide (i < j))) (kVar 2) (kCall (S_last_of K) (kCons (kVar 0) (kNil))))) (kT (kBin (kEqv false K) (kBin (kI (fun _ j => 0 < j) fun i j => .int (i % j)) (kVar 1) (kBin (kI CPow fun i j => .int (i * 2 ^ j.toNat)) (kC (.int 2)) (kVar 2))) (kC (.int 0))))) (rd_stair_of_b0 K)) (rd_stair_of_2 K)
def rd_stair_of (K : PySem.W.Frag) : KS :=
  kSeq (kSet 2 (kC (.int 0))) (rd_stair_of_1 K)
/-- slots_of(many, stair); slots 0 many, 1 stair, 2 spare -/
def rd_slots_of_2 (K : PySem.W.Frag) : KS :=
  kSeq (kRet (kTup (kCons (kVar 2) (kCons (kVar 2) (kNil))))) (kNext)
def rd_slots_of_1 (K : PySem.W.Frag) : KS :=
  kSeq (kIf (kT (kBin (kEqv false K) (kVar 1) (kCall (S_last_of K) (kCons (kVar 0) (kNil))))) (kSeq (kRet (kTup (kCons (kVar 0) (kCons (kVar 2) (kNil))))) (kNext)) (kNext)) (rd_slots_of_2 K)
def rd_slots_of (K : PySem.W.Frag) : KS :=
  kSeq (kSet 2 (kBin (kI CPow fun i j => .int (i * 2 ^ j.toNat)) (kC (.int 2)) (kVar 1))) (rd_slots_of_1 K)
/-- stairs_needs(many, most); slots 0 many, 1 most, 2 stairs, 3 pour, 4 stair -/
def rd_stairs_needs_2 (K : PySem.W.Frag) : KS :=
  kSeq (kRet (kComp (kiSeq K (kVar 2)) (kgName 4) (kYes) (kTup (kCons (kC (.str "shuffle")) (kCons (kCB (kSumS K) (kCons (kCall (S_slots_of K) (kCons (kVar 0) (kCons (kVar 4) (kNil)))) (kNil))) (kNil)))) [4])) (kNext)
def rd_stairs_needs_1 (K : PySem.W.Frag) : KS :=
  kSeq (kSet 2 (kBin (kAdd) (kLst (kCons (kCall (S_last_of K) (kCons (kVar 0) (kNil))) (kNil))) (kComp (kiR2 (kCons (kC (.int 1)) (kCons (kBin (kI CDivW fun i j => .int (i / j)) (kBin (kAdd) (kVar 1) (kC (.int 1))) (kC (.int 2))) (kNil)))) (kgName 3) (kYes) (kCall (S_stair_of K) (kCons (kVar 0) (kCons (kVar 3) (kNil)))) [3]))) (rd_stairs_needs_2 K)
def rd_stairs_needs (K : PySem.W.Frag) : KS :=
  kSeq (kIf (kT (kBin (kEqv false K) (kVar 1) (kC (.int 0)))) (kSeq (kRet (kLst (kNil))) (kNext)) (kNext)) (rd_stairs_needs_1 K)
/-- grove_needs(trees, most); slots 0 trees, 1 most, 2 kinds, 3 many -/
def rd_grove_needs_b0 (K : PySem.W.Frag) : KS :=
  kSeq (kSet 2 (kBin (kAdd) (kVar 2) (kBin (kMul) (kLst (kCons (kTup (kCons (kC (.str "leaf")) (kCons (kCall (S_high_of K) (kCons (kVar 3) (kNil))) (kNil)))) (kNil))) (kVar 3)))) (kNext)
def rd_grove_needs_2 (K : PySem.W.Frag) : KS :=
  kSeq (kRet (kBin (kAdd) (kVar 2) (kBin (kMul) (kComp (kiSeq K (kVar 0)) (kgName 3) (kYes) (kTup (kCons (kC (.str "leaf")) (kCons (kCall (S_high_of K) (kCons (kVar 3) (kNil))) (kNil)))) [3]) (kVar 1)))) (kNext)
def rd_grove_needs_1 (K : PySem.W.Frag) : KS :=
  kSeq (kFor (kiSeq K (kVar 0)) (kgName 3) (rd_grove_needs_b0 K)) (rd_grove_needs_2 K)
def rd_grove_needs (K : PySem.W.Frag) : KS :=
  kSeq (kSet 2 (kLst (kNil))) (rd_grove_needs_1 K)
/-- trees_of(many); slots 0 many, 1 found -/
def rd_trees_of_b0 (K : PySem.W.Frag) : KS :=
  kSeq (kExpr (kBM K "list" (kAppend) (kVar 1) (kCons (kBin (kI CDivW fun i j => .int (i / j)) (kBin (kI0 fun i j => .int (i - j)) (kBin (kAdd) (kBin (kIx K) (kVar 1) (kUn kNeg (kC (.int 1)))) (kC (.int 4))) (kC (.int 1))) (kC (.int 4))) (kNil)))) (kNext)
def rd_trees_of_2 (K : PySem.W.Frag) : KS :=
  kSeq (kRet (kVar 1)) (kNext)
def rd_trees_of_1 (K : PySem.W.Frag) : KS :=
  kSeq (kWhile (kT (kBin (kI0 fun i j => .bl (decide (j < i))) (kBin (kIx K) (kVar 1) (kUn kNeg (kC (.int 1)))) (kC (.int 4)))) (rd_trees_of_b0 K)) (rd_trees_of_2 K)
def rd_trees_of (K : PySem.W.Frag) : KS :=
  kSeq (kSet 1 (kLst (kCons (kVar 0) (kNil)))) (rd_trees_of_1 K)
/-- kinds_of(way, many, most); slots 0 way, 1 many, 2 most -/
def rd_kinds_of_4 (K : PySem.W.Frag) : KS :=
  kSeq (kRet (kLst (kNil))) (kNext)
def rd_kinds_of_3 (K : PySem.W.Frag) : KS :=
  kSeq (kIf (kT (kBin (kEqv false K) (kVar 0) (kC (.str "grove")))) (kSeq (kRet (kCall (S_grove_needs K) (kCons (kCall (S_trees_of K) (kCons (kVar 1) (kNil))) (kCons (kVar 2) (kNil))))) (kNext)) (kNext)) (rd_kinds_of_4 K)
def rd_kinds_of_2 (K : PySem.W.Frag) : KS :=
  kSeq (kIf (kT (kBin (kEqv false K) (kVar 0) (kC (.str "tree")))) (kSeq (kRet (kCall (S_grove_needs K) (kCons (kLst (kCons (kVar 1) (kNil))) (kCons (kVar 2) (kNil))))) (kNext)) (kNext)) (rd_kinds_of_3 K)
def rd_kinds_of_1 (K : PySem.W.Frag) : KS :=
  kSeq (kIf (kT (kBin (kEqv false K) (kVar 0) (kC (.str "stairs")))) (kSeq (kRet (kCall (S_stairs_needs K) (kCons (kVar 1) (kCons (kVar 2) (kNil))))) (kNext)) (kNext)) (rd_kinds_of_2 K)
def rd_kinds_of (K : PySem.W.Frag) : KS :=
  kSeq (kIf (kT (kBin (kEqv false K) (kVar 0) (kC (.str "spare")))) (kSeq (kRet (kCall (S_spare_needs K) (kCons (kVar 1) (kCons (kVar 2) (kNil))))) (kNext)) (kNext)) (rd_kinds_of_1 K)
/-- copied(draws); slots 0 draws, 1 draw -/
def rd_copied (K : PySem.W.Frag) : KS :=
  kSeq (kRet (kComp (kiSeq K (kVar 0)) (kgName 1) (kYes) (kIte (kT (kCB (kIsi K) (kCons (kVar 1) (kCons (kC (.ty "list")) (kNil))))) (kCB (kList K) (kCons (kVar 1) (kNil))) (kVar 1)) [1])) (kNext)
/-- Keeper_init(self); slots 0 self -/
def rd_Keeper_init (K : PySem.W.Frag) : KS :=
  kSeq (kFSet K tabF_log (kVar 0) (kLst (kNil))) (kNext)
/-- Store_init(self, way, many, most, draws); slots 0 self, 1 way, 2 many, 3 most, 4 draws -/
def rd_Store_init_6 (K : PySem.W.Frag) : KS :=
  kSeq (kFSet K tabF_made (kVar 0) (kC (.int 0))) (kNext)
def rd_Store_init_5 (K : PySem.W.Frag) : KS :=
  kSeq (kFSet K tabF_keeper (kVar 0) (kMake K 1 (S_Keeper_init K) kNil)) (rd_Store_init_6 K)
def rd_Store_init_4 (K : PySem.W.Frag) : KS :=
  kSeq (kFSet K tabF_draws (kVar 0) (kCall (S_copied K) (kCons (kVar 4) (kNil)))) (rd_Store_init_5 K)
def rd_Store_init_3 (K : PySem.W.Frag) : KS :=
  kSeq (kFSet K tabF_limit (kVar 0) (kVar 3)) (rd_Store_init_4 K)
def rd_Store_init_2 (K : PySem.W.Frag) : KS :=
  kSeq (kFSet K tabF_cells (kVar 0) (kVar 2)) (rd_Store_init_3 K)
def rd_Store_init_1 (K : PySem.W.Frag) : KS :=
  kSeq (kExpr (kCall (S_look_at_draws K) (kCons (kCall (S_kinds_of K) (kCons (kVar 1) (kCons (kVar 2) (kCons (kVar 3) (kNil))))) (kCons (kVar 4) (kNil))))) (rd_Store_init_2 K)
def rd_Store_init (K : PySem.W.Frag) : KS :=
  kSeq (kExpr (kCall (S_look_at_sizes K) (kCons (kVar 2) (kCons (kVar 3) (kNil))))) (rd_Store_init_1 K)
/-- Shelf_init(self, keeper, number, things); slots 0 self, 1 keeper, 2 number, 3 things -/
def rd_Shelf_init_2 (K : PySem.W.Frag) : KS :=
  kSeq (kFSet K tabF_things (kVar 0) (kCB (kList K) (kCons (kVar 3) (kNil)))) (kNext)
def rd_Shelf_init_1 (K : PySem.W.Frag) : KS :=
  kSeq (kFSet K tabF_number (kVar 0) (kVar 2)) (rd_Shelf_init_2 K)
def rd_Shelf_init (K : PySem.W.Frag) : KS :=
  kSeq (kFSet K tabF_keeper (kVar 0) (kVar 1)) (rd_Shelf_init_1 K)
/-- Body_init(self, keeper, number, high, firsts); slots 0 self, 1 keeper, 2 number, 3 high, 4 firsts -/
def rd_Body_init_3 (K : PySem.W.Frag) : KS :=
  kSeq (kFSet K tabF_hand (kVar 0) (kDNew)) (kNext)
def rd_Body_init_2 (K : PySem.W.Frag) : KS :=
  kSeq (kFSet K tabF_firsts (kVar 0) (kCB (kList K) (kCons (kVar 4) (kNil)))) (rd_Body_init_3 K)
def rd_Body_init_1 (K : PySem.W.Frag) : KS :=
  kSeq (kFSet K tabF_high (kVar 0) (kVar 3)) (rd_Body_init_2 K)
def rd_Body_init (K : PySem.W.Frag) : KS :=
  kSeq (kFSet K tabF_shelf (kVar 0) (kMake K 2 (S_Shelf_init K) (kCons (kVar 1) (kCons (kVar 2) (kCons (kBin (kMul) (kLst (kCons (kC .non) (kNil))) (kBin (kMul) (kC (.int 2)) (kBin (kI0 fun i j => .int (i - j)) (kBin (kI CPow fun i j => .int (i * 2 ^ j.toNat)) (kC (.int 2)) (kVar 3)) (kC (.int 1))))) (kNil)))))) (rd_Body_init_1 K)
/-- Tree_init(self, many, most, draws); slots 0 self, 1 many, 2 most, 3 draws -/
def rd_Tree_init_2 (K : PySem.W.Frag) : KS :=
  kSeq (kFSet K tabF_table (kVar 0) (kSl K (kFld K tabF_draws (kVar 0)) (kNoP) (kPart (kVar 1)))) (kNext)
def rd_Tree_init_1 (K : PySem.W.Frag) : KS :=
  kSeq (kFSet K tabF_body (kVar 0) (kMake K 8 (S_Body_init K) (kCons (kFld K tabF_keeper (kVar 0)) (kCons (kC (.int 0)) (kCons (kCall (S_high_of K) (kCons (kVar 1) (kNil))) (kCons (kBin (kMul) (kLst (kCons (kC (.int 0)) (kNil))) (kVar 1)) (kNil))))))) (rd_Tree_init_2 K)
def rd_Tree_init (K : PySem.W.Frag) : KS :=
  kSeq (kExpr (kCall (S_Store_init K) (kCons (kVar 0) (kCons (kC (.str "tree")) (kCons (kVar 1) (kCons (kVar 2) (kCons (kVar 3) (kNil)))))))) (rd_Tree_init_1 K)
/-- need_ask(many, thing); slots 0 many, 1 thing -/
def rd_need_ask (K : PySem.W.Frag) : KS :=
  kSeq (kIf (kNot (kT (kCall (S_is_ask K) (kCons (kVar 0) (kCons (kVar 1) (kNil)))))) (kSeq (kRaise K "NoAsk") (kNext)) (kNext)) (kNext)
/-- Store_left(self); slots 0 self -/
def rd_Store_left (K : PySem.W.Frag) : KS :=
  kSeq (kRet (kBin (kI0 fun i j => .int (i - j)) (kFld K tabF_limit (kVar 0)) (kFld K tabF_made (kVar 0)))) (kNext)
/-- Shelf_need_room(self, room); slots 0 self, 1 room -/
def rd_Shelf_need_room (K : PySem.W.Frag) : KS :=
  kSeq (kIf (kNot (kT (kCall (S_is_within K) (kCons (kVar 1) (kCons (kC (.int 0)) (kCons (kBin (kI0 fun i j => .int (i - j)) (kCB (kLen K) (kCons (kFld K tabF_things (kVar 0)) (kNil))) (kC (.int 1))) (kNil))))))) (kSeq (kRaise K "NoRoom") (kNext)) (kNext)) (kNext)
/-- Keeper_sees(self, deed, shelf, room); slots 0 self, 1 deed, 2 shelf, 3 room -/
def rd_Keeper_sees (K : PySem.W.Frag) : KS :=
  kSeq (kExpr (kBM K "list" (kAppend) (kFld K tabF_log (kVar 0)) (kCons (kTup (kCons (kVar 1) (kCons (kVar 2) (kCons (kVar 3) (kNil))))) (kNil)))) (kNext)
/-- Shelf_look(self, room); slots 0 self, 1 room -/
def rd_Shelf_look_2 (K : PySem.W.Frag) : KS :=
  kSeq (kRet (kBin (kIx K) (kFld K tabF_things (kVar 0)) (kVar 1))) (kNext)
def rd_Shelf_look_1 (K : PySem.W.Frag) : KS :=
  kSeq (kExpr (kMeth K (tabM_sees K) (kFld K tabF_keeper (kVar 0)) (kCons (kC (.str "look")) (kCons (kFld K tabF_number (kVar 0)) (kCons (kVar 1) (kNil)))))) (rd_Shelf_look_2 K)
def rd_Shelf_look (K : PySem.W.Frag) : KS :=
  kSeq (kExpr (kMeth K (tabM_need_room K) (kVar 0) (kCons (kVar 1) (kNil)))) (rd_Shelf_look_1 K)
/-- node_at(high, depth, leaf); slots 0 high, 1 depth, 2 leaf -/
def rd_node_at (K : PySem.W.Frag) : KS :=
  kSeq (kRet (kBin (kAdd) (kBin (kI0 fun i j => .int (i - j)) (kBin (kI CPow fun i j => .int (i * 2 ^ j.toNat)) (kC (.int 1)) (kVar 1)) (kC (.int 1))) (kBin (kI (fun _ j => 0 ≤ j) fun i j => .int (i / 2 ^ j.toNat)) (kVar 2) (kBin (kI0 fun i j => .int (i - j)) (kVar 0) (kVar 1))))) (kNext)
/-- room_of(node, side); slots 0 node, 1 side -/
def rd_room_of (K : PySem.W.Frag) : KS :=
  kSeq (kRet (kBin (kAdd) (kBin (kMul) (kC (.int 2)) (kVar 0)) (kVar 1))) (kNext)
/-- Body_look_way(self, leaf); slots 0 self, 1 leaf, 2 depth, 3 side, 4 thing -/
def rd_Body_look_way_b1_1 (K : PySem.W.Frag) : KS :=
  kSeq (kIf (kT (kBin (kIs2 true) (kVar 4) (kC .non))) (kSeq (kDSet (kFld K tabF_hand (kVar 0)) (kBin (kIx K) (kVar 4) (kC (.int 0))) (kTup (kCons (kBin (kIx K) (kVar 4) (kC (.int 1))) (kCons (kBin (kIx K) (kVar 4) (kC (.int 2))) (kNil))))) (kNext)) (kNext)) (kNext)
def rd_Body_look_way_b1 (K : PySem.W.Frag) : KS :=
  kSeq (kSet 4 (kMeth K (tabM_look K) (kFld K tabF_shelf (kVar 0)) (kCons (kCall (S_room_of K) (kCons (kCall (S_node_at K) (kCons (kFld K tabF_high (kVar 0)) (kCons (kVar 2) (kCons (kVar 1) (kNil))))) (kCons (kVar 3) (kNil)))) (kNil)))) (rd_Body_look_way_b1_1 K)
def rd_Body_look_way_b0 (K : PySem.W.Frag) : KS :=
  kSeq (kFor (kiTup K (kConT K "SIDES" con_SIDES)) (kgName 3) (rd_Body_look_way_b1 K)) (kNext)
def rd_Body_look_way (K : PySem.W.Frag) : KS :=
  kSeq (kFor (kiR1 (kCons (kBin (kAdd) (kFld K tabF_high (kVar 0)) (kC (.int 1))) (kNil))) (kgName 2) (rd_Body_look_way_b0 K)) (kNext)
/-- Body_word_of(self, cell); slots 0 self, 1 cell -/
def rd_Body_word_of_1 (K : PySem.W.Frag) : KS :=
  kSeq (kRet (kBin (kIx K) (kFld K tabF_firsts (kVar 0)) (kVar 1))) (kNext)
def rd_Body_word_of (K : PySem.W.Frag) : KS :=
  kSeq (kIf (kT (kDIn false (kVar 1) (kFld K tabF_hand (kVar 0)))) (kSeq (kRet (kBin (kIx K) (kBin kDGet (kFld K tabF_hand (kVar 0)) (kVar 1)) (kC (.int 0)))) (kNext)) (kNext)) (rd_Body_word_of_1 K)
/-- Body_keep(self, cell, word, leaf); slots 0 self, 1 cell, 2 word, 3 leaf -/
def rd_Body_keep (K : PySem.W.Frag) : KS :=
  kSeq (kDSet (kFld K tabF_hand (kVar 0)) (kVar 1) (kTup (kCons (kVar 2) (kCons (kVar 3) (kNil))))) (kNext)
/-- Body_fitting(self, depth, node); slots 0 self, 1 depth, 2 node, 3 found, 4 cell -/
def rd_Body_fitting_1 (K : PySem.W.Frag) : KS :=
  kSeq (kRet (kSl K (kVar 3) (kNoP) (kPart (kC (.int 2))))) (kNext)
def rd_Body_fitting (K : PySem.W.Frag) : KS :=
  kSeq (kSet 3 (kComp (kiSeq K (kCB kSortedD (kCons (kFld K tabF_hand (kVar 0)) (kNil)))) (kgName 4) (kT (kBin (kEqv false K) (kCall (S_node_at K) (kCons (kFld K tabF_high (kVar 0)) (kCons (kVar 1) (kCons (kBin (kIx K) (kBin kDGet (kFld K tabF_hand (kVar 0)) (kVar 4)) (kC (.int 1))) (kNil))))) (kVar 2))) (kVar 4) [4])) (rd_Body_fitting_1 K)
/-- Shelf_lay(self, room, thing); slots 0 self, 1 room, 2 thing -/
def rd_Shelf_lay_2 (K : PySem.W.Frag) : KS :=
  kSeq (kAsg (kVar 2) (kgIx (kFld K tabF_things (kVar 0)) (kVar 1))) (kNext)
def rd_Shelf_lay_1 (K : PySem.W.Frag) : KS :=
  kSeq (kExpr (kMeth K (tabM_sees K) (kFld K tabF_keeper (kVar 0)) (kCons (kC (.str "lay")) (kCons (kFld K tabF_number (kVar 0)) (kCons (kVar 1) (kNil)))))) (rd_Shelf_lay_2 K)
def rd_Shelf_lay (K : PySem.W.Frag) : KS :=
  kSeq (kExpr (kMeth K (tabM_need_room K) (kVar 0) (kCons (kVar 1) (kNil)))) (rd_Shelf_lay_1 K)
/-- Body_lay_way(self, leaf); slots 0 self, 1 leaf, 2 depth, 3 node, 4 cells, 5 side, 6 thing, 7 word, 8 own -/
def rd_Body_lay_way_b1_2 (K : PySem.W.Frag) : KS :=
  kSeq (kExpr (kMeth K (tabM_lay K) (kFld K tabF_shelf (kVar 0)) (kCons (kCall (S_room_of K) (kCons (kVar 3) (kCons (kVar 5) (kNil)))) (kCons (kVar 6) (kNil))))) (kNext)
def rd_Body_lay_way_b1_1 (K : PySem.W.Frag) : KS :=
  kSeq (kIf (kT (kBin (kI0 fun i j => .bl (decide (i < j))) (kVar 5) (kCB (kLen K) (kCons (kVar 4) (kNil))))) (kSeq (kAsg (kDPop2 (kFld K tabF_hand (kVar 0)) (kBin (kIx K) (kVar 4) (kVar 5)) (kTup (kCons (kC (.int 0)) (kCons (kC (.int 0)) (kNil))))) (kgTup K 2 (kgsCons (kgName 7) (kgsCons (kgName 8) (kgsNil))))) (kSeq (kSet 6 (kTup (kCons (kBin (kIx K) (kVar 4) (kVar 5)) (kCons (kVar 7) (kCons (kVar 8) (kNil)))))) (kNext))) (kNext)) (rd_Body_lay_way_b1_2 K)
def rd_Body_lay_way_b1 (K : PySem.W.Frag) : KS :=
  kSeq (kSet 6 (kC .non)) (rd_Body_lay_way_b1_1 K)
def rd_Body_lay_way_b0_2 (K : PySem.W.Frag) : KS :=
  kSeq (kFor (kiTup K (kConT K "SIDES" con_SIDES)) (kgName 5) (rd_Body_lay_way_b1 K)) (kNext)
def rd_Body_lay_way_b0_1 (K : PySem.W.Frag) : KS :=
  kSeq (kSet 4 (kMeth K (tabM_fitting K) (kVar 0) (kCons (kVar 2) (kCons (kVar 3) (kNil))))) (rd_Body_lay_way_b0_2 K)
def rd_Body_lay_way_b0 (K : PySem.W.Frag) : KS :=
  kSeq (kSet 3 (kCall (S_node_at K) (kCons (kFld K tabF_high (kVar 0)) (kCons (kVar 2) (kCons (kVar 1) (kNil)))))) (rd_Body_lay_way_b0_1 K)
def rd_Body_lay_way (K : PySem.W.Frag) : KS :=
  kSeq (kFor (kiR3 (kCons (kFld K tabF_high (kVar 0)) (kCons (kUn kNeg (kC (.int 1))) (kCons (kUn kNeg (kC (.int 1))) (kNil))))) (kgName 2) (rd_Body_lay_way_b0 K)) (kNext)
/-- Tree_answered(self, cell, word); slots 0 self, 1 cell, 2 word, 3 leaf, 4 told -/
def rd_Tree_answered_6 (K : PySem.W.Frag) : KS :=
  kSeq (kRet (kVar 4)) (kNext)
def rd_Tree_answered_5 (K : PySem.W.Frag) : KS :=
  kSeq (kExpr (kMeth K (tabM_lay_way K) (kFld K tabF_body (kVar 0)) (kCons (kVar 3) (kNil)))) (rd_Tree_answered_6 K)
def rd_Tree_answered_4 (K : PySem.W.Frag) : KS :=
  kSeq (kExpr (kMeth K (tabM_keep K) (kFld K tabF_body (kVar 0)) (kCons (kVar 1) (kCons (kIte (kT (kBin (kIs2 false) (kVar 2) (kC .non))) (kVar 4) (kVar 2)) (kCons (kBin (kIx K) (kFld K tabF_table (kVar 0)) (kVar 1)) (kNil)))))) (rd_Tree_answered_5 K)
def rd_Tree_answered_3 (K : PySem.W.Frag) : KS :=
  kSeq (kSet 4 (kMeth K (tabM_word_of K) (kFld K tabF_body (kVar 0)) (kCons (kVar 1) (kNil)))) (rd_Tree_answered_4 K)
def rd_Tree_answered_2 (K : PySem.W.Frag) : KS :=
  kSeq (kExpr (kMeth K (tabM_look_way K) (kFld K tabF_body (kVar 0)) (kCons (kVar 3) (kNil)))) (rd_Tree_answered_3 K)
def rd_Tree_answered_1 (K : PySem.W.Frag) : KS :=
  kSeq (kAsg (kBin (kIx K) (kFld K tabF_draws (kVar 0)) (kBin (kAdd) (kFld K tabF_cells (kVar 0)) (kFld K tabF_made (kVar 0)))) (kgIx (kFld K tabF_table (kVar 0)) (kVar 1))) (rd_Tree_answered_2 K)
def rd_Tree_answered (K : PySem.W.Frag) : KS :=
  kSeq (kSet 3 (kBin (kIx K) (kFld K tabF_table (kVar 0)) (kVar 1))) (rd_Tree_answered_1 K)
/-- word_asked(deed); slots 0 deed -/
def rd_word_asked_1 (K : PySem.W.Frag) : KS :=
  kSeq (kRet (kBin (kIx K) (kVar 0) (kC (.int 2)))) (kNext)
def rd_word_asked (K : PySem.W.Frag) : KS :=
  kSeq (kIf (kT (kBin (kEqv false K) (kBin (kIx K) (kVar 0) (kC (.int 0))) (kC (.str "read")))) (kSeq (kRet (kC .non)) (kNext)) (kNext)) (rd_word_asked_1 K)
/-- Store_ask(self, deed); slots 0 self, 1 deed, 2 told -/
def rd_Store_ask_4 (K : PySem.W.Frag) : KS :=
  kSeq (kRet (kVar 2)) (kNext)
def rd_Store_ask_3 (K : PySem.W.Frag) : KS :=
  kSeq (kFSet K tabF_made (kVar 0) (kBin (kAdd) (kFld K tabF_made (kVar 0)) (kC (.int 1)))) (rd_Store_ask_4 K)
def rd_Store_ask_2 (K : PySem.W.Frag) : KS :=
  kSeq (kSet 2 (kMeth K (tabM_answered K) (kVar 0) (kCons (kBin (kIx K) (kVar 1) (kC (.int 1))) (kCons (kCall (S_word_asked K) (kCons (kVar 1) (kNil))) (kNil))))) (rd_Store_ask_3 K)
def rd_Store_ask_1 (K : PySem.W.Frag) : KS :=
  kSeq (kIf (kT (kBin (kI0 fun i j => .bl (decide (i < j))) (kMeth K (tabM_left K) (kVar 0) kNil) (kC (.int 1)))) (kSeq (kRaise K "Over") (kNext)) (kNext)) (rd_Store_ask_2 K)
def rd_Store_ask (K : PySem.W.Frag) : KS :=
  kSeq (kExpr (kCall (S_need_ask K) (kCons (kFld K tabF_cells (kVar 0)) (kCons (kVar 1) (kNil))))) (rd_Store_ask_1 K)
/-- Body_cells_in_hand(self); slots 0 self -/
def rd_Body_cells_in_hand (K : PySem.W.Frag) : KS :=
  kSeq (kRet (kCB kSortedD (kCons (kFld K tabF_hand (kVar 0)) (kNil)))) (kNext)
/-- Tree_pocket(self); slots 0 self -/
def rd_Tree_pocket (K : PySem.W.Frag) : KS :=
  kSeq (kRet (kMeth K (tabM_cells_in_hand K) (kFld K tabF_body (kVar 0)) kNil)) (kNext)
/-- peak(many, asks, draws); slots 0 many, 1 asks, 2 draws, 3 store, 4 found, 5 deed -/
def rd_peak_b0_1 (K : PySem.W.Frag) : KS :=
  kSeq (kSet 4 (kCB (kMax2) (kCons (kVar 4) (kCons (kCB (kLen K) (kCons (kMeth K (tabM_pocket K) (kVar 3) kNil) (kNil))) (kNil))))) (kNext)
def rd_peak_b0 (K : PySem.W.Frag) : KS :=
  kSeq (kExpr (kMeth K (tabM_ask K) (kVar 3) (kCons (kVar 5) (kNil)))) (rd_peak_b0_1 K)
def rd_peak_3 (K : PySem.W.Frag) : KS :=
  kSeq (kRet (kVar 4)) (kNext)
def rd_peak_2 (K : PySem.W.Frag) : KS :=
  kSeq (kFor (kiSeq K (kVar 1)) (kgName 5) (rd_peak_b0 K)) (rd_peak_3 K)
def rd_peak_1 (K : PySem.W.Frag) : KS :=
  kSeq (kSet 4 (kC (.int 0))) (rd_peak_2 K)
def rd_peak (K : PySem.W.Frag) : KS :=
  kSeq (kSet 3 (kMake K 6 (S_Tree_init K) (kCons (kVar 0) (kCons (kCB (kLen K) (kCons (kVar 1) (kNil))) (kCons (kVar 2) (kNil)))))) (rd_peak_1 K)
/-- pockets_of(many, asks, firsts); slots 0 many, 1 asks, 2 firsts, 3 kind, 4 told, 5 draws, 6 size -/
def rd_pockets_of_b1 (K : PySem.W.Frag) : KS :=
  kSeq (kAsg (kBin (kAdd) (kBin (kIx K) (kVar 4) (kVar 6)) (kC (.int 1))) (kgIx (kVar 4) (kVar 6))) (kNext)
def rd_pockets_of_b0 (K : PySem.W.Frag) : KS :=
  kSeq (kFor (kiR1 (kCons (kBin (kAdd) (kCall (S_peak K) (kCons (kVar 0) (kCons (kVar 1) (kCons (kBin (kAdd) (kVar 2) (kVar 5)) (kNil))))) (kC (.int 1))) (kNil))) (kgName 6) (rd_pockets_of_b1 K)) (kNext)
def rd_pockets_of_6 (K : PySem.W.Frag) : KS :=
  kSeq (kRet (kVar 4)) (kNext)
def rd_pockets_of_5 (K : PySem.W.Frag) : KS :=
  kSeq (kFor (kiW (kiSeq K (kCall (S_all_draws K) (kCons (kBin (kMul) (kLst (kCons (kVar 3) (kNil))) (kCB (kLen K) (kCons (kVar 1) (kNil)))) (kNil))))) (kgName 5) (rd_pockets_of_b0 K)) (rd_pockets_of_6 K)
def rd_pockets_of_4 (K : PySem.W.Frag) : KS :=
  kSeq (kSet 4 (kBin (kMul) (kLst (kCons (kC (.int 0)) (kNil))) (kBin (kAdd) (kVar 0) (kC (.int 1))))) (rd_pockets_of_5 K)
def rd_pockets_of_3 (K : PySem.W.Frag) : KS :=
  kSeq (kExpr (kCall (S_look_at_draws K) (kCons (kBin (kMul) (kLst (kCons (kVar 3) (kNil))) (kVar 0)) (kCons (kVar 2) (kNil))))) (rd_pockets_of_4 K)
def rd_pockets_of_2 (K : PySem.W.Frag) : KS :=
  kSeq (kSet 3 (kTup (kCons (kC (.str "leaf")) (kCons (kCall (S_high_of K) (kCons (kVar 0) (kNil))) (kNil))))) (rd_pockets_of_3 K)
def rd_pockets_of_1 (K : PySem.W.Frag) : KS :=
  kSeq (kExpr (kCall (S_look_at_asks K) (kCons (kVar 0) (kCons (kVar 1) (kNil))))) (rd_pockets_of_2 K)
def rd_pockets_of (K : PySem.W.Frag) : KS :=
  kSeq (kExpr (kCall (S_look_at_many K) (kCons (kVar 0) (kNil)))) (rd_pockets_of_1 K)
/-- law(_law_script); slots 0 _law_script, 1 _law_pool_here, 2 _law_many, 3 _law_most, 4 _law_high, 5 _law_k, 6 _law_far, 7 _law_firsts, 8 _law_asks, 9 _law_due_here, 10 _law_handed, 11 _law_found, 12 _law_one -/
def rd_law_13 (K : PySem.W.Frag) : KS :=
  kSeq (kRet (kBin (kEqv false K) (kCall (S_pockets_of K) (kCons (kVar 2) (kCons (kVar 8) (kCons (kVar 10) (kNil))))) (kVar 9))) (kNext)
def rd_law_12 (K : PySem.W.Frag) : KS :=
  kSeq (kExpr (kBM K "list" (kAppend) (kVar 11) (kCons (kC (.int 0)) (kNil)))) (rd_law_13 K)
def rd_law_11 (K : PySem.W.Frag) : KS :=
  kSeq (kExpr (kBM0 K "list" (kReverse) (kVar 11))) (rd_law_12 K)
def rd_law_10 (K : PySem.W.Frag) : KS :=
  kSeq (kIf (kT (kBin (kEqv true K) (kComp (kiSeq K (kVar 11)) (kgName 12) (kOr (kNot (kT (kCB (kIsi K) (kCons (kVar 12) (kCons (kC (.ty "int")) (kNil)))))) (kT (kCB (kIsi K) (kCons (kVar 12) (kCons (kC (.ty "bool")) (kNil)))))) (kVar 12) [12]) (kLst (kNil)))) (kSeq (kRet (kC (.bl false))) (kNext)) (kNext)) (rd_law_11 K)
def rd_law_9 (K : PySem.W.Frag) : KS :=
  kSeq (kIf (kOr (kNot (kT (kCB (kIsi K) (kCons (kVar 11) (kCons (kC (.ty "list")) (kNil)))))) (kOr (kT (kBin (kEqv true K) (kVar 11) (kVar 9))) (kT (kBin (kEqv true K) (kVar 10) (kVar 7))))) (kSeq (kRet (kC (.bl false))) (kNext)) (kNext)) (rd_law_10 K)
def rd_law_8 (K : PySem.W.Frag) : KS :=
  kSeq (kSet 11 (kCall (S_pockets_of K) (kCons (kVar 2) (kCons (kVar 8) (kCons (kVar 10) (kNil)))))) (rd_law_9 K)
def rd_law_7 (K : PySem.W.Frag) : KS :=
  kSeq (kSet 10 (kCB (kList K) (kCons (kVar 7) (kNil)))) (rd_law_8 K)
def rd_law_6 (K : PySem.W.Frag) : KS :=
  kSeq (kSet 9 (kCall (S_law_due K) (kCons (kVar 2) (kCons (kVar 8) (kCons (kVar 7) (kNil)))))) (rd_law_7 K)
def rd_law_5 (K : PySem.W.Frag) : KS :=
  kSeq (kSet 8 (kComp (kiR1 (kCons (kCall (S_law_take K) (kCons (kVar 1) (kCons (kBin (kAdd) (kVar 3) (kC (.int 1))) (kNil)))) (kNil))) (kgName 5) (kYes) (kCall (S_law_ask K) (kCons (kCall (S_law_pool K) (kCons (kVar 0) (kCons (kBin (kAdd) (kC (.int 1)) (kVar 5)) (kNil)))) (kCons (kVar 2) (kNil)))) [5])) (rd_law_6 K)
def rd_law_4 (K : PySem.W.Frag) : KS :=
  kSeq (kSet 7 (kComp (kiR1 (kCons (kVar 2) (kNil))) (kgName 5) (kYes) (kCall (S_law_take K) (kCons (kVar 1) (kCons (kVar 6) (kNil)))) [5])) (rd_law_5 K)
def rd_law_3 (K : PySem.W.Frag) : KS :=
  kSeq (kSet 6 (kBin (kIx K) (kLst (kCons (kBin (kI CPow fun i j => .int (i * 2 ^ j.toNat)) (kC (.int 1)) (kVar 4)) (kCons (kCB (kMin2) (kCons (kBin (kI CPow fun i j => .int (i * 2 ^ j.toNat)) (kC (.int 1)) (kVar 4)) (kCons (kC (.int 2)) (kNil)))) (kCons (kC (.int 1)) (kNil))))) (kCall (S_law_take K) (kCons (kVar 1) (kCons (kC (.int 3)) (kNil)))))) (rd_law_4 K)
def rd_law_2 (K : PySem.W.Frag) : KS :=
  kSeq (kSet 4 (kCB (kLen K) (kCons (kComp (kiR1 (kCons (kC (.int 6)) (kNil))) (kgName 5) (kT (kBin (kI0 fun i j => .bl (decide (i < j))) (kBin (kI CPow fun i j => .int (i * 2 ^ j.toNat)) (kC (.int 1)) (kVar 5)) (kVar 2))) (kVar 5) [5]) (kNil)))) (rd_law_3 K)
def rd_law_1 (K : PySem.W.Frag) : KS :=
  kSeq (kAsg (kBin (kIx K) (kLst (kCons (kTup (kCons (kC (.int 1)) (kCons (kC (.int 20)) (kNil)))) (kCons (kTup (kCons (kC (.int 2)) (kCons (kC (.int 7)) (kNil)))) (kCons (kTup (kCons (kC (.int 3)) (kCons (kC (.int 4)) (kNil)))) (kCons (kTup (kCons (kC (.int 4)) (kCons (kC (.int 4)) (kNil)))) (kCons (kTup (kCons (kC (.int 8)) (kCons (kC (.int 2)) (kNil)))) (kCons (kTup (kCons (kC (.int 8)) (kCons (kC (.int 3)) (kNil)))) (kCons (kTup (kCons (kC (.int 32)) (kCons (kC (.int 1)) (kNil)))) (kCons (kTup (kCons (kC (.int 5)) (kCons (kC (.int 3)) (kNil)))) (kNil)))))))))) (kCall (S_law_take K) (kCons (kVar 1) (kCons (kC (.int 8)) (kNil))))) (kgTup K 2 (kgsCons (kgName 2) (kgsCons (kgName 3) (kgsNil))))) (rd_law_2 K)
def rd_law (K : PySem.W.Frag) : KS :=
  kSeq (kSet 1 (kCall (S_law_pool K) (kCons (kVar 0) (kCons (kC (.int 0)) (kNil))))) (rd_law_1 K)
section
variable {K : PySem.W.Frag} {vs : List V} {G : Hp} {M : Mem} {R : KR} {Z : KX}
theorem pf_law_take (h : S_law_take K vs G M R Z) : rd_law_take K (ends R Z) (sta 3 vs) G M := by
  obtain ⟨_, _, rfl, p, m, n, c, s, rfl, rfl, hn, hs, hm0, hm1, q⟩ := sp2_of h
  have hS : SeqAt' K G M p [.int c, .int s] := lst_n hn
  refine ⟨G, M, Wk.refl, _, _, hS, rfl, ite2' (fun e => ?_) (fun e => ?_)⟩
  · refine ⟨G, M, Wk.refl, _, _, hS, rfl, hm0, ?_⟩
    refine ⟨G, M, Wk.refl, _, _, hS, rfl, divW hm0 hm1 c, n, _, 0, hn, rfl, ?_⟩
    refine ⟨G, _, Wk.refl, ?_⟩
    exact ret0 (q _ _ _ (Int.emod_nonneg _ (by omega)) (Int.emod_lt_of_pos _ hm0) hs)
  · obtain ⟨s0, s1⟩ := hs
    have hs' : PoolOk ((s * 48271 + 11) % 2147483647) := ⟨Int.emod_nonneg _ (by decide), Int.emod_lt_of_pos _ (by decide)⟩
    refine ⟨G, M, Wk.refl, _, _, hS, rfl, mul_r (by decide) (by decide), (by show (0 : Int) < _; decide), n, _, 1, hn, rfl, ?_⟩
    have hn' : (M.set n (p, pool c ((s * 48271 + 11) % 2147483647)))[n]? = some (p, pool c ((s * 48271 + 11) % 2147483647)) := set_n hn
    have hS' : SeqAt' K G (M.set n (p, pool c ((s * 48271 + 11) % 2147483647))) p [.int c, .int ((s * 48271 + 11) % 2147483647)] := lst_n hn'
    refine ⟨G, _, Wk.refl, _, _, hS', rfl, _, _, hS', rfl, mul_l (by have := hs'.1; omega) (by have := hs'.2; omega), (by show (0 : Int) < _; decide), divW (by decide) (by decide) _, hm0, ?_⟩
    exact ret0 (q _ _ _ (Int.emod_nonneg _ (by omega)) (Int.emod_lt_of_pos _ hm0) hs')
theorem b01 (b : Bool) : -(2 ^ 64) < (if b then (1 : Int) else 0) ∧ (if b then (1 : Int) else 0) < 2 ^ 64 := by cases b <;> decide
end

section
variable {K : PySem.W.Frag} {vs : List V} {G : Hp} {M : Mem} {R : KR} {Z : KX}
theorem set_self {α : Type} {l : List α} {n : Nat} {x : α} (h : l[n]? = some x) : l.set n x = l := by
  apply List.ext_getElem? 
  intro i
  rw [List.getElem?_set]
  by_cases e : n = i
  · subst e
    rw [if_pos rfl, if_pos (List.getElem?_eq_some_iff.mp h).1, h]
  · rw [if_neg e]
theorem at_two {x y : V} {r : Int} (h0 : 0 ≤ r) (h1 : r < 2) : ∃ v, atI [x, y] r = some v ∧ (v = x ∨ v = y) := by
  have e : r = 0 ∨ r = 1 := by omega
  rcases e with rfl | rfl
  · exact ⟨x, rfl, .inl rfl⟩
  · exact ⟨y, rfl, .inr rfl⟩
theorem fr_unset {n : Nat} {p : Addr} {o : HO} {x : Addr × HO} {t : Addr} (hn : M[n]? = some (p, o)) (h : Fr G (M.set n x) t) (e : x.1 = p := by rfl) : Fr G M t := by
  have hl : n < M.length := (List.getElem?_eq_some_iff.mp hn).1
  refine ⟨h.1, fun y hy => ?_⟩
  obtain ⟨m, hm⟩ := List.getElem?_of_mem hy
  by_cases z : n = m
  · subst z
    rw [hn] at hm; cases hm
    have := h.2 x (List.mem_of_getElem? (List.getElem?_set_self hl))
    rw [e] at this; exact this
  · exact h.2 y (List.mem_of_getElem? (by rw [List.getElem?_set_ne z]; exact hm))
end

section
variable {K : PySem.W.Frag} {vs : List V} {G : Hp} {M : Mem} {R : KR} {Z : KX}
theorem pf_is_whole (h : S_is_whole K vs G M R Z) : rd_is_whole K (ends R Z) (sta 1 vs) G M := by
  obtain ⟨x, rfl, T, hT, q⟩ := sp1_of h
  refine ⟨G, M, Wk.refl, .type T.name, .type "int", _, .ty "int", hT, kit_pt T .int, ite2' (fun e => ?_) (fun e => ?_)⟩
  · refine ⟨.type T.name, .type "bool", _, .ty "bool", hT, kit_pt T .bool, ret0 ?_⟩
    have e2 : (!isaB T .bool) = (T == .int) := by revert e; cases T <;> decide
    rw [e2]; exact q
  · have e2 : false = (T == .int) := by revert e; cases T <;> decide
    refine ret0 ?_
    rw [e2]; exact q
theorem pf_is_within (h : S_is_within K vs G M R Z) : rd_is_within K (ends R Z) (sta 3 vs) G M := by
  obtain ⟨x, _, _, rfl, T, lo, hi, rfl, rfl, hT, hx, q⟩ := sp3_of h
  refine ⟨G, M, Wk.refl, T, hT, ite2' (fun e => ?_) (fun e => ?_)⟩
  · rw [e] at hx
    cases x with
    | int i =>
      have q : R (.bl (decide (lo ≤ i) && decide (i ≤ hi))) G M := q
      refine ite2' (fun e1 => ?_) (fun e1 => ?_)
      · rw [e1, Bool.true_and] at q; exact ret0 q
      · rw [e1, Bool.false_and] at q; exact ret0 q
    | _ => cases hx
  · rw [e] at hx
    have e2 : withinV x lo hi = false := by cases x <;> first | rfl | cases hx
    rw [e2] at q
    exact ret0 q
end

section
variable {K : PySem.W.Frag} {vs : List V} {G : Hp} {M : Mem} {R : KR} {Z : KX}
section
variable {α β : Type} {r : α → β → Prop}
theorem A2.len {as : List α} {bs : List β} (h : A2 r as bs) : as.length = bs.length := by
  induction h with
  | nil => rfl
  | cons _ _ ih => simp [ih]
theorem A2.app {as as' : List α} {bs bs' : List β} (h : A2 r as bs) (h' : A2 r as' bs') : A2 r (as ++ as') (bs ++ bs') := by
  induction h with
  | nil => exact h'
  | cons a _ ih => exact .cons a ih
theorem A2.rev {as : List α} {bs : List β} (h : A2 r as bs) : A2 r as.reverse bs.reverse := by
  induction h with
  | nil => exact .nil
  | cons a _ ih => rw [List.reverse_cons, List.reverse_cons]; exact ih.app (.cons a .nil)
theorem A2.get {as : List α} {bs : List β} (h : A2 r as bs) : ∀ {i : Nat} {b : β}, bs[i]? = some b → ∃ a, as[i]? = some a ∧ r a b := by
  induction h with
  | nil => intro i b e; simp at e
  | cons a _ ih =>
    intro i b e
    cases i with
    | zero => cases e; exact ⟨_, rfl, a⟩
    | succ i => exact ih e
theorem A2.get' {as : List α} {bs : List β} (h : A2 r as bs) : ∀ {i : Nat} {a : α}, as[i]? = some a → ∃ b, bs[i]? = some b ∧ r a b := by
  induction h with
  | nil => intro i b e; simp at e
  | cons a _ ih =>
    intro i b e
    cases i with
    | zero => cases e; exact ⟨_, rfl, a⟩
    | succ i => exact ih e
theorem A2.mono {r' : α → β → Prop} (m : ∀ a b, r a b → r' a b) {as : List α} {bs : List β} (h : A2 r as bs) : A2 r' as bs := by
  induction h with
  | nil => exact .nil
  | cons a _ ih => exact .cons (m _ _ a) ih
end
theorem drM_sub {Mn Mm : Mem} (hs : ∀ x, x ∈ Mn → x ∈ Mm) {v : V} {d : Dr} (h : DrM Mn v d) : DrM Mm v d := by
  cases d with
  | leaf n => exact h
  | row l => obtain ⟨b, rfl, h⟩ := h; exact ⟨b, rfl, hs _ h⟩
theorem dp_kn_inv {v : V} {k : Kn} (h : Dp K G v (knD k)) : ∃ t, v = .ref t ∧ SqT K G t [.str k.txt, .int k.n] := by
  obtain ⟨t, xs, rfl, s, a⟩ := dp_tup_inv h
  refine ⟨t, rfl, ?_⟩
  cases a with
  | cons a b =>
    cases b with
    | cons b c =>
      cases c
      cases a
      cases b
      exact s
theorem dp_kn {t : Addr} {k : Kn} (h : SqT K G t [.str k.txt, .int k.n]) : Dp K G (.ref t) (knD k) := .tup h (.cons (.str _) (.cons (.int _) .nil))
theorem txt_leaf (k : Kn) : decide ((V.str k.txt) = (.str "leaf")) = k.leaf := by
  obtain ⟨b, n⟩ := k
  cases b
  · exact decide_eq_false (by intro h; injection h with h; exact absurd (show ("shuffle" : Str) = "leaf" from h) (by decide))
  · exact decide_eq_true rfl
/-! sizes -/
theorem fac_pos : ∀ n, 0 < fac n
  | 0 => by decide
  | n + 1 => Nat.mul_pos (by omega) (fac_pos n)
theorem fac_mono : ∀ {m n : Nat}, m ≤ n → fac m ≤ fac n := by
  intro m n h
  induction n with
  | zero => have : m = 0 := by omega
            subst this; exact Nat.le_refl _
  | succ n ih =>
    by_cases e : m = n + 1
    · subst e; exact Nat.le_refl _
    · have h1 := ih (by omega)
      show fac m ≤ (n + 1) * fac n
      have : 1 * fac n ≤ (n + 1) * fac n := Nat.mul_le_mul_right _ (by omega)
      omega
theorem fac_64 : fac 64 < 2 ^ 300 := by decide +kernel
theorem manyK_pos (k : Kn) : 0 < manyK k := by
  unfold manyK; split
  · exact Nat.pow_pos (by decide)
  · exact fac_pos _
theorem manyK_lt {k : Kn} (h : KnOk k) : manyK k < 2 ^ 300 := by
  unfold manyK; split
  · exact Nat.pow_lt_pow_right (by decide) (by have := h.1; omega)
  · exact Nat.lt_of_le_of_lt (fac_mono h.1) fac_64
theorem prK_lt : ∀ ks : List Kn, (∀ k, k ∈ ks → KnOk k) → prK ks < 2 ^ (300 * ks.length + 1)
  | [], _ => by decide
  | k :: ks, h => by
    have h1 := manyK_lt (h k List.mem_cons_self)
    have h2 := prK_lt ks fun q hq => h q (List.mem_cons_of_mem _ hq)
    show manyK k * prK ks < _
    rw [List.length_cons, show 300 * (ks.length + 1) + 1 = 300 + (300 * ks.length + 1) by omega, Nat.pow_add]
    exact Nat.mul_lt_mul'' h1 h2
theorem prK_snoc (ks : List Kn) (k : Kn) : prK (ks ++ [k]) = prK ks * manyK k := by
  induction ks with
  | nil => simp [prK]
  | cons a ks ih => show manyK a * prK (ks ++ [k]) = manyK a * prK ks * manyK k; rw [ih, Nat.mul_assoc]
theorem prK_take_le (ks : List Kn) (i : Nat) (h : ∀ k, k ∈ ks → KnOk k) : ∀ k, k ∈ ks.take i → KnOk k := fun k hk => h k (List.mem_of_mem_take hk)
theorem take_succ' {α : Type} {l : List α} {i : Nat} {x : α} (h : l[i]? = some x) : l.take (i + 1) = l.take i ++ [x] := by
  rw [List.take_succ, h]; rfl
end

section
variable {K : PySem.W.Frag} {vs : List V} {G : Hp} {M : Mem} {R : KR} {Z : KX}
theorem pf_leaves (h : S_leaves K vs G M R Z) : rd_leaves K (ends R Z) (sta 1 vs) G M := by
  obtain ⟨_, rfl, n, rfl, hn, q⟩ := sp1_of h
  refine ⟨G, M, Wk.refl, ⟨by omega, by omega, by decide⟩, ret0 ?_⟩
  have e : (1 : Int) * 2 ^ (n : Int).toNat = ((2 ^ n : Nat) : Int) := by simp
  show R (.int ((1 : Int) * 2 ^ (n : Int).toNat)) G M
  rw [e]; exact q
theorem pf_many_of (h : S_many_of K vs G M R Z) : rd_many_of K (ends R Z) (sta 3 vs) G M := by
  obtain ⟨_, rfl, k, hd, hk, q⟩ := sp1_of h
  obtain ⟨t, rfl, ht⟩ := dp_kn_inv hd
  have hk1 := hk
  refine ⟨G, M, Wk.refl, _, _, tup_g ht, rfl, ?_⟩
  show if decide (V.str k.txt = .str "leaf") = true then _ else _
  rw [txt_leaf]
  refine ite2' (fun e => ?_) (fun e => ?_)
  · refine ⟨G, M, Wk.refl, _, _, tup_g ht, rfl, k.n, rfl, by omega, ret0 ?_⟩
    unfold manyK at q; rw [if_pos e] at q; exact q
  · have hm : manyK k = fac k.n := by unfold manyK; rw [if_neg (by rw [e]; decide)]
    rw [hm] at q
    refine ⟨G, M, Wk.refl, ?_⟩
    refine ⟨G, M, Wk.refl, _, _, tup_g ht, rfl, ⟨by omega, by omega⟩, fun i σ G' M' => ∃ y2, σ = [some (.ref t), some (.int (fac i)), y2] ∧ G' = G ∧ M' = M, ⟨none, rfl, rfl, rfl⟩, fun _ _ _ _ _ _ => trivial, ?_, ?_⟩
    · rintro i σ G' M' hi ⟨y2, rfl, rfl, rfl⟩
      have hi : i < ((k.n : Int) + 1 - 1).toNat := hi
      refine ⟨_, _, Wk.refl, mul_r (by omega) (by omega), _, _, Wk.refl, some (.int (1 + (i : Int))), ?_, rfl, rfl⟩
      have e2 : (fac i : Int) * (1 + (i : Int)) = ((fac (i + 1) : Nat) : Int) := by
        show _ = (((i + 1) * fac i : Nat) : Int)
        rw [Int.natCast_mul, Int.mul_comm]; congr 1; omega
      show [some (V.ref t), some (.int ((fac i : Int) * (1 + (i : Int)))), _] = _
      rw [e2]
    · rintro σ G' M' ⟨y2, rfl, rfl, rfl⟩
      have e3 : ((k.n : Int) + 1 - 1).toNat = k.n := by omega
      refine ⟨_, _, Wk.refl, ret0 ?_⟩
      show R (.int (fac ((k.n : Int) + 1 - 1).toNat)) _ _
      rw [e3]; exact q
theorem pf_how_many (h : S_how_many K vs G M R Z) : rd_how_many K (ends R Z) (sta 3 vs) G M := by
  obtain ⟨_, rfl, a, ks, rfl, ⟨us, ha, hd, hk, hl⟩, q⟩ := sp1_of h
  have hul : us.length = ks.length := by rw [dpall_len hd, List.length_map]
  refine ⟨G, M, Wk.refl, G, M, Wk.refl, us, ha, fun i σ G' M' => ∃ y2, σ = [some (.ref a), some (.int (prK (ks.take i))), y2] ∧ G' = G ∧ M' = M, ⟨none, rfl, rfl, rfl⟩, ?_, ?_, ?_⟩
  · rintro i σ G' M' hi ⟨y2, rfl, rfl, rfl⟩; exact ha
  · rintro i σ G' M' hi ⟨y2, rfl, rfl, rfl⟩
    have hi : i < us.length := hi
    have hp : ks[i]? = some ks[i] := List.getElem?_eq_getElem (by omega)
    obtain ⟨v, hv, hd1⟩ := dpall_get (d := knD ks[i]) hd (by rw [List.getElem?_map, hp]; rfl)
    have hok := hk ks[i] (List.getElem_mem (by omega))
    refine asg_L hv ⟨_, _, Wk.refl, ks[i], hd1, hok.1, ?_⟩
    have h1 := prK_lt (ks.take i) (prK_take_le ks i hk)
    have h2 := manyK_lt hok
    refine ⟨.inr (wide_mul (a := 300 * (ks.take i).length + 1) (b := 300) h1 h2 (by omega) (by decide) ?_), _, _, Wk.refl, some v, ?_, rfl, rfl⟩
    · have : (ks.take i).length ≤ ks.length := by rw [List.length_take]; omega
      omega
    · rw [take_succ' hp, prK_snoc, Int.natCast_mul]; rfl
  · rintro σ G' M' ⟨y2, rfl, rfl, rfl⟩
    refine ⟨_, _, Wk.refl, ret0 ?_⟩
    show R (.int (prK (ks.take us.length))) _ _
    rw [hul, List.take_length]; exact q
theorem natsV_rev (l : List Nat) : (natsV l).reverse = natsV l.reverse := by unfold natsV; rw [List.map_reverse]
theorem pf_row_at (h : S_row_at K vs G M R Z) : rd_row_at K (ends R Z) (sta 4 vs) G M := by
  obtain ⟨_, _, rfl, s, n, rfl, rfl, hs, q⟩ := sp2_of h
  have er : ((s : Int) - 1 - -1).toNat = s := by omega
  refine ⟨G, M, Wk.refl, sz0, fun p fp => ?_⟩
  refine ⟨G, _, Wk.refl, s, ?_, fun i σ G' M' => ∃ (L : List Nat) (m : Nat) (y3 : Option V), σ = [some (.int s), some (.int m), some (.ref p), y3] ∧ G' = G ∧ M' = (p, .lst (natsV L)) :: M ∧ rowAt s n = rowAt (s - i) m ++ L.reverse ∧ L.length = i, ⟨[], n, none, rfl, rfl, rfl, by simp, rfl⟩, fun _ _ _ _ _ _ => trivial, ?_, ?_⟩
  · have := rg_down (i := (s : Int) - 1) (j := -1) (by omega) (by omega) (by omega) (by omega)
    rw [er] at this; exact this
  · rintro i σ G' M' hi ⟨L, m, y3, rfl, rfl, rfl, e, hl⟩
    have hi : i < s := hi
    obtain ⟨k, rfl⟩ : ∃ k, s = i + (k + 1) := ⟨s - i - 1, by omega⟩
    have ep : ((i + (k + 1) : Nat) : Int) - 1 + (i : Int) * -1 + 1 = ((k + 1 : Nat) : Int) := by omega
    refine ⟨_, _, Wk.refl, tyl_n (n := 0) rfl, ?_, 0, _, rfl, sz (by unfold natsV; simp; omega), ?_⟩
    · show (0 : Int) < ((i + (k + 1) : Nat) : Int) - 1 + (i : Int) * -1 + 1
      omega
    · refine ⟨_, _, Wk.refl, ?_, _, _, Wk.refl, L ++ [m % (k + 1)], m / (k + 1), some (.int (((i + (k + 1) : Nat) : Int) - 1 + (i : Int) * -1)), ?_, rfl, ?_, ?_, by simp [hl]⟩
      · show CDivW _ (((i + (k + 1) : Nat) : Int) - 1 + (i : Int) * -1 + 1)
        rw [ep]; exact divW (by omega) (by omega) _
      · show [_, some (V.int ((m : Int) / (((i + (k + 1) : Nat) : Int) - 1 + (i : Int) * -1 + 1))), _, _] = _
        rw [ep]; rfl
      · show (p, HO.lst (natsV L ++ [.int ((m : Int) % (((i + (k + 1) : Nat) : Int) - 1 + (i : Int) * -1 + 1))])) :: M = _
        rw [ep]; unfold natsV; rw [List.map_append]; rfl
      · rw [e, show i + (k + 1) - i = k + 1 by omega, show i + (k + 1) - (i + 1) = k by omega, List.reverse_append]
        show rowAt k (m / (k + 1)) ++ [m % (k + 1)] ++ L.reverse = _
        rw [List.append_assoc]; rfl
  · rintro σ G' M' ⟨L, m, y3, rfl, rfl, rfl, e, hl⟩
    refine ⟨_, _, Wk.refl, _, lat_0, fun w fw => retW Wk.drop1 ?_⟩
    have e2 : rowAt s n = L.reverse := by
      have e : rowAt s n = rowAt (s - s) m ++ L.reverse := e
      rw [Nat.sub_self] at e; exact e
    rw [natsV_rev, ← e2]
    exact q w ⟨fw.1, fun x hx => fw.2 x (List.mem_cons_of_mem _ hx)⟩
theorem lat_app {Mn : Mem} {a : Addr} {xs : List V} (h : LstAt K G M a xs) : LstAt K G (Mn ++ M) a xs := by
  rcases h with h | h
  · exact .inl (List.mem_append_right _ h)
  · exact .inr h
theorem rev_get {α : Type} {l : List α} {i : Nat} (h : i < l.length) : l.reverse[i]? = l[l.length - 1 - i]? := by
  rw [List.getElem?_reverse h]
theorem drop_get {α : Type} {l : List α} {i : Nat} {x : α} (h : l[i]? = some x) : l.drop i = x :: l.drop (i + 1) := by
  obtain ⟨hi, rfl⟩ := List.getElem?_eq_some_iff.mp h
  exact List.drop_eq_getElem_cons hi
theorem pf_draws_at (h : S_draws_at K vs G M R Z) : rd_draws_at K (ends R Z) (sta 5 vs) G M := by
  obtain ⟨_, y, rfl, a, ks, T, rfl, hka, hT, hTi, q, z⟩ := sp2_of h
  obtain ⟨us, ha, hd, hk, hl⟩ := id hka
  have hul : us.length = ks.length := by rw [dpall_len hd, List.length_map]
  refine ⟨G, M, Wk.refl, a, ks, rfl, hka, T, 0, _, rfl, rfl, hT, hTi, ?_⟩
  show if (!withinV y 0 ((prK ks : Int) - 1)) = true then _ else _
  cases hw : withinV y 0 ((prK ks : Int) - 1) with
  | false => exact ⟨G, M, Wk.refl, G, M, Wk.refl, z hw⟩
  | true =>
    show rd_draws_at_1 K (ends R Z) [some (.ref a), some y, none, none, none] G M
    cases y with
    | int n' =>
      have hw2 := hw
      simp only [withinV, Bool.and_eq_true, decide_eq_true_eq] at hw2
      obtain ⟨n, rfl⟩ := Int.eq_ofNat_of_zero_le hw2.1
      have hn : n < prK ks := by omega
      refine ⟨_, _, Wk.refl, sz0, fun p fp => ?_⟩
      refine ⟨_, _, Wk.refl, us, lat_cons ha, fun i σ G' M' => ∃ (m : Nat) (ws : List V) (Mn : Mem) (ds : List Dr) (y3 y4 : Option V), σ = [some (.ref a), some (.int m), some (.ref p), y3, y4] ∧ G' = G ∧ M' = (p, .lst ws) :: (Mn ++ M) ∧ A2 (DrM Mn) ws ds ∧ drR ks.reverse n = ds ++ drR (ks.reverse.drop i) m ∧ ws.length = i, ⟨n, [], [], [], none, none, rfl, rfl, rfl, .nil, rfl, rfl⟩, ?_, ?_, ?_⟩
      · rintro i σ G' M' hi ⟨m, ws, Mn, ds, y3, y4, rfl, rfl, rfl, hws, e, hwl⟩
        exact lat_cons (lat_app ha)
      · rintro i σ G' M' hi ⟨m, ws, Mn, ds, y3, y4, rfl, rfl, rfl, hws, e, hwl⟩
        have hi : i < us.length := hi
        have hlt : us.length - 1 - i < ks.length := by omega
        obtain ⟨k, hkd⟩ : ∃ k, k = ks[us.length - 1 - i] := ⟨_, rfl⟩
        have hp : ks[us.length - 1 - i]? = some k := by rw [hkd]; exact List.getElem?_eq_getElem hlt
        obtain ⟨v, hv, hd1⟩ := dpall_get (d := knD k) hd (by rw [List.getElem?_map, hp]; rfl)
        have hok := hk k (List.mem_of_getElem? hp)
        have hrv : ks.reverse[i]? = some k := by rw [rev_get (by omega), ← hul]; exact hp
        have hml := manyK_lt hok
        have hmp := manyK_pos k
        have e' : drR ks.reverse n = ds ++ (dOf k (m % manyK k) :: drR (ks.reverse.drop (i + 1)) (m / manyK k)) := by
          rw [e, drop_get hrv]; rfl
        have mp : (0 : Int) < (manyK k : Int) := by omega
        have ml : (manyK k : Int).natAbs < 2 ^ 300 := by omega
        refine asg_V hv ⟨_, _, Wk.refl, k, hd1, hok.1, mp, ?_⟩
        refine ⟨_, _, Wk.refl, k, hd1, hok.1, wide_div (b := 300) mp ml (by decide) (by decide), ?_⟩
        obtain ⟨t, rfl, ht⟩ := dp_kn_inv hd1
        refine ⟨_, _, Wk.refl, tyl_n (n := 0) rfl, _, _, tup_g ht, rfl, ?_⟩
        show if decide (V.str k.txt = .str "leaf") = true then _ else _
        rw [txt_leaf]
        refine ite2' (fun el => ?_) (fun el => ?_)
        · refine ⟨0, _, rfl, sz (by show ws.length + 1 ≤ _; omega), _, _, Wk.refl, m / manyK k, ws ++ [.int ((m % manyK k : Nat) : Int)], Mn, ds ++ [dOf k (m % manyK k)], _, _, rfl, rfl, rfl, hws.app (.cons ?_ .nil), by rw [e', List.append_assoc]; rfl, by simp [hwl]⟩
          unfold dOf; rw [if_pos el]; rfl
        · refine ⟨_, _, tup_g ht, rfl, k.n, m % manyK k, rfl, rfl, hok.1, fun b fb => ?_⟩
          refine ⟨1, _, rfl, sz (by show ws.length + 1 ≤ _; omega), _, (p, HO.lst (ws ++ [.ref b])) :: (((b, HO.lst (natsV (rowAt k.n (m % manyK k)))) :: Mn) ++ M), Wk.swap, m / manyK k, ws ++ [.ref b], (b, HO.lst (natsV (rowAt k.n (m % manyK k)))) :: Mn, ds ++ [dOf k (m % manyK k)], _, _, rfl, rfl, rfl, (hws.mono fun _ _ => drM_sub fun x hx => List.mem_cons_of_mem _ hx).app (.cons ?_ .nil), by rw [e', List.append_assoc]; rfl, by simp [hwl]⟩
          unfold dOf; rw [if_neg (by rw [el]; decide)]; exact ⟨b, rfl, List.mem_cons_self⟩
      · rintro σ G' M' ⟨m, ws, Mn, ds, y3, y4, rfl, rfl, rfl, hws, e, hwl⟩
        have e2 : drR ks.reverse n = ds := by
          have e : drR ks.reverse n = ds ++ drR (ks.reverse.drop us.length) m := e
          rw [hul, ← List.length_reverse, List.drop_length] at e
          rw [e]; show ds ++ [] = ds; rw [List.append_nil]
        refine ⟨_, _, Wk.refl, _, lat_0, fun w fw => retW Wk.drop1 ?_⟩
        exact q n rfl hn w _ Mn (by unfold drawsAt; rw [e2]; exact hws.rev)
    | _ => simp [withinV] at hw
end

section
variable {K : PySem.W.Frag} {vs : List V} {G : Hp} {M : Mem} {R : KR} {Z : KX}
theorem natsV_get {l : List Nat} {i v : Nat} (h : l[i]? = some v) : (natsV l)[i]? = some (.int (v : Int)) := by
  unfold natsV; rw [List.getElem?_map, h]; rfl
theorem natsV_len (l : List Nat) : (natsV l).length = l.length := by unfold natsV; rw [List.length_map]
theorem atI_nats {l : List Nat} {i v : Nat} (h : l[i]? = some v) : atI (natsV l) (i : Int) = some (.int (v : Int)) := atI_nat (natsV_get h)
theorem at_mem {l : List V} {r : Int} (h0 : 0 ≤ r) (h1 : r < l.length) : ∃ v, atI l r = some v ∧ v ∈ l := by
  obtain ⟨j, rfl⟩ := Int.eq_ofNat_of_zero_le h0
  have hj : l[j]? = some l[j] := List.getElem?_eq_getElem (by omega)
  exact ⟨_, atI_nat hj, List.mem_of_getElem? hj⟩
theorem dpall_rep {v : V} {d : PyData} (h : Dp K G v d) : ∀ n, DpAll K G (List.replicate n v) (List.replicate n d)
  | 0 => .nil
  | n + 1 => .cons h (dpall_rep h n)
theorem dpall_app2 : ∀ {vs ws : List V} {ds es : List PyData}, DpAll K G vs ds → DpAll K G ws es → DpAll K G (vs ++ ws) (ds ++ es)
  | _, _, _, _, .nil, h => h
  | _, _, _, _, .cons a b, h => .cons a (dpall_app2 b h)
theorem dpall_flat {us : List V} {ds : List PyData} (h : DpAll K G us ds) : ∀ n, DpAll K G (List.replicate n us).flatten (List.replicate n ds).flatten
  | 0 => .nil
  | n + 1 => dpall_app2 h (dpall_flat h n)
theorem ex_lat {G' : Hp} {M' : Mem} {a : Addr} {us : List V} (x : Ex G G') (hm : ∀ x, x ∈ M → x ∈ M') (h : LstAt K G M a us) : LstAt K G' M' a us := by
  rcases h with h | h
  · exact .inl (hm _ h)
  · exact .inr (ex_l x h)
theorem wi_in {i lo hi : Int} (h : lo ≤ i) (h2 : i ≤ hi) : withinV (.int i) lo hi = true := by
  show (decide (lo ≤ i) && decide (i ≤ hi)) = true
  rw [decide_eq_true h, decide_eq_true h2]; rfl
theorem Wk.sub' {G : Hp} {M M' : Mem} (h : List.Sublist M' M) : Wk G M G M' := fun H hv => ⟨hv.ex, fun x hx => hv.mu x (h.subset hx), hv.nd.sublist (h.map _), fun x hx => hv.dj x (h.subset hx)⟩
end

section
theorem swap_len {l : List Nat} {i j : Nat} : (swapL l i j).length = l.length := by unfold swapL; simp
theorem getD_lt {l : List Nat} {i : Nat} (h : i < l.length) : l.getD i 0 = l[i] := by rw [List.getD_eq_getElem?_getD, List.getElem?_eq_getElem h]; rfl
theorem getD_set {l : List Nat} {i j v : Nat} (h : i < l.length) : (l.set i v).getD j 0 = if j = i then v else l.getD j 0 := by
  rw [List.getD_eq_getElem?_getD, List.getElem?_set]
  by_cases e : i = j
  · subst e; simp [h]
  · rw [if_neg e, if_neg (Ne.symm e), List.getD_eq_getElem?_getD]
theorem swap_getD {l : List Nat} {i j k : Nat} (hi : i < l.length) (hj : j < l.length) : (swapL l i j).getD k 0 = if k = j then l.getD i 0 else if k = i then l.getD j 0 else l.getD k 0 := by
  unfold swapL
  rw [getD_set (by simpa using hj), getD_set hi]
theorem nodup_getD {l : List Nat} : l.Nodup ↔ ∀ i j, i < l.length → j < l.length → l.getD i 0 = l.getD j 0 → i = j := by
  constructor
  · intro h i j hi hj e
    rw [getD_lt hi, getD_lt hj] at e
    exact (List.getElem_inj h).mp e
  · intro h
    rw [List.nodup_iff_pairwise_ne, List.pairwise_iff_getElem]
    intro i j hi hj hij e
    have := h i j hi hj (by rw [getD_lt hi, getD_lt hj]; exact e)
    omega
theorem mem_getD {l : List Nat} {x : Nat} : x ∈ l ↔ ∃ i, i < l.length ∧ l.getD i 0 = x := by
  constructor
  · intro h
    obtain ⟨i, hi, e⟩ := List.getElem_of_mem h
    exact ⟨i, hi, by rw [getD_lt hi]; exact e⟩
  · rintro ⟨i, hi, e⟩
    rw [getD_lt hi] at e
    rw [← e]; exact List.getElem_mem hi
theorem swap_mem {l : List Nat} {i j x : Nat} (hi : i < l.length) (hj : j < l.length) : x ∈ swapL l i j ↔ x ∈ l := by
  rw [mem_getD, mem_getD, swap_len]
  constructor
  · rintro ⟨k, hk, e⟩
    rw [swap_getD hi hj] at e
    by_cases e1 : k = j
    · rw [if_pos e1] at e; exact ⟨i, hi, e⟩
    · rw [if_neg e1] at e
      by_cases e2 : k = i
      · rw [if_pos e2] at e; exact ⟨j, hj, e⟩
      · rw [if_neg e2] at e; exact ⟨k, hk, e⟩
  · rintro ⟨k, hk, e⟩
    by_cases e1 : k = j
    · refine ⟨i, hi, ?_⟩
      rw [swap_getD hi hj, if_pos rfl]
      by_cases e3 : i = j
      · rw [if_pos e3, e3, ← e1, e]
      · rw [if_neg e3, ← e1, e]
    · by_cases e2 : k = i
      · exact ⟨j, hj, by rw [swap_getD hi hj, if_pos rfl, ← e2, e]⟩
      · exact ⟨k, hk, by rw [swap_getD hi hj, if_neg e1, if_neg e2, e]⟩
theorem swap_nodup {l : List Nat} {i j : Nat} (hi : i < l.length) (hj : j < l.length) (h : l.Nodup) : (swapL l i j).Nodup := by
  rw [nodup_getD] at h ⊢
  rw [swap_len]
  intro a b ha hb e
  have pi : ∀ k, (swapL l i j).getD k 0 = l.getD (if k = j then i else if k = i then j else k) 0 := fun k => by
    rw [swap_getD hi hj]; split <;> first | rfl | (split <;> rfl)
  rw [pi, pi] at e
  have lt : ∀ k, k < l.length → (if k = j then i else if k = i then j else k) < l.length := fun k hk => by split <;> first | assumption | (split <;> assumption)
  have q := h _ _ (lt a ha) (lt b hb) e
  split at q <;> split at q <;> first | omega | (split at q <;> first | omega | (split at q <;> omega))
theorem OrdOk.swap {n : Nat} {o : List Nat} {i j : Nat} (h : OrdOk n o) (hi : i < n) (hj : j < n) : OrdOk n (swapL o i j) :=
  have hi' : i < o.length := by rw [h.len]; exact hi
  have hj' : j < o.length := by rw [h.len]; exact hj
  ⟨by rw [swap_len]; exact h.len, swap_nodup hi' hj' h.nd, fun x hx => h.lt x ((swap_mem hi' hj').mp hx)⟩
theorem nodup_lt_len : ∀ (m : Nat) (l : List Nat), l.Nodup → (∀ x, x ∈ l → x < m) → l.length ≤ m
  | 0, l, _, h => by
    cases l with
    | nil => exact Nat.le_refl _
    | cons x l => exact absurd (h x List.mem_cons_self) (Nat.not_lt_zero _)
  | m + 1, l, hn, h => by
    by_cases hm : m ∈ l
    · have e := List.length_erase_of_mem hm
      have ih := nodup_lt_len m (l.erase m) (hn.erase m) fun x hx => by
        have q := hn.mem_erase_iff.mp hx
        have := h x q.2
        have := q.1
        omega
      omega
    · have ih := nodup_lt_len m l hn fun x hx => by
        have := h x hx
        have : x ≠ m := fun z => hm (z ▸ hx)
        omega
      omega
end

section
variable {K : PySem.W.Frag} {vs : List V} {G : Hp} {M : Mem} {R : KR} {Z : KX}
theorem asg_C {lo c v : Int} {n i : Nat} {g : KG} {σ : St} {R : St → Hp → Mem → Prop} (e : lo + (i : Nat) * c = v) (q : g.val (.int v) σ G M R) : asg g ((srcC lo c n).get i) σ G M R := by subst e; exact q
theorem asg_R {lo v : Int} {n i : Nat} {g : KG} {σ : St} {R : St → Hp → Mem → Prop} (e : lo + (i : Nat) = v) (q : g.val (.int v) σ G M R) : asg g ((srcR lo n).get i) σ G M R := by subst e; exact q
theorem atI_natD {l : List Nat} {i : Nat} (h : i < l.length) : atI (natsV l) (i : Int) = some (.int (l.getD i 0 : Nat)) := atI_nats (by rw [getD_lt h, List.getElem?_eq_getElem h])
theorem ixN_nat {n i : Nat} (h : i < n) : ixN n (i : Int) = some i := by rw [ixN_int (by omega) (by omega)]; rfl
theorem natsV_set {l : List Nat} {i v : Nat} : (natsV l).set i (.int (v : Int)) = natsV (l.set i v) := by unfold natsV; rw [List.map_set]
theorem tyk_cons {x : V} {T : PT} {y : Addr × HO} (h : TyK K G M x T) : TyK K G (y :: M) x T := fun H hv => h H (Wk.drop0 H hv)
theorem ints_ty {l : List Nat} : ItemsTy K G M (natsV l) := fun x hx => by
  obtain ⟨n, _, rfl⟩ := List.mem_map.mp hx
  exact ⟨.int, ty_int, rfl⟩
theorem rep_zeros (n : Nat) : (List.replicate n [V.int 0]).flatten = natsV (List.replicate n 0) := by
  induction n with
  | zero => rfl
  | succ n ih => rw [List.replicate_succ, List.flatten_cons, ih]; rfl
end

section
variable {K : PySem.W.Frag} {vs : List V} {G : Hp} {M : Mem} {R : KR} {Z : KX}
theorem Fr.keys {M M' : Mem} {p : Addr} (h : Fr G M p) (e : M'.map (·.1) = M.map (·.1) := by rfl) : Fr G M' p := ⟨h.1, fun x hx z => by
  have : x.1 ∈ M'.map (·.1) := List.mem_map.mpr ⟨x, hx, rfl⟩
  rw [e] at this
  obtain ⟨y, hy, ey⟩ := List.mem_map.mp this
  exact h.2 y hy (ey.trans z)⟩
/-! ### cells that were just laid, frozen together -/
inductive Frs (G : Hp) (M : Mem) : Mem → Prop
  | nil : Frs G M []
  | cons {p : Addr} {o : HO} {Mx : Mem} : Fr G (Mx ++ M) p → Frs G M Mx → Frs G M ((p, o) :: Mx)
theorem Frs.key {Mx : Mem} (h : Frs G M Mx) : ∀ x, x ∈ Mx → G x.1 = none ∧ ∀ y, y ∈ M → y.1 ≠ x.1 := by
  induction h with
  | nil => intro x hx; cases hx
  | cons f _ ih =>
    intro x hx
    rcases List.mem_cons.mp hx with rfl | hx
    · exact ⟨f.1, fun y hy => f.2 y (List.mem_append.mpr (.inr hy))⟩
    · exact ih x hx
theorem Frs.upd {Mx : Mem} {p : Addr} {o : HO} (h : Frs G M Mx) (f : ∀ x, x ∈ Mx → x.1 ≠ p) : Frs (upd G p o) M Mx := by
  induction h with
  | nil => exact .nil
  | cons f1 _ ih => exact .cons ⟨by rw [upd_ne (f _ List.mem_cons_self)]; exact f1.1, f1.2⟩ (ih fun x hx => f x (List.mem_cons_of_mem _ hx))
theorem Frs.more {Mx : Mem} {x : Addr × HO} (h : Frs G M Mx) (f : ∀ y, y ∈ Mx → x.1 ≠ y.1) : Frs G (x :: M) Mx := by
  induction h with
  | nil => exact .nil
  | @cons p o Mx f1 _ ih =>
    refine .cons ⟨f1.1, fun y hy => ?_⟩ (ih fun y hy => f y (List.mem_cons_of_mem _ hy))
    rcases List.mem_append.mp hy with hy | hy
    · exact f1.2 y (List.mem_append.mpr (.inl hy))
    · rcases List.mem_cons.mp hy with rfl | hy
      · exact f _ List.mem_cons_self
      · exact f1.2 y (List.mem_append.mpr (.inr hy))
/-! ### things whose type is known -/
theorem ty_ex {G' : Hp} {x : V} {T : PT} (e : Ex G G') (h : ∀ M, TyK K G M x T) : ∀ M, TyK K G' M x T := fun M H hv => h M H (Wk.less e H hv)
theorem WOk.ex {G' : Hp} {w : V} (e : Ex G G') (h : WOk K G w) : WOk K G' w := by
  obtain ⟨S, h1, h2⟩ := h
  exact ⟨S, ty_ex e h1, h2⟩
theorem IOk.ex {G' : Hp} {w : V} (e : Ex G G') (h : IOk K G w) : IOk K G' w := by
  obtain ⟨S, h1, h2⟩ := h
  exact ⟨S, ty_ex e h1, h2⟩
/-! ### slices of numbers -/
theorem cut_take {xs : List V} {k : Nat} : cutV xs none (some (k : Int)) = xs.take k := by
  unfold cutV
  rw [HT.sIx_none, HT.sIx_nat, List.drop_zero, Nat.sub_zero]
  rw [Nat.min_def]; split
  · rfl
  · rw [List.take_length, List.take_of_length_le (by omega)]
/-- numbers as data -/
def natsD (l : List Nat) : List PyData := l.map fun (n : Nat) => PyData.int (n : Int)
theorem dp_nats : ∀ (l : List Nat), DpAll K G (natsV l) (natsD l)
  | [] => .nil
  | n :: l => .cons (.int _) (dp_nats l)
theorem shp_nats {n : Nat} (l : List Nat) : Shp (n + 1) (.list (natsD l)) := .list fun d hd => by
  obtain ⟨i, _, rfl⟩ := List.mem_map.mp hd
  exact .int
theorem dat_nats {a : Addr} {l : List Nat} (h : LstAt K G M a (natsV l)) : DatAt K G M (.ref a) (.list (natsD l)) := dat_list h (dats_g (dp_nats l))
/-- something drawn from a written list -/
theorem pick {l : List V} {p : Addr} {n : Nat} {c s : Int} (hn : M[n]? = some (p, pool c s)) (hs : PoolOk s) (h0 : 0 < l.length) (h1 : l.length ≤ 1000)
    (q : ∀ y c' s' d, y ∈ l → PoolOk s' → Fr G M d → R y G ((d, .lst l) :: M.set n (p, pool c' s'))) :
    l.length ≤ sizeLine ∧ ∀ d, Fr G M d → S_law_take K [.ref p, .int (l.length : Int)] G ((d, .lst l) :: M) (fun y G M => kIx K (.ref d) y G M R) E0 := by
  refine ⟨sz (by omega), fun d fd => ⟨p, l.length, n + 1, c, s, rfl, rfl, hn, hs, by omega, ?_, fun r c' s' r0 r1 hs' => ?_⟩⟩
  · have : (l.length : Int) ≤ 1000 := by omega
    have : (1000 : Int) < 2 ^ 200 := by decide
    omega
  · obtain ⟨y, hy, hm⟩ := at_mem (l := l) r0 r1
    exact ⟨l, y, lst_n (n := 0) rfl, hy, q y c' s' d hm hs' fd⟩
end

section
variable {K : PySem.W.Frag} {vs : List V} {G : Hp} {M : Mem} {R : KR} {Z : KX}
end

section
end

section
variable {K : PySem.W.Frag} {vs : List V} {G : Hp} {M : Mem} {R : KR} {Z : KX}
theorem p2 (n : Nat) (a : Int) : a * 2 ^ (n : Int).toNat = a * ((2 ^ n : Nat) : Int) := by simp
theorem high_uniq : ∀ m, m < 33 → ∀ h, h < 7 → (∀ j, j < h → 2 ^ j < m) → ¬ 2 ^ h < m → highN m = h := by decide +kernel
theorem pow_lt6 : ∀ m, m < 33 → ∀ h, h < 7 → 2 ^ h < m → h < 6 := by decide +kernel
theorem side_uniq : ∀ m, m < 33 → ∀ h, h < 8 → (1 ≤ h ∧ ∀ j, j < h → j * j < m) → ¬ h * h < m → 1 ≤ m → sideN m = h := by decide +kernel
theorem sq_lt7 : ∀ m, m < 33 → ∀ h, h < 8 → h * h < m → h < 6 := by decide +kernel
theorem side_ok : ∀ m, m < 33 → 1 ≤ m → 1 ≤ sideN m ∧ sideN m ≤ 6 := by decide +kernel
theorem headF6 (q : Nat → Bool) (h : Nat) (hh : h < 6) (a : ∀ j, j < h → q j = false) (b : q h = true) : ((List.range 6).filter q).headD 0 = h := by
  show (List.filter q [0, 1, 2, 3, 4, 5]).headD 0 = h
  have n : ∀ j, j < h → ¬ q j = true := fun j hj => by rw [a j hj]; exact Bool.false_ne_true
  rcases (by omega : h = 0 ∨ h = 1 ∨ h = 2 ∨ h = 3 ∨ h = 4 ∨ h = 5) with rfl | rfl | rfl | rfl | rfl | rfl
  · rw [List.filter_cons_of_pos b]; rfl
  · rw [List.filter_cons_of_neg (n 0 (by omega)), List.filter_cons_of_pos b]; rfl
  · rw [List.filter_cons_of_neg (n 0 (by omega)), List.filter_cons_of_neg (n 1 (by omega)), List.filter_cons_of_pos b]; rfl
  · rw [List.filter_cons_of_neg (n 0 (by omega)), List.filter_cons_of_neg (n 1 (by omega)), List.filter_cons_of_neg (n 2 (by omega)), List.filter_cons_of_pos b]; rfl
  · rw [List.filter_cons_of_neg (n 0 (by omega)), List.filter_cons_of_neg (n 1 (by omega)), List.filter_cons_of_neg (n 2 (by omega)), List.filter_cons_of_neg (n 3 (by omega)), List.filter_cons_of_pos b]; rfl
  · rw [List.filter_cons_of_neg (n 0 (by omega)), List.filter_cons_of_neg (n 1 (by omega)), List.filter_cons_of_neg (n 2 (by omega)), List.filter_cons_of_neg (n 3 (by omega)), List.filter_cons_of_neg (n 4 (by omega)), List.filter_cons_of_pos b]; rfl
theorem stair_uniq (m : Nat) (hm : m < 33) (p : Nat) (hp : p < 31) (h : Nat) (hh : h < 6) (h1 : h ≤ lastN m) (h2 : ∀ j, j < h → j < lastN m ∧ p % (2 * 2 ^ j) = 0) (h3 : ¬ (h < lastN m ∧ p % (2 * 2 ^ h) = 0)) : stairN m p = h := by
  refine headF6 _ h hh (fun j hj => ?_) ?_
  · obtain ⟨x, y⟩ := h2 j hj
    have x' : ¬ j = lastN m := by omega
    have y' : ¬ p % (2 * 2 ^ j) ≠ 0 := fun z => z y
    show (decide (j = lastN m) || decide (p % (2 * 2 ^ j) ≠ 0)) = false
    rw [decide_eq_false x', decide_eq_false y']; rfl
  · show (decide (h = lastN m) || decide (p % (2 * 2 ^ h) ≠ 0)) = true
    by_cases e : h = lastN m
    · rw [decide_eq_true e]; rfl
    · have y' : p % (2 * 2 ^ h) ≠ 0 := fun z => h3 ⟨by omega, z⟩
      rw [decide_eq_true y', Bool.or_true]
theorem last_le : ∀ m, m < 33 → lastN m ≤ 4 := by decide +kernel
theorem sq0 {m j : Nat} (h : 1 ≤ m) (z : j < 1) : j * j < m := by
  have e : j = 0 := by omega
  rw [e]; omega
theorem pf_high_of (h : S_high_of K vs G M R Z) : rd_high_of K (ends R Z) (sta 2 vs) G M := by
  obtain ⟨_, rfl, m, ⟨rfl, m0, m1⟩, q⟩ := sp1_of h
  refine ⟨G, M, Wk.refl, G, M, Wk.refl, fun k σ G' M' => ∃ h : Nat, k = 7 - h ∧ h ≤ 6 ∧ σ = [some (.int m), some (.int (h : Nat))] ∧ G' = G ∧ M' = M ∧ ∀ j, j < h → 2 ^ j < m, ⟨7, 0, rfl, by decide, rfl, rfl, rfl, fun _ z => absurd z (Nat.not_lt_zero _)⟩, ?_⟩
  clear h
  rintro k σ G' M' ⟨h, rfl, h6, rfl, rfl, rfl, hj⟩
  refine ⟨⟨by omega, by omega, by decide⟩, ?_⟩
  refine ite2' (c := decide ((1 : Int) * 2 ^ (h : Int).toNat < (m : Int))) (fun e => ?_) (fun e => ?_)
  · have e := of_decide_eq_true e
    rw [p2, Int.one_mul] at e
    have e : 2 ^ h < m := by omega
    have := pow_lt6 m (by omega) h (by omega) e
    refine ⟨_, _, Wk.refl, 7 - (h + 1), by omega, _, _, Wk.refl, h + 1, rfl, by omega, rfl, rfl, rfl, fun j hj2 => ?_⟩
    by_cases z : j = h
    · rw [z]; exact e
    · exact hj j (by omega)
  · have e := of_decide_eq_false e
    rw [p2, Int.one_mul] at e
    have e : ¬ 2 ^ h < m := by omega
    refine ⟨_, _, Wk.refl, ret0 ?_⟩
    rw [high_uniq m (by omega) h (by omega) hj e] at q
    exact q
theorem pf_last_of (h : S_last_of K vs G M R Z) : rd_last_of K (ends R Z) (sta 1 vs) G M := by
  obtain ⟨_, rfl, m, ⟨rfl, m0, m1⟩, q⟩ := sp1_of h
  refine ⟨G, M, Wk.refl, m, ⟨rfl, m0, m1⟩, ret0 ?_⟩
  have e : max (0 : Int) ((highN m : Int) - 1) = (lastN m : Int) := by unfold lastN; omega
  show R (.int (max (0 : Int) ((highN m : Int) - 1))) G M
  rw [e]; exact q
theorem pf_side_of (h : S_side_of K vs G M R Z) : rd_side_of K (ends R Z) (sta 2 vs) G M := by
  obtain ⟨_, rfl, m, ⟨rfl, m0, m1⟩, q⟩ := sp1_of h
  refine ⟨G, M, Wk.refl, G, M, Wk.refl, fun k σ G' M' => ∃ h : Nat, k = 8 - h ∧ 1 ≤ h ∧ h ≤ 7 ∧ σ = [some (.int m), some (.int (h : Nat))] ∧ G' = G ∧ M' = M ∧ ∀ j, j < h → j * j < m, ⟨7, 1, rfl, by decide, by decide, rfl, rfl, rfl, fun j z => sq0 m0 z⟩, ?_⟩
  clear h
  rintro k σ G' M' ⟨h, rfl, h1, h7, rfl, rfl, rfl, hj⟩
  refine ⟨mul_l (by omega) (by omega), ?_⟩
  refine ite2' (c := decide ((h : Int) * (h : Int) < (m : Int))) (fun e => ?_) (fun e => ?_)
  · have e := of_decide_eq_true e
    have e : h * h < m := by rw [← Int.natCast_mul] at e; omega
    have := sq_lt7 m (by omega) h (by omega) e
    refine ⟨_, _, Wk.refl, 8 - (h + 1), by omega, _, _, Wk.refl, h + 1, rfl, by omega, by omega, rfl, rfl, rfl, fun j hj2 => ?_⟩
    by_cases z : j = h
    · rw [z]; exact e
    · exact hj j (by omega)
  · have e := of_decide_eq_false e
    have e : ¬ h * h < m := by rw [← Int.natCast_mul] at e; omega
    refine ⟨_, _, Wk.refl, ret0 ?_⟩
    rw [side_uniq m (by omega) h (by omega) ⟨h1, hj⟩ e m0] at q
    exact q
theorem pf_stair_of (h : S_stair_of K vs G M R Z) : rd_stair_of K (ends R Z) (sta 3 vs) G M := by
  obtain ⟨_, _, rfl, m, p, ⟨rfl, m0, m1⟩, ⟨rfl, p0, p1⟩, q⟩ := sp2_of h
  have hL := last_le m (by omega)
  refine ⟨G, M, Wk.refl, G, M, Wk.refl, fun k σ G' M' => ∃ h : Nat, k = 7 - h ∧ h ≤ lastN m ∧ σ = [some (.int m), some (.int p), some (.int (h : Nat))] ∧ G' = G ∧ M' = M ∧ ∀ j, j < h → j < lastN m ∧ p % (2 * 2 ^ j) = 0, ⟨7, 0, rfl, by omega, rfl, rfl, rfl, fun _ z => absurd z (Nat.not_lt_zero _)⟩, ?_⟩
  clear h
  rintro k σ G' M' ⟨h, rfl, h6, rfl, rfl, rfl, hj⟩
  have stop : ¬ (h < lastN m ∧ p % (2 * 2 ^ h) = 0) → rd_stair_of_2 K (ends R Z) [some (.int m), some (.int p), some (.int (h : Nat))] G' M' := fun e => by
    refine ⟨_, _, Wk.refl, ret0 ?_⟩
    rw [stair_uniq m (by omega) p (by omega) h (by omega) h6 hj e] at q
    exact q
  refine ⟨m, ⟨rfl, m0, m1⟩, ?_⟩
  refine ite2' (c := decide ((h : Int) < (lastN m : Int))) (fun e => ?_) (fun e => ?_)
  · have e := of_decide_eq_true e
    have pp : 0 < 2 ^ h := Nat.pow_pos (by decide)
    refine ⟨⟨by omega, by omega, by decide⟩, (by show (0 : Int) < 2 * 2 ^ (h : Int).toNat; rw [p2]; omega), ?_⟩
    have em : (p : Int) % (2 * 2 ^ (h : Int).toNat) = ((p % (2 * 2 ^ h) : Nat) : Int) := by rw [p2]; simp
    refine ite2' (c := decide (V.int ((p : Int) % (2 * 2 ^ (h : Int).toNat)) = .int 0)) (fun e2 => ?_) (fun e2 => ?_)
    · have e2 := V.int.inj (of_decide_eq_true e2)
      rw [em] at e2
      have e2 : p % (2 * 2 ^ h) = 0 := by omega
      refine ⟨_, _, Wk.refl, 7 - (h + 1), by omega, _, _, Wk.refl, h + 1, rfl, by omega, rfl, rfl, rfl, fun j hj2 => ?_⟩
      by_cases z : j = h
      · rw [z]; exact ⟨by omega, e2⟩
      · exact hj j (by omega)
    · have e2 := of_decide_eq_false e2
      rw [em] at e2
      exact stop fun ⟨_, z⟩ => e2 (by rw [z]; rfl)
  · have e := of_decide_eq_false e
    exact stop fun ⟨z, _⟩ => by omega
theorem pf_slots_of (h : S_slots_of K vs G M R Z) : rd_slots_of K (ends R Z) (sta 3 vs) G M := by
  obtain ⟨_, _, rfl, m, st, ⟨rfl, m0, m1⟩, ⟨rfl, s0, s1⟩, q⟩ := sp2_of h
  refine ⟨G, M, Wk.refl, ⟨by omega, by omega, by decide⟩, ?_⟩
  have es : (2 : Int) * 2 ^ (st : Int).toNat = ((2 * 2 ^ st : Nat) : Int) := by rw [p2]; simp
  show rd_slots_of_1 K (ends R Z) [some (.int m), some (.int st), some (.int ((2 : Int) * 2 ^ (st : Int).toNat))] G M
  rw [es]
  refine ⟨G, M, Wk.refl, m, ⟨rfl, m0, m1⟩, ?_⟩
  refine ite2' (c := decide (V.int (st : Int) = .int (lastN m : Int))) (fun e => ?_) (fun e => ?_)
  · have e := V.int.inj (of_decide_eq_true e)
    have e : st = lastN m := by omega
    refine ⟨G, M, Wk.refl, sz2, fun t ft => ret0 ?_⟩
    refine q t _ (Ex.new ft) ?_
    unfold slotA; rw [if_pos e]; exact sqt_new
  · have e := of_decide_eq_false e
    have e : ¬ st = lastN m := fun z => e (by rw [z])
    refine ⟨G, M, Wk.refl, sz2, fun t ft => ret0 ?_⟩
    refine q t _ (Ex.new ft) ?_
    unfold slotA; rw [if_neg e]; exact sqt_new
theorem pf_look_at_many (h : S_look_at_many K vs G M R Z) : rd_look_at_many K (ends R Z) (sta 1 vs) G M := by
  obtain ⟨x, rfl, T, hT, hi, q, z⟩ := sp1_of h
  refine ⟨G, M, Wk.refl, T, 1, 32, rfl, rfl, hT, hi, ?_⟩
  refine ite2' (c := !withinV x 1 32) (fun e => ?_) (fun e => ?_)
  · exact ⟨G, M, Wk.refl, G, M, Wk.refl, z (by simpa using e)⟩
  · exact ret0 (q (by simpa using e))
theorem pf_look_at_sizes (h : S_look_at_sizes K vs G M R Z) : rd_look_at_sizes K (ends R Z) (sta 2 vs) G M := by
  obtain ⟨x, y, rfl, T, U, hT, hi, hU, hu, q, z⟩ := sp2_of h
  refine ⟨G, M, Wk.refl, T, hT, hi, fun e => ?_, fun e => ?_⟩
  · rw [e] at q z
    refine ⟨G, M, Wk.refl, U, 0, 60, rfl, rfl, hU, hu, ?_⟩
    refine ite2' (c := !withinV y 0 60) (fun e => ?_) (fun e => ?_)
    · exact ⟨G, M, Wk.refl, G, M, Wk.refl, z (by simpa using e)⟩
    · exact ret0 (q (by simpa using e))
  · rw [e] at z
    exact ⟨G, M, Wk.refl, z rfl⟩
end

section
variable {K : PySem.W.Frag} {vs : List V} {G : Hp} {M : Mem} {R : KR} {Z : KX}
theorem rep_snoc {α : Type} (n : Nat) (a : α) : List.replicate (n + 1) a = List.replicate n a ++ [a] := List.replicate_succ'
theorem map_rep {α β : Type} (f : α → β) (n : Nat) (a : α) : (List.replicate n a).map f = List.replicate n (f a) := List.map_replicate
theorem pf_spare_needs (h : S_spare_needs K vs G M R Z) : rd_spare_needs K (ends R Z) (sta 4 vs) G M := by
  obtain ⟨_, _, rfl, m, n, ⟨rfl, m0, m1⟩, ⟨rfl, n0, n1⟩, q⟩ := sp2_of h
  obtain ⟨s0, s1⟩ := side_ok m (by omega) m0
  refine ⟨G, M, Wk.refl, m, ⟨rfl, m0, m1⟩, ?_⟩
  have hr := rg_up (i := 0) (j := (n : Int)) (c := (sideN m : Int)) (by omega) (by omega) (by omega) (by omega) (by omega) (by omega)
  have en : (if (0 : Int) < (n : Int) then (((n : Int) - 0 - 1) / (sideN m : Int) + 1).toNat else 0) = (n + sideN m - 1) / sideN m := by
    by_cases z : 0 < n
    · rw [if_pos (by omega)]
      have e1 : n + sideN m - 1 = (n - 1) + sideN m := by omega
      rw [e1, Nat.add_div_right _ (by omega)]
      have e2 : (n : Int) - 0 - 1 = ((n - 1 : Nat) : Int) := by omega
      rw [e2, ← Int.natCast_ediv]
      generalize (n - 1) / sideN m = z
      omega
    · rw [if_neg (by omega)]
      have : n = 0 := by omega
      subst this
      rw [Nat.zero_add, Nat.div_eq_of_lt (by omega)]
  rw [en] at hr
  have hb : (n + sideN m - 1) / sideN m ≤ n + sideN m := Nat.le_trans (Nat.div_le_self _ _) (by omega)
  refine ⟨G, M, Wk.refl, _, hr, sz (by show (n + sideN m - 1) / sideN m ≤ _; omega), fun i acc G' M' => Ex G G' ∧ M' = M ∧ DpAll K G' acc (List.replicate i (knD ⟨false, m + sideN m⟩)), ⟨Ex.refl, rfl, .nil⟩, fun _ _ _ _ _ _ => trivial, ?_, ?_⟩
  · rintro i acc G' M' D hi hacc ⟨ex, rfl, hd⟩ fD
    refine ⟨rfl, sz2, fun t ft => ⟨_, _, Wk.refl, ex.trans (Ex.new ft), rfl, ?_⟩⟩
    rw [rep_snoc]
    exact dpall_snoc (ex_ds (Ex.new ft) _ hd) (dp_kn (k := ⟨false, m + sideN m⟩) sqt_new)
  · rintro acc G' M' w ⟨ex, rfl, hd⟩ hacc fw
    refine ret0 (q w acc G' ex fw ?_)
    unfold spareK; rw [map_rep]; exact hd
theorem stairN_le : ((List.range 33).all fun m => (List.range 31).all fun p => decide (stairN m p ≤ 5)) = true := by decide +kernel
theorem stair_le {m p : Nat} (hm : m < 33) (hp : p < 31) : stairN m p ≤ 5 := of_decide_eq_true (List.all_eq_true.mp (List.all_eq_true.mp stairN_le m (List.mem_range.mpr hm)) p (List.mem_range.mpr hp))
theorem range_map_snoc {α : Type} (f : Nat → α) (i : Nat) : (List.range (i + 1)).map f = (List.range i).map f ++ [f i] := by rw [List.range_succ, List.map_append]; rfl
theorem pf_stairs_needs (h : S_stairs_needs K vs G M R Z) : rd_stairs_needs K (ends R Z) (sta 5 vs) G M := by
  obtain ⟨_, _, rfl, m, n, ⟨rfl, m0, m1⟩, ⟨rfl, n0, n1⟩, q⟩ := sp2_of h
  have hL := last_le m (by omega)
  refine ⟨G, M, Wk.refl, ite2' (c := decide (V.int (n : Int) = .int 0)) (fun e => ?_) (fun e => ?_)⟩
  · have e := V.int.inj (of_decide_eq_true e)
    have e : n = 0 := by omega
    refine ⟨G, M, Wk.refl, sz0, fun t ft => ret0 (q t [] G Ex.refl ft ?_)⟩
    unfold stairsK; rw [if_pos e]; exact .nil
  have e := of_decide_eq_false e
  have hn : ¬ n = 0 := fun z => e (by rw [z]; rfl)
  refine ⟨G, M, Wk.refl, m, ⟨rfl, m0, m1⟩, sz1, fun a fa => ⟨divW (by decide) (by decide) _, ⟨by omega, by omega⟩, ?_⟩⟩
  have ed : ((n : Int) + 1) / 2 = (((n + 1) / 2 : Nat) : Int) := by omega
  have er : (((n : Int) + 1) / 2 - 1).toNat = (n + 1) / 2 - 1 := by omega
  refine ⟨sz (by show (((n : Int) + 1) / 2 - 1).toNat ≤ _; omega), fun i acc G' M' => G' = G ∧ M' = (a, .lst [.int (lastN m)]) :: M ∧ acc = natsV ((List.range i).map fun i => stairN m (i + 1)), ⟨rfl, rfl, rfl⟩, fun _ _ _ _ _ _ => trivial, ?_, ?_⟩
  · rintro i acc G' M' D hi hacc ⟨rfl, rfl, rfl⟩ fD
    have hi : i < (((n : Int) + 1) / 2 - 1).toNat := hi
    refine ⟨rfl, m, i + 1, ⟨rfl, m0, m1⟩, ⟨by show V.int (1 + (i : Int)) = .int ((i + 1 : Nat) : Int); congr 1; omega, by omega, by omega⟩, _, _, Wk.refl, rfl, rfl, ?_⟩
    rw [range_map_snoc]; unfold natsV; rw [List.map_append]; rfl
  rintro acc G' M' b ⟨rfl, rfl, rfl⟩ hacc fb
  refine ⟨_, _, .inl (List.mem_cons_of_mem _ List.mem_cons_self), .inl List.mem_cons_self, sz (by rw [natsV_len, List.length_map, List.length_range]; show 1 + (((n : Int) + 1) / 2 - 1).toNat ≤ _; omega), fun c fc => ?_⟩
  have el : [V.int (lastN m : Int)] ++ natsV ((List.range (((n : Int) + 1) / 2 - 1).toNat).map fun i => stairN m (i + 1)) = natsV (stairL m n) := by
    rw [er]; rfl
  have hst : ∀ s, s ∈ stairL m n → s ≤ 5 := fun s hs => by
    rcases List.mem_cons.mp hs with rfl | hs
    · omega
    · obtain ⟨j, hj, rfl⟩ := List.mem_map.mp hs
      have := List.mem_range.mp hj
      exact stair_le (by omega) (by omega)
  have hlen : (stairL m n).length ≤ 40 := by unfold stairL; simp; omega
  refine ⟨G', (c, .lst (natsV (stairL m n))) :: M, ?_, natsV (stairL m n), lat_0, sz (by show (natsV (stairL m n)).length ≤ _; rw [natsV_len]; omega), fun i acc G2 M2 => Ex G' G2 ∧ M2 = (c, .lst (natsV (stairL m n))) :: M ∧ DpAll K G2 acc ((((stairL m n).take i).map fun st => (⟨false, slotA m st + 2 * 2 ^ st⟩ : Kn)).map knD), ⟨Ex.refl, rfl, .nil⟩, ?_, ?_, ?_⟩
  · rw [← el]
    exact Wk.drop1.trans Wk.drop1
  · rintro i acc G2 M2 hi ⟨ex, rfl, hd⟩; exact lat_0
  · rintro i acc G2 M2 D hi hacc ⟨ex, rfl, hd⟩ fD
    have hi : i < (natsV (stairL m n)).length := hi
    rw [natsV_len] at hi
    obtain ⟨s, hs⟩ : ∃ s, (stairL m n)[i]? = some s := ⟨_, List.getElem?_eq_getElem hi⟩
    have hs5 := hst s (List.mem_of_getElem? hs)
    refine asg_L (natsV_get hs) ⟨rfl, m, s, ⟨rfl, m0, m1⟩, ⟨rfl, by omega, by omega⟩, fun t G3 x3 ht => ?_⟩
    refine ⟨[(slotA m s : Int), ((2 * 2 ^ s : Nat) : Int)], .inr ht, sz2, fun t2 ft2 => ⟨_, _, Wk.refl, (ex.trans x3).trans (Ex.new ft2), rfl, ?_⟩⟩
    rw [take_succ' hs, List.map_append, List.map_append]
    refine dpall_snoc (ex_ds (x3.trans (Ex.new ft2)) _ hd) (dp_kn (k := ⟨false, slotA m s + 2 * 2 ^ s⟩) ?_)
    have es : [(slotA m s : Int), ((2 * 2 ^ s : Nat) : Int)].sum = ((slotA m s + 2 * 2 ^ s : Nat) : Int) := by simp
    rw [es]; exact sqt_new
  · rintro acc G2 M2 w ⟨ex, rfl, hd⟩ hacc fw
    refine retW Wk.drop1 (q w acc G2 ex fw.cons ?_)
    unfold stairsK; rw [if_neg hn]
    have hd : DpAll K G2 acc ((((stairL m n).take (natsV (stairL m n)).length).map fun st => (⟨false, slotA m st + 2 * 2 ^ st⟩ : Kn)).map knD) := hd
    rw [natsV_len, List.take_length] at hd
    exact hd
theorem pf_grove_needs (h : S_grove_needs K vs G M R Z) : rd_grove_needs K (ends R Z) (sta 4 vs) G M := by
  obtain ⟨_, _, rfl, a, ts, n, rfl, ha, hts, hl, ⟨rfl, n0, n1⟩, q⟩ := sp2_of h
  have id_ : ∀ x, x ∈ M → x ∈ M := fun _ h => h
  refine ⟨G, M, Wk.refl, sz0, fun t ft => ?_⟩
  refine ⟨G, _, Wk.refl, natsV ts, lat_cons ha, fun i σ G' M' => ∃ (t : Addr) (us : List V) (y3 : Option V), σ = [some (.ref a), some (.int n), some (.ref t), y3] ∧ Ex G G' ∧ M' = (t, .lst us) :: M ∧ DpAll K G' us (((ts.take i).flatMap fun m => List.replicate m (⟨true, highN m⟩ : Kn)).map knD) ∧ us.length ≤ 32 * i, ⟨t, [], none, rfl, Ex.refl, rfl, .nil, by simp⟩, ?_, ?_, ?_⟩
  · rintro i σ G' M' hi ⟨t, us, y3, rfl, ex, rfl, hd, hul⟩
    exact lat_cons (ex_lat ex id_ ha)
  · rintro i σ G' M' hi ⟨t, us, y3, rfl, ex, rfl, hd, hul⟩
    have hi : i < (natsV ts).length := hi
    rw [natsV_len] at hi
    obtain ⟨m, hm⟩ : ∃ m, ts[i]? = some m := ⟨_, List.getElem?_eq_getElem hi⟩
    obtain ⟨m0, m1⟩ := hts m (List.mem_of_getElem? hm)
    refine asg_L (natsV_get hm) ⟨_, _, Wk.refl, m, ⟨rfl, m0, m1⟩, sz2, fun T fT => ⟨sz1, fun b fb => ⟨_, .inl List.mem_cons_self, by omega, by omega, sz (by show 1 * (m : Int).toNat ≤ _; omega), fun c fc => ?_⟩⟩⟩
    have efl : (List.replicate (m : Int).toNat [V.ref T]).flatten = List.replicate m (V.ref T) := by
      rw [Int.toNat_natCast]
      clear fc fb hm m0 m1
      induction m with
      | zero => rfl
      | succ m ih => rw [List.replicate_succ, List.flatten_cons, ih, List.replicate_succ]; rfl
    rw [efl]
    refine ⟨us, _, .inl (List.mem_cons_of_mem _ (List.mem_cons_of_mem _ List.mem_cons_self)), .inl List.mem_cons_self, sz (by rw [List.length_replicate]; omega), fun d fd => ?_⟩
    refine ⟨_, (d, .lst (us ++ List.replicate m (V.ref T))) :: M, Wk.drop1.trans (Wk.drop1.trans Wk.drop1), d, _, _, rfl, ex.trans (Ex.new fT), rfl, ?_, ?_⟩
    · rw [take_succ' hm, List.flatMap_append, List.map_append]
      refine dpall_app2 (ex_ds (Ex.new fT) _ hd) ?_
      rw [List.flatMap_cons, List.flatMap_nil, List.append_nil, map_rep]
      exact dpall_rep (dp_kn (k := ⟨true, highN m⟩) sqt_new) m
    · rw [List.length_append, List.length_replicate]; omega
  rintro σ G' M' ⟨t, us, y3, rfl, ex, rfl, hd, hul⟩
  have hd : DpAll K G' us (((ts.take (natsV ts).length).flatMap fun m => List.replicate m (⟨true, highN m⟩ : Kn)).map knD) := hd
  have hul : us.length ≤ 32 * (natsV ts).length := hul
  rw [natsV_len] at hd hul
  rw [List.take_length] at hd
  refine ⟨G', _, Wk.refl, natsV ts, lat_cons (ex_lat ex id_ ha), sz (by show (natsV ts).length ≤ _; rw [natsV_len]; omega), fun i acc G2 M2 => Ex G' G2 ∧ M2 = (t, .lst us) :: M ∧ DpAll K G2 acc (((ts.take i).map fun m => (⟨true, highN m⟩ : Kn)).map knD), ⟨Ex.refl, rfl, .nil⟩, ?_, ?_, ?_⟩
  · rintro i acc G2 M2 hi ⟨ex2, rfl, hd2⟩
    exact lat_cons (ex_lat (ex.trans ex2) id_ ha)
  · rintro i acc G2 M2 D hi hacc ⟨ex2, rfl, hd2⟩ fD
    have hi : i < (natsV ts).length := hi
    rw [natsV_len] at hi
    obtain ⟨m, hm⟩ : ∃ m, ts[i]? = some m := ⟨_, List.getElem?_eq_getElem hi⟩
    obtain ⟨m0, m1⟩ := hts m (List.mem_of_getElem? hm)
    refine asg_L (natsV_get hm) ⟨rfl, m, ⟨rfl, m0, m1⟩, sz2, fun T fT => ⟨_, _, Wk.refl, ex2.trans (Ex.new fT), rfl, ?_⟩⟩
    rw [take_succ' hm, List.map_append, List.map_append]
    exact dpall_snoc (ex_ds (Ex.new fT) _ hd2) (dp_kn (k := ⟨true, highN m⟩) sqt_new)
  · rintro acc G2 M2 b ⟨ex2, rfl, hd2⟩ hacc fb
    have hd2 : DpAll K G2 acc (((ts.take (natsV ts).length).map fun m => (⟨true, highN m⟩ : Kn)).map knD) := hd2
    rw [natsV_len, List.take_length] at hd2
    have hal : acc.length = ts.length := by rw [dpall_len hd2]; simp
    have hmul : acc.length * n ≤ 3 * 60 := Nat.mul_le_mul (by omega) n1
    have hfl : ((List.replicate n acc).flatten).length = n * acc.length := by simp
    refine ⟨acc, .inl List.mem_cons_self, by omega, by omega, sz (by rw [Int.toNat_natCast]; omega), fun c fc => ?_⟩
    rw [Int.toNat_natCast]
    refine ⟨us, _, .inl (List.mem_cons_of_mem _ (List.mem_cons_of_mem _ List.mem_cons_self)), .inl List.mem_cons_self, sz (by rw [hfl, Nat.mul_comm n]; omega), fun d fd => ?_⟩
    refine retW (Wk.drop1.trans (Wk.drop1.trans Wk.drop1)) (q d _ G2 (ex.trans ex2) fd.cons.cons.cons ?_)
    unfold groveK
    rw [List.map_append]
    refine dpall_app2 (ex_ds ex2 _ hd) ?_
    rw [List.map_flatten, map_rep]
    exact dpall_flat hd2 n
theorem trees_each : ((List.range 33).all fun m => decide (m = 0) || ((treesN m).all fun t => decide (1 ≤ t) && decide (t ≤ 32)) && decide ((treesN m).length ≤ 3)) = true := by decide +kernel
theorem trees_ok {m : Nat} (h0 : 1 ≤ m) (h1 : m ≤ 32) : (∀ t, t ∈ treesN m → 1 ≤ t ∧ t ≤ 32) ∧ (treesN m).length ≤ 3 := by
  have a := List.all_eq_true.mp trees_each m (List.mem_range.mpr (by omega))
  rw [decide_eq_false (show ¬ m = 0 by omega), Bool.false_or, Bool.and_eq_true] at a
  refine ⟨fun t ht => ?_, of_decide_eq_true a.2⟩
  have b := List.all_eq_true.mp a.1 t ht
  rw [Bool.and_eq_true] at b
  exact ⟨of_decide_eq_true b.1, of_decide_eq_true b.2⟩
theorem atI_last {l : List Nat} {v : Nat} : atI (natsV (l ++ [v])) (-1) = some (.int (v : Int)) := by
  have e : natsV (l ++ [v]) = natsV l ++ [V.int (v : Int)] := by unfold natsV; rw [List.map_append]; rfl
  rw [e]
  unfold atI ixN
  rw [List.length_append, if_neg (by decide), if_pos (by simp; omega)]
  have e2 : ((-1 : Int) + ((natsV l).length + [V.int (v : Int)].length : Nat)).toNat = (natsV l).length := by simp; omega
  rw [e2]
  simp
theorem pf_trees_of (h : S_trees_of K vs G M R Z) : rd_trees_of K (ends R Z) (sta 2 vs) G M := by
  obtain ⟨_, rfl, m, ⟨rfl, m0, m1⟩, q⟩ := sp1_of h
  refine ⟨G, M, Wk.refl, sz1, fun t ft => ?_⟩
  refine ⟨G, _, Wk.refl, fun k σ G' M' => ∃ (l : List Nat) (v : Nat), σ = [some (.int m), some (.ref t)] ∧ G' = G ∧ M' = (t, .lst (natsV (l ++ [v]))) :: M ∧ treesN m = l ++ trN k v ∧ v ≤ 4 * 4 ^ k ∧ l.length + k ≤ 3, ⟨3, [], m, rfl, rfl, rfl, rfl, by omega, by simp⟩, ?_⟩
  rintro k σ G' M' ⟨l, v, rfl, rfl, rfl, e, hv, hlk⟩
  refine ⟨natsV (l ++ [v]), _, seq_0, atI_last, ?_⟩
  refine ite2' (c := decide ((4 : Int) < (v : Int))) (fun e1 => ?_) (fun e1 => ?_)
  · have e1 := of_decide_eq_true e1
    cases k with
    | zero => exfalso; rw [Nat.pow_zero] at hv; omega
    | succ k =>
      have et : trN (k + 1) v = v :: trN k ((v + 3) / 4) := by rw [trN, if_pos (by omega)]
      refine ⟨_, _, Wk.refl, tyl_n (n := 0) rfl, natsV (l ++ [v]), _, seq_0, atI_last, divW (by decide) (by decide) _, 0, _, rfl, sz (by rw [natsV_len]; simp; omega), k, by omega, _, _, Wk.refl, l ++ [v], (v + 3) / 4, rfl, rfl, ?_, ?_, ?_, by simp; omega⟩
      · have ev : ((v : Int) + 4 - 1) / 4 = (((v + 3) / 4 : Nat) : Int) := by omega
        show (t, HO.lst (natsV (l ++ [v]) ++ [.int (((v : Int) + 4 - 1) / 4)])) :: M = _
        rw [ev]; unfold natsV; simp only [List.map_append]; rfl
      · rw [e, et, List.append_assoc]; rfl
      · rw [Nat.pow_succ] at hv; omega
  · have e1 := of_decide_eq_false e1
    refine ⟨_, _, Wk.refl, ret0 ?_⟩
    have et : trN k v = [v] := by
      cases k with
      | zero => rfl
      | succ k => rw [trN, if_neg (by omega)]
    rw [← et, ← e]
    exact q t ft
theorem pf_kinds_of (h : S_kinds_of K vs G M R Z) : rd_kinds_of K (ends R Z) (sta 3 vs) G M := by
  obtain ⟨_, _, _, rfl, s, m, n, rfl, hm, hn, q⟩ := sp3_of h
  have inj : ∀ {a b : Str}, decide (V.str a = .str b) = true → a = b := fun e => V.str.inj (of_decide_eq_true e)
  have ninj : ∀ {a b : Str}, decide (V.str a = .str b) = false → ¬ a = b := fun e z => of_decide_eq_false e (by rw [z])
  unfold kindsK at q
  refine ⟨G, M, Wk.refl, ite2' (c := decide (V.str s = .str "spare")) (fun e => ?_) (fun e => ?_)⟩
  · rw [if_pos (inj e)] at q
    exact ⟨G, M, Wk.refl, m, n, hm, hn, fun t us G' ex ft hd => ret0 (q t us G' ex ft hd)⟩
  rw [if_neg (ninj e)] at q
  refine ⟨G, M, Wk.refl, ite2' (c := decide (V.str s = .str "stairs")) (fun e => ?_) (fun e => ?_)⟩
  · rw [if_pos (inj e)] at q
    exact ⟨G, M, Wk.refl, m, n, hm, hn, fun t us G' ex ft hd => ret0 (q t us G' ex ft hd)⟩
  rw [if_neg (ninj e)] at q
  obtain ⟨rfl, m0, m1⟩ := id hm
  refine ⟨G, M, Wk.refl, ite2' (c := decide (V.str s = .str "tree")) (fun e => ?_) (fun e => ?_)⟩
  · rw [if_pos (inj e)] at q
    exact ⟨G, M, Wk.refl, sz1, fun a fa => ⟨a, [m], n, rfl, lat_0, fun t ht => by
      have : t = m := by simpa using ht
      omega, by simp, hn, fun t us G' ex ft hd => retW Wk.drop1 (q t us G' ex ft.cons hd)⟩⟩
  rw [if_neg (ninj e)] at q
  refine ⟨G, M, Wk.refl, ite2' (c := decide (V.str s = .str "grove")) (fun e => ?_) (fun e => ?_)⟩
  · rw [if_pos (inj e)] at q
    obtain ⟨h1, h2⟩ := trees_ok m0 m1
    exact ⟨G, M, Wk.refl, m, hm, fun a fa => ⟨a, treesN m, n, rfl, lat_0, h1, h2, hn, fun t us G' ex ft hd => retW Wk.drop1 (q t us G' ex ft.cons hd)⟩⟩
  rw [if_neg (ninj e)] at q
  exact ⟨G, M, Wk.refl, sz0, fun t ft => ret0 (q t [] G Ex.refl ft .nil)⟩
end

section
variable {K : PySem.W.Frag} {vs : List V} {G : Hp} {M : Mem} {R : KR} {Z : KX}
theorem head_eq {x : V} {s : Str} (hs : PyData.strOk s = true) (h : HeadOk K G M x) (q : R (.bl (decide (x = .str s))) G M) : kEqD K x (.str s) G M R := by
  cases x with
  | ref a =>
    rcases h with ⟨d, h1, h2, h3⟩ | ⟨kvs, h⟩
    · refine .inl ⟨d, .str s, h1, dat_str, h2, (Shp.str (n := 0) hs).shaped (by decide), ?_⟩
      show R (.bl (PyData.eqv d (.str s))) G M
      rw [h3 s]
      rw [decide_eq_false (fun z => by cases z)] at q
      exact q
    · rw [decide_eq_false (fun z => by cases z)] at q
      exact .inr ⟨a, s, kvs, rfl, rfl, .inr h, q⟩
  | non => exact .inl q
  | int i => exact .inl q
  | bl i => exact .inl q
  | str i => exact .inl q
  | _ => exact h.elim
theorem strOk_read : PyData.strOk ("read" : Str) = true := by decide +kernel
theorem strOk_write : PyData.strOk ("write" : Str) = true := by decide +kernel
theorem pf_is_ask (h : S_is_ask K vs G M R Z) : rd_is_ask K (ends R Z) (sta 2 vs) G M := by
  obtain ⟨_, y, rfl, m, b, rfl, hy, q⟩ := sp2_of h
  clear h
  rcases hy with ⟨T, hT, hne, rfl⟩ | ⟨t, xs, rfl, ht, hl, hi, h0, rfl⟩
  · refine ⟨G, M, Wk.refl, .type T.name, .type "tuple", _, .ty "tuple", hT, kit_pt T .tuple, ite2' (c := !isaB T .tuple) (fun _ => ⟨G, M, Wk.refl, ret0 q⟩) (fun e => ?_)⟩
    exfalso; revert e hne; cases T <;> decide
  have hS : SeqAt' K G M t xs := .inr ht
  refine ⟨G, M, Wk.refl, .type PT.tuple.name, .type "tuple", _, .ty "tuple", ty_tup ht, kit_pt .tuple .tuple, ?_⟩
  refine ⟨xs, hS, ite2' (c := decide ((xs.length : Int) < 2)) (fun e => ?_) (fun e => ?_)⟩
  · have e := of_decide_eq_true e
    have e2 : askB m xs = false := by
      match xs, e with
      | [], _ => rfl
      | [_], _ => rfl
      | _ :: _ :: r, e => simp at e; omega
    rw [e2] at q
    exact ⟨G, M, Wk.refl, ret0 q⟩
  have e := of_decide_eq_false e
  obtain ⟨x0, x1, r, hx⟩ : ∃ x0 x1 r, xs = x0 :: x1 :: r := by
    match xs, e with
    | x0 :: x1 :: r, _ => exact ⟨x0, x1, r, rfl⟩
    | [], e => simp at e
    | [_], e => simp at e
  have hh := h0 x0 (by rw [hx]; rfl)
  obtain ⟨T1, hT1, ht1⟩ := hi x1 (by rw [hx]; exact List.mem_cons_of_mem _ List.mem_cons_self)
  refine ⟨xs, x1, hS, atI_nat (j := 1) (by rw [hx]; rfl), T1, 0, m - 1, rfl, rfl, hT1, ht1, ite2' (c := !withinV x1 0 (m - 1)) (fun f => ?_) (fun f => ?_)⟩
  · have f : withinV x1 0 (m - 1) = false := by simpa using f
    have e2 : askB m xs = false := by rw [hx]; show (withinV x1 0 (m - 1) && _) = false; rw [f, Bool.false_and]
    rw [e2] at q
    exact ⟨G, M, Wk.refl, ret0 q⟩
  have f : withinV x1 0 (m - 1) = true := by simpa using f
  refine ⟨G, M, Wk.refl, xs, hS, ite2' (c := decide (V.int (xs.length : Int) = .int 2)) (fun g => ?_) (fun g => ?_)⟩
  · have g := V.int.inj (of_decide_eq_true g)
    have hr : r = [] := List.length_eq_zero_iff.mp (by rw [hx] at g; simp at g; omega)
    have e2 : askB m xs = decide (x0 = .str "read") := by rw [hx, hr]; show (withinV x1 0 (m - 1) && _) = _; rw [f, Bool.true_and]
    rw [e2] at q
    exact ⟨G, M, Wk.refl, xs, x0, hS, atI_nat (j := 0) (by rw [hx]; rfl), head_eq strOk_read hh (ret0 q)⟩
  have g := of_decide_eq_false g
  have hr : r ≠ [] := fun z => g (by rw [hx, z]; rfl)
  refine ⟨G, M, Wk.refl, xs, hS, ite2' (c := decide (V.int (xs.length : Int) = .int 3)) (fun g3 => ?_) (fun g3 => ?_)⟩
  · have g3 := V.int.inj (of_decide_eq_true g3)
    obtain ⟨x2, hr2⟩ : ∃ x2, r = [x2] := by
      rw [hx] at g3
      match r, hr, g3 with
      | [x2], _, _ => exact ⟨x2, rfl⟩
      | [], h, _ => exact absurd rfl h
      | _ :: _ :: _, _, g => simp at g; omega
    have e2 : askB m xs = (decide (x0 = .str "write") && withinV x2 0 999999999999999999) := by rw [hx, hr2]; show (withinV x1 0 (m - 1) && _) = _; rw [f, Bool.true_and]
    rw [e2] at q
    refine ⟨xs, x0, hS, atI_nat (j := 0) (by rw [hx]; rfl), head_eq strOk_write hh ?_⟩
    refine ite2' (c := decide (x0 = .str "write")) (fun c => ?_) (fun c => ?_)
    · rw [c, Bool.true_and] at q
      obtain ⟨T2, hT2, ht2⟩ := hi x2 (by rw [hx, hr2]; simp)
      exact ⟨xs, x2, hS, atI_nat (j := 2) (by rw [hx, hr2]; rfl), T2, 0, 999999999999999999, rfl, rfl, hT2, ht2, ret0 q⟩
    · rw [c, Bool.false_and] at q
      exact ret0 q
  · have g3 := of_decide_eq_false g3
    have e2 : askB m xs = false := by
      rw [hx]
      show (withinV x1 0 (m - 1) && _) = false
      match r, hr with
      | [_], _ => exact absurd (by rw [hx]; rfl) g3
      | _ :: _ :: _, _ => exact Bool.and_false _
    rw [e2] at q
    exact ret0 q
theorem pf_need_ask (h : S_need_ask K vs G M R Z) : rd_need_ask K (ends R Z) (sta 2 vs) G M := by
  obtain ⟨_, y, rfl, m, b, rfl, hy, q1, q2⟩ := sp2_of h
  refine ⟨G, M, Wk.refl, m, b, rfl, hy, ite2' (c := !b) (fun e => ?_) (fun e => ?_)⟩
  · exact ⟨G, M, Wk.refl, G, M, Wk.refl, q2 (by simpa using e)⟩
  · exact ret0 (q1 (by simpa using e))
theorem deed_len (d : Deed) : d.vs.length = 2 ∨ d.vs.length = 3 := by cases d; exact .inl rfl; exact .inr rfl
theorem deed_ask {m : Nat} {d : Deed} (h : DeedOk m d) : askB (m : Int) d.vs = true := by
  cases d with
  | read c =>
    have h1 : c < m := h.1
    show (withinV (.int (c : Int)) 0 ((m : Int) - 1) && _) = true
    rw [wi_in (by omega) (by omega)]; rfl
  | write c w =>
    have h1 : c < m := h.1
    have h2 : w ≤ 999999999999999999 := h.2
    show (withinV (.int (c : Int)) 0 ((m : Int) - 1) && (_ && withinV (.int (w : Int)) 0 999999999999999999)) = true
    rw [wi_in (by omega) (by omega), wi_in (by omega) (by omega)]; rfl
theorem deed_askV {m : Nat} {d : Deed} {y : V} (hd : DeedAt K G y d) (h : DeedOk m d) : AskV K G M m y true := by
  obtain ⟨t, rfl, ht⟩ := hd
  refine .inr ⟨t, d.vs, rfl, ht, by rcases deed_len d with e | e <;> omega, fun x hx => ?_, fun x hx => ?_, (deed_ask h).symm⟩
  · cases d with
    | read c =>
      simp only [Deed.vs, List.mem_cons, List.not_mem_nil, or_false] at hx
      rcases hx with rfl | rfl
      · exact ⟨.str, ty_str, rfl⟩
      · exact ⟨.int, ty_int, rfl⟩
    | write c w =>
      simp only [Deed.vs, List.mem_cons, List.not_mem_nil, or_false] at hx
      rcases hx with rfl | rfl | rfl
      · exact ⟨.str, ty_str, rfl⟩
      · exact ⟨.int, ty_int, rfl⟩
      · exact ⟨.int, ty_int, rfl⟩
  · cases d <;> (cases hx; exact trivial)
theorem DeedAt.ex {G' : Hp} {v : V} {d : Deed} (e : Ex G G') (h : DeedAt K G v d) : DeedAt K G' v d := by
  obtain ⟨t, rfl, h⟩ := h
  exact ⟨t, rfl, ex_t e h⟩
/-- the parts of a deed -/
theorem deed_1 {t : Addr} {d : Deed} (h : SqT K G t d.vs) : SeqAt' K G M t d.vs ∧ atI d.vs 1 = some (.int (d.cell : Int)) := ⟨.inr h, by cases d <;> rfl⟩
end

section
variable {K : PySem.W.Frag} {vs : List V} {G : Hp} {M : Mem} {R : KR} {Z : KX}
theorem NoAskG.ex {G' : Hp} {m : Int} {v : V} (e : Ex G G') (h : NoAskG K G m v) : NoAskG K G' m v := fun G2 M2 e2 => h G2 M2 (e.trans e2)
end

section
variable {K : PySem.W.Frag} {vs : List V} {G : Hp} {M : Mem} {R : KR} {Z : KX}
theorem pf_is_row (h : S_is_row K vs G M R Z) : rd_is_row K (ends R Z) (sta 4 vs) G M := by
  obtain ⟨_, y, rfl, n, b, rfl, hy, q⟩ := sp2_of h
  rcases hy with ⟨T, hT, hne, rfl⟩ | ⟨a, xs, rfl, ha, hl, hi, rfl⟩
  · refine ⟨G, M, Wk.refl, .type T.name, .type "list", _, .ty "list", hT, kit_pt T .list, ite2' (c := !isaB T .list) (fun _ => ⟨G, M, Wk.refl, ret0 q⟩) (fun e => ?_)⟩
    exfalso; revert e hne; cases T <;> decide
  refine ⟨G, M, Wk.refl, .type PT.list.name, .type "list", _, .ty "list", ty_lst ha, kit_pt .list .list, ?_⟩
  refine ⟨xs, .inl ha, ite2' (c := !decide (V.int (xs.length : Int) = .int (n : Int))) (fun e => ?_) (fun e => ?_)⟩
  · have e : ¬ xs.length = n := fun z => by rw [decide_eq_true (by rw [z])] at e; cases e
    have e2 : rowB n xs = false := by unfold rowB; rw [decide_eq_false e, Bool.false_and]
    rw [e2] at q
    exact ⟨G, M, Wk.refl, ret0 q⟩
  have e : xs.length = n := by
    have e : decide (V.int (xs.length : Int) = .int (n : Int)) = true := by simpa using e
    have := V.int.inj (of_decide_eq_true e); omega
  refine ⟨G, M, Wk.refl, xs, ha, sz (by show xs.length ≤ _; omega), fun i acc G' M' => acc = ((List.range i).map fun (j : Nat) => withinV (xs.getD j .non) 0 (j : Int)).map V.bl ∧ G' = G ∧ M' = M, ⟨rfl, rfl, rfl⟩, ?_, ?_, ?_⟩
  · rintro i acc G' M' _ ⟨rfl, rfl, rfl⟩; exact ha
  · rintro i acc G' M' D hi2 _ ⟨rfl, rfl, rfl⟩ fD
    obtain ⟨v, hv⟩ : ∃ v, xs[i]? = some v := ⟨_, List.getElem?_eq_getElem hi2⟩
    obtain ⟨T, hT, ht⟩ := hi v (List.mem_of_getElem? hv)
    refine asg_E hv ⟨rfl, T, 0, (i : Int), rfl, rfl, tyk_cons hT, ht, _, _, Wk.refl, ?_, rfl, rfl⟩
    rw [List.range_succ, List.map_append, List.map_append]
    show _ = _ ++ [V.bl (withinV (xs.getD i .non) 0 (i : Int))]
    rw [getD_of hv]
  · rintro acc G' M' p ⟨rfl, rfl, rfl⟩ _ fp
    refine ⟨_, lat_0, retW Wk.drop0 ?_⟩
    have e2 : rowB n xs = ((List.range xs.length).map fun (j : Nat) => withinV (xs.getD j .non) 0 (j : Int)).all id := by unfold rowB; rw [decide_eq_true e, Bool.true_and, List.all_map]; rfl
    rw [e2] at q
    exact q
theorem pf_is_draw (h : S_is_draw K vs G M R Z) : rd_is_draw K (ends R Z) (sta 2 vs) G M := by
  obtain ⟨x, y, rfl, k, b, hk, hok, hy, q⟩ := sp2_of h
  obtain ⟨t, rfl, ht⟩ := dp_kn_inv hk
  have hS : SeqAt' K G M t [.str k.txt, .int k.n] := .inr ht
  refine ⟨G, M, Wk.refl, _, _, hS, rfl, ite2' (c := decide (V.str k.txt = .str "leaf")) (fun e => ?_) (fun e => ?_)⟩
  · rw [txt_leaf] at e
    unfold DrawV at hy
    rw [if_pos e] at hy
    obtain ⟨T, hT, hti, rfl⟩ := hy
    have := hok.2.1 e
    exact ⟨G, M, Wk.refl, _, _, hS, rfl, k.n, rfl, by omega, T, 0, ((2 ^ k.n : Nat) : Int) - 1, rfl, rfl, hT, hti, ret0 q⟩
  · rw [txt_leaf] at e
    unfold DrawV at hy
    rw [if_neg (by rw [e]; exact Bool.false_ne_true)] at hy
    exact ⟨G, M, Wk.refl, _, _, hS, rfl, k.n, b, rfl, hy, ret0 q⟩
theorem draw_ok {k : Kn} {d : Dr} {v : V} (h : DrOk k d) (hk : KnOk k) (hv : DrV K G M v d) : DrawV K G M k v true := by
  unfold DrawV
  cases d with
  | leaf n =>
    obtain ⟨e, hn⟩ := h
    rw [if_pos e]
    have hv : v = .int n := hv
    subst hv
    exact ⟨.int, ty_int, rfl, (wi_in (by omega) (by omega)).symm⟩
  | row l =>
    obtain ⟨e, hl, hr⟩ := h
    rw [if_neg (by rw [e]; exact Bool.false_ne_true)]
    obtain ⟨b, rfl, hb⟩ := hv
    have := hk.1
    refine .inr ⟨b, natsV l, rfl, hb, by rw [natsV_len]; omega, ints_ty, ?_⟩
    unfold rowB
    rw [natsV_len, decide_eq_true hl, Bool.true_and]
    refine (List.all_eq_true.mpr fun i hi => ?_).symm
    have hi := List.mem_range.mp hi
    have hg := List.getElem?_eq_getElem hi
    rw [getD_of (natsV_get hg)]
    have := hr i _ hg
    exact wi_in (by omega) (by omega)
theorem pf_look_at_draws (h : S_look_at_draws K vs G M R Z) : rd_look_at_draws K (ends R Z) (sta 4 vs) G M := by
  obtain ⟨_, _, rfl, a, b, ks, ds, rfl, rfl, ⟨us, hu, hd, hok, hl⟩, ⟨ws, hw, h2⟩, h3, q⟩ := sp2_of h
  have hul : us.length = ks.length := by rw [dpall_len hd, List.length_map]
  have hwl : ws.length = ks.length := by rw [h2.len, ← h3.len]
  refine ⟨G, M, Wk.refl, .type PT.list.name, .type "list", _, .ty "list", ty_lst hw, kit_pt .list .list, ?_⟩
  refine ⟨ws, .inl hw, us, .inl hu, ite2' (c := !decide (V.int (ws.length : Int) = .int (us.length : Int))) (fun e => by rw [decide_eq_true (by rw [hul, hwl])] at e; cases e) (fun _ => ?_)⟩
  refine ⟨G, M, Wk.refl, us, hu, fun i σ G' M' => ∃ y2 y3, σ = [some (.ref a), some (.ref b), y2, y3] ∧ G' = G ∧ M' = M, ⟨none, none, rfl, rfl, rfl⟩, ?_, ?_, ?_⟩
  · rintro i σ G' M' _ ⟨y2, y3, rfl, rfl, rfl⟩; exact hu
  · rintro i σ G' M' hi ⟨y2, y3, rfl, rfl, rfl⟩
    have hi : i < us.length := hi
    obtain ⟨k, hk⟩ : ∃ k, ks[i]? = some k := ⟨_, List.getElem?_eq_getElem (by omega)⟩
    obtain ⟨v, hv, hd1⟩ := dpall_get (d := knD k) hd (by rw [List.getElem?_map, hk]; rfl)
    obtain ⟨d, hdi, hdk⟩ := h3.get' hk
    obtain ⟨w, hwi, hwd⟩ := h2.get hdi
    have kok := hok k (List.mem_of_getElem? hk)
    refine asg_E hv ⟨G', M', Wk.refl, _, w, .inl hw, atI_nat hwi, k, true, hd1, kok, draw_ok hdk kok hwd, ?_⟩
    exact ⟨_, _, Wk.refl, _, _, rfl, rfl, rfl⟩
  · rintro σ G' M' ⟨y2, y3, rfl, rfl, rfl⟩
    exact ret0 q
theorem DrV.ex {G' : Hp} {v : V} {d : Dr} (e : Ex G G') (h : DrV K G M v d) : DrV K G' M v d := by
  cases d with
  | leaf n => exact h
  | row l => obtain ⟨b, rfl, hb⟩ := h; exact ⟨b, rfl, lat_ex e hb⟩
theorem DrsG.ex {G' : Hp} {p : Addr} {ds : List Dr} (e : Ex G G') (h : DrsG K G p ds) : DrsG K G' p ds := by
  obtain ⟨us, h1, h2⟩ := h
  exact ⟨us, ex_l e h1, h2.mono fun _ _ q => q.ex e⟩
theorem pf_copied (h : S_copied K vs G M R Z) : rd_copied K (ends R Z) (sta 2 vs) G M := by
  obtain ⟨_, rfl, b, ds, rfl, ⟨us, hu, hd⟩, hl, q⟩ := sp1_of h
  have hul := hd.len
  refine ⟨G, M, Wk.refl, us, hu, sz (by show us.length ≤ _; omega), fun i acc G' M' => Ex G G' ∧ M' = M ∧ A2 (DrV K G' []) acc (ds.take i), ⟨Ex.refl, rfl, .nil⟩, ?_, ?_, ?_⟩
  · rintro i acc G' M' _ ⟨ex, rfl, _⟩; exact lat_ex ex hu
  · rintro i acc G' M' D hi _ ⟨ex, rfl, ha⟩ fD
    have hi : i < us.length := hi
    obtain ⟨d, hdi⟩ : ∃ d, ds[i]? = some d := ⟨_, List.getElem?_eq_getElem (by omega)⟩
    obtain ⟨v, hv, hvd⟩ := hd.get hdi
    refine asg_L hv ⟨rfl, ?_⟩
    cases d with
    | leaf n =>
      have hvd : v = .int n := hvd
      subst hvd
      refine ⟨.type PT.int.name, .type "list", _, .ty "list", ty_int, kit_pt .int .list, ?_⟩
      exact ⟨G', M', Wk.refl, ex, rfl, by rw [take_succ' hdi]; exact ha.app (.cons rfl .nil)⟩
    | row l =>
      obtain ⟨c, rfl, hc⟩ := hvd
      have hc' : LstAt K G' ((D, HO.lst acc) :: M') c (natsV l) := lat_cons (lat_ex ex hc)
      refine ⟨.type PT.list.name, .type "list", _, .ty "list", ty_lst hc', kit_pt .list .list, ?_⟩
      refine ⟨natsV l, .inl hc', fun p fp => ⟨upd G' p (.lst (natsV l)), M', Wk.frz0, ex.trans (Ex.new fp), rfl, ?_⟩⟩
      rw [take_succ' hdi]
      exact (ha.mono fun _ _ q => q.ex (Ex.new fp)).app (.cons ⟨p, rfl, .inr sql_new⟩ .nil)
  · rintro acc G' M' p ⟨ex, rfl, ha⟩ _ fp
    have ha : A2 (DrV K G' []) acc (ds.take us.length) := ha
    rw [List.take_of_length_le (by omega)] at ha
    exact retW Wk.frz0 (q p _ (ex.trans (Ex.new fp)) ⟨acc, sql_new, ha.mono fun _ _ q => q.ex (Ex.new fp)⟩)
end

section
variable {K : PySem.W.Frag} {vs : List V} {G : Hp} {M : Mem} {R : KR} {Z : KX}
theorem LogC.ex {G' : Hp} {ts : List Tch} {o : HO} (e : Ex G G') (h : LogC K G ts o) : LogC K G' ts o := by
  obtain ⟨vs, rfl, h⟩ := h
  exact ⟨vs, rfl, ex_ds e _ h⟩
theorem dp_tch {T : Addr} {t : Tch} (h : SqT K G T [.str t.txt, .int t.shelf, .int t.room]) : Dp K G (.ref T) (tchD t) := .tup h (.cons (.str _) (.cons (.int _) (.cons (.int _) .nil)))
theorem pf_Keeper_init (h : S_Keeper_init K vs G M R Z) : rd_Keeper_init K (ends R Z) (sta 1 vs) G M := by
  obtain ⟨_, rfl, a, dx, n, rfl, hn, q⟩ := sp1_of h
  exact ⟨G, M, Wk.refl, sz0, fun lg fl => ⟨n + 1, 1, dx, [], 0, hn, rfl, by decide, ret0 (q lg fl)⟩⟩
theorem pf_Keeper_sees (h : S_Keeper_sees K vs G M R Z) : rd_Keeper_sees K (ends R Z) (sta 4 vs) G M := by
  obtain ⟨_, _, _, _, rfl, kp, dk, lg, j, l, o, ts, t, rfl, rfl, rfl, rfl, ⟨hk, hl, ⟨ws, rfl, hw⟩⟩, hts, q⟩ := sp4_of h
  have hwl : ws.length = ts.length := by rw [dpall_len hw, List.length_map]
  refine ⟨G, M, Wk.refl, 1, dk, _, 0, _, at_n hk, rfl, rfl, tyl_n hl, sz3, fun T fT => ⟨l, ws, hl, Nat.lt_of_le_of_lt (show ws.length ≤ 1000000 by omega) (by decide), ret0 (q _ _ (Ex.new fT) ⟨_, rfl, ?_⟩)⟩⟩
  rw [List.map_append]
  exact dpall_snoc (ex_ds (Ex.new fT) _ hw) (dp_tch sqt_new)
theorem LstN.at {n : Nat} {b : Addr} {xs : List V} (h : LstN K G M n b xs) : LstAt K G M b xs := by
  rcases h with ⟨i, _, h⟩ | h
  · exact lat_n h
  · exact .inr h
theorem LstN.set {n : Nat} {b : Addr} {xs : List V} {x : Addr × HO} (h : LstN K G M n b xs) : LstN K G (M.set n x) n b xs := by
  rcases h with ⟨i, e, h⟩ | h
  · exact .inl ⟨i, e, by rw [List.getElem?_set_ne e]; exact h⟩
  · exact .inr h
theorem pf_Shelf_init (h : S_Shelf_init K vs G M R Z) : rd_Shelf_init K (ends R Z) (sta 4 vs) G M := by
  obtain ⟨_, y, z, _, rfl, a, dx, b, n, xs, rfl, rfl, hn, hb, q⟩ := sp4_of h
  refine ⟨G, M, Wk.refl, n, 2, dx, [], 0, hn, rfl, by decide, ?_⟩
  refine ⟨G, _, Wk.refl, n, 2, dx, [y], 1, set_n hn, rfl, by show 1 ≤ 1; decide, ?_⟩
  refine ⟨G, _, Wk.refl, xs, .inl hb.set.set.at, fun th ft => ⟨n + 1, 2, dx, [y, z], 2, set_n (set_n hn), rfl, by show 2 ≤ 2; decide, ?_⟩⟩
  refine ret0 ?_
  show R .non G ((th, .lst xs) :: ((M.set n _).set n _).set n _)
  rw [List.set_set, List.set_set]
  exact q th (fr_unset hn (fr_unset (set_n hn) ft))
theorem pf_Shelf_need_room (h : S_Shelf_need_room K vs G M R Z) : rd_Shelf_need_room K (ends R Z) (sta 2 vs) G M := by
  obtain ⟨_, y, rfl, a, dx, kp, th, num, n, i, xs, T, rfl, ⟨hs, ht⟩, hT, hti, q1, q2⟩ := sp2_of h
  refine ⟨G, M, Wk.refl, 2, dx, _, 2, _, at_n hs, rfl, rfl, xs, lst_n ht, T, 0, (xs.length : Int) - 1, rfl, rfl, hT, hti, ite2' (c := !withinV y 0 ((xs.length : Int) - 1)) (fun e => ?_) (fun e => ?_)⟩
  · exact ⟨G, M, Wk.refl, G, M, Wk.refl, q2 (by simpa using e)⟩
  · exact ret0 (q1 (by simpa using e))
theorem pf_Shelf_look (h : S_Shelf_look K vs G M R Z) : rd_Shelf_look K (ends R Z) (sta 2 vs) G M := by
  obtain ⟨_, y, rfl, a, dx, kp, th, num, n, i, xs, rfl, hsh, h⟩ := sp2_of h
  rcases h with ⟨T, hT, hti, hw, z⟩ | ⟨dk, lg, j, l, o, ts, r, v, rfl, hk, hts, hr, hli, q⟩
  · exact ⟨G, M, Wk.refl, 2, dx, _, S_Shelf_need_room K, at_n hsh.s, rfl, a, dx, kp, th, num, n, i, xs, T, rfl, hsh, hT, hti, (fun e => by rw [hw] at e; cases e), fun _ => ⟨G, M, Wk.refl, z⟩⟩
  have hrl := (List.getElem?_eq_some_iff.mp hr).1
  refine ⟨G, M, Wk.refl, 2, dx, _, S_Shelf_need_room K, at_n hsh.s, rfl, a, dx, kp, th, num, n, i, xs, .int, rfl, hsh, ty_int, rfl, fun _ => ?_, fun e => by rw [wi_in (by omega) (by omega)] at e; cases e⟩
  refine ⟨G, M, Wk.refl, 2, dx, _, 0, _, at_n hsh.s, rfl, rfl, 1, dk, _, S_Keeper_sees K, at_n hk.k, rfl, 2, dx, _, 1, _, at_n hsh.s, rfl, rfl, kp, dk, lg, j, l, o, ts, ⟨false, num, r⟩, rfl, rfl, rfl, rfl, hk, hts, fun G' o' ex hl => ?_⟩
  have hnl : l ≠ n := fun z => by
    have h1 := hk.l
    rw [z, hsh.s] at h1
    obtain ⟨ws, e, _⟩ := hk.c
    have := (Prod.mk.inj (Option.some.inj h1)).2
    rw [e] at this
    cases this
  refine ⟨G', _, Wk.refl, 2, dx, _, 2, .ref th, at_n (n := n) (by rw [List.getElem?_set_ne hnl]; exact hsh.s), rfl, rfl, xs, v, lst_n (n := i) (by rw [List.getElem?_set_ne hli]; exact hsh.t), atI_nat hr, ret0 (q G' o' ex hl)⟩
theorem pf_Shelf_lay (h : S_Shelf_lay K vs G M R Z) : rd_Shelf_lay K (ends R Z) (sta 3 vs) G M := by
  obtain ⟨_, y, zz, rfl, a, dx, kp, th, num, n, i, xs, rfl, hsh, h⟩ := sp3_of h
  rcases h with ⟨T, hT, hti, hw, z⟩ | ⟨dk, lg, j, l, o, ts, r, rfl, hk, hts, hr, hli, hnl, q⟩
  · exact ⟨G, M, Wk.refl, 2, dx, _, S_Shelf_need_room K, at_n hsh.s, rfl, a, dx, kp, th, num, n, i, xs, T, rfl, hsh, hT, hti, (fun e => by rw [hw] at e; cases e), fun _ => ⟨G, M, Wk.refl, z⟩⟩
  refine ⟨G, M, Wk.refl, 2, dx, _, S_Shelf_need_room K, at_n hsh.s, rfl, a, dx, kp, th, num, n, i, xs, .int, rfl, hsh, ty_int, rfl, fun _ => ?_, fun e => by rw [wi_in (by omega) (by omega)] at e; cases e⟩
  refine ⟨G, M, Wk.refl, 2, dx, _, 0, _, at_n hsh.s, rfl, rfl, 1, dk, _, S_Keeper_sees K, at_n hk.k, rfl, 2, dx, _, 1, _, at_n hsh.s, rfl, rfl, kp, dk, lg, j, l, o, ts, ⟨true, num, r⟩, rfl, rfl, rfl, rfl, hk, hts, fun G' o' ex hl => ?_⟩
  exact ⟨G', _, Wk.refl, 2, dx, _, 2, .ref th, at_n (n := n) (by rw [List.getElem?_set_ne hnl]; exact hsh.s), rfl, rfl, i, xs, r, by rw [List.getElem?_set_ne hli]; exact hsh.t, ixN_nat hr, ret0 (q G' o' ex hl)⟩
end

section
variable {K : PySem.W.Frag} {vs : List V} {G : Hp} {M : Mem} {R : KR} {Z : KX}
theorem eq_ref {a b : Addr} {d : PyData} {n : Nat} {neg : Bool} (ha : DatAt K G M (.ref a) d) (hb : DatAt K G M (.ref b) d) (sh : Shp n d) (hn : n ≤ 64) (q : R (.bl (!neg)) G M) : kEqv neg K (.ref a) (.ref b) G M R := by
  refine ⟨d, d, ha, hb, sh.shaped hn, sh.shaped hn, ?_⟩
  rw [sh.refl]
  cases neg <;> exact q
theorem eq_nats {a b : Addr} {l : List Nat} {neg : Bool} (ha : LstAt K G M a (natsV l)) (hb : LstAt K G M b (natsV l)) (q : R (.bl (!neg)) G M) : kEqv neg K (.ref a) (.ref b) G M R :=
  eq_ref (dat_nats ha) (dat_nats hb) (shp_nats (n := 0) l) (by decide) q
end

section
variable {K : PySem.W.Frag} {vs : List V} {G : Hp} {M : Mem} {R : KR} {Z : KX}
theorem st_cells : ∀ k ∈ storeKs, tabF_cells.lookup k = some 0 := by decide
theorem st_limit : ∀ k ∈ storeKs, tabF_limit.lookup k = some 1 := by decide
theorem st_draws : ∀ k ∈ storeKs, tabF_draws.lookup k = some 2 := by decide
theorem st_keeper : ∀ k ∈ storeKs, tabF_keeper.lookup k = some 3 := by decide
theorem st_made : ∀ k ∈ storeKs, tabF_made.lookup k = some 4 := by decide
theorem pf_Store_left (h : S_Store_left K vs G M R Z) : rd_Store_left K (ends R Z) (sta 1 vs) G M := by
  obtain ⟨_, rfl, a, k, dx, f, r, rfl, hk, ha, q⟩ := sp1_of h
  exact ⟨G, M, Wk.refl, k, dx, _, 1, _, ha, st_limit k hk, rfl, k, dx, _, 4, _, ha, st_made k hk, rfl, ret0 q⟩
theorem pf_word_asked (h : S_word_asked K vs G M R Z) : rd_word_asked K (ends R Z) (sta 1 vs) G M := by
  obtain ⟨_, rfl, d, ⟨t, rfl, ht⟩, q⟩ := sp1_of h
  cases d with
  | read c =>
    refine ⟨G, M, Wk.refl, _, _, .inr ht, rfl, ?_⟩
    exact ⟨G, M, Wk.refl, ret0 q⟩
  | write c w =>
    refine ⟨G, M, Wk.refl, _, _, .inr ht, rfl, ?_⟩
    exact ⟨G, M, Wk.refl, _, _, .inr ht, rfl, ret0 q⟩
theorem DrAt.set {n : Nat} {b : Addr} {ds : List Dr} {a : Addr} {k : Nat} {dx : Addr} {ws : List V} {x : Addr × HO} (hn : M[n]? = some (a, Ob K k dx ws)) (h : DrAt K G M b ds) : DrAt K G (M.set n x) b ds := by
  have hl : ∀ c xs, LstAt K G M c xs → LstAt K G (M.set n x) c xs := fun c xs q => by
    rcases q with q | q
    · obtain ⟨m, hm⟩ := List.getElem?_of_mem q
      have : n ≠ m := fun z => by subst z; rw [hn] at hm; cases hm
      exact lat_n (n := m) (by rw [List.getElem?_set_ne this]; exact hm)
    · exact .inr q
  obtain ⟨us, h1, h2⟩ := h
  refine ⟨us, hl _ _ h1, h2.mono fun v d q => ?_⟩
  cases d with
  | leaf n => exact q
  | row l => obtain ⟨c, rfl, hc⟩ := q; exact ⟨c, rfl, hl _ _ hc⟩
theorem DrAt.ex {G' : Hp} {b : Addr} {ds : List Dr} (e : Ex G G') (h : DrAt K G M b ds) : DrAt K G' M b ds := by
  obtain ⟨us, h1, h2⟩ := h
  exact ⟨us, lat_ex e h1, h2.mono fun v d q => q.ex e⟩
theorem DrAt.cons {b : Addr} {ds : List Dr} {x : Addr × HO} (h : DrAt K G M b ds) : DrAt K G (x :: M) b ds := by
  obtain ⟨us, h1, h2⟩ := h
  refine ⟨us, lat_cons h1, h2.mono fun v d q => ?_⟩
  cases d with
  | leaf n => exact q
  | row l => obtain ⟨c, rfl, hc⟩ := q; exact ⟨c, rfl, lat_cons hc⟩
theorem pf_Store_init (h : S_Store_init K vs G M R Z) : rd_Store_init K (ends R Z) (sta 5 vs) G M := by
  obtain ⟨_, _, _, _, _, rfl, a, dx, b, n, k, s, m, c, ds, rfl, hk, hn, rfl, ⟨rfl, m0, m1⟩, ⟨rfl, c0, c1⟩, rfl, hb, hd, hok, hl, q⟩ := sp5_of h
  refine ⟨G, M, Wk.refl, .int, .int, ty_int, rfl, ty_int, rfl, fun _ => ?_, (fun z => by rw [wi_in (by omega) (by omega), wi_in (by omega) (by omega)] at z; cases z)⟩
  refine ⟨G, M, Wk.refl, s, m, c, rfl, ⟨rfl, m0, m1⟩, ⟨rfl, c0, c1⟩, fun t us G1 ex1 _ hu => ?_⟩
  refine ⟨t, b, kindsK s m c, ds, rfl, rfl, ⟨us, lat_0, hu, hok, hl⟩, (hb.ex ex1).cons, hd, ?_⟩
  refine ⟨G1, M, Wk.drop0, n, k, dx, [], 0, hn, st_cells k hk, by decide, ?_⟩
  refine ⟨G1, _, Wk.refl, n, k, dx, [.int m], 1, set_n hn, st_limit k hk, by show 1 ≤ 1; decide, ?_⟩
  rw [List.set_set]
  refine ⟨G1, _, Wk.refl, b, ds, rfl, (hb.ex ex1).set hn, by rw [← hd.len]; exact hl, fun dr G2 ex2 hdr => ?_⟩
  refine ⟨n, k, dx, [.int m, .int c], 2, set_n hn, st_draws k hk, by show 2 ≤ 2; decide, ?_⟩
  rw [List.set_set]
  refine ⟨G2, _, Wk.refl, fun kp dk fk => ⟨kp, dk, 0, rfl, rfl, fun lg fl => ⟨rfl, ?_⟩⟩⟩
  refine ⟨n + 2, k, dx, [.int m, .int c, .ref dr], 3, set_n hn, st_keeper k hk, by show 3 ≤ 3; decide, ?_⟩
  refine ⟨G2, _, Wk.refl, n + 2, k, dx, [.int m, .int c, .ref dr, .ref kp], 4, set_n (n := n + 2) (set_n hn), st_made k hk, by show 4 ≤ 4; decide, ret0 ?_⟩
  simp only [List.set_cons_succ, List.set_cons_zero, List.set_set]
  exact q dr kp dk lg G2 (ex1.trans ex2) hdr
end

section
variable {K : PySem.W.Frag} {vs : List V} {G : Hp} {M : Mem} {R : KR} {Z : KX}
theorem Wk.of_eq {N : Mem} (e : M = N) : Wk G M G N := e ▸ Wk.refl
theorem natsV_app2 (a b : List Nat) : natsV (a ++ b) = natsV a ++ natsV b := by unfold natsV; rw [List.map_append]
theorem in_nats {c : Nat} {l : List Nat} : inV (.int (c : Int)) (natsV l) = decide (c ∈ l) := by
  induction l with
  | nil => rfl
  | cons x l ih =>
    show (((x : Int) == (c : Int)) || inV (.int (c : Int)) (natsV l)) = _
    rw [ih]
    by_cases e : x = c
    · subst e; simp
    · have : ¬ ((x : Int) = (c : Int)) := by omega
      have e2 : ¬ (c = x) := fun z => e z.symm
      simp [this, e2]
theorem ints_nats : ∀ {ys : List Int}, (∀ y, y ∈ ys → 0 ≤ y) → ∃ l : List Nat, ys = l.map fun (i : Nat) => (i : Int)
  | [], _ => ⟨[], rfl⟩
  | y :: ys, h => by
    obtain ⟨l, rfl⟩ := ints_nats fun z hz => h z (List.mem_cons_of_mem _ hz)
    obtain ⟨n, rfl⟩ := Int.eq_ofNat_of_zero_le (h y List.mem_cons_self)
    exact ⟨n :: l, rfl⟩
theorem natsV_ints (l : List Nat) : (l.map fun (i : Nat) => (i : Int)).map V.int = natsV l := by unfold natsV; rw [List.map_map]; rfl
theorem perm_nats {l m : List Nat} (h : (l.map fun (i : Nat) => (i : Int)).Perm (m.map fun (i : Nat) => (i : Int))) : l.Perm m := by
  have := h.map Int.toNat
  rw [List.map_map, List.map_map, List.map_congr_left (g := id) (fun _ _ => by simp), List.map_congr_left (l := m) (g := id) (fun _ _ => by simp), List.map_id, List.map_id] at this
  exact this
theorem nat_sorted_eq {a b : List Nat} (h : a.Perm b) (ha : a.Pairwise (· ≤ ·)) (hb : b.Pairwise (· ≤ ·)) : a = b := List.Perm.eq_of_pairwise (fun x y _ _ h1 h2 => by omega) ha hb h
end

section
variable {K : PySem.W.Frag} {vs : List V} {G : Hp} {M : Mem} {R : KR} {Z E : KX}
theorem seen_at {w m lim made : Nat} {ts : List Tch} {a : Addr} {B : Mem} (h : Seen K w m lim made ts G a B) (hs : ∀ x, x ∈ B → x ∈ M) : ∃ (dx : Addr) (vs : List V), At G M a (Ob K w dx vs) := by
  obtain ⟨dx, dr, kp, dk, lg, o, r, h1, _⟩ := h.ex
  exact ⟨dx, _, .inl (hs _ h1)⟩
theorem perm_sub {B F : Mem} (h : M.Perm (F ++ B)) : ∀ x, x ∈ B → x ∈ M := fun x hx => h.mem_iff.mpr (List.mem_append.mpr (.inr hx))
theorem askV_wk {M' : Mem} {m : Int} {y : V} {b : Bool} (w : Wk G M' G M) (h : AskV K G M m y b) : AskV K G M' m y b := by
  rcases h with ⟨T, hT, h⟩ | ⟨t, xs, e, h1, h2, h3, h4, h5⟩
  · exact .inl ⟨T, fun H hv => hT H (w H hv), h⟩
  · refine .inr ⟨t, xs, e, h1, h2, fun x hx => ?_, fun x hx => ?_, h5⟩
    · obtain ⟨T, q1, q2⟩ := h3 x hx
      exact ⟨T, fun H hv => q1 H (w H hv), q2⟩
    · have := h4 x hx
      cases x <;> first | exact this | (rcases this with ⟨d, q1, q2⟩ | q; exact .inl ⟨d, fun H hv => q1 H (w H hv), q2⟩; exact .inr q)
end

theorem snoc_ind {α : Type} {P : List α → Prop} (h0 : P []) (h1 : ∀ l x, P l → P (l ++ [x])) : ∀ l, P l := fun l => by
  have : ∀ l : List α, P l.reverse := fun l => by
    induction l with
    | nil => exact h0
    | cons x l ih => rw [List.reverse_cons]; exact h1 _ _ ih
  have := this l.reverse
  rw [List.reverse_reverse] at this
  exact this

section
variable {K : PySem.W.Frag} {vs : List V} {G : Hp} {M : Mem} {R : KR} {Z : KX}
theorem pf_node_at (h : S_node_at K vs G M R Z) : rd_node_at K (ends R Z) (sta 3 vs) G M := by
  obtain ⟨_, _, _, rfl, hg, d, l, rfl, rfl, rfl, hd, hh, q⟩ := sp3_of h
  clear h
  refine ⟨G, M, Wk.refl, ⟨by omega, by omega, by decide⟩, by show (0 : Int) ≤ (hg : Int) - (d : Int); omega, ret0 ?_⟩
  have e : (1 : Int) * 2 ^ ((d : Int)).toNat - 1 + (l : Int) / 2 ^ ((hg : Int) - (d : Int)).toNat = ((nodeN hg d l : Nat) : Int) := by
    unfold nodeN
    rw [Int.toNat_natCast, show ((hg : Int) - (d : Int)).toNat = hg - d by omega, Int.one_mul]
    have h1 : 1 ≤ 2 ^ d := Nat.one_le_two_pow
    rw [Int.natCast_add, Int.natCast_ediv, Int.natCast_sub h1]
    simp
  show R (.int ((1 : Int) * 2 ^ ((d : Int)).toNat - 1 + (l : Int) / 2 ^ ((hg : Int) - (d : Int)).toNat)) G M
  rw [e]
  exact q
theorem pf_room_of (h : S_room_of K vs G M R Z) : rd_room_of K (ends R Z) (sta 2 vs) G M := by
  obtain ⟨_, _, rfl, n, s, rfl, rfl, q⟩ := sp2_of h
  refine ⟨G, M, Wk.refl, mul_l (by decide) (by decide), ret0 ?_⟩
  have e : (2 : Int) * (n : Int) + (s : Int) = ((2 * n + s : Nat) : Int) := by omega
  show R (.int ((2 : Int) * (n : Int) + (s : Int))) G M
  rw [e]
  exact q
/-! hands -/
theorem HandF.ex {G' : Hp} {m : Nat} {hv : List (Key × V)} {f : HF} (e : Ex G G') (h : HandF K G m hv f) : HandF K G' m hv f :=
  ⟨h.nd, h.key, h.non, fun c p hc => by obtain ⟨v, h1, h2⟩ := h.val c p hc; exact ⟨v, h1, ex_d e _ h2⟩⟩
theorem HandF.nil {m : Nat} : HandF K G m [] (fun _ => none) := ⟨List.nodup_nil, fun _ z => (nomatch z), fun _ _ => rfl, fun _ _ z => nomatch z⟩
theorem inl_ne {a b : Nat} (h : ¬ a = b) : ¬ ((Sum.inl (a : Int) : Key) = Sum.inl (b : Int)) := fun z => h (by have := Sum.inl.inj z; omega)
theorem putK_keys (hv : List (Key × V)) (k : Key) (v : V) : (putK hv k v).map (·.1) = if (valV hv k).isSome = true then hv.map (·.1) else hv.map (·.1) ++ [k] := by
  unfold putK
  rw [valV_any]
  by_cases z : (valV hv k).isSome = true
  · rw [if_pos z, if_pos z, List.map_map]
    refine List.map_congr_left fun p _ => ?_
    show (if p.1 = k then (p.1, v) else p).1 = p.1
    split <;> rfl
  · rw [if_neg z, if_neg z, List.map_append]; rfl
theorem HandF.put {m : Nat} {hv : List (Key × V)} {f : HF} {c : Nat} {p : Nat × Nat} {v : V} (h : HandF K G m hv f) (hc : c < m) (hv2 : Dp K G v (.tuple [.int p.1, .int p.2])) : HandF K G m (putK hv (Sum.inl (c : Int)) v) (f.put c p) := by
  refine ⟨?_, fun q hq => ?_, fun x hx => ?_, fun x q hx => ?_⟩
  · rw [putK_keys]
    split
    · exact h.nd
    · rename_i z
      rw [List.nodup_append]
      refine ⟨h.nd, (List.nodup_cons.mpr ⟨fun z => (nomatch z), List.nodup_nil⟩), fun a ha b hb e => ?_⟩
      have hb : b = Sum.inl (c : Int) := by simpa using hb
      subst hb
      subst e
      have : valV hv (Sum.inl (c : Int)) = none := by
        cases q : valV hv (Sum.inl (c : Int)) with
        | none => rfl
        | some w => rw [q] at z; exact absurd rfl z
      exact valV_not this ha
  · have : q.1 ∈ (putK hv (Sum.inl (c : Int)) v).map (·.1) := List.mem_map.mpr ⟨q, hq, rfl⟩
    rw [putK_keys] at this
    split at this
    · obtain ⟨r, hr, e⟩ := List.mem_map.mp this
      obtain ⟨d, h1, h2⟩ := h.key r hr
      exact ⟨d, h1, by rw [← e]; exact h2⟩
    · rcases List.mem_append.mp this with this | this
      · obtain ⟨r, hr, e⟩ := List.mem_map.mp this
        obtain ⟨d, h1, h2⟩ := h.key r hr
        exact ⟨d, h1, by rw [← e]; exact h2⟩
      · exact ⟨c, hc, by simpa using this⟩
  · rw [valV_put]
    unfold HF.put at hx
    by_cases e : x = c
    · rw [if_pos e] at hx; cases hx
    · rw [if_neg e] at hx
      rw [if_neg (inl_ne e)]
      exact h.non x hx
  · rw [valV_put]
    unfold HF.put at hx
    by_cases e : x = c
    · rw [if_pos e] at hx
      cases hx
      rw [e, if_pos rfl]
      exact ⟨v, rfl, hv2⟩
    · rw [if_neg e] at hx
      rw [if_neg (inl_ne e)]
      exact h.val x q hx
theorem valV_drop (k j : Key) : ∀ hv : List (Key × V), valV (dropK hv k) j = if j = k then none else valV hv j
  | [] => by unfold dropK; rw [List.filter_nil, valV_nil]; split <;> rfl
  | p :: hv => by
    by_cases e : p.1 = k
    · rw [dropK_pos e, valV_drop k j hv]
      by_cases z : j = k
      · rw [if_pos z, if_pos z]
      · rw [if_neg z, if_neg z, valV_neg (fun y => z (by rw [← y, e]))]
    · rw [dropK_neg e]
      by_cases y : p.1 = j
      · rw [valV_pos y, if_neg (fun z => e (by rw [y, z])), valV_pos y]
      · rw [valV_neg y, valV_neg y, valV_drop k j hv]
theorem HandF.drop {m : Nat} {hv : List (Key × V)} {f : HF} {c : Nat} (h : HandF K G m hv f) : HandF K G m (dropK hv (Sum.inl (c : Int))) (fun x => if x = c then none else f x) := by
  refine ⟨?_, fun q hq => h.key q (List.mem_filter.mp hq).1, fun x hx => ?_, fun x q hx => ?_⟩
  · exact h.nd.sublist ((List.filter_sublist).map _)
  · rw [valV_drop]
    by_cases e : x = c
    · rw [e, if_pos rfl]
    · rw [if_neg (inl_ne e)]
      rw [if_neg e] at hx
      exact h.non x hx
  · rw [valV_drop]
    by_cases e : x = c
    · rw [if_pos e] at hx; cases hx
    · rw [if_neg (inl_ne e)]
      rw [if_neg e] at hx
      exact h.val x q hx
theorem HandF.in_ {m : Nat} {hv : List (Key × V)} {f : HF} (h : HandF K G m hv f) (c : Nat) : (valV hv (Sum.inl (c : Int))).isSome = (f c).isSome := by
  cases e : f c with
  | none => rw [h.non c e]; rfl
  | some p =>
    obtain ⟨v, h1, _⟩ := h.val c p e
    rw [h1]; rfl
/-- the keys of a hand, sorted -/
theorem HandF.keys {m : Nat} {hv : List (Key × V)} {f : HF} (h : HandF K G m hv f) : ∃ ks : List Nat, hv.map (·.1) = (ks.map fun (c : Nat) => (c : Int)).map Sum.inl ∧ ks.Nodup ∧ (∀ c, c ∈ ks → c < m) ∧ (∀ c, c ∈ ks ↔ (f c).isSome = true) ∧ ks.length ≤ m := by
  have hk : ∀ l : List (Key × V), (∀ p, p ∈ l → ∃ c : Nat, c < m ∧ p.1 = Sum.inl (c : Int)) → ∃ ks : List Nat, l.map (·.1) = (ks.map fun (c : Nat) => (c : Int)).map Sum.inl ∧ ∀ c, c ∈ ks → c < m := fun l => by
    induction l with
    | nil => exact fun _ => ⟨[], rfl, fun _ z => nomatch z⟩
    | cons p l ih =>
      intro q
      obtain ⟨ks, h1, h2⟩ := ih fun x hx => q x (List.mem_cons_of_mem _ hx)
      obtain ⟨c, h3, h4⟩ := q p List.mem_cons_self
      exact ⟨c :: ks, by rw [List.map_cons, h1, h4]; rfl, fun x hx => by rcases List.mem_cons.mp hx with rfl | hx; exact h3; exact h2 x hx⟩
  obtain ⟨ks, h1, h2⟩ := hk hv h.key
  have hn : ks.Nodup := by
    have := h.nd
    rw [h1, List.map_map] at this
    exact List.Pairwise.of_map _ (fun a b z e => z (by rw [e])) this
  have hm : ∀ c, c ∈ ks ↔ (f c).isSome = true := fun c => by
    rw [← h.in_ c]
    constructor
    · intro hc
      have : (Sum.inl (c : Int) : Key) ∈ hv.map (·.1) := by rw [h1, List.map_map]; exact List.mem_map.mpr ⟨c, hc, rfl⟩
      cases e : valV hv (Sum.inl (c : Int)) with
      | none => exact absurd this (valV_not e)
      | some v => rfl
    · intro hc
      obtain ⟨v, e⟩ := Option.isSome_iff_exists.mp hc
      have := valV_in e
      rw [h1, List.map_map] at this
      obtain ⟨d, hd, ed⟩ := List.mem_map.mp this
      have : d = c := by have : (d : Int) = (c : Int) := Sum.inl.inj ed; omega
      rw [← this]; exact hd
  exact ⟨ks, h1, hn, h2, hm, nodup_lt_len m ks hn h2⟩
theorem keys_sorted {m : Nat} {f : HF} {ks l : List Nat} (hn : ks.Nodup) (hm : ∀ c, c ∈ ks → c < m) (hf : ∀ c, c ∈ ks ↔ (f c).isSome = true) (hp : l.Perm ks) (hs : l.Pairwise (· ≤ ·)) : l = (List.range m).filter fun c => (f c).isSome := by
  refine nat_sorted_eq (hp.trans ?_) hs ((List.pairwise_lt_range).imp (fun h => Nat.le_of_lt h) |>.filter _)
  refine (List.perm_ext_iff_of_nodup hn (List.nodup_range.filter _)).mpr fun c => ?_
  rw [List.mem_filter, List.mem_range, hf]
  exact ⟨fun hc => ⟨hm c ((hf c).mpr hc), hc⟩, fun hc => hc.2⟩
/-- sorted(hand) -/
theorem sorted_hand {m : Nat} {hv : List (Key × V)} {f : HF} {a : Addr} {R : KR} (h : HandF K G m hv f) (ha : At G M a (.dK hv)) (hm : m ≤ 32) (q : ∀ p, Fr G M p → R (.ref p) G ((p, .lst (natsV ((List.range m).filter fun c => (f c).isSome))) :: M)) : kSortedD [.ref a] G M R := by
  obtain ⟨ks, h1, h2, h3, h4, h5⟩ := h.keys
  refine ⟨hv, ks.map fun (c : Nat) => (c : Int), ha, h1, by rw [List.length_map]; omega, fun ys p pm pw fp => ?_⟩
  obtain ⟨l, rfl⟩ := ints_nats (ys := ys) fun y hy => by
    obtain ⟨c, _, rfl⟩ := List.mem_map.mp (pm.mem_iff.mp hy)
    exact Int.natCast_nonneg _
  have e := keys_sorted h2 h3 h4 (perm_nats pm) ((List.pairwise_map.mp pw).imp fun {a b} h => by omega)
  rw [natsV_ints, e]
  exact q p fp
end
section
variable {K : PySem.W.Frag} {vs : List V} {G : Hp} {M : Mem} {R : KR} {Z : KX}
theorem BodyI.ex {G' : Hp} {A : BodyA} {m high : Nat} {fs : List Nat} {th : Th} {f : HF} {xs : List V} {hv : List (Key × V)} (e : Ex G G') (h : BodyI K G A m high fs th f xs hv) : BodyI K G' A m high fs th f xs hv :=
  ⟨ex_l e h.sf, h.fl, ex_ds e _ h.sx, h.sv.ex e, h.tl, h.tm, h.hi, h.m1⟩
theorem pf_Body_word_of (h : S_Body_word_of K vs G M R Z) : rd_Body_word_of K (ends R Z) (sta 2 vs) G M := by
  obtain ⟨_, _, rfl, A, kp, num, m, high, c, fs, th, f, xs, hv, F, rfl, rfl, hp, hi, hc, q⟩ := sp2_of h
  have wk : Wk G M G (bodyB K A kp num high xs hv ++ F) := Wk.perm hp.symm
  have wk' : Wk G (bodyB K A kp num high xs hv ++ F) G M := Wk.perm hp
  refine ⟨G, _, wk, 8, A.db, _, 3, .ref A.hd, at_n (n := 0) rfl, rfl, rfl, hv, Sum.inl (c : Int), at_n (n := 3) rfl, rfl, ?_⟩
  show if (valV hv (Sum.inl (c : Int))).isSome = true then _ else _
  rw [hi.sv.in_]
  cases e : f c with
  | none =>
    rw [e] at q
    refine ⟨G, _, Wk.refl, 8, A.db, _, 2, .ref A.fs, at_n (n := 0) rfl, rfl, rfl, natsV fs, _, lst_g hi.sf, atI_natD (by rw [hi.fl]; exact hc), retW wk' q⟩
  | some p =>
    rw [e] at q
    obtain ⟨v, h1, h2⟩ := hi.sv.val c p e
    obtain ⟨T, xs2, rfl, s, a⟩ := dp_tup_inv h2
    have e2 : xs2 = [V.int p.1, V.int p.2] := dpall_ints_inv (ns := [(p.1 : Int), p.2]) a
    subst e2
    exact ⟨G, _, Wk.refl, 8, A.db, _, 3, .ref A.hd, at_n (n := 0) rfl, rfl, rfl, hv, Sum.inl (c : Int), .ref T, at_n (n := 3) rfl, rfl, h1, _, _, .inr s, rfl, retW wk' q⟩
theorem HandF.len {m : Nat} {hv : List (Key × V)} {f : HF} (h : HandF K G m hv f) : hv.length ≤ m := by
  obtain ⟨ks, h1, _, _, _, h5⟩ := h.keys
  have := congrArg List.length h1
  rw [List.length_map, List.length_map, List.length_map] at this
  omega
theorem pf_Body_keep (h : S_Body_keep K vs G M R Z) : rd_Body_keep K (ends R Z) (sta 4 vs) G M := by
  obtain ⟨_, _, _, _, rfl, A, kp, num, m, high, c, w, l, fs, th, f, xs, hv, F, rfl, rfl, rfl, rfl, hp, hi, hc, q⟩ := sp4_of h
  have wk : Wk G M G (bodyB K A kp num high xs hv ++ F) := Wk.perm hp.symm
  have hl := hi.sv.len
  have hm := hi.m1
  refine ⟨G, _, wk, sz2, fun T fT => ⟨8, A.db, _, 3, .ref A.hd, at_n (n := 0) rfl, rfl, rfl, 3, hv, Sum.inl (c : Int), rfl, rfl, Nat.lt_of_le_of_lt (m := 32) (by omega) (by decide), ?_⟩⟩
  have x := Ex.new (o := .tup [.int (w : Int), .int (l : Int)]) fT
  have hi' := hi.ex x
  exact ret0 (q _ _ x ⟨hi'.sf, hi'.fl, hi'.sx, hi'.sv.put hc (.tup sqt_new (.cons (.int _) (.cons (.int _) .nil))), hi'.tl, hi'.tm, hi'.hi, hi'.m1⟩)
theorem pf_Body_cells_in_hand (h : S_Body_cells_in_hand K vs G M R Z) : rd_Body_cells_in_hand K (ends R Z) (sta 1 vs) G M := by
  obtain ⟨_, rfl, A, kp, num, m, high, fs, th, f, xs, hv, F, rfl, hp, hi, q⟩ := sp1_of h
  have wk : Wk G M G (bodyB K A kp num high xs hv ++ F) := Wk.perm hp.symm
  refine ⟨G, _, wk, 8, A.db, _, 3, .ref A.hd, at_n (n := 0) rfl, rfl, rfl, ?_⟩
  simp only [kNil]
  refine sorted_hand hi.sv (at_n (n := 3) rfl) hi.m1 fun p fp => ?_
  exact retW (Wk.perm (hp.cons _)) (q p ⟨fp.1, fun x hx => fp.2 x (hp.mem_iff.mp hx)⟩)
theorem filter_take_two {l : List V} : cutV l none (some 2) = l.take 2 := cut_take (k := 2)
theorem pf_Body_fitting (h : S_Body_fitting K vs G M R Z) : rd_Body_fitting K (ends R Z) (sta 5 vs) G M := by
  obtain ⟨_, _, _, rfl, A, kp, num, m, high, d, node, fs, th, f, xs, hv, F, rfl, rfl, rfl, rfl, hi, hd, q⟩ := sp3_of h
  clear h
  obtain ⟨ks, hks⟩ : ∃ ks, ks = (List.range m).filter fun c => (f c).isSome := ⟨_, rfl⟩
  have hkl : ks.length ≤ 32 := by
    have := List.length_filter_le (fun c => (f c).isSome) (List.range m)
    rw [List.length_range] at this
    have := hi.m1
    rw [hks]; omega
  refine ⟨G, _, Wk.refl, 8, A.db, _, 3, .ref A.hd, at_n (n := 0) rfl, rfl, rfl, ?_⟩
  simp only [kNil]
  refine sorted_hand hi.sv (at_n (n := 3) rfl) hi.m1 fun p fp => ?_
  rw [← hks]
  refine ⟨natsV ks, lat_0, sz (by show (natsV ks).length ≤ _; rw [natsV_len]; omega), fun i acc G' M' => G' = G ∧ M' = (p, .lst (natsV ks)) :: (bodyB K A kp num high xs hv ++ F) ∧ acc = natsV ((ks.take i).filter (fitB high d node f)), ⟨rfl, rfl, rfl⟩, ?_, ?_, ?_⟩
  · rintro i acc G' M' _ ⟨rfl, rfl, _⟩; exact lat_0
  · rintro i acc G' M' D hi2 hacc ⟨rfl, rfl, rfl⟩ fD
    have hi2 : i < (natsV ks).length := hi2
    rw [natsV_len] at hi2
    obtain ⟨c, hc⟩ : ∃ c, ks[i]? = some c := ⟨_, List.getElem?_eq_getElem hi2⟩
    have hcf : (f c).isSome = true := by
      have := List.mem_of_getElem? hc
      rw [hks, List.mem_filter] at this
      exact this.2
    obtain ⟨pp, hpp⟩ := Option.isSome_iff_exists.mp hcf
    obtain ⟨v, h1, h2⟩ := hi.sv.val c pp hpp
    obtain ⟨T, xs2, rfl, s, a⟩ := dp_tup_inv h2
    have e2 : xs2 = [V.int pp.1, V.int pp.2] := dpall_ints_inv (ns := [(pp.1 : Int), pp.2]) a
    subst e2
    refine asg_L (natsV_get hc) ⟨rfl, 8, A.db, _, 1, .int high, at_n (n := 2) rfl, rfl, rfl, 8, A.db, _, 3, .ref A.hd, at_n (n := 2) rfl, rfl, rfl, hv, Sum.inl (c : Int), .ref T, at_n (n := 5) rfl, rfl, h1, _, _, .inr s, rfl, high, d, pp.2, rfl, rfl, rfl, hd, hi.hi, ?_⟩
    have ef : fitB high d node f c = decide (nodeN high d pp.2 = node) := by unfold fitB; rw [hpp]
    have ec : decide (V.int (nodeN high d pp.2 : Nat) = V.int (node : Nat)) = fitB high d node f c := by
      rw [ef]; exact decide_eq_decide.mpr ⟨fun z => by have := V.int.inj z; omega, fun z => by rw [z]⟩
    show if decide (V.int (nodeN high d pp.2 : Nat) = V.int (node : Nat)) = true then _ else _
    rw [ec]
    have et : ks.take (i + 1) = ks.take i ++ [c] := take_succ' hc
    refine ite2' (fun e => ⟨_, _, Wk.refl, rfl, rfl, ?_⟩) (fun e => ⟨_, _, Wk.refl, rfl, rfl, ?_⟩)
    · rw [et, List.filter_append, natsV_app2, List.filter_cons_of_pos e]; rfl
    · rw [et, List.filter_append, natsV_app2, List.filter_cons_of_neg (by rw [e]; exact Bool.false_ne_true)]
      show _ = _ ++ natsV (List.filter _ [])
      rw [List.filter_nil]; exact (List.append_nil _).symm
  · rintro acc G' M' w ⟨rfl, rfl, rfl⟩ hacc fw
    refine ⟨G', _, Wk.refl, _, lat_0, fun t ft => ?_⟩
    have hk : (ks.take (srcL K p (natsV ks)).n).filter (fitB high d node f) = (List.range m).filter (fitB high d node f) := by
      have e1 : (srcL K p (natsV ks)).n = ks.length := natsV_len ks
      rw [e1, List.take_length, hks, List.filter_filter]
      refine List.filter_congr fun c _ => ?_
      unfold fitB
      cases f c <;> simp
    rw [hk, filter_take_two]
    have ht : (natsV ((List.range m).filter (fitB high d node f))).take 2 = natsV (fitsN m high d node f) := by
      unfold fitsN natsV; rw [List.map_take]
    rw [ht]
    refine retW (G' := G') (M' := (t, .lst (natsV (fitsN m high d node f))) :: (bodyB K A kp num high xs hv ++ F)) ?_ (q t ⟨ft.1, fun x hx => ft.2 x (List.mem_cons_of_mem _ (List.mem_cons_of_mem _ hx))⟩)
    exact Wk.drop1.trans Wk.drop1
theorem node_lt {high d leaf : Nat} (hd : d ≤ high) (hl : leaf < 2 ^ high) : 2 * nodeN high d leaf + 1 < 2 * (2 * 2 ^ high - 1) := by
  unfold nodeN
  have h1 : leaf / 2 ^ (high - d) < 2 ^ d := by
    rw [Nat.div_lt_iff_lt_mul (Nat.two_pow_pos _), ← Nat.pow_add, show d + (high - d) = high by omega]; exact hl
  have h2 : 2 ^ d ≤ 2 ^ high := Nat.pow_le_pow_right (by decide) hd
  have h3 : 1 ≤ 2 ^ d := Nat.one_le_two_pow
  omega
theorem ent_get {xs : List V} {th : Th} {r : Nat} (h : DpAll K G xs (th.map entD)) (hr : r < th.length) : ∃ v, xs[r]? = some v ∧ Dp K G v (entD (th.getD r none)) := by
  have e : th[r]? = some (th.getD r none) := by rw [List.getD_eq_getElem?_getD, List.getElem?_eq_getElem hr]; rfl
  exact dpall_get (d := entD (th.getD r none)) h (by rw [List.getElem?_map, e]; rfl)
theorem ent_none {v : V} (h : Dp K G v (entD none)) : v = .non := by cases h; rfl
theorem ent_some {v : V} {e : Nat × Nat × Nat} (h : Dp K G v (entD (some e))) : ∃ T, v = .ref T ∧ SqT K G T [.int e.1, .int e.2.1, .int e.2.2] := by
  obtain ⟨T, xs, rfl, s, a⟩ := dp_tup_inv h
  have e2 : xs = [V.int e.1, V.int e.2.1, V.int e.2.2] := dpall_ints_inv (ns := [(e.1 : Int), e.2.1, e.2.2]) a
  subst e2
  exact ⟨T, rfl, s⟩
theorem lookW_succ (th : Th) (high leaf : Nat) (f : HF) (k : Nat) : lookW th high leaf f (k + 1) = lookR th (lookR th (lookW th high leaf f k) (2 * nodeN high k leaf)) (2 * nodeN high k leaf + 1) := by
  unfold lookW; rw [List.range_succ, List.foldl_append]; rfl
theorem lookT_succ (num high leaf k : Nat) : lookT num high leaf (k + 1) = lookT num high leaf k ++ [⟨false, num, 2 * nodeN high k leaf⟩, ⟨false, num, 2 * nodeN high k leaf + 1⟩] := by
  unfold lookT; rw [List.range_succ, List.flatMap_append]; simp
theorem lookT_len (num high leaf k : Nat) : (lookT num high leaf k).length = 2 * k := by
  induction k with
  | zero => rfl
  | succ k ih => rw [lookT_succ, List.length_append, ih]; show 2 * k + 2 = _; omega
theorem layT_succ (num high leaf k : Nat) : layT num high leaf (k + 1) = layT num high leaf k ++ [⟨true, num, 2 * nodeN high (high - k) leaf⟩, ⟨true, num, 2 * nodeN high (high - k) leaf + 1⟩] := by
  unfold layT; rw [List.range_succ, List.flatMap_append]; simp
theorem layT_len (num high leaf k : Nat) : (layT num high leaf k).length = 2 * k := by
  induction k with
  | zero => rfl
  | succ k ih => rw [layT_succ, List.length_append, ih]; show 2 * k + 2 = _; omega
theorem layW_succ (m high leaf : Nat) (s : Th × HF) (k : Nat) : layW m high leaf s (k + 1) = layD m high leaf (layW m high leaf s k) (high - k) := by
  unfold layW; rw [List.range_succ, List.foldl_append]; rfl
/-- one look on a way -/
theorem look_step {A : BodyA} {kp dk lg : Addr} {o : HO} {ts : List Tch} {num m high leaf d sd : Nat} {fs : List Nat} {th : Th} {f : HF} {xs : List V} {hv : List (Key × V)} {F : Mem} {y4 : Option V} {D : Kd} (hi : BodyI K G A m high fs th f xs hv) (hlg : LogC K G ts o) (hl : leaf < 2 ^ high) (hd : d ≤ high) (hs : sd ≤ 1) (hts : ts.length ≤ 990000)
    (hD : ∀ G' o' hv' y, Ex G G' → LogC K G' (ts ++ [⟨false, num, 2 * nodeN high d leaf + sd⟩]) o' → BodyI K G' A m high fs th (lookR th f (2 * nodeN high d leaf + sd)) xs hv' → D.nx [some (.ref A.b), some (.int leaf), some (.int d), some (.int sd), y] G' (bodyB K A kp num high xs hv' ++ (keepB K kp dk lg o' ++ F))) :
    rd_Body_look_way_b1 K D [some (.ref A.b), some (.int leaf), some (.int d), some (.int sd), y4] G (bodyB K A kp num high xs hv ++ (keepB K kp dk lg o ++ F)) := by
  have hr : 2 * nodeN high d leaf + sd < th.length := by
    have := node_lt hd hl
    rw [hi.tl]; omega
  obtain ⟨v, hv1, hv2⟩ := ent_get hi.sx hr
  refine ⟨G, _, Wk.refl, 8, A.db, _, 0, .ref A.sh, at_n (n := 0) rfl, rfl, rfl, 2, A.dh, _, S_Shelf_look K, at_n (n := 1) rfl, rfl, 8, A.db, _, 1, .int high, at_n (n := 0) rfl, rfl, rfl, high, d, leaf, rfl, rfl, rfl, hd, hi.hi, nodeN high d leaf, sd, rfl, rfl, A.sh, A.dh, kp, A.th, num, 1, 2, xs, rfl, ⟨rfl, rfl⟩, .inr ⟨dk, lg, 4, 5, o, ts, 2 * nodeN high d leaf + sd, v, rfl, ⟨rfl, rfl, hlg⟩, by omega, hv1, by decide, fun G1 o1 ex1 ho1 => ?_⟩⟩
  have hi1 := hi.ex ex1
  unfold lookR at hD
  cases he : th.getD (2 * nodeN high d leaf + sd) none with
  | none =>
    rw [he] at hv2 hD
    have := ent_none hv2
    subst this
    refine ⟨G1, _, Wk.refl, ?_⟩
    exact hD G1 o1 hv _ ex1 ho1 hi1
  | some e =>
    rw [he] at hv2 hD
    obtain ⟨T, rfl, hT⟩ := ent_some hv2
    have hT1 := ex_t ex1 hT
    have hem : e.1 < m := hi.tm (2 * nodeN high d leaf + sd) e (by rw [List.getD_eq_getElem?_getD, List.getElem?_eq_getElem hr] at he; rw [List.getElem?_eq_getElem hr]; congr 1)
    have hl := hi.sv.len
    have hm := hi.m1
    have tt : ∀ {G' : Hp} {Mx : Mem}, Ex G1 G' → SeqAt' K G' Mx T [.int e.1, .int e.2.1, .int e.2.2] := fun x => .inr (ex_t x hT1)
    refine ⟨G1, _, Wk.refl, ?_⟩
    refine ⟨G1, _, Wk.refl, _, _, tt Ex.refl, rfl, _, _, tt Ex.refl, rfl, sz2, fun T2 f2 => ?_⟩
    have x2 := Ex.new (o := .tup [.int (e.2.1 : Int), .int (e.2.2 : Int)]) f2
    refine ⟨8, A.db, _, 3, .ref A.hd, at_n (n := 0) rfl, rfl, rfl, _, _, tt x2, rfl, 3, hv, Sum.inl (e.1 : Int), rfl, rfl, Nat.lt_of_le_of_lt (m := 32) (by omega) (by decide), ?_⟩
    have hi2 := hi1.ex x2
    exact hD _ o1 _ _ (ex1.trans x2) (ho1.ex x2) ⟨hi2.sf, hi2.fl, hi2.sx, hi2.sv.put hem (.tup sqt_new (.cons (.int _) (.cons (.int _) .nil))), hi2.tl, hi2.tm, hi2.hi, hi2.m1⟩
theorem sides_get {i : Nat} (hi : i < 2) : con_SIDES[i]? = some (.int (i : Int)) := by
  have e : i = 0 ∨ i = 1 := by omega
  rcases e with rfl | rfl <;> rfl
theorem pf_Body_look_way (h : S_Body_look_way K vs G M R Z) : rd_Body_look_way K (ends R Z) (sta 5 vs) G M := by
  obtain ⟨_, _, rfl, A, kp, dk, lg, o, ts, num, m, high, leaf, fs, th, f, xs, hv, F, rfl, rfl, hp, hi, hlg, hl, hts, q⟩ := sp2_of h
  clear h
  have hh := hi.hi
  refine ⟨G, _, Wk.perm hp.symm, 8, A.db, _, 1, .int high, at_n (n := 0) rfl, rfl, rfl, ⟨by omega, by omega⟩, fun i σ G' M' => ∃ (o' : HO) (hv' : List (Key × V)) (y2 y3 y4 : Option V), σ = [some (.ref A.b), some (.int leaf), y2, y3, y4] ∧ Ex G G' ∧ M' = bodyB K A kp num high xs hv' ++ (keepB K kp dk lg o' ++ F) ∧ LogC K G' (ts ++ lookT num high leaf i) o' ∧ BodyI K G' A m high fs th (lookW th high leaf f i) xs hv',
    ⟨o, hv, _, _, _, rfl, Ex.refl, rfl, by show LogC K G (ts ++ []) o; rw [List.append_nil]; exact hlg, hi⟩, fun _ _ _ _ _ _ => trivial, ?_, ?_⟩
  · rintro d σ G' M' hd ⟨o1, hv1, y2, y3, y4, rfl, ex, rfl, hlg1, hi1⟩
    have hd : d < ((high : Int) + 1).toNat := hd
    have hd : d ≤ high := by omega
    refine asg_R (v := (d : Int)) (by omega) ?_
    refine ⟨G', _, Wk.refl, fun hc => ⟨con_SIDES, hc G', fun i σ G2 M2 => ∃ (o' : HO) (hv' : List (Key × V)) (y3 y4 : Option V), σ = [some (.ref A.b), some (.int leaf), some (.int d), y3, y4] ∧ Ex G G2 ∧ M2 = bodyB K A kp num high xs hv' ++ (keepB K kp dk lg o' ++ F) ∧ LogC K G2 (ts ++ lookT num high leaf d ++ ([⟨false, num, 2 * nodeN high d leaf⟩, ⟨false, num, 2 * nodeN high d leaf + 1⟩] : List Tch).take i) o' ∧ BodyI K G2 A m high fs th ((List.range i).foldl (fun f s => lookR th f (2 * nodeN high d leaf + s)) (lookW th high leaf f d)) xs hv',
      ⟨o1, hv1, _, _, rfl, ex, rfl, by rw [List.take_zero, List.append_nil]; exact hlg1, hi1⟩, fun _ _ G2 _ _ _ => hc G2, ?_, ?_⟩⟩
    · rintro sd σ G2 M2 hs ⟨o2, hv2, y3, y4, rfl, ex2, rfl, hlg2, hi2⟩
      have hs : sd < 2 := hs
      refine asg_T (sides_get hs) (look_step hi2 hlg2 hl hd (by omega) ?_ fun G3 o3 hv3 y e3 hlg3 hi3 => ?_)
      · rw [List.length_append, List.length_append, lookT_len, List.length_take]; omega
      · refine ⟨G3, _, Wk.refl, o3, hv3, _, _, rfl, ex2.trans e3, rfl, ?_, ?_⟩
        · have e : ([⟨false, num, 2 * nodeN high d leaf⟩, ⟨false, num, 2 * nodeN high d leaf + 1⟩] : List Tch).take (sd + 1) = ([⟨false, num, 2 * nodeN high d leaf⟩, ⟨false, num, 2 * nodeN high d leaf + 1⟩] : List Tch).take sd ++ [⟨false, num, 2 * nodeN high d leaf + sd⟩] := by
            have e : sd = 0 ∨ sd = 1 := by omega
            rcases e with rfl | rfl <;> rfl
          rw [e, ← List.append_assoc]; exact hlg3
        · rw [List.range_succ, List.foldl_append]; exact hi3
    · rintro σ G2 M2 ⟨o2, hv2, y3, y4, rfl, ex2, rfl, hlg2, hi2⟩
      refine ⟨G2, _, Wk.refl, o2, hv2, _, _, _, rfl, ex2, rfl, ?_, ?_⟩
      · rw [lookT_succ, ← List.append_assoc]; exact hlg2
      · rw [lookW_succ]; exact hi2
  · rintro σ G' M' ⟨o1, hv1, y2, y3, y4, rfl, ex, rfl, hlg1, hi1⟩
    have en : (srcR 0 ((high : Int) + 1).toNat).n = high + 1 := by show ((high : Int) + 1).toNat = _; omega
    rw [en] at hlg1 hi1
    exact ret0 (q G' o1 hv1 ex hlg1 hi1)
def rmC (f : HF) : Option Nat → HF
  | some c => fun x => if x = c then none else f x
  | none => f
theorem dpall_setT : ∀ {vs : List V} {ds : List PyData} {i : Nat} {v : V} {d : PyData}, DpAll K G vs ds → Dp K G v d → DpAll K G (vs.set i v) (ds.set i d)
  | _, _, _, _, _, .nil, _ => .nil
  | _, _, 0, _, _, .cons _ b, h => .cons h b
  | _, _, i + 1, _, _, .cons a b, h => .cons a (dpall_setT b h)
theorem BodyI.lay {A : BodyA} {m high r : Nat} {fs : List Nat} {th : Th} {f f' : HF} {xs : List V} {hv hv' : List (Key × V)} {e : Option (Nat × Nat × Nat)} {v : V} (hi : BodyI K G A m high fs th f xs hv) (hv2 : HandF K G m hv' f') (hd : Dp K G v (entD e)) (he : ∀ x, e = some x → x.1 < m) : BodyI K G A m high fs (th.set r e) f' (xs.set r v) hv' :=
  ⟨hi.sf, hi.fl, by rw [List.map_set]; exact dpall_setT hi.sx hd, hv2, by rw [List.length_set]; exact hi.tl, fun r' x hx => by
    rw [List.getElem?_set] at hx
    split at hx
    · split at hx
      · exact he x (Option.some.inj hx)
      · cases hx
    · exact hi.tm r' x hx, hi.hi, hi.m1⟩
theorem lay_step {A : BodyA} {kp dk lg pc : Addr} {o : HO} {ts : List Tch} {num m high leaf d sd : Nat} {fs cs : List Nat} {th : Th} {f : HF} {xs : List V} {hv : List (Key × V)} {F : Mem} {y6 y7 y8 : Option V} {D : Kd} (hi : BodyI K G A m high fs th f xs hv) (hlg : LogC K G ts o) (hl : leaf < 2 ^ high) (hd : d ≤ high) (hs : sd ≤ 1) (hts : ts.length ≤ 990000) (hcl : cs.length ≤ 2)
    (hcs : ∀ c, cs[sd]? = some c → c < m ∧ (f c).isSome = true)
    (hD : ∀ G' o' xs' hv' y6 y7 y8, Ex G G' → LogC K G' (ts ++ [⟨true, num, 2 * nodeN high d leaf + sd⟩]) o' → BodyI K G' A m high fs (th.set (2 * nodeN high d leaf + sd) (takeC f cs sd)) (rmC f cs[sd]?) xs' hv' → D.nx [some (.ref A.b), some (.int leaf), some (.int d), some (.int (nodeN high d leaf : Nat)), some (.ref pc), some (.int sd), y6, y7, y8] G' ((pc, .lst (natsV cs)) :: (bodyB K A kp num high xs' hv' ++ (keepB K kp dk lg o' ++ F)))) :
    rd_Body_lay_way_b1 K D [some (.ref A.b), some (.int leaf), some (.int d), some (.int (nodeN high d leaf : Nat)), some (.ref pc), some (.int sd), y6, y7, y8] G ((pc, .lst (natsV cs)) :: (bodyB K A kp num high xs hv ++ (keepB K kp dk lg o ++ F))) := by
  have hr : 2 * nodeN high d leaf + sd < th.length := by
    have := node_lt hd hl
    rw [hi.tl]; omega
  have hxl : xs.length = th.length := by rw [dpall_len hi.sx, List.length_map]
  -- the laying
  have lay : ∀ (G1 : Hp) (hv1 : List (Key × V)) (v : V) (y7 y8 : Option V), Ex G G1 → Dp K G1 v (entD (takeC f cs sd)) → HandF K G1 m hv1 (rmC f cs[sd]?) → rd_Body_lay_way_b1_2 K D [some (.ref A.b), some (.int leaf), some (.int d), some (.int (nodeN high d leaf : Nat)), some (.ref pc), some (.int sd), some v, y7, y8] G1 ((pc, .lst (natsV cs)) :: (bodyB K A kp num high xs hv1 ++ (keepB K kp dk lg o ++ F))) := by
    intro G1 hv1 v y7 y8 e1 hdv hh
    refine ⟨G1, _, Wk.refl, 8, A.db, _, 0, .ref A.sh, at_n (n := 1) rfl, rfl, rfl, 2, A.dh, _, S_Shelf_lay K, at_n (n := 2) rfl, rfl, nodeN high d leaf, sd, rfl, rfl, A.sh, A.dh, kp, A.th, num, 2, 3, xs, rfl, ⟨rfl, rfl⟩, .inr ⟨dk, lg, 5, 6, o, ts, 2 * nodeN high d leaf + sd, rfl, ⟨rfl, rfl, hlg.ex e1⟩, by omega, by omega, by decide, by decide, fun G2 o2 ex2 ho2 => ?_⟩⟩
    refine hD G2 o2 (xs.set (2 * nodeN high d leaf + sd) v) hv1 _ _ _ (e1.trans ex2) ho2 (((hi.ex e1).lay hh hdv fun x hx => ?_).ex ex2)
    unfold takeC at hx
    cases e : cs[sd]? with
    | none => rw [e] at hx; cases hx
    | some c =>
      rw [e] at hx
      obtain ⟨p, _, rfl⟩ := Option.map_eq_some_iff.mp hx
      exact (hcs c e).1
  refine ⟨G, _, Wk.refl, ?_⟩
  refine ⟨G, _, Wk.refl, natsV cs, lst_n (n := 0) rfl, ?_⟩
  refine ite2' (c := decide ((sd : Int) < ((natsV cs).length : Int))) (fun hlt => ?_) (fun hge => ?_)
  · have hlt : sd < cs.length := by have := of_decide_eq_true hlt; rw [natsV_len] at this; omega
    obtain ⟨c, hc⟩ : ∃ c, cs[sd]? = some c := ⟨_, List.getElem?_eq_getElem hlt⟩
    obtain ⟨hcm, hcf⟩ := hcs c hc
    obtain ⟨p, hp⟩ := Option.isSome_iff_exists.mp hcf
    obtain ⟨v, h1, h2⟩ := hi.sv.val c p hp
    obtain ⟨T, xs2, rfl, s, a⟩ := dp_tup_inv h2
    have e2 : xs2 = [V.int p.1, V.int p.2] := dpall_ints_inv (ns := [(p.1 : Int), p.2]) a
    subst e2
    have hat : atI (natsV cs) (sd : Int) = some (.int (c : Int)) := atI_nat (natsV_get hc)
    refine ⟨G, _, Wk.refl, 8, A.db, _, 3, .ref A.hd, at_n (n := 1) rfl, rfl, rfl, ⟨hv, at_n (n := 4) rfl⟩, natsV cs, _, lst_n (n := 0) rfl, hat, sz2, fun T0 f0 => ?_⟩
    have x0 := Ex.new (o := .tup [.int 0, .int 0]) f0
    refine ⟨4, hv, Sum.inl (c : Int), rfl, rfl, fun u hu => ?_, fun z => by rw [h1] at z; cases z⟩
    rw [h1] at hu
    cases hu
    refine ⟨_, ex_t x0 s, ?_⟩
    refine ⟨_, _, Wk.refl, natsV cs, _, lst_n (n := 0) rfl, hat, sz3, fun T3 f3 => ?_⟩
    have x3 := Ex.new (o := .tup [.int (c : Int), .int (p.1 : Int), .int (p.2 : Int)]) f3
    refine lay _ (dropK hv (Sum.inl (c : Int))) (.ref T3) _ _ (x0.trans x3) ?_ ?_
    · unfold takeC
      rw [hc]
      simp only []
      rw [hp]
      exact .tup sqt_new (.cons (.int _) (.cons (.int _) (.cons (.int _) .nil)))
    · rw [hc]
      exact (hi.sv.ex (x0.trans x3)).drop
  · have hge : ¬ sd < cs.length := by have := of_decide_eq_false hge; rw [natsV_len] at this; omega
    have hn : cs[sd]? = none := List.getElem?_eq_none (by omega)
    refine lay G hv .non _ _ Ex.refl ?_ ?_
    · unfold takeC; rw [hn]; exact .non
    · rw [hn]; exact hi.sv
theorem fits_mem {m high d node : Nat} {f : HF} {c : Nat} (h : c ∈ fitsN m high d node f) : c < m ∧ (f c).isSome = true := by
  have := List.mem_of_mem_take h
  rw [List.mem_filter, List.mem_range] at this
  refine ⟨this.1, ?_⟩
  have h2 := this.2
  unfold fitB at h2
  cases e : f c with
  | none => rw [e] at h2; cases h2
  | some p => rfl
theorem fits_nodup {m high d node : Nat} {f : HF} : (fitsN m high d node f).Nodup := (List.nodup_range.filter _).sublist (List.take_sublist _ _)
theorem fits_len {m high d node : Nat} {f : HF} : (fitsN m high d node f).length ≤ 2 := by unfold fitsN; rw [List.length_take]; omega
theorem pf_Body_lay_way (h : S_Body_lay_way K vs G M R Z) : rd_Body_lay_way K (ends R Z) (sta 9 vs) G M := by
  obtain ⟨_, _, rfl, A, kp, dk, lg, o, ts, num, m, high, leaf, fs, th, f, xs, hv, F, rfl, rfl, hp, hi, hlg, hl, hts, q⟩ := sp2_of h
  clear h
  have hh := hi.hi
  have hr := rg_down (i := (high : Int)) (j := -1) (by omega) (by omega) (by omega) (by omega)
  have en : ((high : Int) - -1).toNat = high + 1 := by omega
  rw [en] at hr
  refine ⟨G, _, Wk.perm hp.symm, 8, A.db, _, 1, .int high, at_n (n := 0) rfl, rfl, rfl, _, hr, fun i σ G' M' => ∃ (o' : HO) (xs' : List V) (hv' : List (Key × V)) (y2 y3 y4 y5 y6 y7 y8 : Option V), σ = [some (.ref A.b), some (.int leaf), y2, y3, y4, y5, y6, y7, y8] ∧ Ex G G' ∧ M' = bodyB K A kp num high xs' hv' ++ (keepB K kp dk lg o' ++ F) ∧ LogC K G' (ts ++ layT num high leaf i) o' ∧ BodyI K G' A m high fs (layW m high leaf (th, f) i).1 (layW m high leaf (th, f) i).2 xs' hv',
    ⟨o, xs, hv, _, _, _, _, _, _, _, rfl, Ex.refl, rfl, by show LogC K G (ts ++ []) o; rw [List.append_nil]; exact hlg, hi⟩, fun _ _ _ _ _ _ => trivial, ?_, ?_⟩
  · rintro i σ G' M' hd ⟨o1, x1, hv1, y2, y3, y4, y5, y6, y7, y8, rfl, ex, rfl, hlg1, hi1⟩
    have hd : i < high + 1 := hd
    obtain ⟨d, hdd⟩ : ∃ d, d = high - i := ⟨_, rfl⟩
    have hdh : d ≤ high := by omega
    refine asg_C (v := (d : Int)) (by omega) ?_
    refine ⟨G', _, Wk.refl, 8, A.db, _, 1, .int high, at_n (n := 0) rfl, rfl, rfl, high, d, leaf, rfl, rfl, rfl, hdh, hh, ?_⟩
    obtain ⟨th1, hth1⟩ : ∃ th1, th1 = (layW m high leaf (th, f) i).1 := ⟨_, rfl⟩
    obtain ⟨f1, hf1⟩ : ∃ f1, f1 = (layW m high leaf (th, f) i).2 := ⟨_, rfl⟩
    rw [← hth1, ← hf1] at hi1
    refine ⟨G', _, Wk.refl, 8, A.db, _, S_Body_fitting K, at_n (n := 0) rfl, rfl, A, kp, num, m, high, d, nodeN high d leaf, fs, th1, f1, x1, hv1, _, rfl, rfl, rfl, rfl, hi1, hdh, fun pc fpc => ?_⟩
    obtain ⟨cs, hcs⟩ : ∃ cs, cs = fitsN m high d (nodeN high d leaf) f1 := ⟨_, rfl⟩
    rw [← hcs]
    have hcl : cs.length ≤ 2 := by rw [hcs]; exact fits_len
    have hcn : cs.Nodup := by rw [hcs]; exact fits_nodup
    have hcm : ∀ c, c ∈ cs → c < m ∧ (f1 c).isSome = true := fun c hc => by rw [hcs] at hc; exact fits_mem hc
    refine ⟨G', _, Wk.refl, fun hc => ⟨con_SIDES, hc G', fun k σ G2 M2 => ∃ (o' : HO) (xs' : List V) (hv' : List (Key × V)) (y5 y6 y7 y8 : Option V), σ = [some (.ref A.b), some (.int leaf), some (.int d), some (.int (nodeN high d leaf : Nat)), some (.ref pc), y5, y6, y7, y8] ∧ Ex G G2 ∧ M2 = (pc, .lst (natsV cs)) :: (bodyB K A kp num high xs' hv' ++ (keepB K kp dk lg o' ++ F)) ∧ LogC K G2 (ts ++ layT num high leaf i ++ ([⟨true, num, 2 * nodeN high d leaf⟩, ⟨true, num, 2 * nodeN high d leaf + 1⟩] : List Tch).take k) o' ∧
        BodyI K G2 A m high fs ((List.range k).foldl (fun th s => th.set (2 * nodeN high d leaf + s) (takeC f1 cs s)) th1) (fun x => if x ∈ cs.take k then none else f1 x) xs' hv',
      ⟨o1, x1, hv1, _, _, _, _, rfl, ex, rfl, by rw [List.take_zero, List.append_nil]; exact hlg1, by simpa using hi1⟩, fun _ _ G2 _ _ _ => hc G2, ?_, ?_⟩⟩
    · rintro sd σ G2 M2 hs ⟨o2, x2, hv2, y5, y6, y7, y8, rfl, ex2, rfl, hlg2, hi2⟩
      have hs : sd < 2 := hs
      have hnot : ∀ c, cs[sd]? = some c → c ∉ cs.take sd := fun c hc z => by
        obtain ⟨j, hj⟩ := List.getElem?_of_mem z
        have hjl : j < sd := by
          have := (List.getElem?_eq_some_iff.mp hj).1
          rw [List.length_take] at this; omega
        rw [List.getElem?_take_of_lt hjl] at hj
        have := (List.getElem?_inj (by have := (List.getElem?_eq_some_iff.mp hj).1; exact this) hcn).mp (hj.trans hc.symm)
        omega
      refine asg_T (sides_get hs) (lay_step hi2 hlg2 hl hdh (by omega) ?_ hcl (fun c hc => ?_) fun G3 o3 x3 hv3 z6 z7 z8 e3 hlg3 hi3 => ?_)
      · rw [List.length_append, List.length_append, layT_len, List.length_take]; omega
      · rw [if_neg (hnot c hc)]
        exact hcm c (List.mem_of_getElem? hc)
      · refine ⟨G3, _, Wk.refl, o3, x3, hv3, _, _, _, _, rfl, ex2.trans e3, rfl, ?_, ?_⟩
        · have e : ([⟨true, num, 2 * nodeN high d leaf⟩, ⟨true, num, 2 * nodeN high d leaf + 1⟩] : List Tch).take (sd + 1) = ([⟨true, num, 2 * nodeN high d leaf⟩, ⟨true, num, 2 * nodeN high d leaf + 1⟩] : List Tch).take sd ++ [⟨true, num, 2 * nodeN high d leaf + sd⟩] := by
            have e : sd = 0 ∨ sd = 1 := by omega
            rcases e with rfl | rfl <;> rfl
          rw [e, ← List.append_assoc]; exact hlg3
        · have e1 : takeC (fun x => if x ∈ cs.take sd then none else f1 x) cs sd = takeC f1 cs sd := by
            unfold takeC
            cases e : cs[sd]? with
            | none => rfl
            | some c => simp only []; rw [if_neg (hnot c e)]
          have e2 : rmC (fun x => if x ∈ cs.take sd then none else f1 x) cs[sd]? = fun x => if x ∈ cs.take (sd + 1) then none else f1 x := by
            cases e : cs[sd]? with
            | none =>
              have hlen : cs.length ≤ sd := by
                apply Decidable.byContradiction
                intro z
                rw [List.getElem?_eq_getElem (by omega)] at e; cases e
              rw [List.take_of_length_le (Nat.le_succ_of_le hlen)]
              show (fun x => if x ∈ cs.take sd then none else f1 x) = _
              rw [List.take_of_length_le hlen]
            | some c =>
              rw [take_succ' e]
              funext x
              show (if x = c then none else if x ∈ cs.take sd then none else f1 x) = _
              by_cases z : x = c
              · rw [if_pos z, if_pos (by rw [z]; simp)]
              · rw [if_neg z]
                by_cases y : x ∈ cs.take sd
                · rw [if_pos y, if_pos (List.mem_append.mpr (.inl y))]
                · rw [if_neg y, if_neg (by simp [z, y])]
          rw [e1, e2] at hi3
          rw [List.range_succ, List.foldl_append]
          exact hi3
    · rintro σ G2 M2 ⟨o2, x2, hv2, y5, y6, y7, y8, rfl, ex2, rfl, hlg2, hi2⟩
      refine ⟨G2, _, Wk.drop0, o2, x2, hv2, _, _, _, _, _, _, _, rfl, ex2, rfl, ?_, ?_⟩
      · rw [layT_succ, ← List.append_assoc, ← hdd]; exact hlg2
      · rw [layW_succ, ← hdd]
        have e : layD m high leaf (layW m high leaf (th, f) i) d = layD m high leaf (th1, f1) d := by rw [hth1, hf1]
        rw [e]
        unfold layD
        have hi2 : BodyI K G2 A m high fs ((th1.set (2 * nodeN high d leaf + 0) (takeC f1 cs 0)).set (2 * nodeN high d leaf + 1) (takeC f1 cs 1)) (fun x => if x ∈ cs.take 2 then none else f1 x) x2 hv2 := hi2
        rw [List.take_of_length_le hcl] at hi2
        rw [← hcs]
        exact hi2
  · rintro σ G' M' ⟨o1, x1, hv1, y2, y3, y4, y5, y6, y7, y8, rfl, ex, rfl, hlg1, hi1⟩
    exact ret0 (q G' o1 x1 hv1 ex hlg1 hi1)
end

section
variable {K : PySem.W.Frag} {vs : List V} {G : Hp} {M : Mem} {R : KR} {Z : KX}
theorem rep_nonsT (n : Nat) : (List.replicate n [V.non]).flatten = List.replicate n V.non := by
  induction n with
  | zero => rfl
  | succ n ih => rw [List.replicate_succ, List.flatten_cons, ih, List.replicate_succ]; rfl
theorem dp_nones : ∀ n : Nat, DpAll K G (List.replicate n V.non) ((List.replicate n (none : Option (Nat × Nat × Nat))).map entD)
  | 0 => .nil
  | n + 1 => by rw [List.replicate_succ, List.replicate_succ]; exact .cons .non (dp_nones n)
theorem pf_Body_init (h : S_Body_init K vs G M R Z) : rd_Body_init K (ends R Z) (sta 5 vs) G M := by
  obtain ⟨_, _, _, _, _, rfl, a, dx, kp, b, num, high, m, fs, F, rfl, rfl, rfl, rfl, rfl, rfl, hb, hfl, hm, hh, q⟩ := sp5_of h
  clear h
  have h64 : 2 ^ high ≤ 64 := Nat.pow_le_pow_right (n := 2) (by decide) hh
  have h1 : 1 ≤ 2 ^ high := Nat.one_le_two_pow
  have e0 : (2 : Int) * ((2 : Int) * 2 ^ ((high : Int)).toNat - 1) = ((2 * (2 * 2 ^ high - 1) : Nat) : Int) := by
    rw [Int.toNat_natCast]
    have : ((2 * (2 * 2 ^ high - 1) : Nat) : Int) = 2 * (2 * ((2 ^ high : Nat) : Int) - 1) := by omega
    rw [this]; simp
  refine ⟨G, _, Wk.refl, sz1, fun z fz => ?_⟩
  refine ⟨⟨by omega, by omega, by decide⟩, mul_l (by decide) (by decide), ?_⟩
  show ∃ xs, _
  rw [e0]
  refine ⟨[.non], .inl List.mem_cons_self, by omega, by omega, sz (by show 1 * _ ≤ _; rw [Int.toNat_natCast]; omega), fun p fp => ?_⟩
  rw [Int.toNat_natCast, rep_nonsT]
  refine fun sh dh fsh => ⟨sh, dh, p, 0, _, rfl, rfl, rfl, .inl ⟨1, by decide, rfl⟩, fun th fth => ⟨rfl, ?_⟩⟩
  refine ⟨4, 8, dx, [], 0, rfl, rfl, Nat.le_refl _, ?_⟩
  refine ⟨G, _, Wk.refl, 4, 8, dx, _, 1, rfl, rfl, by show 1 ≤ 1; decide, ?_⟩
  obtain ⟨M2, hM2⟩ : ∃ M2 : Mem, M2 = (th, HO.lst (List.replicate (2 * (2 * 2 ^ high - 1)) V.non)) :: (sh, Ob K 2 dh [.ref kp, .int num, .ref th]) :: (a, Ob K 8 dx [.ref sh, .int high]) :: F := ⟨_, rfl⟩
  have hb2 : LstAt K G M2 b (natsV fs) := by
    rcases hb with ⟨i, h1, h2⟩ | hb
    · obtain ⟨j, rfl⟩ : ∃ j, i = j + 1 := ⟨i - 1, by omega⟩
      have h2 : F[j]? = some (b, HO.lst (natsV fs)) := h2
      rw [hM2]
      exact .inl (List.mem_cons_of_mem _ (List.mem_cons_of_mem _ (List.mem_cons_of_mem _ (List.mem_of_getElem? h2))))
    · exact .inr hb
  refine ⟨G, M2, by rw [hM2]; exact Wk.drop [_, _] |>.trans (Wk.drop [_, _]), natsV fs, .inl hb2, fun fa ffa => ?_⟩
  subst hM2
  refine ⟨3, 8, dx, _, 2, rfl, rfl, by show 2 ≤ 2; decide, ?_⟩
  have x := Ex.new (o := .lst (natsV fs)) ffa
  refine ⟨upd G fa (.lst (natsV fs)), (th, HO.lst (List.replicate (2 * (2 * 2 ^ high - 1)) V.non)) :: (sh, Ob K 2 dh [.ref kp, .int num, .ref th]) :: (a, Ob K 8 dx [.ref sh, .int high, .ref fa]) :: F, Wk.frz0, fun hd fhd => ⟨3, 8, dx, _, 3, rfl, rfl, by show 3 ≤ 3; decide, ?_⟩⟩
  refine retW (Wk.perm ?_) (q ⟨a, dx, sh, dh, th, fa, hd⟩ _ (List.replicate (2 * (2 * 2 ^ high - 1)) V.non) rfl x ⟨sql_new, hfl, dp_nones _, HandF.nil, by rw [List.length_replicate], fun r e hr => ?_, hh, hm⟩)
  · refine List.Perm.append_right (l₁ := [(a, _), (sh, _), (th, _), (hd, _)]) (l₂ := [(hd, _), (th, _), (sh, _), (a, _)]) F ?_
    exact List.reverse_perm [(hd, _), (th, _), (sh, _), (a, _)]
  · rw [List.getElem?_replicate] at hr
    split at hr <;> cases hr
theorem kinds_tree (m q : Nat) : kindsK "tree" m q = List.replicate (m + q) ⟨true, highN m⟩ := by
  have e : kindsK "tree" m q = groveK [m] q := rfl
  rw [e]
  unfold groveK
  have e1 : (List.replicate q ([m].map fun m => (⟨true, highN m⟩ : Kn))).flatten = List.replicate q ⟨true, highN m⟩ := by
    induction q with
    | zero => rfl
    | succ q ih => rw [List.replicate_succ, List.flatten_cons, ih (by rfl), List.replicate_succ]; rfl
  rw [e1]
  show List.replicate m _ ++ [] ++ _ = _
  rw [List.append_nil, List.replicate_append_replicate]
theorem a2_leaves {n h : Nat} {drs : List Nat} (hl : drs.length = n) (hk : ∀ x, x ∈ drs → x < 2 ^ h) : A2 DrOk (List.replicate n ⟨true, h⟩) (drs.map Dr.leaf) := by
  induction drs generalizing n with
  | nil => subst hl; exact .nil
  | cons r drs ih =>
    subst hl
    rw [List.length_cons, List.replicate_succ]
    exact .cons ⟨rfl, hk r List.mem_cons_self⟩ (ih rfl fun x h => hk x (List.mem_cons_of_mem _ h))
theorem drs_leaves {p : Addr} {drs : List Nat} (h : DrsG K G p (drs.map Dr.leaf)) : SqL K G p (natsV drs) := by
  obtain ⟨us, h1, h2⟩ := h
  have : ∀ (us : List V) (drs : List Nat), A2 (DrV K G []) us (drs.map Dr.leaf) → us = natsV drs := fun us => by
    induction us with
    | nil => intro drs h; cases drs with
      | nil => rfl
      | cons _ _ => cases h
    | cons u us ih => intro drs h; cases drs with
      | nil => cases h
      | cons d drs =>
        cases h with
        | cons a b =>
          have a : u = .int d := a
          rw [a, ih drs b]; rfl
  rw [← this us drs h2]; exact h1
theorem high_le5 (m : Nat) (h : m ≤ 32) : highN m ≤ 5 := by
  have : ∀ m, m < 33 → highN m ≤ 5 := by decide +kernel
  exact this m (by omega)
theorem pf_Tree_init (h : S_Tree_init K vs G M R Z) : rd_Tree_init K (ends R Z) (sta 4 vs) G M := by
  obtain ⟨_, _, _, _, rfl, a, dx, b, m, lim, drs, F, rfl, rfl, ⟨rfl, m0, m1⟩, ⟨rfl, c0, c1⟩, rfl, hb, hdl, hdk, q⟩ := sp4_of h
  clear h
  have h5 := high_le5 m m1
  refine ⟨G, _, Wk.refl, a, dx, b, 0, 6, "tree", m, lim, drs.map Dr.leaf, rfl, by decide, rfl, rfl, ⟨rfl, m0, m1⟩, ⟨rfl, c0, c1⟩, rfl, hb, by rw [kinds_tree]; exact a2_leaves hdl hdk, fun kn hkn => ?_, by rw [kinds_tree, List.length_replicate]; omega, fun dr kp dk lg G1 ex1 hdr => ?_⟩
  · rw [kinds_tree] at hkn
    have := (List.mem_replicate.mp hkn).2
    subst this
    exact ⟨by show highN m ≤ 64; omega, fun _ => by show highN m ≤ 6; omega, fun z => nomatch z⟩
  have hd1 := drs_leaves hdr
  refine ⟨G1, _, Wk.refl, 6, dx, _, 3, .ref kp, at_n (n := 2) rfl, rfl, rfl, m, ⟨rfl, m0, m1⟩, sz1, fun z fz => ⟨_, .inl List.mem_cons_self, by omega, by omega, sz (by show 1 * (m : Int).toNat ≤ _; omega), fun w fw => ?_⟩⟩
  rw [Int.toNat_natCast, rep_zeros]
  refine fun x dx2 fx => ⟨x, dx2, kp, w, 0, highN m, m, List.replicate m 0, _, rfl, rfl, rfl, rfl, rfl, rfl, .inl ⟨1, by decide, rfl⟩, List.length_replicate, m1, by omega, fun A G2 xs hA ex2 hi => ⟨rfl, ?_⟩⟩
  subst hA
  refine ⟨8, 6, dx, _, 5, rfl, rfl, by show 5 ≤ 5; decide, ?_⟩
  refine ⟨G2, _, Wk.refl, 6, dx, _, 2, .ref dr, at_n (n := 8) rfl, rfl, rfl, natsV drs, lat_g (ex_l ex2 hd1), fun tb ftb => ?_⟩
  rw [cut_take]
  have et : (natsV drs).take m = natsV (drs.take m) := by unfold natsV; rw [List.map_take]
  rw [et]
  refine ⟨9, 6, dx, _, 6, rfl, rfl, by show 6 ≤ 6; decide, ?_⟩
  refine retW ?_ (q ⟨a, dx, dr, kp, dk, lg, tb, A⟩ G2 (.lst []) xs rfl (ex1.trans ex2) ⟨hi, ⟨[], rfl, .nil⟩, ex_l ex2 hd1, hdl, hdk, by rw [List.length_take]; omega, fun x hx => hdk x (List.mem_of_mem_take hx), m0, m1⟩)
  refine Wk.trans (Wk.perm (M' := [(w, .lst (natsV (List.replicate m 0))), (z, .lst [.int 0])] ++ (treeB K ⟨a, dx, dr, kp, dk, lg, tb, A⟩ m lim 0 (highN m) (.lst []) xs [] (drs.take m) ++ F)) ?_) (Wk.dropP _)
  have ep : putV 6 (V.ref tb) (putV 5 (V.ref A.b) (StoreF.vs ⟨m, lim, dr, kp, 0⟩)) = StoreF.vs ⟨m, lim, dr, kp, 0⟩ ++ [V.ref A.b, V.ref tb] := rfl
  unfold treeB bodyB keepB
  simp only [List.set_cons_zero, List.set_cons_succ, List.cons_append, List.nil_append, ep]
  (classical (rw [List.perm_iff_count]; intro x; simp only [List.set_cons_zero, List.set_cons_succ, List.cons_append, List.nil_append, List.append_assoc, List.append_eq, List.count_append, List.count_cons, List.count_nil] <;> omega))
theorem TreeI.ex {G' : Hp} {A : TreeA} {m lim : Nat} {drs : List Nat} {s : TrM} {o : HO} {xs : List V} {hv : List (Key × V)} {ts : List Tch} (e : Ex G G') (h : TreeI K G A m lim drs s o xs hv ts) : TreeI K G' A m lim drs s o xs hv ts :=
  ⟨h.bd.ex e, h.log.ex e, ex_l e h.dr, h.dl, h.dk, h.tl, h.tk, h.m0, h.m1⟩
theorem getD_mem {l : List Nat} {i : Nat} (h : i < l.length) : l.getD i 0 ∈ l := by
  rw [List.getD_eq_getElem?_getD, List.getElem?_eq_getElem h]; exact List.getElem_mem h
end

section
variable {K : PySem.W.Frag} {vs : List V} {G : Hp} {M : Mem} {R : KR} {Z : KX}
theorem pf_Tree_answered (h : S_Tree_answered K vs G M R Z) : rd_Tree_answered K (ends R Z) (sta 5 vs) G M := by
  obtain ⟨_, _, _, rfl, A, m, lim, made, drs, s, o, xs, hv, ts, d, F, rfl, rfl, rfl, rfl, hi, hok, hml, hts, q⟩ := sp3_of h
  clear h
  have hc := hok.1
  have hh := high_le5 m hi.m1
  have hdl := hi.dl
  have htl := hi.tl
  obtain ⟨leaf, hleaf⟩ : ∃ leaf, leaf = s.tb.getD d.cell 0 := ⟨_, rfl⟩
  have hlf : leaf < 2 ^ highN m := by rw [hleaf]; exact hi.tk _ (getD_mem (by omega))
  obtain ⟨fresh, hfresh⟩ : ∃ fresh, fresh = drs.getD (m + made) 0 := ⟨_, rfl⟩
  have hfr : fresh < 2 ^ highN m := by rw [hfresh]; exact hi.dk _ (getD_mem (by omega))
  have ea : ((m : Int) + (made : Int)) = ((m + made : Nat) : Int) := by omega
  refine ⟨G, _, Wk.refl, 6, A.ds, _, 6, .ref A.tb, at_n (n := 6) rfl, rfl, rfl, natsV s.tb, _, lst_n (n := 7) rfl, atI_natD (by omega), ?_⟩
  rw [← hleaf]
  refine ⟨G, _, Wk.refl, 6, A.ds, _, 2, .ref A.dr, at_n (n := 6) rfl, rfl, rfl, 6, A.ds, _, 0, .int m, at_n (n := 6) rfl, rfl, rfl, 6, A.ds, _, 4, .int made, at_n (n := 6) rfl, rfl, rfl, natsV drs, .int (fresh : Nat), lst_g hi.dr, by rw [ea, hfresh]; exact atI_natD (by omega), 6, A.ds, _, 6, .ref A.tb, at_n (n := 6) rfl, rfl, rfl, 7, natsV s.tb, d.cell, rfl, ixN_nat (by rw [natsV_len]; omega), ?_⟩
  rw [natsV_set]
  obtain ⟨tb, htb⟩ : ∃ tb, tb = s.tb.set d.cell fresh := ⟨_, rfl⟩
  rw [← htb]
  have htbl : tb.length = m := by rw [htb, List.length_set]; exact hi.tl
  have htbc : tb.getD d.cell 0 = fresh := by rw [htb, List.getD_eq_getElem?_getD, List.getElem?_set_self (by omega)]; rfl
  obtain ⟨S, hS⟩ : ∃ S : Mem, S = [(A.s, Ob K 6 A.ds (StoreF.vs ⟨m, lim, A.dr, A.kp, made⟩ ++ [.ref A.b.b, .ref A.tb])), (A.tb, .lst (natsV tb))] ++ F := ⟨_, rfl⟩
  have hS6 : ∀ {G' : Hp} {x : List V} {h : List (Key × V)} {o' : HO}, At G' (bodyB K A.b A.kp 0 (highN m) x h ++ (keepB K A.kp A.dk A.lg o' ++ S)) A.s (Ob K 6 A.ds (StoreF.vs ⟨m, lim, A.dr, A.kp, made⟩ ++ [.ref A.b.b, .ref A.tb])) := by rw [hS]; exact at_n (n := 6) rfl
  -- looks
  refine ⟨G, bodyB K A.b A.kp 0 (highN m) xs hv ++ (keepB K A.kp A.dk A.lg o ++ S), by rw [hS]; exact Wk.refl, 6, A.ds, _, 5, .ref A.b.b, hS6, rfl, rfl, 8, A.b.db, _, S_Body_look_way K, at_n (n := 0) rfl, rfl, A.b, A.kp, A.dk, A.lg, o, ts, 0, m, highN m, leaf, List.replicate m 0, s.th, s.f, xs, hv, S, rfl, rfl, .refl _, hi.bd, hi.log, hlf, by omega, fun G1 o1 hv1 ex1 ho1 hb1 => ?_⟩
  obtain ⟨f1, hf1⟩ : ∃ f1, f1 = lookW s.th (highN m) leaf s.f (highN m + 1) := ⟨_, rfl⟩
  rw [← hf1] at hb1
  refine ⟨G1, _, Wk.refl, 6, A.ds, _, 5, .ref A.b.b, hS6, rfl, rfl, 8, A.b.db, _, S_Body_word_of K, at_n (n := 0) rfl, rfl, A.b, A.kp, 0, m, highN m, d.cell, List.replicate m 0, s.th, f1, xs, hv1, _, rfl, rfl, .refl _, hb1, hc, ?_⟩
  have hrep : (List.replicate m 0).getD d.cell 0 = 0 := by rw [List.getD_eq_getElem?_getD, List.getElem?_replicate]; split <;> rfl
  rw [hrep]
  obtain ⟨told, htold⟩ : ∃ told : Nat, told = (match f1 d.cell with | some p => p.1 | none => 0) := ⟨_, rfl⟩
  have et : (match f1 d.cell with | some p => p.1 | none => 0 : Nat) = told := htold.symm
  show rd_Tree_answered_4 K (ends R Z) [some (.ref A.s), some (.int d.cell), some d.word, some (.int leaf), some (.int ((match f1 d.cell with | some p => p.1 | none => 0 : Nat) : Int))] G1 _
  rw [et]
  have tbat : ∀ {G' : Hp} {x : List V} {h : List (Key × V)} {o' : HO}, SeqAt' K G' (bodyB K A.b A.kp 0 (highN m) x h ++ (keepB K A.kp A.dk A.lg o' ++ S)) A.tb (natsV tb) := by rw [hS]; exact lst_n (n := 7) rfl
  -- what is kept
  have keep : ∀ (w : Nat), w = d.put told → (∀ (R : KR) (E : KX), R (.int w) G1 (bodyB K A.b A.kp 0 (highN m) xs hv1 ++ (keepB K A.kp A.dk A.lg o1 ++ S)) → kIte (kT (kBin (kIs2 false) (kVar 2) (kC .non))) (kVar 4) (kVar 2) [some (.ref A.s), some (.int d.cell), some d.word, some (.int leaf), some (.int (told : Nat))] G1 (bodyB K A.b A.kp 0 (highN m) xs hv1 ++ (keepB K A.kp A.dk A.lg o1 ++ S)) R E) →
      rd_Tree_answered_4 K (ends R Z) [some (.ref A.s), some (.int d.cell), some d.word, some (.int leaf), some (.int (told : Nat))] G1 (bodyB K A.b A.kp 0 (highN m) xs hv1 ++ (keepB K A.kp A.dk A.lg o1 ++ S)) := by
    intro w hw hite
    refine ⟨G1, _, Wk.refl, 6, A.ds, _, 5, .ref A.b.b, hS6, rfl, rfl, 8, A.b.db, _, S_Body_keep K, at_n (n := 0) rfl, rfl, hite _ _ ⟨6, A.ds, _, 6, .ref A.tb, hS6, rfl, rfl, natsV tb, .int (fresh : Nat), tbat, by rw [← htbc]; exact atI_natD (by omega), A.b, A.kp, 0, m, highN m, d.cell, w, fresh, List.replicate m 0, s.th, f1, xs, hv1, _, rfl, rfl, rfl, rfl, .refl _, hb1, hc, fun G2 hv2 ex2 hb2 => ?_⟩⟩
    refine ⟨G2, _, Wk.refl, 6, A.ds, _, 5, .ref A.b.b, hS6, rfl, rfl, 8, A.b.db, _, S_Body_lay_way K, at_n (n := 0) rfl, rfl, A.b, A.kp, A.dk, A.lg, o1, _, 0, m, highN m, leaf, List.replicate m 0, s.th, f1.put d.cell (w, fresh), xs, hv2, S, rfl, rfl, .refl _, hb2, ho1.ex ex2, hlf, by rw [List.length_append, lookT_len]; omega, fun G3 o3 x3 hv3 ex3 ho3 hb3 => ?_⟩
    refine ⟨G3, _, Wk.refl, ?_⟩
    have ek : f1.put d.cell (w, fresh) = trKeep m d fresh s := by
      unfold trKeep
      rw [← hleaf, ← hf1]
      congr 2
      rw [hw, htold]
      cases f1 d.cell <;> rfl
    have ee : trAsk m d fresh s = ⟨(layW m (highN m) leaf (s.th, f1.put d.cell (w, fresh)) (highN m + 1)).1, (layW m (highN m) leaf (s.th, f1.put d.cell (w, fresh)) (highN m + 1)).2, tb⟩ := by
      unfold trAsk; rw [← hleaf, ek, htb]
    have ett : trTold m d s = told := by unfold trTold; rw [← hleaf, ← hf1, htold]
    have eT : trAskT m d s = lookT 0 (highN m) leaf (highN m + 1) ++ layT 0 (highN m) leaf (highN m + 1) := by unfold trAskT wayT; rw [← hleaf]
    rw [← hfresh, ee, ett, eT] at q
    have ex := (ex1.trans ex2).trans ex3
    refine retW (G' := G3) ?_ (q G3 o3 x3 hv3 ex ⟨hb3, by rw [← List.append_assoc]; exact ho3, ex_l ex hi.dr, hi.dl, hi.dk, htbl, fun x hx => ?_, hi.m0, hi.m1⟩)
    · rw [hS]; exact Wk.refl
    · have hx : x ∈ s.tb.set d.cell fresh := by rw [← htb]; exact hx
      rcases List.mem_or_eq_of_mem_set hx with hx | rfl
      · exact hi.tk x hx
      · exact hfr
  cases d with
  | read c => exact keep told rfl fun R E q => q
  | write c w => exact keep w rfl fun R E q => q
/-! ### a tree, seen from without -/
theorem tr_perm {A : TreeA} {m lim made high : Nat} {o : HO} {xs : List V} {hv : List (Key × V)} {tb : List Nat} {F : Mem} (hp : M.Perm (F ++ treeB K A m lim made high o xs hv tb)) : M.Perm (treeB K A m lim made high o xs hv tb ++ F) := hp.trans List.perm_append_comm
theorem pf_Tree_pocket (h : S_Tree_pocket K vs G M R Z) : rd_Tree_pocket K (ends R Z) (sta 1 vs) G M := by
  obtain ⟨_, rfl, A, m, lim, made, drs, s, o, xs, hv, ts, F, rfl, hp, hi, q⟩ := sp1_of h
  have hp' := tr_perm hp
  have wk : Wk G M G (treeB K A m lim made (highN m) o xs hv s.tb ++ F) := Wk.perm hp'.symm
  refine ⟨G, _, wk, 6, A.ds, _, 5, .ref A.b.b, at_n (n := 6) rfl, rfl, rfl, 8, A.b.db, _, S_Body_cells_in_hand K, at_n (n := 0) rfl, rfl, A.b, A.kp, 0, m, highN m, List.replicate m 0, s.th, s.f, xs, hv, _, rfl, .refl _, hi.bd, fun p fp => ?_⟩
  exact retW (Wk.perm (hp'.cons _)) (q p ⟨fp.1, fun x hx => fp.2 x (hp'.mem_iff.mp hx)⟩)
theorem trGo_snoc {m : Nat} {drs : List Nat} {d : Deed} : ∀ (ds : List Deed) (i : Nat) (s : TrM), trGo m drs i (ds ++ [d]) s = trAsk m d (drs.getD (m + (i + ds.length)) 0) (trGo m drs i ds s)
  | [], i, s => rfl
  | e :: ds, i, s => by
    show trGo m drs (i + 1) (ds ++ [d]) _ = _
    rw [trGo_snoc ds (i + 1), show i + 1 + ds.length = i + (e :: ds).length by rw [List.length_cons]; omega]; rfl
theorem trGoT_snoc {m : Nat} {drs : List Nat} {d : Deed} : ∀ (ds : List Deed) (i : Nat) (s : TrM), trGoT m drs i (ds ++ [d]) s = trGoT m drs i ds s ++ trAskT m d (trGo m drs i ds s)
  | [], i, s => by show trAskT m d s ++ [] = _; rw [List.append_nil]; rfl
  | e :: ds, i, s => by
    show trAskT m e s ++ trGoT m drs (i + 1) (ds ++ [d]) _ = _
    rw [trGoT_snoc ds (i + 1), ← List.append_assoc]; rfl
theorem trS_snoc {m : Nat} {drs : List Nat} {ds : List Deed} {d : Deed} : trS m drs (ds ++ [d]) = trAsk m d (drs.getD (m + ds.length) 0) (trS m drs ds) := by
  unfold trS; rw [trGo_snoc, Nat.zero_add]
theorem trTs_snoc {m : Nat} {drs : List Nat} {ds : List Deed} {d : Deed} : trTs m drs (ds ++ [d]) = trTs m drs ds ++ trAskT m d (trS m drs ds) := by
  unfold trTs trS; rw [trGoT_snoc]
theorem trTs_len {m : Nat} {drs : List Nat} (h : m ≤ 32) : ∀ ds, (trTs m drs ds).length ≤ 24 * ds.length := snoc_ind (Nat.zero_le _) fun ds d ih => by
  rw [trTs_snoc, List.length_append, List.length_append]
  unfold trAskT wayT
  rw [List.length_append, lookT_len, layT_len]
  have := high_le5 m h
  show _ ≤ 24 * (ds.length + 1)
  omega
theorem st6_seen {m lim : Nat} {drs : List Nat} {ds : List Deed} {a : Addr} {B : Mem} (h : St6 K m lim drs G ds a B) : Seen K 6 m lim ds.length (trTs m drs ds) G a B := by
  obtain ⟨A, o, xs, hv, rfl, rfl, hi, _⟩ := h
  refine ⟨A.ds, A.dr, A.kp, A.dk, A.lg, o, [.ref A.b.b, .ref A.tb], ?_, ?_, ?_, hi.log⟩
  · exact List.mem_of_getElem? (i := 6) rfl
  · exact List.mem_of_getElem? (i := 4) rfl
  · exact List.mem_of_getElem? (i := 5) rfl
theorem St6.ex {G' : Hp} {m lim : Nat} {drs : List Nat} {ds : List Deed} {a : Addr} {B : Mem} (e : Ex G G') (h : St6 K m lim drs G ds a B) : St6 K m lim drs G' ds a B := by
  obtain ⟨A, o, xs, hv, rfl, rfl, hi, h2⟩ := h
  exact ⟨A, o, xs, hv, rfl, rfl, hi.ex e, h2⟩
theorem st6_pocket {E : KX} {m lim : Nat} {drs : List Nat} {ds : List Deed} {a : Addr} {B F : Mem} (h : St6 K m lim drs G ds a B) (hp : M.Perm (F ++ B)) (hl : (tabM_pocket K).lookup 6 = some (S_Tree_pocket K)) (q : ∀ p, Fr G M p → R (.ref p) G ((p, .lst (natsV (pk6 m drs ds))) :: M)) : mcall K (tabM_pocket K) a [] G M R E := by
  obtain ⟨dx, vs, hat⟩ := seen_at (M := M) (st6_seen h) (perm_sub hp)
  obtain ⟨A, o, xs, hv, rfl, rfl, hi, h2⟩ := h
  exact ⟨6, dx, vs, _, hat, hl, A, m, lim, ds.length, drs, _, o, xs, hv, _, F, rfl, hp, hi, q⟩
theorem st6_new {A : TreeA} {m lim : Nat} {drs : List Nat} {o : HO} {xs : List V} (hl : lim ≤ 60) (h : TreeI K G A m lim drs (trFirst m drs) o xs [] []) : St6 K m lim drs G [] A.s (treeB K A m lim 0 (highN m) o xs [] (drs.take m)) :=
  ⟨A, o, xs, [], rfl, rfl, h, Nat.zero_le _, hl, fun _ z => (nomatch z)⟩
/-- an ask of a tree, where its words are those of a plain store -/
theorem pf_face6 {m lim : Nat} {drs : List Nat} {a : Addr} {y : V} (hw : ∀ ds d, (∀ d, d ∈ ds → DeedOk m d) → DeedOk m d → (∀ x, x ∈ drs → x < 2 ^ highN m) → ds.length < lim → drs.length = m + lim → 1 ≤ m → m ≤ 32 → trTold m d (trS m drs ds) = toldW m ds d) (h : faceAsk K (fun G ds B => St6 K m lim drs G ds a B) m lim y G M R Z) : rd_Store_ask K (ends R Z) (sta 3 [.ref a, y]) G M := by
  obtain ⟨ds, B, F, hp, ⟨A, o, xs, hv, rfl, rfl, hi, hdl, hl60, hok⟩, h⟩ := h
  have hp' := tr_perm hp
  obtain ⟨s, hs⟩ : ∃ s, s = trS m drs ds := ⟨_, rfl⟩
  obtain ⟨ts, hts⟩ : ∃ ts, ts = trTs m drs ds := ⟨_, rfl⟩
  rw [← hs, ← hts] at hi
  rw [← hs] at hp'
  have htl : ts.length ≤ 600000 := by
    have := trTs_len (m := m) (drs := drs) hi.m1 ds
    rw [hts]; omega
  have wk : Wk G M G (treeB K A m lim ds.length (highN m) o xs hv s.tb ++ F) := Wk.perm hp'.symm
  have wk' : Wk G (treeB K A m lim ds.length (highN m) o xs hv s.tb ++ F) G M := Wk.perm hp'
  rcases h with ⟨hy, z⟩ | ⟨d, hd2, hok2, h⟩
  · exact ⟨G, _, wk, 6, A.ds, _, 0, .int m, at_n (n := 6) rfl, rfl, rfl, m, false, rfl, askV_wk wk' hy, (fun z => nomatch z), fun _ => ⟨G, M, wk', z⟩⟩
  have hv2 := askV_wk wk' (deed_askV (M := M) hd2 hok2)
  refine ⟨G, _, wk, 6, A.ds, _, 0, .int m, at_n (n := 6) rfl, rfl, rfl, m, true, rfl, hv2, fun _ => ?_, (fun z => nomatch z)⟩
  refine ⟨G, _, Wk.refl, 6, A.ds, _, S_Store_left K, at_n (n := 6) rfl, rfl, A.s, 6, A.ds, ⟨m, lim, A.dr, A.kp, ds.length⟩, _, rfl, by decide, at_n (n := 6) rfl, ?_⟩
  rcases h with ⟨hl, z⟩ | ⟨hl, q⟩
  · refine ite2' (c := decide (((lim : Int) - ds.length) < 1)) (fun _ => ⟨G, _, Wk.refl, G, M, wk', z⟩) (fun e => absurd (of_decide_eq_false e) (by omega))
  refine ite2' (c := decide (((lim : Int) - ds.length) < 1)) (fun e => absurd (of_decide_eq_true e) (by omega)) (fun _ => ?_)
  have hd3 := hd2
  obtain ⟨t, rfl, ht⟩ := hd2
  obtain ⟨t1, a1⟩ := deed_1 (M := treeB K A m lim ds.length (highN m) o xs hv s.tb ++ F) ht
  refine ⟨G, _, Wk.refl, 6, A.ds, _, S_Tree_answered K, at_n (n := 6) rfl, rfl, _, _, t1, a1, d, ⟨t, rfl, ht⟩, A, m, lim, ds.length, drs, s, o, xs, hv, ts, d, F, rfl, rfl, rfl, rfl, hi, hok2, hl, htl, fun G1 o1 x1 hv1 ex1 hi1 => ?_⟩
  refine ⟨G1, _, Wk.refl, 6, A.ds, _, 4, .int ds.length, at_n (n := 6) rfl, rfl, rfl, 6, 6, A.ds, _, 4, rfl, rfl, by show 4 ≤ 7; decide, ?_⟩
  rw [hs, hw ds d hok hok2 hi.dk hl hi.dl hi.m0 hi.m1]
  have hall : ∀ e, e ∈ ds ++ [d] → DeedOk m e := fun e he => by
    rcases List.mem_append.mp he with he | he
    · exact hok e he
    · have : e = d := by simpa using he
      subst this; exact hok2
  rw [hs, hts, ← trS_snoc, ← trTs_snoc] at hi1
  refine ⟨G1, treeB K A m lim (ds.length + 1) (highN m) o1 x1 hv1 (trS m drs (ds ++ [d])).tb ++ F, by rw [trS_snoc]; exact Wk.refl, retW (G' := G1) (Wk.perm List.perm_append_comm) (q G1 (treeB K A m lim (ds.length + 1) (highN m) o1 x1 hv1 (trS m drs (ds ++ [d])).tb) ex1 ⟨A, o1, x1, hv1, rfl, ?_, hi1, by rw [List.length_append]; exact hl, hl60, hall⟩)⟩
  rw [List.length_append]; rfl
end

/-! ### the words that a tree holds -/
structure TI (m : Nat) (W : List Nat) (s : TrM) : Prop where
  len : s.th.length = 2 * (2 * 2 ^ highN m - 1)
  wl : W.length = m
  tl : s.tb.length = m
  tk : ∀ x, x ∈ s.tb → x < 2 ^ highN m
  i1 : ∀ (r : Nat) (e : Nat × Nat × Nat), s.th[r]? = some (some e) → e.1 < m ∧ e.2.1 = W.getD e.1 0 ∧ e.2.2 = s.tb.getD e.1 0 ∧ (∃ d, d ≤ highN m ∧ r / 2 = nodeN (highN m) d e.2.2) ∧ s.f e.1 = none ∧ ∀ (r' : Nat) (e' : Nat × Nat × Nat), s.th[r']? = some (some e') → e'.1 = e.1 → r' = r
  i2 : ∀ (c : Nat) (p : Nat × Nat), s.f c = some p → p.1 = W.getD c 0 ∧ p.2 = s.tb.getD c 0 ∧ c < m
  i3 : ∀ c, c < m → s.f c = none → (∀ (r : Nat) (e : Nat × Nat × Nat), s.th[r]? = some (some e) → e.1 ≠ c) → W.getD c 0 = 0
def WayR (high leaf k r : Nat) : Prop := ∃ d, d + k ≤ high ∧ r / 2 = nodeN high d leaf
theorem node_bounds {high d leaf : Nat} (hd : d ≤ high) (hl : leaf < 2 ^ high) : 2 ^ d ≤ nodeN high d leaf + 1 ∧ nodeN high d leaf + 1 < 2 ^ (d + 1) := by
  unfold nodeN
  have h1 : leaf / 2 ^ (high - d) < 2 ^ d := by
    rw [Nat.div_lt_iff_lt_mul (Nat.two_pow_pos _), ← Nat.pow_add, show d + (high - d) = high by omega]; exact hl
  have h3 : 1 ≤ 2 ^ d := Nat.one_le_two_pow
  rw [Nat.pow_succ]
  generalize leaf / 2 ^ (high - d) = z at h1 ⊢
  generalize 2 ^ d = y at h1 h3 ⊢
  omega
theorem node_depth {high d d' leaf leaf' : Nat} (hd : d ≤ high) (hd' : d' ≤ high) (hl : leaf < 2 ^ high) (hl' : leaf' < 2 ^ high) (e : nodeN high d leaf = nodeN high d' leaf') : d = d' := by
  obtain ⟨a1, a2⟩ := node_bounds hd hl
  obtain ⟨b1, b2⟩ := node_bounds hd' hl'
  rw [e] at a1 a2
  have h1 : 2 ^ d < 2 ^ (d' + 1) := by omega
  have h2 : 2 ^ d' < 2 ^ (d + 1) := by omega
  have h1 := (Nat.pow_lt_pow_iff_right (by decide : 1 < 2)).mp h1
  have h2 := (Nat.pow_lt_pow_iff_right (by decide : 1 < 2)).mp h2
  omega
theorem lookR_some {th : Th} {f : HF} {r x : Nat} {p : Nat × Nat} (h : lookR th f r x = some p) : f x = some p ∨ th[r]? = some (some (x, p)) := by
  unfold lookR at h
  cases e : th.getD r none with
  | none => rw [e] at h; exact .inl h
  | some q =>
    rw [e] at h
    have h : (if x = q.1 then some q.2 else f x) = some p := h
    by_cases z : x = q.1
    · rw [if_pos z] at h
      right
      have hq : q = (x, p) := by rw [z]; exact Prod.ext rfl (Option.some.inj h)
      rw [List.getD_eq_getElem?_getD] at e
      cases y : th[r]? with
      | none => rw [y] at e; cases e
      | some w => rw [y] at e; have e : w = some q := e; rw [e, hq]
    · rw [if_neg z] at h; exact .inl h
theorem lookR_none {th : Th} {f : HF} {r x : Nat} (h : lookR th f r x = none) : f x = none ∧ ∀ p, th[r]? ≠ some (some (x, p)) := by
  unfold lookR at h
  cases e : th.getD r none with
  | none =>
    rw [e] at h
    refine ⟨h, fun p hp => ?_⟩
    rw [List.getD_eq_getElem?_getD, hp] at e
    cases e
  | some q =>
    rw [e] at h
    have h : (if x = q.1 then some q.2 else f x) = none := h
    by_cases z : x = q.1
    · rw [if_pos z] at h; cases h
    · rw [if_neg z] at h
      refine ⟨h, fun p hp => ?_⟩
      rw [List.getD_eq_getElem?_getD, hp] at e
      have e : some (x, p) = some q := e
      cases e
      exact z rfl
theorem lookW_some {th : Th} {high leaf : Nat} {f : HF} {x : Nat} {p : Nat × Nat} : ∀ k, lookW th high leaf f k x = some p → f x = some p ∨ ∃ d r, d < k ∧ r / 2 = nodeN high d leaf ∧ th[r]? = some (some (x, p))
  | 0, h => .inl h
  | k + 1, h => by
    rw [lookW_succ] at h
    rcases lookR_some h with h | h
    · rcases lookR_some h with h | h
      · rcases lookW_some k h with h | ⟨d, r, h1, h2, h3⟩
        · exact .inl h
        · exact .inr ⟨d, r, by omega, h2, h3⟩
      · exact .inr ⟨k, _, by omega, by omega, h⟩
    · exact .inr ⟨k, _, by omega, by omega, h⟩
theorem lookW_none {th : Th} {high leaf : Nat} {f : HF} {x : Nat} : ∀ k, lookW th high leaf f k x = none → f x = none ∧ ∀ d r p, d < k → r / 2 = nodeN high d leaf → th[r]? ≠ some (some (x, p))
  | 0, h => ⟨h, fun d r p hd => absurd hd (Nat.not_lt_zero _)⟩
  | k + 1, h => by
    rw [lookW_succ] at h
    obtain ⟨h1, n1⟩ := lookR_none h
    obtain ⟨h2, n2⟩ := lookR_none h1
    obtain ⟨h3, n3⟩ := lookW_none k h2
    refine ⟨h3, fun d r p hd hr => ?_⟩
    by_cases e : d = k
    · subst e
      have : r = 2 * nodeN high d leaf ∨ r = 2 * nodeN high d leaf + 1 := by omega
      rcases this with rfl | rfl
      · exact n2 p
      · exact n1 p
    · exact n3 d r p (by omega) hr
/-- while a way is laid -/
structure LJ (m : Nat) (W tb : List Nat) (leaf k : Nat) (s : Th × HF) : Prop where
  len : s.1.length = 2 * (2 * 2 ^ highN m - 1)
  j1 : ∀ (r : Nat) (e : Nat × Nat × Nat), s.1[r]? = some (some e) → ¬ WayR (highN m) leaf k r → e.1 < m ∧ e.2.1 = W.getD e.1 0 ∧ e.2.2 = tb.getD e.1 0 ∧ (∃ d, d ≤ highN m ∧ r / 2 = nodeN (highN m) d e.2.2) ∧ s.2 e.1 = none ∧ ∀ (r' : Nat) (e' : Nat × Nat × Nat), s.1[r']? = some (some e') → ¬ WayR (highN m) leaf k r' → e'.1 = e.1 → r' = r
  j2 : ∀ (c : Nat) (p : Nat × Nat), s.2 c = some p → p.1 = W.getD c 0 ∧ p.2 = tb.getD c 0 ∧ c < m
  j3 : ∀ c, c < m → s.2 c = none → (∀ (r : Nat) (e : Nat × Nat × Nat), s.1[r]? = some (some e) → ¬ WayR (highN m) leaf k r → e.1 ≠ c) → W.getD c 0 = 0
theorem fits_fit {m high d node : Nat} {f : HF} {c : Nat} (h : c ∈ fitsN m high d node f) : ∃ p, f c = some p ∧ nodeN high d p.2 = node := by
  have := (List.mem_filter.mp (List.mem_of_mem_take h)).2
  unfold fitB at this
  cases e : f c with
  | none => rw [e] at this; cases this
  | some p => rw [e] at this; exact ⟨p, rfl, of_decide_eq_true this⟩
theorem takeC_some {f : HF} {cs : List Nat} {s : Nat} {e : Nat × Nat × Nat} (h : takeC f cs s = some e) : cs[s]? = some e.1 ∧ f e.1 = some e.2 := by
  unfold takeC at h
  cases q : cs[s]? with
  | none => rw [q] at h; cases h
  | some c =>
    rw [q] at h
    obtain ⟨p, hp, rfl⟩ := Option.map_eq_some_iff.mp h
    exact ⟨rfl, hp⟩
theorem lay_lj {m : Nat} {W tb : List Nat} {leaf k : Nat} {s : Th × HF} (hl : leaf < 2 ^ highN m) (hk : k ≤ highN m) (h : LJ m W tb leaf k s) : LJ m W tb leaf (k + 1) (layD m (highN m) leaf s (highN m - k)) := by
  obtain ⟨d, hd⟩ : ∃ d, d = highN m - k := ⟨_, rfl⟩
  have hdh : d ≤ highN m := by omega
  rw [← hd]
  obtain ⟨n, hn⟩ : ∃ n, n = nodeN (highN m) d leaf := ⟨_, rfl⟩
  obtain ⟨cs, hcs⟩ : ∃ cs, cs = fitsN m (highN m) d n s.2 := ⟨_, rfl⟩
  have hlay : layD m (highN m) leaf s d = ((s.1.set (2 * n) (takeC s.2 cs 0)).set (2 * n + 1) (takeC s.2 cs 1), fun x => if x ∈ cs then none else s.2 x) := by unfold layD; rw [← hn, ← hcs]
  rw [hlay]
  have hlt : 2 * n + 1 < s.1.length := by rw [h.len, hn]; exact node_lt hdh hl
  have hcl : cs.length ≤ 2 := by rw [hcs]; exact fits_len
  have hcn : cs.Nodup := by rw [hcs]; exact fits_nodup
  have hcm : ∀ c, c ∈ cs → ∃ p, s.2 c = some p ∧ nodeN (highN m) d p.2 = n := fun c hc => fits_fit (by rw [← hcs]; exact hc)
  have way : ∀ r, r / 2 = n → WayR (highN m) leaf k r := fun r hr => ⟨d, by omega, by rw [hr, hn]⟩
  have way1 : ∀ r, WayR (highN m) leaf (k + 1) r → WayR (highN m) leaf k r := fun r ⟨d', h1, h2⟩ => ⟨d', by omega, h2⟩
  have way2 : ∀ r, r / 2 = n → ¬ WayR (highN m) leaf (k + 1) r := fun r hr ⟨d', h1, h2⟩ => by
    have := node_depth hdh (show d' ≤ highN m by omega) hl hl (by rw [← hn, ← hr, h2])
    omega
  have way3 : ∀ r, ¬ WayR (highN m) leaf (k + 1) r → WayR (highN m) leaf k r → r / 2 = n := fun r h1 ⟨d', h2, h3⟩ => by
    by_cases z : d' = d
    · rw [h3, z, hn]
    · exact absurd ⟨d', by omega, h3⟩ h1
  -- what lies where
  have at_n : ∀ (r : Nat) (e : Nat × Nat × Nat), r / 2 = n → ((s.1.set (2 * n) (takeC s.2 cs 0)).set (2 * n + 1) (takeC s.2 cs 1))[r]? = some (some e) → cs[r - 2 * n]? = some e.1 ∧ s.2 e.1 = some e.2 := fun r e hr he => by
    have : r = 2 * n ∨ r = 2 * n + 1 := by omega
    rcases this with rfl | rfl
    · rw [List.getElem?_set_ne (by omega), List.getElem?_set_self (by omega)] at he
      rw [Nat.sub_self]
      exact takeC_some (Option.some.inj he)
    · rw [List.getElem?_set_self (by rw [List.length_set]; omega)] at he
      rw [show 2 * n + 1 - 2 * n = 1 by omega]
      exact takeC_some (Option.some.inj he)
  have at_o : ∀ r, ¬ r / 2 = n → ((s.1.set (2 * n) (takeC s.2 cs 0)).set (2 * n + 1) (takeC s.2 cs 1))[r]? = s.1[r]? := fun r hr => by
    rw [List.getElem?_set_ne (by omega), List.getElem?_set_ne (by omega)]
  refine ⟨by rw [List.length_set, List.length_set]; exact h.len, fun r e he hw => ?_, fun c p hc => ?_, fun c hc hf hno => ?_⟩
  · by_cases hr : r / 2 = n
    · obtain ⟨h1, h2⟩ := at_n r e hr he
      have hmem := List.mem_of_getElem? h1
      obtain ⟨p, hp1, hp2⟩ := hcm _ hmem
      rw [h2] at hp1
      cases hp1
      obtain ⟨a1, a2, a3⟩ := h.j2 _ _ h2
      refine ⟨a3, a1, a2, ⟨d, hdh, by rw [hp2]; exact hr⟩, by simp only [hmem, if_true], fun r' e' he' hw' hee => ?_⟩
      by_cases hr' : r' / 2 = n
      · obtain ⟨b1, b2⟩ := at_n r' e' hr' he'
        rw [hee] at b1
        have := (List.getElem?_inj (List.getElem?_eq_some_iff.mp b1).1 hcn).mp (b1.trans h1.symm)
        omega
      · rw [at_o r' hr'] at he'
        have := (h.j1 r' e' he' (fun z => hr' (way3 r' hw' z))).2.2.2.2.1
        rw [hee, h2] at this
        cases this
    · rw [at_o r hr] at he
      have hwk : ¬ WayR (highN m) leaf k r := fun z => hr (way3 r hw z)
      obtain ⟨a1, a2, a3, a4, a5, a6⟩ := h.j1 r e he hwk
      refine ⟨a1, a2, a3, a4, ?_, fun r' e' he' hw' hee => ?_⟩
      · by_cases z : e.1 ∈ cs
        · simp only [z, if_true]
        · simp only [z, if_false]; exact a5
      · by_cases hr' : r' / 2 = n
        · obtain ⟨b1, b2⟩ := at_n r' e' hr' he'
          rw [hee, a5] at b2; cases b2
        · rw [at_o r' hr'] at he'
          exact a6 r' e' he' (fun z => hr' (way3 r' hw' z)) hee
  · have hc : (if c ∈ cs then none else s.2 c) = some p := hc
    split at hc
    · cases hc
    · exact h.j2 c p hc
  · have hf : (if c ∈ cs then none else s.2 c) = none := hf
    by_cases z : c ∈ cs
    · exfalso
      obtain ⟨i, hi⟩ := List.getElem?_of_mem z
      have hil : i < cs.length := (List.getElem?_eq_some_iff.mp hi).1
      obtain ⟨p, hp, _⟩ := hcm c z
      have ht : takeC s.2 cs i = some (c, p) := by unfold takeC; rw [hi]; simp only []; rw [hp]; rfl
      have : i = 0 ∨ i = 1 := by omega
      rcases this with rfl | rfl
      · exact hno (2 * n) (c, p) (by rw [List.getElem?_set_ne (by omega), List.getElem?_set_self (by omega), ht]) (way2 _ (by omega)) rfl
      · exact hno (2 * n + 1) (c, p) (by rw [List.getElem?_set_self (by rw [List.length_set]; omega), ht]) (way2 _ (by omega)) rfl
    · rw [if_neg z] at hf
      refine h.j3 c hc hf fun r e he hw => ?_
      have hr : ¬ r / 2 = n := fun y => hw (way r y)
      exact hno r e (by rw [at_o r hr]; exact he) (fun y => hw (way1 r y))
theorem layW_lj {m : Nat} {W tb : List Nat} {leaf : Nat} {s : Th × HF} (hl : leaf < 2 ^ highN m) (h : LJ m W tb leaf 0 s) : ∀ k, k ≤ highN m + 1 → LJ m W tb leaf k (layW m (highN m) leaf s k)
  | 0, _ => h
  | k + 1, hk => by
    rw [layW_succ]
    exact lay_lj hl (by omega) (layW_lj hl h k (by omega))
theorem setD_ne {l : List Nat} {i j v : Nat} (h : i ≠ j) : (l.set i v).getD j 0 = l.getD j 0 := by
  rw [List.getD_eq_getElem?_getD, List.getElem?_set_ne h, ← List.getD_eq_getElem?_getD]
theorem setD_self {l : List Nat} {i v : Nat} (h : i < l.length) : (l.set i v).getD i 0 = v := by
  rw [List.getD_eq_getElem?_getD, List.getElem?_set_self h]; rfl
/-- what is told is what was held -/
theorem ti_told {m : Nat} {W : List Nat} {s : TrM} {d : Deed} (h : TI m W s) (hc : d.cell < m) : trTold m d s = W.getD d.cell 0 := by
  unfold trTold
  cases e : lookW s.th (highN m) (s.tb.getD d.cell 0) s.f (highN m + 1) d.cell with
  | some p =>
    simp only []
    rcases lookW_some _ e with h1 | ⟨d', r, h1, h2, h3⟩
    · exact (h.i2 _ _ h1).1
    · exact (h.i1 r _ h3).2.1
  | none =>
    simp only []
    obtain ⟨h1, h2⟩ := lookW_none _ e
    refine (h.i3 _ hc h1 fun r x hx hxc => ?_).symm
    obtain ⟨_, _, a3, ⟨d', a4, a5⟩, _⟩ := h.i1 r x hx
    rw [a3, hxc] at a5
    exact h2 d' r x.2 (by omega) a5 (by rw [hx, ← hxc])
/-- ahead of the laying -/
theorem ask_j0 {m : Nat} {W : List Nat} {s : TrM} {d : Deed} {fresh : Nat} (h : TI m W s) (hc : d.cell < m) : LJ m (d.upd W) (s.tb.set d.cell fresh) (s.tb.getD d.cell 0) 0 (s.th, trKeep m d fresh s) ∧ s.tb.getD d.cell 0 < 2 ^ highN m := by
  have htold := ti_told h hc
  obtain ⟨c, hcc⟩ : ∃ c, c = d.cell := ⟨_, rfl⟩
  obtain ⟨leaf, hleaf⟩ : ∃ leaf, leaf = s.tb.getD d.cell 0 := ⟨_, rfl⟩
  have htl := h.tl
  have hwl := h.wl
  have hlf : leaf < 2 ^ highN m := by rw [hleaf]; exact h.tk _ (getD_mem (by omega))
  obtain ⟨f1, hf1⟩ : ∃ f1, f1 = lookW s.th (highN m) leaf s.f (highN m + 1) := ⟨_, rfl⟩
  have hput : trKeep m d fresh s = f1.put c (d.put (W.getD c 0), fresh) := by
    unfold trKeep
    unfold trTold at htold
    rw [← hleaf, ← hf1] at htold ⊢
    rw [← hcc] at htold ⊢
    congr 2
    rw [← htold]
    cases f1 c <;> rfl
  have hW : d.upd W = W.set c (d.put (W.getD c 0)) := by
    rw [hcc]
    cases d with
    | read x =>
      have hc : x < m := hc
      show W = W.set x (W.getD x 0)
      exact (set_self (by rw [List.getElem?_eq_getElem (by omega), List.getD_eq_getElem?_getD, List.getElem?_eq_getElem (by omega)]; rfl)).symm
    | write x w => rfl
  have hcm : c < m := by omega
  have onw : ∀ (r : Nat) (e : Nat × Nat × Nat), s.th[r]? = some (some e) → e.1 = c → WayR (highN m) leaf 0 r := fun r e he hec => by
    obtain ⟨_, _, a3, ⟨d', a4, a5⟩, _⟩ := h.i1 r e he
    refine ⟨d', by omega, ?_⟩
    rw [a5, a3, hec, hcc, hleaf]
  have f1s : ∀ x p, f1 x = some p → p.1 = W.getD x 0 ∧ p.2 = s.tb.getD x 0 ∧ x < m := fun x p hx => by
    rw [hf1] at hx
    rcases lookW_some _ hx with h1 | ⟨d', r, h1, h2, h3⟩
    · exact h.i2 x p h1
    · obtain ⟨a1, a2, a3, _⟩ := h.i1 r _ h3
      exact ⟨a2, a3, a1⟩
  have f1n : ∀ x, f1 x = none → s.f x = none ∧ ∀ (r : Nat) (e : Nat × Nat × Nat), s.th[r]? = some (some e) → WayR (highN m) leaf 0 r → e.1 ≠ x := fun x hx => by
    rw [hf1] at hx
    obtain ⟨h1, h2⟩ := lookW_none _ hx
    refine ⟨h1, fun r e he ⟨d', hd1, hd2⟩ hex => ?_⟩
    exact h2 d' r e.2 (by omega) hd2 (by rw [he, ← hex])
  have j0 : LJ m (W.set c (d.put (W.getD c 0))) (s.tb.set c fresh) leaf 0 (s.th, f1.put c (d.put (W.getD c 0), fresh)) := by
    refine ⟨h.len, fun r e he hw => ?_, fun x p hx => ?_, fun x hx hn hno => ?_⟩
    · have he : s.th[r]? = some (some e) := he
      have hne : e.1 ≠ c := fun z => hw (onw r e he z)
      obtain ⟨a1, a2, a3, a4, a5, a6⟩ := h.i1 r e he
      refine ⟨a1, by rw [setD_ne (Ne.symm hne)]; exact a2, by rw [setD_ne (Ne.symm hne)]; exact a3, a4, ?_, fun r' e' he' _ hee => a6 r' e' he' hee⟩
      show (if e.1 = c then _ else f1 e.1) = none
      rw [if_neg hne]
      cases q : f1 e.1 with
      | none => rfl
      | some p =>
        exfalso
        rw [hf1] at q
        rcases lookW_some _ q with q | ⟨d', r', q1, q2, q3⟩
        · rw [a5] at q; cases q
        · have := a6 r' _ q3 rfl
          subst this
          exact hw ⟨d', by omega, q2⟩
    · have hx : (if x = c then some (d.put (W.getD c 0), fresh) else f1 x) = some p := hx
      by_cases z : x = c
      · rw [if_pos z] at hx
        cases hx
        rw [z, setD_self (by omega), setD_self (by omega)]
        exact ⟨rfl, rfl, hcm⟩
      · rw [if_neg z] at hx
        rw [setD_ne (Ne.symm z), setD_ne (Ne.symm z)]
        exact f1s x p hx
    · have hn : (if x = c then some (d.put (W.getD c 0), fresh) else f1 x) = none := hn
      by_cases z : x = c
      · rw [if_pos z] at hn; cases hn
      · rw [if_neg z] at hn
        rw [setD_ne (Ne.symm z)]
        obtain ⟨h1, h2⟩ := f1n x hn
        refine h.i3 x hx h1 fun r e he => ?_
        by_cases w : WayR (highN m) leaf 0 r
        · exact h2 r e he w
        · exact hno r e he w
  rw [hW, hput, ← hleaf, ← hcc]
  exact ⟨j0, hlf⟩
theorem ti_ask {m : Nat} {W : List Nat} {s : TrM} {d : Deed} {fresh : Nat} (h : TI m W s) (hc : d.cell < m) (hf : fresh < 2 ^ highN m) : TI m (d.upd W) (trAsk m d fresh s) := by
  obtain ⟨j0, hlf⟩ := ask_j0 (fresh := fresh) h hc
  have jn := layW_lj hlf j0 (highN m + 1) (Nat.le_refl _)
  have nw : ∀ r, ¬ WayR (highN m) (s.tb.getD d.cell 0) (highN m + 1) r := fun r ⟨d', h1, _⟩ => by omega
  refine ⟨jn.len, by rw [deedUpd_len]; exact h.wl, by show (s.tb.set d.cell fresh).length = m; rw [List.length_set]; exact h.tl, fun x hx => ?_, fun r e he => ?_, fun x p hx => jn.j2 x p hx, fun x hx hn hno => jn.j3 x hx hn fun r e he _ => hno r e he⟩
  · rcases List.mem_or_eq_of_mem_set hx with hx | rfl
    · exact h.tk x hx
    · exact hf
  · obtain ⟨a1, a2, a3, a4, a5, a6⟩ := jn.j1 r e he (nw r)
    exact ⟨a1, a2, a3, a4, a5, fun r' e' he' => a6 r' e' he' (nw r')⟩
theorem ti_first {m lim : Nat} {drs : List Nat} (hd : drs.length = m + lim) (hk : ∀ x, x ∈ drs → x < 2 ^ highN m) : TI m (List.replicate m 0) (trFirst m drs) := by
  refine ⟨by show (List.replicate _ _).length = _; rw [List.length_replicate], List.length_replicate, by show (drs.take m).length = m; rw [List.length_take]; omega, fun x hx => hk x (List.mem_of_mem_take hx), fun r e he => ?_, (fun c p hc => nomatch hc), fun c hc _ _ => ?_⟩
  · have he : (List.replicate (2 * (2 * 2 ^ highN m - 1)) (none : Option (Nat × Nat × Nat)))[r]? = some (some e) := he
    rw [List.getElem?_replicate] at he
    split at he <;> cases he
  · rw [List.getD_eq_getElem?_getD, List.getElem?_replicate]; split <;> rfl
theorem ti_all {m lim : Nat} {drs : List Nat} (hd : drs.length = m + lim) (hk : ∀ x, x ∈ drs → x < 2 ^ highN m) : ∀ ds : List Deed, (∀ d, d ∈ ds → DeedOk m d) → ds.length ≤ lim → TI m (plainW m ds) (trS m drs ds) := snoc_ind (fun _ _ => ti_first hd hk) fun ds d ih hok hl => by
  rw [trS_snoc, plainW_snoc]
  rw [List.length_append] at hl
  have hl : ds.length + 1 ≤ lim := hl
  exact ti_ask (ih (fun e he => hok e (List.mem_append.mpr (.inl he))) (by omega)) (hok d (by simp)).1 (hk _ (getD_mem (by omega)))
theorem tree_words {m lim : Nat} {drs : List Nat} (ds : List Deed) (d : Deed) (hok : ∀ d, d ∈ ds → DeedOk m d) (hd : DeedOk m d) (hk : ∀ x, x ∈ drs → x < 2 ^ highN m) (hl : ds.length < lim) (hdl : drs.length = m + lim) (m0 : 1 ≤ m) (m1 : m ≤ 32) : trTold m d (trS m drs ds) = toldW m ds d :=
  ti_told (ti_all hdl hk ds hok (by omega)) hd.1

section
variable {K : PySem.W.Frag} {vs : List V} {G : Hp} {M : Mem} {R : KR} {Z : KX}
theorem pf_law_pool (h : S_law_pool K vs G M R Z) : rd_law_pool K (ends R Z) (sta 4 vs) G M := by
  obtain ⟨_, _, rfl, a, ns, k, rfl, rfl, hS, k0, k1, hl, q⟩ := sp2_of h
  have rest : ∀ cell : Int, rd_law_pool_2 K (ends R Z) [some (.ref a), some (.int k), some (.int cell), none] G M := fun cell => by
    refine ⟨G, M, Wk.refl, (by show (0 : Int) < _; decide), mul_l (by decide) (by decide), mul_r (by decide) (by decide), (by show (0 : Int) < _; decide), ?_⟩
    refine ⟨G, M, Wk.refl, pow10_18, mul_r (b01 _).1 (b01 _).2, sz2, fun p fp => ?_⟩
    exact ret0 (q p _ _ fp ⟨Int.emod_nonneg _ (by decide), Int.emod_lt_of_pos _ (by decide)⟩)
  refine ⟨G, M, Wk.refl, _, lst_g hS, ?_⟩
  refine ⟨G, M, Wk.refl, _, lst_g hS, ite2' (fun e => ?_) (fun e => rest _)⟩
  have e1 : k < ((ns.map V.int).length : Int) := of_decide_eq_true e
  rw [List.length_map] at e1
  exact ⟨G, M, Wk.refl, _, _, lst_g hS, atI_int k0 e1, rest _⟩
end

/-! draws as data, for laws without lib/F_manyP -/
section
variable {K : PySem.W.Frag} {vs : List V} {G : Hp} {M : Mem} {R : KR} {Z : KX}
theorem AsksAt.ex {G' : Hp} {M' : Mem} {a : Addr} {ds : List Deed} (e : Ex G G') (hm : ∀ x, x ∈ M → x ∈ M') (h : AsksAt K G M a ds) : AsksAt K G' M' a ds := by
  obtain ⟨us, h1, h2⟩ := h
  exact ⟨us, ex_lat e hm h1, A2.mono (fun _ _ q => q.ex e) h2⟩
theorem pf_look_at_asks (h : S_look_at_asks K vs G M R Z) : rd_look_at_asks K (ends R Z) (sta 3 vs) G M := by
  obtain ⟨_, y, rfl, m, b, rfl, hy, q1, q2⟩ := sp2_of h
  rcases hy with ⟨T, hT, hne, rfl⟩ | ⟨a, xs, rfl, ha, hl, hy⟩
  · refine ⟨G, M, Wk.refl, .type T.name, .type "list", _, .ty "list", hT, kit_pt T .list, ite2' (c := !isaB T .list) (fun _ => ⟨G, M, Wk.refl, G, M, Wk.refl, q2 rfl⟩) (fun e => ?_)⟩
    exfalso; revert e hne; cases T <;> decide
  refine ⟨G, M, Wk.refl, .type PT.list.name, .type "list", _, .ty "list", ty_lst ha, kit_pt .list .list, ?_⟩
  refine ⟨xs, .inl ha, ite2' (c := decide ((60 : Int) < (xs.length : Int))) (fun e => ?_) (fun e => ?_)⟩
  · have e := of_decide_eq_true e
    rcases hy with ⟨_, rfl⟩ | ⟨hy, _⟩
    · exact ⟨G, M, Wk.refl, G, M, Wk.refl, q2 rfl⟩
    · omega
  have e := of_decide_eq_false e
  rcases hy with ⟨hy, _⟩ | ⟨hy, bs, hb, rfl⟩
  · omega
  have hbl := hb.len
  refine ⟨G, M, Wk.refl, xs, ha, fun i σ G' M' => ∃ y2 : Option V, σ = [some (.int m), some (.ref a), y2] ∧ G' = G ∧ M' = M ∧ (bs.take i).all id = true, ⟨none, rfl, rfl, rfl, rfl⟩, ?_, ?_, ?_⟩
  · rintro i σ G' M' _ ⟨y2, rfl, rfl, rfl, _⟩; exact ha
  · rintro i σ G' M' hi ⟨y2, rfl, rfl, rfl, hall⟩
    have hi : i < xs.length := hi
    obtain ⟨bi, hbi⟩ : ∃ bi, bs[i]? = some bi := ⟨_, List.getElem?_eq_getElem (by omega)⟩
    obtain ⟨v, hv, hav⟩ := hb.get hbi
    refine asg_L hv ⟨G', M', Wk.refl, m, bi, rfl, hav, ?_⟩
    cases bi with
    | true => exact ⟨G', M', Wk.refl, _, rfl, rfl, rfl, by rw [take_succ' hbi, List.all_append, hall]; rfl⟩
    | false =>
      refine ⟨G', M', Wk.refl, G', M', Wk.refl, q2 ?_⟩
      rw [← Bool.not_eq_true, List.all_eq_true]
      intro z
      exact Bool.false_ne_true (z false (List.mem_of_getElem? hbi))
  · rintro σ G' M' ⟨y2, rfl, rfl, rfl, hall⟩
    have en : (srcL K a xs).n = bs.length := hbl
    rw [en, List.take_length] at hall
    exact ret0 (q1 hall)
theorem asks_askV {m : Nat} {a : Addr} {ds : List Deed} (h : AsksAt K G M a ds) (hd : DsOk m ds) : AsksV K G M m (.ref a) true := by
  obtain ⟨us, hu, ha⟩ := h
  have hl := ha.len
  obtain ⟨hok, hl60⟩ := hd
  refine .inr ⟨a, us, rfl, hu, by omega, .inr ⟨by omega, ds.map fun _ => true, ?_, ?_⟩⟩
  · clear hl hl60 hu
    induction ha with
    | nil => exact .nil
    | cons q _ ih => exact .cons (deed_askV q (hok _ List.mem_cons_self)) (ih fun d hd => hok d (List.mem_cons_of_mem _ hd))
  · rw [List.all_map]; symm; rw [List.all_eq_true]; intro _ _; rfl
end

/-! all rows of draws -/
section
open PySem.W
end
theorem snoc_of : ∀ {l : List Nat} {s : Nat}, l.length = s + 1 → ∃ (l' : List Nat) (v : Nat), l = l' ++ [v] ∧ l'.length = s := fun {l s} h => by
  refine ⟨l.dropLast, l.getLast (by intro z; rw [z] at h; cases h), (List.dropLast_concat_getLast _).symm, by rw [List.length_dropLast, h]; rfl⟩
theorem rowAt_step (s n v : Nat) (h : v < s + 1) : rowAt (s + 1) (n * (s + 1) + v) = rowAt s n ++ [v] := by
  show rowAt s ((n * (s + 1) + v) / (s + 1)) ++ [(n * (s + 1) + v) % (s + 1)] = _
  rw [Nat.mul_comm, Nat.mul_add_div (by omega), Nat.div_eq_of_lt h, Nat.mul_add_mod, Nat.mod_eq_of_lt h]; rfl
theorem rowAt_surj : ∀ (s : Nat) (l : List Nat), l.length = s → (∀ (i v : Nat), l[i]? = some v → v ≤ i) → ∃ n, n < fac s ∧ rowAt s n = l
  | 0, l, h, _ => ⟨0, Nat.one_pos, by rw [List.length_eq_zero_iff.mp h]; rfl⟩
  | s + 1, l, h, hr => by
    obtain ⟨l', v, rfl, hl⟩ := snoc_of h
    obtain ⟨n, h1, h2⟩ := rowAt_surj s l' hl fun i x hx => hr i x (by rw [List.getElem?_append_left (List.getElem?_eq_some_iff.mp hx).1]; exact hx)
    have hv : v < s + 1 := by
      have := hr s v (by rw [List.getElem?_append_right (by omega), hl, Nat.sub_self]; rfl)
      omega
    refine ⟨n * (s + 1) + v, ?_, by rw [rowAt_step s n v hv, h2]⟩
    show n * (s + 1) + v < (s + 1) * fac s
    have : (n + 1) * (s + 1) ≤ fac s * (s + 1) := Nat.mul_le_mul_right _ h1
    rw [Nat.add_mul] at this
    rw [Nat.mul_comm (s + 1)]; omega
theorem rowAt_inj : ∀ (s n m : Nat), n < fac s → m < fac s → rowAt s n = rowAt s m → n = m
  | 0, n, m, h1, h2, _ => by
    have h1 : n < 1 := h1
    have h2 : m < 1 := h2
    omega
  | s + 1, n, m, h1, h2, h => by
    have h : rowAt s (n / (s + 1)) ++ [n % (s + 1)] = rowAt s (m / (s + 1)) ++ [m % (s + 1)] := h
    have h1 : n < (s + 1) * fac s := h1
    have h2 : m < (s + 1) * fac s := h2
    obtain ⟨e1, e2⟩ := List.append_inj' h rfl
    have e3 : n % (s + 1) = m % (s + 1) := by simpa using e2
    have e4 := rowAt_inj s _ _ (Nat.div_lt_of_lt_mul h1) (Nat.div_lt_of_lt_mul h2) e1
    rw [← Nat.div_add_mod n (s + 1), ← Nat.div_add_mod m (s + 1), e3, e4]
theorem dOf_surj {k : Kn} {d : Dr} (h : DrOk k d) : ∃ n, n < manyK k ∧ dOf k n = d := by
  unfold dOf manyK
  cases d with
  | leaf n =>
    have e : k.leaf = true := h.1
    exact ⟨n, by rw [if_pos e]; exact h.2, by rw [if_pos e]⟩
  | row l =>
    have e : k.leaf = false := h.1
    obtain ⟨n, h1, h2⟩ := rowAt_surj k.n l h.2.1 h.2.2
    exact ⟨n, by rw [if_neg (by rw [e]; decide)]; exact h1, by rw [if_neg (by rw [e]; decide), h2]⟩
theorem dOf_inj {k : Kn} {n m : Nat} (h1 : n < manyK k) (h2 : m < manyK k) (h : dOf k n = dOf k m) : n = m := by
  unfold dOf at h; unfold manyK at h1 h2
  cases e : k.leaf with
  | true =>
    rw [e] at h
    have h : Dr.leaf n = Dr.leaf m := h
    exact Dr.leaf.inj h
  | false =>
    rw [e] at h h1 h2
    have h : Dr.row (rowAt k.n n) = .row (rowAt k.n m) := h
    exact rowAt_inj k.n n m h1 h2 (Dr.row.inj h)
theorem dm_lt {a b n m : Nat} (h1 : n < b) (h2 : m < a) : n * a + m < a * b := by
  have : (n + 1) * a ≤ b * a := Nat.mul_le_mul_right _ h1
  rw [Nat.add_mul] at this
  rw [Nat.mul_comm a]; omega
theorem drR_surj : ∀ {ks : List Kn} {ds : List Dr}, A2 DrOk ks ds → ∃ n, n < prK ks ∧ drR ks n = ds
  | _, _, .nil => ⟨0, Nat.one_pos, rfl⟩
  | _, _, .cons (a := k) (as := ks) a t => by
    obtain ⟨m, h1, h2⟩ := dOf_surj a
    obtain ⟨n, h3, h4⟩ := drR_surj t
    refine ⟨n * manyK k + m, dm_lt h3 h1, ?_⟩
    show dOf k ((n * manyK k + m) % manyK k) :: drR ks ((n * manyK k + m) / manyK k) = _
    rw [Nat.mul_comm, Nat.mul_add_mod, Nat.mod_eq_of_lt h1, Nat.mul_add_div (by omega), Nat.div_eq_of_lt h1, Nat.add_zero, h2, h4]
theorem drR_inj : ∀ (ks : List Kn) {n m : Nat}, n < prK ks → m < prK ks → drR ks n = drR ks m → n = m
  | [], n, m, h1, h2, _ => by
    have h1 : n < 1 := h1
    have h2 : m < 1 := h2
    omega
  | k :: ks, n, m, h1, h2, h => by
    have h1 : n < manyK k * prK ks := h1
    have h2 : m < manyK k * prK ks := h2
    have h : dOf k (n % manyK k) :: drR ks (n / manyK k) = dOf k (m % manyK k) :: drR ks (m / manyK k) := h
    have hp := manyK_pos k
    obtain ⟨e1, e2⟩ := List.cons.inj h
    have e3 := dOf_inj (Nat.mod_lt _ hp) (Nat.mod_lt _ hp) e1
    have e4 := drR_inj ks (Nat.div_lt_of_lt_mul h1) (Nat.div_lt_of_lt_mul h2) e2
    rw [← Nat.div_add_mod n (manyK k), ← Nat.div_add_mod m (manyK k), e3, e4]
theorem prK_revK (ks : List Kn) : prK ks.reverse = prK ks := by
  induction ks with
  | nil => rfl
  | cons k ks ih => rw [List.reverse_cons, prK_snoc, ih]; show _ = manyK k * prK ks; rw [Nat.mul_comm]
theorem drawsAt_surj {ks : List Kn} {ds : List Dr} (h : A2 DrOk ks ds) : ∃ n, n < prK ks ∧ drawsAt ks n = ds := by
  obtain ⟨n, h1, h2⟩ := drR_surj h.rev
  rw [prK_revK] at h1
  exact ⟨n, h1, by unfold drawsAt; rw [h2, List.reverse_reverse]⟩
theorem drawsAt_inj {ks : List Kn} {n m : Nat} (h1 : n < prK ks) (h2 : m < prK ks) (h : drawsAt ks n = drawsAt ks m) : n = m := by
  unfold drawsAt at h
  exact drR_inj ks.reverse (by rw [prK_revK]; exact h1) (by rw [prK_revK]; exact h2) (List.reverse_inj.mp h)
theorem rowAt_lenA : ∀ s n, (rowAt s n).length = s
  | 0, _ => rfl
  | s + 1, n => by rw [rowAt, List.length_append, rowAt_lenA s]; rfl
theorem rowAt_leA : ∀ (s n i v : Nat), (rowAt s n)[i]? = some v → v ≤ i
  | 0, _, i, v, h => by cases h
  | s + 1, n, i, v, h => by
    by_cases e : i < s
    · rw [rowAt, List.getElem?_append_left (by rw [rowAt_lenA]; exact e)] at h
      exact rowAt_leA s _ i v h
    · have hl : i < (rowAt (s + 1) n).length := (List.getElem?_eq_some_iff.mp h).1
      rw [rowAt_lenA] at hl
      have ei : i = s := by omega
      subst ei
      rw [rowAt, List.getElem?_append_right (by rw [rowAt_lenA]; omega), rowAt_lenA, Nat.sub_self] at h
      have h : n % (i + 1) = v := by simpa using h
      have := Nat.mod_lt n (show 0 < i + 1 by omega)
      omega
theorem dOf_okA {k : Kn} {n : Nat} (h : n < manyK k) : DrOk k (dOf k n) := by
  unfold manyK at h; unfold dOf
  cases e : k.leaf with
  | true => rw [e] at h; exact ⟨e, h⟩
  | false => exact ⟨e, rowAt_lenA _ _, rowAt_leA _ _⟩
theorem drR_okA : ∀ (ks : List Kn) (n : Nat), A2 DrOk ks (drR ks n)
  | [], _ => .nil
  | k :: ks, n => .cons (dOf_okA (Nat.mod_lt _ (manyK_pos k))) (drR_okA ks _)
theorem drawsAt_okA (ks : List Kn) (n : Nat) : A2 DrOk ks (drawsAt ks n) := by
  have := (drR_okA ks.reverse n).rev
  rw [List.reverse_reverse] at this
  exact this
/-- all rows of draws -/
def allR (ks : List Kn) : List (List Dr) := (List.range (prK ks)).map (drawsAt ks)
theorem nodup_mapA {α β : Type} {f : α → β} : ∀ {l : List α}, (∀ a, a ∈ l → ∀ b, b ∈ l → f a = f b → a = b) → l.Nodup → (l.map f).Nodup
  | [], _, _ => List.nodup_nil
  | a :: l, h, hn => by
    rw [List.nodup_cons] at hn
    rw [List.map_cons, List.nodup_cons]
    refine ⟨fun z => ?_, nodup_mapA (fun x hx y hy => h x (List.mem_cons_of_mem _ hx) y (List.mem_cons_of_mem _ hy)) hn.2⟩
    obtain ⟨b, hb, e⟩ := List.mem_map.mp z
    have := h b (List.mem_cons_of_mem _ hb) a List.mem_cons_self e
    subst this
    exact hn.1 hb
theorem allR_nodup (ks : List Kn) : (allR ks).Nodup := nodup_mapA (fun a ha b hb h => drawsAt_inj (List.mem_range.mp ha) (List.mem_range.mp hb) h) List.nodup_range
theorem allR_mem {ks : List Kn} {ds : List Dr} : ds ∈ allR ks ↔ A2 DrOk ks ds := by
  constructor
  · intro h
    obtain ⟨n, _, rfl⟩ := List.mem_map.mp h
    exact drawsAt_okA ks n
  · intro h
    obtain ⟨n, h1, rfl⟩ := drawsAt_surj h
    exact List.mem_map.mpr ⟨n, List.mem_range.mpr h1, rfl⟩
section
variable {K : PySem.W.Frag} {vs : List V} {G : Hp} {M : Mem} {R : KR} {Z : KX}
theorem pf_Store_ask (h : S_Store_ask K vs G M R Z) : rd_Store_ask K (ends R Z) (sta 3 vs) G M := by
  obtain ⟨_, y, rfl, m, lim, drs, a, rfl, h2⟩ := sp2_of h
  exact pf_face6 tree_words h2
theorem knat_more {Mx : Mem} {a : Addr} {ks : List Kn} (h : KnAt K G M a ks) : KnAt K G (Mx ++ M) a ks := by
  obtain ⟨us, h1, h2⟩ := h
  refine ⟨us, ?_, h2⟩
  rcases h1 with z | z
  · exact .inl (List.mem_append.mpr (.inr z))
  · exact .inr z
theorem lvs_of {Mn : Mem} {us : List V} {ds : List Dr} {ks : List Kn} (h : A2 (DrM Mn) us ds) (hk : A2 DrOk ks ds) (hl : ∀ k, k ∈ ks → k.leaf = true) : us = natsV (lvs ds) := by
  induction h generalizing ks with
  | nil => rfl
  | @cons v d _ _ a _ ih =>
    cases hk with
    | @cons k _ _ _ b c =>
      have e := ih c fun k hk => hl k (List.mem_cons_of_mem _ hk)
      cases d with
      | leaf n =>
        obtain rfl : v = .int (n : Nat) := a
        rw [e]; rfl
      | row l =>
        have := b.1
        rw [hl k List.mem_cons_self] at this; cases this
theorem pf_all_draws (h : S_all_draws K vs G M R Z) : rd_all_draws K (ends R Z) (sta 3 vs) G M := by
  obtain ⟨_, rfl, a, ks, rfl, hk, hlf, hN, h1⟩ := sp1_of h
  clear h
  refine ⟨G, M, Wk.refl, a, ks, rfl, hk, ?_⟩
  refine ⟨G, M, Wk.refl, ite2' (c := decide ((1000 : Int) < (prK ks : Nat))) (fun e => absurd (of_decide_eq_true e) (by omega)) (fun e => ?_)⟩
  have eN : (srcR 0 ((prK ks : Nat) : Int).toNat).n = prK ks := by show ((prK ks : Nat) : Int).toNat = _; omega
  refine ⟨G, M, Wk.refl, ⟨by omega, by omega⟩, sz (by rw [eN]; omega), fun i acc G' M' => ∃ Mx : Mem, G' = G ∧ M' = Mx ++ M ∧ A2 (fun v d => ∃ b, v = V.ref b ∧ (b, HO.lst (natsV (lvs d))) ∈ Mx) acc ((List.range i).map (drawsAt ks)), ⟨[], rfl, rfl, .nil⟩, fun _ _ _ _ _ _ => trivial, ?_, ?_⟩
  · rintro i acc G' M' D hi hacc ⟨Mx, rfl, rfl, hac⟩ fD
    rw [eN] at hi
    refine asg_R (v := (i : Int)) (by omega) ⟨rfl, a, ks, .int, rfl, knat_more (Mx := (D, .lst acc) :: Mx) hk, ty_int, rfl, fun n' e hlt p5 us Mn hA => ?_, fun e => ?_⟩
    · obtain rfl : n' = i := by have := V.int.inj e; omega
      have hp : ((D, HO.lst acc) :: ((((p5, HO.lst us) :: Mn) ++ Mx) ++ M)).Perm ((p5, HO.lst us) :: (Mn ++ ((D, .lst acc) :: (Mx ++ M)))) := by
        simp only [List.cons_append, List.append_assoc]
        exact (List.Perm.swap _ _ _).trans (.cons _ List.perm_middle.symm)
      refine ⟨G', (((p5, HO.lst us) :: Mn) ++ Mx) ++ M, Wk.perm hp, ((p5, HO.lst us) :: Mn) ++ Mx, rfl, rfl, ?_⟩
      rw [List.range_succ, List.map_append]
      refine (hac.mono fun v d ⟨b, e, z⟩ => ⟨b, e, List.mem_append.mpr (.inr z)⟩).app (.cons ⟨p5, rfl, ?_⟩ .nil)
      rw [← lvs_of hA (drawsAt_okA ks n') hlf]
      exact List.mem_cons_self
    · have : withinV (.int (i : Int)) 0 ((prK ks : Int) - 1) = true := wi_in (by omega) (by omega)
      rw [this] at e; cases e
  rintro rows G' M' ra ⟨Mx, rfl, rfl, hrows⟩ hrl fra
  rw [eN] at hrows
  exact ret0 (h1 ra rows Mx hrows)
theorem drat_leaves {b : Addr} {drs : List Nat} (h : LstAt K G M b (natsV drs)) : DrAt K G M b (drs.map Dr.leaf) := by
  refine ⟨natsV drs, h, ?_⟩
  clear h
  induction drs with
  | nil => exact .nil
  | cons d drs ih => exact .cons rfl ih
/-! peak -/
theorem foldl_max_mem : ∀ (l : List Nat) (a b : Nat), a ≤ b → (∀ x, x ∈ l → x ≤ b) → l.foldl max a ≤ b
  | [], _, _, h, _ => h
  | x :: l, a, b, h, hx => foldl_max_mem l (max a x) b (by have := hx x List.mem_cons_self; omega) fun y hy => hx y (List.mem_cons_of_mem _ hy)
theorem peak_le (m : Nat) (drs : List Nat) (ds : List Deed) : peakF m drs ds ≤ m := by
  refine foldl_max_mem _ _ _ (Nat.zero_le _) fun x hx => ?_
  obtain ⟨i, _, rfl⟩ := List.mem_map.mp hx
  unfold pk6
  have := List.length_filter_le (fun c => ((trS m drs (ds.take (i + 1))).f c).isSome) (List.range m)
  rw [List.length_range] at this
  exact this
def pkG (m : Nat) (drs : List Nat) (ds : List Deed) (n : Nat) : Nat := ((List.range n).map fun i => (pk6 m drs (ds.take (i + 1))).length).foldl max 0
theorem pkG_succ (m : Nat) (drs : List Nat) (ds : List Deed) (n : Nat) : pkG m drs ds (n + 1) = max (pkG m drs ds n) (pk6 m drs (ds.take (n + 1))).length := by
  unfold pkG
  rw [List.range_succ, List.map_append, List.foldl_append]; rfl
theorem pf_peak (h : S_peak K vs G M R Z) : rd_peak K (ends R Z) (sta 6 vs) G M := by
  obtain ⟨_, _, _, rfl, m, ds, b, drs, ⟨rfl, m0, m1⟩, ⟨al, av, rfl, hal, had⟩, hok, rfl, hb, hdl, hlow, q⟩ := sp3_of h
  clear h
  have hav := had.len
  have h60 := hok.2
  refine ⟨G, M, Wk.refl, av, lst_g hal, fun x dx fx => ?_⟩
  refine ⟨x, dx, b, m, ds.length, drs, _, rfl, rfl, ⟨rfl, m0, m1⟩, ⟨by rw [hav], by omega, by omega⟩, rfl, drat_leaves (lat_cons hb), hdl, hlow, fun A G3 o xs hA e3 hi => ⟨rfl, ?_⟩⟩
  subst hA
  obtain ⟨B, hB⟩ : ∃ B, B = treeB K A m ds.length 0 (highN m) o xs [] (drs.take m) := ⟨_, rfl⟩
  have st : St6 K m ds.length drs G3 [] A.s B := by rw [hB]; exact st6_new (by omega) hi
  rw [← hB]
  refine ⟨G3, B ++ M, Wk.refl, ?_⟩
  refine ⟨G3, B ++ M, Wk.refl, av, .inr (ex_l e3 hal), fun i σ G' M' => ∃ (B : Mem) (y5 : Option V), σ = [some (.int m), some (.ref al), some (.ref b), some (.ref A.s), some (.int (pkG m drs ds i : Nat)), y5] ∧ Ex G3 G' ∧ M' = B ++ M ∧ St6 K m ds.length drs G' (ds.take i) A.s B, ⟨B, none, rfl, Ex.refl, rfl, st⟩, ?_, ?_, ?_⟩
  · rintro i σ G' M' _ ⟨B, y5, rfl, ex, rfl, _⟩; exact .inr (ex_l (e3.trans ex) hal)
  · rintro i σ G' M' hi ⟨B, y5, rfl, ex, rfl, st⟩
    have hi : i < av.length := hi
    obtain ⟨d, hd⟩ : ∃ d, ds[i]? = some d := ⟨_, List.getElem?_eq_getElem (by omega)⟩
    obtain ⟨v, hv, hvd⟩ := had.get hd
    have hil : (ds.take i).length = i := by rw [List.length_take]; omega
    refine asg_L hv ?_
    obtain ⟨dx, vs, hat⟩ := seen_at (M := B ++ M) (st6_seen st) (fun x hx => List.mem_append.mpr (.inl hx))
    refine ⟨G', B ++ M, Wk.refl, 6, dx, vs, S_Store_ask K, hat, rfl, m, ds.length, drs, A.s, rfl, ds.take i, B, M, List.perm_append_comm, st, .inr ⟨d, hvd.ex (e3.trans ex), hok.1 d (List.mem_of_getElem? hd), .inr ⟨by omega, fun G4 B4 e4 st4 => ?_⟩⟩⟩
    rw [← take_succ' hd] at st4
    refine ⟨G4, B4 ++ M, Wk.perm List.perm_append_comm, st6_pocket st4 List.perm_append_comm rfl fun p fp => ?_⟩
    have hlen : (natsV (pk6 m drs (ds.take (i + 1)))).length = (pk6 m drs (ds.take (i + 1))).length := natsV_len _
    refine ⟨natsV (pk6 m drs (ds.take (i + 1))), lst_n (n := 0) rfl, ?_⟩
    refine ⟨G4, B4 ++ M, Wk.drop0, B4, some v, ?_, ex.trans e4, rfl, st4⟩
    have e5 : max (pkG m drs ds i : Int) ((natsV (pk6 m drs (ds.take (i + 1)))).length : Int) = ((pkG m drs ds (i + 1) : Nat) : Int) := by rw [hlen, pkG_succ]; omega
    rw [← e5]; rfl
  · rintro σ G' M' ⟨B, y5, rfl, ex, rfl, st⟩
    have e1 : peakF m drs ds = pkG m drs ds av.length := by rw [hav]; rfl
    have q := q G' (e3.trans ex)
    rw [e1] at q
    exact ⟨G', M, Wk.dropP B, ret0 q⟩
end
section
variable {K : PySem.W.Frag} {vs : List V} {G : Hp} {M : Mem} {R : KR} {Z : KX}
/-! ### tallies -/
def cntG (ps : List Nat) (s : Nat) : Nat := (ps.filter fun p => decide (s ≤ p)).length
def tly (m : Nat) (ps : List Nat) (j : Nat) : List Nat := (List.range (m + 1)).map fun s => cntG ps s + if s < j then 1 else 0
theorem tly_zero (m : Nat) (ps : List Nat) : tly m ps 0 = tallyF m ps := List.map_congr_left fun s _ => by
  rw [if_neg (Nat.not_lt_zero s)]; rfl
theorem tly_len (m : Nat) (ps : List Nat) (j : Nat) : (tly m ps j).length = m + 1 := by unfold tly; rw [List.length_map, List.length_range]
theorem tly_at {m : Nat} {ps : List Nat} {i j : Nat} (h : i ≤ m) : (tly m ps j)[i]? = some (cntG ps i + if i < j then 1 else 0) := by
  unfold tly
  rw [List.getElem?_map, List.getElem?_range (by omega)]; rfl
theorem tly_step {m : Nat} {ps : List Nat} {j : Nat} (h : j ≤ m) : (tly m ps j).set j (cntG ps j + 1) = tly m ps (j + 1) := by
  apply List.ext_getElem?
  intro i
  by_cases hi : i ≤ m
  · rw [tly_at hi]
    by_cases e : j = i
    · subst e
      rw [List.getElem?_set_self (by rw [tly_len]; omega), if_pos (Nat.lt_succ_self _)]
    · rw [List.getElem?_set_ne e, tly_at hi]
      congr 2
      by_cases z : i < j
      · rw [if_pos z, if_pos (by omega)]
      · rw [if_neg z, if_neg (by omega)]
  · rw [List.getElem?_eq_none (by rw [List.length_set, tly_len]; omega), List.getElem?_eq_none (by rw [tly_len]; omega)]
theorem tly_done {m : Nat} {ps : List Nat} {p : Nat} : tly m ps (p + 1) = tallyF m (ps ++ [p]) := List.map_congr_left fun s _ => by
  unfold cntG
  rw [List.filter_append, List.length_append]
  congr 1
  by_cases z : s ≤ p
  · rw [if_pos (by omega), List.filter_cons_of_pos (by rw [decide_eq_true z])]; rfl
  · rw [if_neg (by omega), List.filter_cons_of_neg (by rw [decide_eq_false z]; decide)]; rfl
theorem tally_nil (m : Nat) : natsV (tallyF m []) = (List.replicate ((m : Nat) + 1 : Int).toNat [V.int 0]).flatten := by
  have h1 : ∀ n, (List.replicate n [V.int 0]).flatten = natsV (List.replicate n 0) := fun n => by
    induction n with
    | zero => rfl
    | succ n ih => rw [List.replicate_succ, List.flatten_cons, ih, List.replicate_succ]; rfl
  rw [show ((m : Nat) + 1 : Int).toNat = m + 1 by omega, h1]
  congr 1
  unfold tallyF
  apply List.ext_getElem?
  intro i
  rw [List.getElem?_map, List.getElem?_replicate]
  by_cases z : i < m + 1
  · rw [List.getElem?_range z, if_pos z]; rfl
  · rw [List.getElem?_eq_none (by rw [List.length_range]; omega), if_neg z]; rfl
/-- told[size] = told[size] + 1, for each size to p -/
theorem cells_app (l l2 : List Nat) : natsV l ++ natsV l2 = natsV (l ++ l2) := by unfold natsV; rw [List.map_append]
theorem rep_kn {T : Addr} {h : Nat} (hT : SqT K G T [.str "leaf", .int (h : Nat)]) (n : Nat) : DpAll K G (List.replicate n [V.ref T]).flatten ((List.replicate n (⟨true, h⟩ : Kn)).map knD) := by
  induction n with
  | zero => exact .nil
  | succ n ih =>
    rw [List.replicate_succ, List.replicate_succ, List.flatten_cons, List.map_cons]
    exact .cons (dp_kn (k := ⟨true, h⟩) hT) ih
theorem rep_ok {m : Nat} (m1 : m ≤ 32) (n : Nat) : ∀ k, k ∈ leafKs m n → KnOk k ∧ k.leaf = true := fun k hk => by
  have := List.eq_of_mem_replicate hk
  subst this
  have := high_le5 m m1
  exact ⟨⟨by show highN m ≤ 64; omega, fun _ => by show highN m ≤ 6; omega, fun z => by cases z⟩, rfl⟩
theorem rep_dr {m : Nat} : ∀ {fs : List Nat}, LowN (highN m) fs → A2 DrOk (leafKs m fs.length) (fs.map Dr.leaf)
  | [], _ => .nil
  | f :: fs, h => .cons ⟨rfl, h f List.mem_cons_self⟩ (rep_dr fun x hx => h x (List.mem_cons_of_mem _ hx))
theorem lvs_low {m n : Nat} {ds : List Dr} (h : A2 DrOk (leafKs m n) ds) : (lvs ds).length = n ∧ LowN (highN m) (lvs ds) := by
  refine ⟨by unfold lvs; rw [List.length_map, ← h.len]; exact List.length_replicate .., fun x hx => ?_⟩
  obtain ⟨d, hd, rfl⟩ := List.mem_map.mp hx
  obtain ⟨i, hi⟩ := List.getElem?_of_mem hd
  obtain ⟨k, hk, hkd⟩ := h.get hi
  have hk := List.eq_of_mem_replicate (List.mem_of_getElem? hk)
  subst hk
  cases d with
  | leaf n => exact hkd.2
  | row l => have := hkd.1; cases this
theorem low_app {h : Nat} {a b : List Nat} (x : LowN h a) (y : LowN h b) : LowN h (a ++ b) := fun z hz => (List.mem_append.mp hz).elim (x z) (y z)
theorem pf_pockets_of (h : S_pockets_of K vs G M R Z) : rd_pockets_of K (ends R Z) (sta 7 vs) G M := by
  obtain ⟨_, _, _, rfl, m, ds, b, fs, ⟨rfl, m0, m1⟩, ⟨al, av, rfl, hal, had⟩, hok, rfl, hb, hfl, hlow, hN, q⟩ := sp3_of h
  clear h
  have hav := had.len
  have h60 := hok.2
  have h5 := high_le5 m m1
  refine ⟨G, M, Wk.refl, .int, ty_int, rfl, fun _ => ?_, fun e => ?_⟩
  rotate_left
  · rw [wi_in (by omega) (by omega)] at e; cases e
  refine ⟨G, M, Wk.refl, m, true, rfl, asks_askV ⟨av, .inr hal, had⟩ hok, fun _ => ?_, fun e => by cases e⟩
  refine ⟨G, M, Wk.refl, m, ⟨rfl, m0, m1⟩, sz2, fun T fT => ?_⟩
  have eT := Ex.new (o := .tup [V.str "leaf", .int (highN m : Nat)]) fT
  obtain ⟨G1, hG1⟩ : ∃ g, g = upd G T (.tup [V.str "leaf", .int (highN m : Nat)]) := ⟨_, rfl⟩
  rw [← hG1] at eT ⊢
  have hT : SqT K G1 T [.str "leaf", .int (highN m : Nat)] := by rw [hG1]; exact sqt_new
  clear hG1
  have hal := ex_l eT hal
  have had : A2 (fun v d => DeedAt K G1 v d) av ds := had.mono fun _ _ z => z.ex eT
  have hb : At G1 M b (.lst (natsV fs)) := hb.imp id fun z => eT _ _ z
  have hkn : ∀ {G' : Hp} {M' : Mem} {a : Addr} (n : Nat), n ≤ 60 → Ex G1 G' → LstAt K G' M' a (List.replicate n [V.ref T]).flatten → KnAt K G' M' a (leafKs m n) := fun n hn e hl => ⟨_, hl, rep_kn (ex_t e hT) n, fun k hk => (rep_ok m1 n k hk).1, by unfold leafKs; rw [List.length_replicate]; omega⟩
  refine ⟨G1, M, Wk.refl, sz1, fun l1 f1 => ⟨_, at_n (n := 0) rfl, by omega, by omega, sz (by rw [List.length_singleton]; omega), fun l2 f2 => ?_⟩⟩
  refine ⟨l2, b, leafKs m m, fs.map Dr.leaf, rfl, rfl, hkn m (by omega) Ex.refl (by rw [Int.toNat_natCast]; exact lat_0), drat_leaves (lat_cons (lat_cons ?_)), by have := rep_dr hlow; rw [hfl] at this; exact this, ?_⟩
  · rcases hb with z | z
    · exact .inl z
    · exact .inr (sql_of z)
  refine ⟨G1, M, Wk.drop0.trans Wk.drop0, sz1, fun l3 f3 => ⟨_, at_n (n := 0) rfl, by omega, by omega, sz (by rw [List.length_singleton]; omega), fun tl ftl => ?_⟩⟩
  rw [← tally_nil]
  refine ⟨G1, (tl, .lst (natsV (tallyF m []))) :: M, Wk.drop1, sz1, fun l4 f4 => ⟨av, lst_g hal, _, at_n (n := 0) rfl, by omega, by omega, sz (by rw [List.length_singleton]; omega), fun l5 f5 => ?_⟩⟩
  refine ⟨l5, leafKs m ds.length, rfl, hkn ds.length h60 Ex.refl (by rw [hav, Int.toNat_natCast]; exact lat_0), fun k hk => (rep_ok m1 _ k hk).2, hN, fun rl rv Mx hrv => ?_⟩
  obtain ⟨ks, hks⟩ : ∃ ks, ks = leafKs m ds.length := ⟨_, rfl⟩
  rw [← hks] at hrv hN
  have hrl : rv.length = prK ks := by rw [hrv.len, List.length_map, List.length_range]
  obtain ⟨F, hF⟩ : ∃ F : Mem, F = (rl, HO.lst rv) :: (Mx ++ M) := ⟨_, rfl⟩
  have hrF : (rl, HO.lst rv) ∈ F := by rw [hF]; exact List.mem_cons_self
  have hMF : ∀ x, x ∈ M → x ∈ F := fun x hx => by rw [hF]; exact List.mem_cons_of_mem _ (List.mem_append.mpr (.inr hx))
  have hrv : A2 (fun v d => ∃ b, v = V.ref b ∧ (b, HO.lst (natsV (lvs d))) ∈ F) rv ((List.range (prK ks)).map (drawsAt ks)) := hrv.mono fun v d ⟨b, e, z⟩ => ⟨b, e, by rw [hF]; exact List.mem_cons_of_mem _ (List.mem_append.mpr (.inl z))⟩
  obtain ⟨ps, hps⟩ : ∃ ps : List Nat, ps = (List.range (prK ks)).map fun r => peakF m (fs ++ lvs (drawsAt ks r)) ds := ⟨_, rfl⟩
  have hbF : ∀ {G' : Hp} {Mz : Mem}, Ex G1 G' → (∀ x, x ∈ F → x ∈ Mz) → At G' Mz b (.lst (natsV fs)) := fun {G' Mz} e hz => hb.imp (fun z => hz _ (hMF _ z)) fun z => e _ _ z
  refine ⟨rv, lat_0, G1, (tl, .lst (natsV (tallyF m []))) :: F, ?_, fun i σ G' M' => ∃ (y5 y6 : Option V), σ = [some (.int m), some (.ref al), some (.ref b), some (.ref T), some (.ref tl), y5, y6] ∧ Ex G1 G' ∧ M' = (tl, .lst (natsV (tallyF m (ps.take i)))) :: F, ⟨none, none, rfl, Ex.refl, rfl⟩, ?_, ?_, ?_⟩
  · rw [hF]
    refine (Wk.sub' (M' := (rl, .lst rv) :: (Mx ++ ((tl, .lst (natsV (tallyF m []))) :: M))) (.cons₂ _ (List.Sublist.append_left (.cons _ (.cons _ (List.Sublist.refl _))) _))).trans (Wk.perm ?_)
    refine (List.Perm.swap _ _ _).trans (.cons _ ?_)
    exact List.perm_middle.symm
  · rintro i σ G' M' _ ⟨y5, y6, rfl, ex, rfl⟩; exact .inl (List.mem_cons_of_mem _ hrF)
  · rintro i σ G' M' hi ⟨y5, y6, rfl, ex, rfl⟩
    have hi : i < rv.length := hi
    obtain ⟨v, hv, rb, rfl, hrb⟩ := hrv.get (i := i) (b := drawsAt ks i) (by rw [List.getElem?_map, List.getElem?_range (by omega)]; rfl)
    obtain ⟨hll, hlo⟩ := lvs_low (m := m) (n := ds.length) (ds := drawsAt ks i) (by rw [hks]; exact drawsAt_okA _ i)
    have hpi : ps[i]? = some (peakF m (fs ++ lvs (drawsAt ks i)) ds) := by rw [hps, List.getElem?_map, List.getElem?_range (by omega)]; rfl
    have hpl := peak_le m (fs ++ lvs (drawsAt ks i)) ds
    obtain ⟨pk, hpk⟩ : ∃ pk, pk = peakF m (fs ++ lvs (drawsAt ks i)) ds := ⟨_, rfl⟩
    rw [← hpk] at hpi hpl
    refine asg_L hv ?_
    refine ⟨G', _, Wk.refl, _, _, hbF ex (fun x hx => List.mem_cons_of_mem _ hx), .inl (List.mem_cons_of_mem _ hrb), ?_, fun qa fqa => ?_⟩
    · rw [natsV_len, natsV_len, hfl, hll]; exact sz (by omega)
    rw [cells_app]
    refine ⟨m, ds, qa, fs ++ lvs (drawsAt ks i), ⟨rfl, m0, m1⟩, ⟨al, av, rfl, ex_l ex hal, had.mono fun _ _ z => z.ex ex⟩, hok, rfl, lat_0, by rw [List.length_append, hfl, hll], low_app hlow hlo, fun G4 e4 => ?_⟩
    rw [← hpk]
    refine ⟨⟨by omega, by omega⟩, fun j σ G5 M5 => ∃ (y6 : Option V), σ = [some (.int m), some (.ref al), some (.ref b), some (.ref T), some (.ref tl), some (.ref rb), y6] ∧ G5 = G4 ∧ M5 = (qa, .lst (natsV (fs ++ lvs (drawsAt ks i)))) :: (tl, .lst (natsV (tly m (ps.take i) j))) :: F, ⟨_, rfl, rfl, by rw [tly_zero]⟩, fun _ _ _ _ _ _ => trivial, ?_, ?_⟩
    · rintro j σ G5 M5 hj ⟨y6, rfl, hG, rfl⟩
      subst hG
      have hj : j < ((pk : Nat) + 1 : Int).toNat := hj
      refine asg_R (v := (j : Int)) (by omega) ?_
      have hat := tly_at (m := m) (ps := ps.take i) (i := j) (j := j) (by omega)
      rw [if_neg (Nat.lt_irrefl j), Nat.add_zero] at hat
      refine ⟨G5, _, Wk.refl, natsV (tly m (ps.take i) j), .int (cntG (ps.take i) j : Nat), lst_n (n := 1) rfl, atI_nat (natsV_get hat), 1, natsV (tly m (ps.take i) j), j, rfl, ixN_nat (by rw [natsV_len, tly_len]; omega), ?_⟩
      refine ⟨G5, _, Wk.refl, _, rfl, rfl, ?_⟩
      rw [← tly_step (by omega)]
      show (qa, HO.lst (natsV (fs ++ lvs (drawsAt ks i)))) :: (tl, HO.lst ((natsV (tly m (ps.take i) j)).set j (.int ((cntG (ps.take i) j : Nat) + 1)))) :: F = _
      unfold natsV
      rw [List.map_set]; rfl
    · rintro σ G5 M5 ⟨y6, rfl, hG, rfl⟩
      subst hG
      have en : (srcR 0 ((pk : Nat) + 1 : Int).toNat).n = pk + 1 := by show ((pk : Nat) + 1 : Int).toNat = _; omega
      rw [en, tly_done]
      refine ⟨G5, (tl, .lst (natsV (tallyF m (ps.take (i + 1))))) :: F, ?_, _, _, rfl, ex.trans e4, rfl⟩
      rw [take_succ' hpi]
      exact Wk.drop0
  · rintro σ G' M' ⟨y5, y6, rfl, ex, rfl⟩
    have hpl : ps.length = rv.length := by rw [hps, List.length_map, List.length_range, hrl]
    have q := q tl G' (eT.trans ex)
    have e1 : pocketsF m fs ds = tallyF m ps := by rw [hps, hks]; rfl
    rw [e1] at q
    refine ⟨G', (tl, .lst (natsV (tallyF m ps))) :: M, ?_, ret0 q⟩
    have en : (srcL K rl rv).n = ps.length := hpl.symm
    rw [en, List.take_length, hF]
    exact Wk.sub' (.cons₂ _ (.cons _ (List.sublist_append_right _ _)))
end
section
/-! ### the law's own tree -/
def cellsT (th : Th) (n : Nat) : List Nat := ((th.getD (2 * n) none).map (·.1)).toList ++ ((th.getD (2 * n + 1) none).map (·.1)).toList
def handT (m : Nat) (f : HF) : List Nat := (List.range m).filter fun c => (f c).isSome
def nodesT (h : Nat) (th : Th) : List (List Nat) := (List.range (2 * 2 ^ h - 1)).map (cellsT th)
theorem hand_mem {m : Nat} {f : HF} {x : Nat} : x ∈ handT m f ↔ x < m ∧ (f x).isSome = true := by unfold handT; rw [List.mem_filter, List.mem_range]
theorem hand_len (m : Nat) (f : HF) : (handT m f).length ≤ m := by
  have := List.length_filter_le (fun c => (f c).isSome) (List.range m)
  rw [List.length_range] at this
  exact this
theorem range_lt (m : Nat) : (List.range m).Pairwise (· < ·) := List.pairwise_lt_range
theorem hand_lt (m : Nat) (f : HF) : ((handT m f).map fun n : Nat => (n : Int)).Pairwise (· < ·) := List.pairwise_map.mpr (((range_lt m).filter _).imp fun h => by omega)
theorem getD_some {th : Th} {r : Nat} {e : Nat × Nat × Nat} : th.getD r none = some e ↔ th[r]? = some (some e) := by
  rw [List.getD_eq_getElem?_getD]
  cases h : th[r]? with
  | none => exact ⟨fun z => (nomatch z), fun z => (nomatch z)⟩
  | some o => exact ⟨fun z => congrArg some z, fun z => Option.some.inj z⟩
theorem opt_mem {o : Option (Nat × Nat × Nat)} {x : Nat} : x ∈ (o.map (·.1)).toList ↔ ∃ p, o = some (x, p) := by
  cases o with
  | none => exact ⟨fun z => (nomatch z), fun ⟨_, z⟩ => (nomatch z)⟩
  | some e =>
    show x ∈ [e.1] ↔ _
    rw [List.mem_singleton]
    exact ⟨fun z => ⟨e.2, by rw [z]⟩, fun ⟨p, z⟩ => by rw [Option.some.inj z]⟩
theorem cells_mem {th : Th} {n x : Nat} : x ∈ cellsT th n ↔ ∃ r p, r / 2 = n ∧ th[r]? = some (some (x, p)) := by
  unfold cellsT
  rw [List.mem_append, opt_mem, opt_mem]
  refine ⟨fun h => ?_, fun ⟨r, p, h1, h2⟩ => ?_⟩
  · rcases h with ⟨p, h⟩ | ⟨p, h⟩
    · exact ⟨2 * n, p, by omega, getD_some.mp h⟩
    · exact ⟨2 * n + 1, p, by omega, getD_some.mp h⟩
  · have : r = 2 * n ∨ r = 2 * n + 1 := by omega
    rcases this with rfl | rfl
    · exact .inl ⟨p, getD_some.mpr h2⟩
    · exact .inr ⟨p, getD_some.mpr h2⟩
theorem cells_len (th : Th) (n : Nat) : (cellsT th n).length ≤ 2 := by
  unfold cellsT
  rw [List.length_append]
  have : ∀ o : Option (Nat × Nat × Nat), (o.map (·.1)).toList.length ≤ 1 := fun o => by cases o <;> simp
  have h1 := this (th.getD (2 * n) none)
  have h2 := this (th.getD (2 * n + 1) none)
  omega
theorem isSome_ex {α : Type} {o : Option α} : o.isSome = true ↔ ∃ p, o = some p := by
  cases o with
  | none => exact ⟨fun z => (nomatch z), fun ⟨_, z⟩ => (nomatch z)⟩
  | some p => exact ⟨fun _ => ⟨p, rfl⟩, fun _ => rfl⟩
/-- what is in hand behind the looks -/
theorem look_hand {m : Nat} {W : List Nat} {s : TrM} {d : Deed} {fresh : Nat} (h : TI m W s) (hc : d.cell < m) (x : Nat) :
    x ∈ handT m (trKeep m d fresh s) ↔ x ∈ handT m s.f ∨ (∃ dep, dep < highN m + 1 ∧ x ∈ cellsT s.th (nodeN (highN m) dep (s.tb.getD d.cell 0))) ∨ x = d.cell := by
  rw [hand_mem, hand_mem]
  have hk : (trKeep m d fresh s x).isSome = true ↔ x = d.cell ∨ (lookW s.th (highN m) (s.tb.getD d.cell 0) s.f (highN m + 1) x).isSome = true := by
    unfold trKeep HF.put
    by_cases z : x = d.cell
    · simp [z]
    · simp [z]
  rw [hk]
  refine ⟨fun ⟨h1, h2⟩ => ?_, fun h2 => ?_⟩
  · rcases h2 with rfl | h2
    · exact .inr (.inr rfl)
    · obtain ⟨p, hp⟩ := isSome_ex.mp h2
      rcases lookW_some _ hp with h3 | ⟨dep, r, h3, h4, h5⟩
      · exact .inl ⟨h1, isSome_ex.mpr ⟨p, h3⟩⟩
      · exact .inr (.inl ⟨dep, h3, cells_mem.mpr ⟨r, p, h4, h5⟩⟩)
  · rcases h2 with ⟨h1, h2⟩ | ⟨dep, h3, h4⟩ | rfl
    · refine ⟨h1, .inr ?_⟩
      cases e : lookW s.th (highN m) (s.tb.getD d.cell 0) s.f (highN m + 1) x with
      | some p => rfl
      | none =>
        have := (lookW_none _ e).1
        rw [this] at h2; cases h2
    · obtain ⟨r, p, h5, h6⟩ := cells_mem.mp h4
      refine ⟨(h.i1 r _ h6).1, .inr ?_⟩
      cases e : lookW s.th (highN m) (s.tb.getD d.cell 0) s.f (highN m + 1) x with
      | some p => rfl
      | none => exact absurd h6 ((lookW_none _ e).2 dep r p h3 h5)
    · exact ⟨hc, .inl rfl⟩
/-- what fits -/
theorem fits_hand {m : Nat} {W tb : List Nat} {leaf k d node : Nat} {s : Th × HF} (h : LJ m W tb leaf k s) : fitsN m (highN m) d node s.2 = ((handT m s.2).filter fun c => decide (nodeN (highN m) d (tb.getD c 0) = node)).take 2 := by
  unfold fitsN handT
  rw [List.filter_filter]
  congr 1
  refine List.filter_congr fun c _ => ?_
  unfold fitB
  cases e : s.2 c with
  | none => simp
  | some p =>
    show decide (nodeN (highN m) d p.2 = node) = _
    rw [(h.j2 c p e).2.1]; simp
theorem take_two {cs : List Nat} (h : cs.length ≤ 2) : (cs[0]?).toList ++ (cs[1]?).toList = cs := by
  match cs, h with
  | [], _ => rfl
  | [a], _ => rfl
  | [a, b], _ => rfl
theorem take_fst {f : HF} {cs : List Nat} (h : ∀ c, c ∈ cs → ∃ p, f c = some p) (i : Nat) : (takeC f cs i).map (·.1) = cs[i]? := by
  unfold takeC
  cases e : cs[i]? with
  | none => rfl
  | some c =>
    obtain ⟨p, hp⟩ := h c (List.mem_of_getElem? e)
    show ((f c).map fun p => (c, p)).map (·.1) = some c
    rw [hp]; rfl
theorem lay_cells {m high leaf d : Nat} {s : Th × HF} (hd : d ≤ high) (hl : leaf < 2 ^ high) (ht : s.1.length = 2 * (2 * 2 ^ high - 1)) (n : Nat) :
    cellsT (layD m high leaf s d).1 n = if n = nodeN high d leaf then fitsN m high d (nodeN high d leaf) s.2 else cellsT s.1 n := by
  obtain ⟨nd, hnd⟩ : ∃ nd, nd = nodeN high d leaf := ⟨_, rfl⟩
  have hlt := node_lt hd hl
  rw [← hnd] at hlt ⊢
  obtain ⟨cs, hcs⟩ : ∃ cs, cs = fitsN m high d nd s.2 := ⟨_, rfl⟩
  have hlay : (layD m high leaf s d).1 = (s.1.set (2 * nd) (takeC s.2 cs 0)).set (2 * nd + 1) (takeC s.2 cs 1) := by unfold layD; rw [← hnd, ← hcs]
  rw [hlay, ← hcs]
  have hcf : ∀ c, c ∈ cs → ∃ p, s.2 c = some p := fun c hc => by
    obtain ⟨p, hp, _⟩ := fits_fit (m := m) (high := high) (d := d) (node := nd) (f := s.2) (by rw [← hcs]; exact hc)
    exact ⟨p, hp⟩
  unfold cellsT
  by_cases e : n = nd
  · subst e
    rw [if_pos rfl]
    have g0 : ((s.1.set (2 * n) (takeC s.2 cs 0)).set (2 * n + 1) (takeC s.2 cs 1)).getD (2 * n) none = takeC s.2 cs 0 := by
      rw [List.getD_eq_getElem?_getD, List.getElem?_set_ne (by omega), List.getElem?_set_self (by omega)]; rfl
    have g1 : ((s.1.set (2 * n) (takeC s.2 cs 0)).set (2 * n + 1) (takeC s.2 cs 1)).getD (2 * n + 1) none = takeC s.2 cs 1 := by
      rw [List.getD_eq_getElem?_getD, List.getElem?_set_self (by rw [List.length_set]; omega)]; rfl
    rw [g0, g1, take_fst hcf, take_fst hcf]
    exact take_two (by rw [hcs]; exact fits_len)
  · rw [if_neg e]
    have g : ∀ r, r ≠ 2 * nd → r ≠ 2 * nd + 1 → ((s.1.set (2 * nd) (takeC s.2 cs 0)).set (2 * nd + 1) (takeC s.2 cs 1)).getD r none = s.1.getD r none := fun r h1 h2 => by
      rw [List.getD_eq_getElem?_getD, List.getElem?_set_ne (by omega), List.getElem?_set_ne (by omega), ← List.getD_eq_getElem?_getD]
    rw [g _ (by omega) (by omega), g _ (by omega) (by omega)]
theorem lay_nodes {m high leaf d : Nat} {s : Th × HF} (hd : d ≤ high) (hl : leaf < 2 ^ high) (ht : s.1.length = 2 * (2 * 2 ^ high - 1)) :
    nodesT high (layD m high leaf s d).1 = (nodesT high s.1).set (nodeN high d leaf) (fitsN m high d (nodeN high d leaf) s.2) := by
  apply List.ext_getElem?
  intro i
  unfold nodesT
  by_cases hi : i < 2 * 2 ^ high - 1
  · rw [List.getElem?_map, List.getElem?_range hi]
    show some (cellsT _ i) = _
    rw [lay_cells hd hl ht]
    by_cases e : i = nodeN high d leaf
    · subst e
      rw [if_pos rfl, List.getElem?_set_self (by rw [List.length_map, List.length_range]; exact hi)]
    · rw [if_neg e, List.getElem?_set_ne (Ne.symm e), List.getElem?_map, List.getElem?_range hi]; rfl
  · rw [List.getElem?_eq_none (by rw [List.length_map, List.length_range]; omega), List.getElem?_eq_none (by rw [List.length_set, List.length_map, List.length_range]; omega)]
theorem lay_hand (m high leaf d : Nat) (s : Th × HF) : handT m (layD m high leaf s d).2 = (handT m s.2).filter fun c => decide (c ∉ fitsN m high d (nodeN high d leaf) s.2) := by
  unfold handT
  rw [List.filter_filter]
  refine List.filter_congr fun c _ => ?_
  show (if c ∈ fitsN m high d (nodeN high d leaf) s.2 then none else s.2 c).isSome = _
  by_cases z : c ∈ fitsN m high d (nodeN high d leaf) s.2
  · rw [if_pos z]; simp [z]
  · rw [if_neg z]; simp [z]
theorem lt_ext74 : ∀ {a b : List Int}, a.Pairwise (· < ·) → b.Pairwise (· < ·) → (∀ k, k ∈ a ↔ k ∈ b) → a = b
  | [], [], _, _, _ => rfl
  | [], y :: _, _, _, h => absurd ((h y).mpr List.mem_cons_self) List.not_mem_nil
  | x :: _, [], _, _, h => absurd ((h x).mp List.mem_cons_self) List.not_mem_nil
  | x :: a, y :: b, ha, hb, h => by
    rw [List.pairwise_cons] at ha hb
    have e : x = y := by
      rcases List.mem_cons.mp ((h x).mp List.mem_cons_self) with e | e
      · exact e
      · rcases List.mem_cons.mp ((h y).mpr List.mem_cons_self) with e2 | e2
        · exact e2.symm
        · have := hb.1 x e
          have := ha.1 y e2
          omega
    subst e
    rw [lt_ext74 ha.2 hb.2 fun k => ⟨fun hk => ?_, fun hk => ?_⟩]
    · rcases List.mem_cons.mp ((h k).mp (List.mem_cons_of_mem _ hk)) with e | e
      · have := ha.1 k hk; omega
      · exact e
    · rcases List.mem_cons.mp ((h k).mpr (List.mem_cons_of_mem _ hk)) with e | e
      · have := hb.1 k hk; omega
      · exact e
end
section
variable {K : PySem.W.Frag} {vs : List V} {G : Hp} {M : Mem} {R : KR} {Z : KX}
theorem pf_law_node (h : S_law_node K vs G M R Z) : rd_law_node K (ends R Z) (sta 3 vs) G M := by
  obtain ⟨_, _, _, rfl, hg, d, l, rfl, rfl, rfl, hd, hh, q⟩ := sp3_of h
  clear h
  have e2 : (1 : Int) * 2 ^ ((hg : Int) - (d : Int)).toNat = ((2 ^ (hg - d) : Nat) : Int) := by
    rw [show ((hg : Int) - (d : Int)).toNat = hg - d by omega, Int.one_mul]; simp
  have p0 : 0 < 2 ^ (hg - d) := Nat.pow_pos (by decide)
  refine ⟨G, M, Wk.refl, ⟨by omega, by omega, by decide⟩, ⟨by omega, by omega, by decide⟩, ?_, ret0 ?_⟩
  · show CDivW (l : Int) (1 * 2 ^ ((hg : Int) - (d : Int)).toNat)
    rw [e2]
    have p6 : 2 ^ (hg - d) ≤ 64 := Nat.pow_le_pow_right (n := 2) (by decide) (show hg - d ≤ 6 by omega)
    refine ⟨by omega, ?_⟩
    rw [Int.natAbs_natCast]
    exact Nat.lt_of_le_of_lt (Nat.log2_le_self _) (by omega)
  have e : (1 : Int) * 2 ^ ((d : Int)).toNat - 1 + (l : Int) / (1 * 2 ^ ((hg : Int) - (d : Int)).toNat) = ((nodeN hg d l : Nat) : Int) := by
    unfold nodeN
    rw [e2, Int.toNat_natCast, Int.one_mul]
    have h1 : 1 ≤ 2 ^ d := Nat.one_le_two_pow
    rw [Int.natCast_add, Int.natCast_ediv, Int.natCast_sub h1]
    simp
  show R (.int ((1 : Int) * 2 ^ ((d : Int)).toNat - 1 + (l : Int) / (1 * 2 ^ ((hg : Int) - (d : Int)).toNat))) G M
  rw [e]
  exact q
/-! one ask of the law's tree -/
def NodeG (G : Hp) (v : V) (l : List Nat) : Prop := ∃ b, v = .ref b ∧ G b = some (.lst (natsV l))
theorem NodeG.ex {G' : Hp} {v : V} {l : List Nat} (e : Ex G G') (h : NodeG G v l) : NodeG G' v l := by
  obtain ⟨b, h1, h2⟩ := h; exact ⟨b, h1, e _ _ h2⟩
theorem a2_set {α β : Type} {r : α → β → Prop} : ∀ {as : List α} {bs : List β} (i : Nat) {a : α} {b : β}, A2 r as bs → r a b → A2 r (as.set i a) (bs.set i b)
  | _, _, _, _, _, .nil, _ => .nil
  | _, _, 0, _, _, .cons _ t, h => .cons h t
  | _, _, i + 1, _, _, .cons x t, h => .cons x (a2_set i t h)
theorem nodes_len (h : Nat) (th : Th) : (nodesT h th).length = 2 * 2 ^ h - 1 := by unfold nodesT; rw [List.length_map, List.length_range]
theorem cut_2 (l : List Nat) : cutV (natsV l) none (some 2) = natsV (l.take 2) := by
  rw [show (some (2 : Int)) = some ((2 : Nat) : Int) from rfl, cut_take]; unfold natsV; rw [List.map_take]
theorem flt_app {l : List Nat} {p : Nat → Bool} {k x : Nat} (hk : l[k]? = some x) (hp : p x = true) : natsV ((l.take k).filter p) ++ [.int (x : Nat)] = natsV ((l.take (k + 1)).filter p) := by
  rw [take_succ' hk, List.filter_append, List.filter_cons_of_pos hp]
  exact cells_app _ [x]
theorem flt_same {l : List Nat} {p : Nat → Bool} {k x : Nat} (hk : l[k]? = some x) (hp : p x = false) : natsV ((l.take k).filter p) = natsV ((l.take (k + 1)).filter p) := by
  rw [take_succ' hk, List.filter_append, List.filter_cons_of_neg (by rw [hp]; exact Bool.false_ne_true), List.filter_nil, List.append_nil]
/-- one depth -/
theorem peak_b2 {m dep : Nat} {al bl hl nl hd wl : Addr} {tb : List Nat} {us : List V} {y6 y8 y9 y10 y13 : Option V} {W : List Nat} {leaf k : Nat} {s : Th × HF} {M0 : Mem} {D : Kd} (m1 : m ≤ 32) (hdep : dep ≤ highN m) (hlf : leaf < 2 ^ highN m) (lj : LJ m W tb leaf k s) (htl : tb.length = m)
    (hus : A2 (NodeG G) us (nodesT (highN m) s.1)) (hhd : G hd = some (.lst (natsV (handT m s.2)))) (hwl : G wl = some (.lst (natsV ((List.range (highN m + 1)).map fun d => nodeN (highN m) d leaf))))
    (q : ∀ (G' : Hp) (hd' : Addr) (us' : List V) (y13 : Option V), Ex G G' → A2 (NodeG G') us' (nodesT (highN m) (layD m (highN m) leaf s dep).1) → G' hd' = some (.lst (natsV (handT m (layD m (highN m) leaf s dep).2))) → wk1 (fun σ G M => D.nx σ G M) [some (.int (highN m : Nat)), some (.int m), some (.ref al), some (.ref bl), some (.ref hl), some (.ref nl), y6, some (.ref hd'), y8, y9, y10, some (.ref wl), some (.int dep), y13, none] G' ((hl, .lst (natsV tb)) :: (nl, .lst us') :: M0))
    (hD : ∀ σ G M G' M', Wk G M G' M' → D.nx σ G' M' → D.nx σ G M) :
    rd_law_peak_b2 K D [some (.int (highN m : Nat)), some (.int m), some (.ref al), some (.ref bl), some (.ref hl), some (.ref nl), y6, some (.ref hd), y8, y9, y10, some (.ref wl), some (.int dep), y13, none] G ((hl, .lst (natsV tb)) :: (nl, .lst us) :: M0) := by
  have h5 := high_le5 m m1
  have hhl := hand_len m s.2
  obtain ⟨node, hnode⟩ : ∃ node, node = nodeN (highN m) dep leaf := ⟨_, rfl⟩
  have hnlt : node < 2 * 2 ^ highN m - 1 := by have := node_lt hdep hlf; rw [← hnode] at this; omega
  have hway : ∀ {G' : Hp} {M' : Mem}, Ex G G' → SeqAt' K G' M' wl (natsV ((List.range (highN m + 1)).map fun d => nodeN (highN m) d leaf)) ∧ atI (natsV ((List.range (highN m + 1)).map fun d => nodeN (highN m) d leaf)) (dep : Int) = some (.int (node : Nat)) := fun e => ⟨lst_g (sql_of (e _ _ hwl)), atI_nats (by rw [List.getElem?_map, List.getElem?_range (by omega), hnode]; rfl)⟩
  obtain ⟨L, hL⟩ : ∃ L, L = handT m s.2 := ⟨_, rfl⟩
  rw [← hL] at hhd hhl
  obtain ⟨P, hP⟩ : ∃ P : Nat → Bool, P = fun c => decide (nodeN (highN m) dep (tb.getD c 0) = node) := ⟨_, rfl⟩
  have hfits : fitsN m (highN m) dep node s.2 = (L.filter P).take 2 := by rw [hL, hP]; exact fits_hand lj
  have hlm : ∀ x, x ∈ L → x < m := fun x hx => by rw [hL] at hx; exact (hand_mem.mp hx).1
  -- what fits
  refine ⟨G, _, Wk.refl, natsV L, .inr (sql_of hhd), by rw [show (srcL K hd (natsV L)).n = (natsV L).length from rfl, natsV_len]; exact sz (by omega), fun i acc G' M' => G' = G ∧ M' = (hl, .lst (natsV tb)) :: (nl, .lst us) :: M0 ∧ acc = natsV ((L.take i).filter P), ⟨rfl, rfl, rfl⟩, ?_, ?_, ?_⟩
  · rintro i acc G' M' _ ⟨rfl, rfl, _⟩; exact .inr (sql_of hhd)
  · rintro i acc G' M' X hi _ ⟨hG, hM, rfl⟩ fX
    subst hG
    subst hM
    have hi : i < (natsV L).length := hi
    rw [natsV_len] at hi
    obtain ⟨x, hx⟩ : ∃ x, L[i]? = some x := ⟨_, List.getElem?_eq_getElem hi⟩
    have hxm := hlm x (List.mem_of_getElem? hx)
    refine asg_L (natsV_get hx) ⟨rfl, natsV tb, .int (tb.getD x 0 : Nat), lst_n (n := 1) rfl, atI_natD (by omega), highN m, dep, tb.getD x 0, rfl, rfl, rfl, hdep, by omega, ?_⟩
    obtain ⟨w1, w2⟩ := hway (G' := G') (M' := (X, .lst (natsV ((L.take i).filter P))) :: (hl, .lst (natsV tb)) :: (nl, .lst us) :: M0) Ex.refl
    refine ⟨_, _, w1, w2, ?_⟩
    have hdx : decide (V.int (nodeN (highN m) dep (tb.getD x 0) : Nat) = V.int (node : Nat)) = P x := by
      rw [hP, Bool.eq_iff_iff, decide_eq_true_iff, decide_eq_true_iff]
      exact ⟨fun e => by have := V.int.inj e; omega, fun e => by rw [e]⟩
    show if decide (V.int (nodeN (highN m) dep (tb.getD x 0) : Nat) = V.int (node : Nat)) = true then _ else _
    rw [hdx]
    refine ite2' (fun e => ⟨G', _, Wk.refl, rfl, rfl, flt_app hx e⟩) (fun e => ⟨G', _, Wk.refl, rfl, rfl, flt_same hx e⟩)
  rintro acc G' M' fp ⟨hG, hM, hacc⟩ _ ffp
  subst hG
  subst hM
  have en : (srcL K hd (natsV L)).n = L.length := natsV_len L
  rw [en, List.take_length] at hacc
  subst hacc
  -- it is laid
  have ef := Ex.new (o := .lst (natsV (L.filter P))) ffp
  obtain ⟨G1, hG1⟩ : ∃ g, g = upd G' fp (.lst (natsV (L.filter P))) := ⟨_, rfl⟩
  have hfp : G1 fp = some (.lst (natsV (L.filter P))) := by rw [hG1]; exact upd_same
  rw [← hG1] at ef
  refine ⟨G1, (hl, .lst (natsV tb)) :: (nl, .lst us) :: M0, by rw [hG1]; exact Wk.frz0, natsV (L.filter P), .inr (sql_of hfp), fun sp fsp => ?_⟩
  rw [cut_2]
  obtain ⟨w1, w2⟩ := hway (G' := G1) (M' := (sp, .lst (natsV ((L.filter P).take 2))) :: (hl, .lst (natsV tb)) :: (nl, .lst us) :: M0) ef
  refine ⟨_, _, w1, w2, 2, us, node, rfl, ixN_nat (by rw [hus.len, nodes_len]; exact hnlt), ?_⟩
  have es := Ex.new (o := .lst (natsV ((L.filter P).take 2))) fsp
  obtain ⟨G2, hG2⟩ : ∃ g, g = upd G1 sp (.lst (natsV ((L.filter P).take 2))) := ⟨_, rfl⟩
  have hsp : G2 sp = some (.lst (natsV ((L.filter P).take 2))) := by rw [hG2]; exact upd_same
  rw [← hG2] at es
  have e2 := ef.trans es
  have hus2 : A2 (NodeG G2) (us.set node (.ref sp)) (nodesT (highN m) (layD m (highN m) leaf s dep).1) := by
    rw [lay_nodes hdep hlf lj.len, ← hnode, hfits]
    exact a2_set node (hus.mono fun _ _ z => z.ex e2) ⟨sp, rfl, hsp⟩
  -- what is left in hand
  obtain ⟨Q, hQ⟩ : ∃ Q : Nat → Bool, Q = fun c => decide (c ∉ (L.filter P).take 2) := ⟨_, rfl⟩
  have hhand2 : handT m (layD m (highN m) leaf s dep).2 = L.filter Q := by rw [lay_hand, ← hnode, hfits, hQ, hL]
  have hhd2 := e2 _ _ hhd
  have hfp2 := es _ _ hfp
  refine ⟨G2, (hl, .lst (natsV tb)) :: (nl, .lst (us.set node (.ref sp))) :: M0, by rw [hG2]; exact Wk.frz0, natsV L, .inr (sql_of hhd2), by rw [show (srcL K hd (natsV L)).n = (natsV L).length from rfl, natsV_len]; exact sz (by omega), fun i acc G' M' => G' = G2 ∧ M' = (hl, .lst (natsV tb)) :: (nl, .lst (us.set node (.ref sp))) :: M0 ∧ acc = natsV ((L.take i).filter Q), ⟨rfl, rfl, rfl⟩, ?_, ?_, ?_⟩
  · rintro i acc G' M' _ ⟨rfl, rfl, _⟩; exact .inr (sql_of hhd2)
  · rintro i acc G3 M3 X hi _ ⟨hG, hM, rfl⟩ fX
    subst hG
    subst hM
    have hi : i < (natsV L).length := hi
    rw [natsV_len] at hi
    obtain ⟨x, hx⟩ : ∃ x, L[i]? = some x := ⟨_, List.getElem?_eq_getElem hi⟩
    refine asg_L (natsV_get hx) ⟨rfl, natsV (L.filter P), .inr (sql_of hfp2), fun tp ftp => ?_⟩
    rw [cut_2]
    refine ⟨natsV ((L.filter P).take 2), lst_n (n := 0) rfl, rfl, ?_, ?_⟩
    · refine List.all_eq_true.mpr fun v hv => ?_
      obtain ⟨n, _, rfl⟩ := List.mem_map.mp hv
      rfl
    have hdx : (!inV (.int (x : Nat)) (natsV ((L.filter P).take 2))) = Q x := by
      rw [in_nats, hQ]; simp
    show if (!inV (.int (x : Nat)) (natsV ((L.filter P).take 2))) = true then _ else _
    rw [hdx]
    refine ite2' (fun e => ⟨G3, _, Wk.drop0, rfl, rfl, flt_app hx e⟩) (fun e => ⟨G3, _, Wk.drop0, rfl, rfl, flt_same hx e⟩)
  rintro acc G3 M3 hp ⟨hG, hM, hacc⟩ _ fhp
  subst hG
  subst hM
  have en2 : (srcL K hd (natsV L)).n = L.length := natsV_len L
  rw [en2, List.take_length] at hacc
  subst hacc
  have eh := Ex.new (o := .lst (natsV (L.filter Q))) fhp
  obtain ⟨G4, M4, wk4, z4⟩ := q (upd G3 hp (.lst (natsV (L.filter Q)))) hp _ (some (.ref fp)) (e2.trans eh) (hus2.mono fun _ _ z => z.ex eh) (by rw [hhand2]; exact upd_same)
  exact hD _ _ _ _ _ (Wk.frz0.trans wk4) z4
end
section
variable {K : PySem.W.Frag} {vs : List V} {G : Hp} {M : Mem} {R : KR} {Z : KX}
theorem flat_succ (f : Nat → List Nat) (j : Nat) : (List.range (j + 1)).flatMap f = (List.range j).flatMap f ++ f j := by rw [List.range_succ, List.flatMap_append]; simp
theorem flat_len {f : Nat → List Nat} (h : ∀ d, (f d).length ≤ 2) : ∀ j, ((List.range j).flatMap f).length ≤ 2 * j
  | 0 => Nat.le_refl _
  | j + 1 => by
    rw [flat_succ, List.length_append]
    have := flat_len h j
    have := h j
    omega
def peakSt (K : PySem.W.Frag) (m : Nat) (al bl hl nl : Addr) (s : TrM) (pk : Nat) (M0 : Mem) (σ : St) (G : Hp) (M : Mem) : Prop := ∃ (us : List V) (hd : Addr) (y6 y9 y10 y11 y12 y13 : Option V), σ = [some (.int (highN m : Nat)), some (.int m), some (.ref al), some (.ref bl), some (.ref hl), some (.ref nl), y6, some (.ref hd), some (.int (pk : Nat)), y9, y10, y11, y12, y13, none] ∧ M = (hl, .lst (natsV s.tb)) :: (nl, .lst us) :: M0 ∧ A2 (NodeG G) us (nodesT (highN m) s.th) ∧ G hd = some (.lst (natsV (handT m s.f)))
/-- one ask -/
theorem peak_b0 {m i fresh pk : Nat} {al bl hl nl hd T : Addr} {us : List V} {drs : List Nat} {d : Deed} {y6 y11 y12 y13 : Option V} {W : List Nat} {s : TrM} {M0 : Mem} {D : Kd} (m1 : m ≤ 32) (ti : TI m W s) (hc : d.cell < m) (hT : SqT K G T d.vs) (hbl : LstAt K G M0 bl (natsV drs)) (hfr : drs[m + i]? = some fresh)
    (hus : A2 (NodeG G) us (nodesT (highN m) s.th)) (hhd : G hd = some (.lst (natsV (handT m s.f))))
    (q : ∀ (G' : Hp) (σ : St) (M' : Mem), Ex G G' → peakSt K m al bl hl nl (trAsk m d fresh s) (max pk (handT m (trAsk m d fresh s).f).length) M0 σ G' M' → D.nx σ G' M') (hD : ∀ σ G M G' M', Wk G M G' M' → D.nx σ G' M' → D.nx σ G M) :
    rd_law_peak_b0 K D [some (.int (highN m : Nat)), some (.int m), some (.ref al), some (.ref bl), some (.ref hl), some (.ref nl), y6, some (.ref hd), some (.int (pk : Nat)), some (.int (i : Nat)), some (.ref T), y11, y12, y13, none] G ((hl, .lst (natsV s.tb)) :: (nl, .lst us) :: M0) := by
  have h5 := high_le5 m m1
  obtain ⟨leaf, hleaf⟩ : ∃ leaf, leaf = s.tb.getD d.cell 0 := ⟨_, rfl⟩
  obtain ⟨j0, hlf⟩ := ask_j0 (fresh := fresh) ti hc
  rw [← hleaf] at j0 hlf
  have htl := ti.tl
  have hul : us.length = 2 * 2 ^ highN m - 1 := by rw [hus.len, nodes_len]
  have hdd : ∀ {G' : Hp} {M' : Mem}, Ex G G' → SeqAt' K G' M' T d.vs ∧ atI d.vs 1 = some (.int (d.cell : Int)) := fun e => deed_1 (ex_t e hT)
  -- the way
  refine ⟨G, _, Wk.refl, ⟨by omega, by omega⟩, sz (by show ((highN m : Nat) + 1 : Int).toNat ≤ _; omega), fun j acc G' M' => G' = G ∧ M' = (hl, .lst (natsV s.tb)) :: (nl, .lst us) :: M0 ∧ acc = natsV ((List.range j).map fun dep => nodeN (highN m) dep leaf), ⟨rfl, rfl, rfl⟩, fun _ _ _ _ _ _ => trivial, ?_, ?_⟩
  · rintro j acc G' M' X hj _ ⟨hG, hM, rfl⟩ fX
    subst hG
    subst hM
    have hj : j < ((highN m : Nat) + 1 : Int).toNat := hj
    obtain ⟨t1, q1⟩ := hdd (M' := (X, .lst (natsV ((List.range j).map fun dep => nodeN (highN m) dep leaf))) :: (hl, .lst (natsV s.tb)) :: (nl, .lst us) :: M0) Ex.refl
    refine asg_R (v := (j : Int)) (by omega) ⟨rfl, _, _, t1, q1, natsV s.tb, .int (s.tb.getD d.cell 0 : Nat), lst_n (n := 1) rfl, atI_natD (by omega), highN m, j, leaf, rfl, rfl, by rw [hleaf], by omega, by omega, G', _, Wk.refl, rfl, rfl, ?_⟩
    rw [List.range_succ, List.map_append]
    exact cells_app _ [_]
  rintro acc G' M' wl ⟨hG, hM, hacc⟩ _ fwl
  subst hG
  subst hM
  have en : (srcR 0 ((highN m : Nat) + 1 : Int).toNat).n = highN m + 1 := by show ((highN m : Nat) + 1 : Int).toNat = _; omega
  rw [en] at hacc
  subst hacc
  have ew := Ex.new (o := .lst (natsV ((List.range (highN m + 1)).map fun dep => nodeN (highN m) dep leaf))) fwl
  obtain ⟨G1, hG1⟩ : ∃ g, g = upd G' wl (.lst (natsV ((List.range (highN m + 1)).map fun dep => nodeN (highN m) dep leaf))) := ⟨_, rfl⟩
  have hwl : G1 wl = some (.lst (natsV ((List.range (highN m + 1)).map fun dep => nodeN (highN m) dep leaf))) := by rw [hG1]; exact upd_same
  rw [← hG1] at ew
  -- the cell's new leaf
  obtain ⟨t1, q1⟩ := hdd (M' := (hl, .lst (natsV s.tb)) :: (nl, .lst us) :: M0) ew
  refine ⟨G1, (hl, .lst (natsV s.tb)) :: (nl, .lst us) :: M0, by rw [hG1]; exact Wk.frz0, natsV drs, .int (fresh : Nat), .inl (lat_cons (lat_cons (lat_ex ew hbl))), ?_, _, _, t1, q1, 0, natsV s.tb, d.cell, rfl, ixN_nat (by rw [natsV_len]; omega), ?_⟩
  · rw [show ((m : Int) + (i : Int)) = ((m + i : Nat) : Int) by omega]; exact atI_nats hfr
  rw [natsV_set]
  show kSeq _ _ _ _ G1 ((hl, HO.lst (natsV (s.tb.set d.cell fresh))) :: (nl, .lst us) :: M0)
  have hus1 : A2 (NodeG G1) us (nodesT (highN m) s.th) := hus.mono fun _ _ z => z.ex ew
  -- what lies on the way
  obtain ⟨fl, hfl⟩ : ∃ fl : Nat → List Nat, fl = fun dep => cellsT s.th (nodeN (highN m) dep leaf) := ⟨_, rfl⟩
  have hfl2 : ∀ dep, (fl dep).length ≤ 2 := fun dep => by rw [hfl]; exact cells_len _ _
  have hh0 := hand_len m s.f
  refine ⟨G1, _, Wk.refl, _, .inr (sql_of hwl), fun j σ G' M' => ∃ (y6 : Option V) (hj : Addr), σ = [some (.int (highN m : Nat)), some (.int m), some (.ref al), some (.ref bl), some (.ref hl), some (.ref nl), y6, some (.ref hj), some (.int (pk : Nat)), some (.int (i : Nat)), some (.ref T), some (.ref wl), y12, y13, none] ∧ Ex G1 G' ∧ M' = (hl, .lst (natsV (s.tb.set d.cell fresh))) :: (nl, .lst us) :: M0 ∧ G' hj = some (.lst (natsV (handT m s.f ++ (List.range j).flatMap fl))), ⟨_, hd, rfl, Ex.refl, rfl, by rw [List.range_zero, List.flatMap_nil, List.append_nil]; exact ew _ _ hhd⟩, ?_, ?_, ?_⟩
  · rintro j σ G' M' _ ⟨y6, hj, rfl, ex, rfl, _⟩; exact .inr (sql_of (ex _ _ hwl))
  · rintro j σ G' M' hjl ⟨y6, hj, rfl, ex, rfl, hhj⟩
    have hjl : j < (natsV ((List.range (highN m + 1)).map fun dep => nodeN (highN m) dep leaf)).length := hjl
    rw [natsV_len, List.length_map, List.length_range] at hjl
    have hnl := node_lt (d := j) (high := highN m) (by omega) hlf
    have hnd : (nodesT (highN m) s.th)[nodeN (highN m) j leaf]? = some (fl j) := by
      unfold nodesT
      rw [List.getElem?_map, List.getElem?_range (by omega), hfl]; rfl
    obtain ⟨v, hv, b, rfl, hb⟩ := (hus1.mono fun _ _ z => z.ex ex).get hnd
    refine asg_L (natsV_get (v := nodeN (highN m) j leaf) (by rw [List.getElem?_map, List.getElem?_range (by omega)]; rfl)) ?_
    refine ⟨G', _, Wk.refl, us, .ref b, lst_n (n := 1) rfl, atI_nat hv, _, _, .inr hhj, .inr hb, ?_, fun p fp => ?_⟩
    · rw [natsV_len, natsV_len, List.length_append]
      have := flat_len hfl2 j
      have := hfl2 j
      exact sz (by omega)
    have ep := Ex.new (o := .lst (natsV (handT m s.f ++ (List.range j).flatMap fl) ++ natsV (fl j))) fp
    refine ⟨upd G' p (.lst (natsV (handT m s.f ++ (List.range j).flatMap fl) ++ natsV (fl j))), _, Wk.frz0, _, p, rfl, ex.trans ep, rfl, ?_⟩
    rw [upd_same, cells_app, flat_succ, List.append_assoc]
  rintro σ G2 M2 ⟨y6, hj, rfl, e2, rfl, hhj⟩
  have enw : (srcL K wl (natsV ((List.range (highN m + 1)).map fun dep => nodeN (highN m) dep leaf))).n = highN m + 1 := by
    show (natsV _).length = _
    rw [natsV_len, List.length_map, List.length_range]
  rw [enw] at hhj
  have e12 := ew.trans e2
  -- sorted, each once
  obtain ⟨L, hL⟩ : ∃ L, L = handT m s.f ++ (List.range (highN m + 1)).flatMap fl := ⟨_, rfl⟩
  rw [← hL] at hhj
  have hLl : L.length ≤ 50 := by
    rw [hL, List.length_append]
    have := flat_len hfl2 (highN m + 1)
    omega
  obtain ⟨t2, q2⟩ := hdd (M' := (hl, .lst (natsV (s.tb.set d.cell fresh))) :: (nl, .lst us) :: M0) e12
  refine ⟨G2, _, Wk.refl, _, _, t2, q2, sz1, fun c1 fc1 => ⟨_, _, .inr hhj, .inl List.mem_cons_self, by rw [natsV_len, List.length_singleton]; exact sz (by omega), fun c2 fc2 => ⟨(L ++ [d.cell]).map fun n : Nat => (n : Int), ?_, by rw [List.length_map, List.length_append, List.length_singleton]; omega, fun p ms fp hms hmem _ => ?_⟩⟩⟩
  · rw [List.map_map]
    have : natsV L ++ [V.int (d.cell : Int)] = (L ++ [d.cell]).map (V.int ∘ fun n : Nat => (n : Int)) := by rw [List.map_append]; rfl
    rw [← this]; exact lat_0
  have hms2 : ms = (handT m (trKeep m d fresh s)).map fun n : Nat => (n : Int) := by
    refine lt_ext74 hms (hand_lt _ _) fun z => ?_
    rw [hmem, List.mem_map, List.mem_map]
    have key : ∀ x : Nat, x ∈ L ++ [d.cell] ↔ x ∈ handT m (trKeep m d fresh s) := fun x => by
      rw [look_hand ti hc, ← hleaf, hL, List.mem_append, List.mem_append, List.mem_singleton, List.mem_flatMap, hfl]
      refine ⟨fun h => ?_, fun h => ?_⟩
      · rcases h with (h | ⟨dep, h1, h2⟩) | h
        · exact .inl h
        · exact .inr (.inl ⟨dep, List.mem_range.mp h1, h2⟩)
        · exact .inr (.inr h)
      · rcases h with h | ⟨dep, h1, h2⟩ | h
        · exact .inl (.inl h)
        · exact .inl (.inr ⟨dep, List.mem_range.mpr h1, h2⟩)
        · exact .inr h
    exact ⟨fun ⟨x, h1, h2⟩ => ⟨x, (key x).mp h1, h2⟩, fun ⟨x, h1, h2⟩ => ⟨x, (key x).mpr h1, h2⟩⟩
  have hmv : ms.map V.int = natsV (handT m (trKeep m d fresh s)) := by rw [hms2, List.map_map]; rfl
  rw [hmv]
  have ep := Ex.new (o := .lst (natsV (handT m (trKeep m d fresh s)))) fp
  obtain ⟨G3, hG3⟩ : ∃ g, g = upd G2 p (.lst (natsV (handT m (trKeep m d fresh s)))) := ⟨_, rfl⟩
  have hp3 : G3 p = some (.lst (natsV (handT m (trKeep m d fresh s)))) := by rw [hG3]; exact upd_same
  rw [← hG3] at ep
  have hwl3 := ep _ _ (e2 _ _ hwl)
  -- it is laid, from the leaf up
  obtain ⟨tb', htb'⟩ : ∃ tb', tb' = s.tb.set d.cell fresh := ⟨_, rfl⟩
  have htl' : tb'.length = m := by rw [htb', List.length_set]; exact htl
  rw [← htb'] at j0 ⊢
  have e13 := e12.trans ep
  obtain ⟨N, hN⟩ : ∃ N : Nat, N = highN m + 1 := ⟨_, rfl⟩
  have hrg : RgC (highN m : Nat) (-1) (-1) N := by
    have := rg_down (i := (highN m : Nat)) (j := -1) (by omega) (by omega) (by omega) (by omega)
    rw [show ((highN m : Nat) - (-1) : Int).toNat = N by omega] at this
    exact this
  refine ⟨G3, (hl, .lst (natsV tb')) :: (nl, .lst us) :: M0, by rw [hG3]; exact Wk.frz0.trans (Wk.drop0.trans Wk.drop0), N, hrg, fun j σ G' M' => ∃ (us : List V) (hj : Addr) (y12 y13 : Option V), σ = [some (.int (highN m : Nat)), some (.int m), some (.ref al), some (.ref bl), some (.ref hl), some (.ref nl), y6, some (.ref hj), some (.int (pk : Nat)), some (.int (i : Nat)), some (.ref T), some (.ref wl), y12, y13, none] ∧ Ex G3 G' ∧ M' = (hl, .lst (natsV tb')) :: (nl, .lst us) :: M0 ∧ A2 (NodeG G') us (nodesT (highN m) (layW m (highN m) leaf (s.th, trKeep m d fresh s) j).1) ∧ G' hj = some (.lst (natsV (handT m (layW m (highN m) leaf (s.th, trKeep m d fresh s) j).2))), ⟨us, p, _, _, rfl, Ex.refl, rfl, hus.mono fun _ _ z => z.ex e13, hp3⟩, fun _ _ _ _ _ _ => trivial, ?_, ?_⟩
  · rintro j σ G' M' hjl ⟨us, hj, y12, y13, rfl, ex, rfl, hu, hh⟩
    have hjl : j < N := hjl
    refine asg_C (v := ((highN m - j : Nat) : Int)) (by omega) ?_
    have lj := layW_lj hlf j0 j (by omega)
    refine peak_b2 (leaf := leaf) (k := j) (s := layW m (highN m) leaf (s.th, trKeep m d fresh s) j) m1 (by omega) hlf lj htl' hu hh (ex _ _ hwl3) (fun G4 hd4 us4 y13 e4 hu4 hh4 => ?_) (fun σ G M G' M' wk ⟨G2, M2, wk2, z⟩ => ⟨G2, M2, wk.trans wk2, z⟩)
    refine ⟨G4, _, Wk.refl, G4, _, Wk.refl, us4, hd4, _, _, rfl, ex.trans e4, rfl, ?_, ?_⟩
    · rw [layW_succ]; exact hu4
    · rw [layW_succ]; exact hh4
  · rintro σ G' M' ⟨us, hj, y12, y13, rfl, ex, rfl, hu, hh⟩
    have hN2 : (srcC (highN m : Nat) (-1) N).n = highN m + 1 := hN
    rw [hN2] at hu hh
    refine ⟨G', _, Wk.refl, _, lst_g (sql_of hh), ?_⟩
    have e5 : max (pk : Int) ((natsV (handT m (layW m (highN m) leaf (s.th, trKeep m d fresh s) (highN m + 1)).2)).length : Int) = ((max pk (handT m (trAsk m d fresh s).f).length : Nat) : Int) := by
      rw [natsV_len, hleaf]
      show max (pk : Int) ((handT m (trAsk m d fresh s).f).length : Int) = _
      omega
    have q2 := q G' [some (.int (highN m : Nat)), some (.int m), some (.ref al), some (.ref bl), some (.ref hl), some (.ref nl), y6, some (.ref hj), some (.int ((max pk (handT m (trAsk m d fresh s).f).length : Nat) : Int)), some (.int (i : Nat)), some (.ref T), some (.ref wl), y12, y13, none] ((hl, .lst (natsV tb')) :: (nl, .lst us) :: M0) (e13.trans ex) ⟨us, hj, y6, _, _, _, y12, y13, rfl, by rw [htb']; rfl, by rw [hleaf] at hu; exact hu, by rw [hleaf] at hh; exact hh⟩
    rw [← e5] at q2
    exact q2
end
section
variable {K : PySem.W.Frag} {vs : List V} {G : Hp} {M : Mem} {R : KR} {Z : KX}
theorem nodes_first (m : Nat) (drs : List Nat) : nodesT (highN m) (trFirst m drs).th = List.replicate (2 * 2 ^ highN m - 1) [] := by
  have h : ∀ n, cellsT (trFirst m drs).th n = [] := fun n => by
    have g : ∀ r, (List.replicate (2 * (2 * 2 ^ highN m - 1)) (none : Option (Nat × Nat × Nat))).getD r none = none := fun r => by
      rw [List.getD_eq_getElem?_getD, List.getElem?_replicate]; split <;> rfl
    unfold cellsT
    show ((List.replicate (2 * (2 * 2 ^ highN m - 1)) (none : Option (Nat × Nat × Nat))).getD (2 * n) none |>.map (·.1)).toList ++ _ = _
    rw [g]
    show _ ++ ((List.replicate (2 * (2 * 2 ^ highN m - 1)) (none : Option (Nat × Nat × Nat))).getD (2 * n + 1) none |>.map (·.1)).toList = _
    rw [g]; rfl
  unfold nodesT
  apply List.ext_getElem?
  intro i
  rw [List.getElem?_map, List.getElem?_replicate]
  by_cases z : i < 2 * 2 ^ highN m - 1
  · rw [List.getElem?_range z, if_pos z]; exact congrArg some (h i)
  · rw [List.getElem?_eq_none (by rw [List.length_range]; omega), if_neg z]; rfl
theorem handT_first (m : Nat) (drs : List Nat) : handT m (trFirst m drs).f = [] := by
  unfold handT
  rw [List.filter_eq_nil_iff]
  exact fun _ _ z => nomatch z
theorem pf_law_peak (h : S_law_peak K vs G M R Z) : rd_law_peak K (ends R Z) (sta 15 vs) G M := by
  obtain ⟨_, _, _, _, rfl, m, ds, bl, drs, rfl, ⟨rfl, m0, m1⟩, ⟨al, av, rfl, hal, had⟩, hok, rfl, hb, hdl, hlow, q⟩ := sp4_of h
  clear h
  have hav := had.len
  have h60 := hok.2
  have h5 := high_le5 m m1
  have hd0 : ∀ i, i < ds.length → drs[m + i]? = some (drs.getD (m + i) 0) := fun i hi => by
    obtain ⟨x, hx⟩ : ∃ x, drs[m + i]? = some x := ⟨_, List.getElem?_eq_getElem (by omega)⟩
    rw [List.getD_eq_getElem?_getD, hx]; rfl
  refine ⟨G, M, Wk.refl, natsV drs, hb, fun s1 f1 => ⟨_, seq_0, fun hl fhl => ?_⟩⟩
  have et : cutV (natsV drs) none (some (m : Int)) = natsV (drs.take m) := by rw [cut_take]; unfold natsV; rw [List.map_take]
  rw [et]
  obtain ⟨p6, hp6⟩ : ∃ p6, p6 = 2 ^ highN m := ⟨_, rfl⟩
  have hp64 : p6 ≤ 32 := by rw [hp6]; exact Nat.pow_le_pow_right (n := 2) (by decide) h5
  have hp1 : 1 ≤ p6 := by rw [hp6]; exact Nat.one_le_two_pow
  have e2 : (2 : Int) * 2 ^ ((highN m : Nat) : Int).toNat - 1 = ((2 * p6 - 1 : Nat) : Int) := by
    have : (2 : Int) ^ highN m = ((2 ^ highN m : Nat) : Int) := by simp
    rw [Int.toNat_natCast, this, ← hp6]; omega
  have en : (srcR 0 ((2 : Int) * 2 ^ ((highN m : Nat) : Int).toNat - 1).toNat).n = 2 * p6 - 1 := by
    show ((2 : Int) * 2 ^ ((highN m : Nat) : Int).toNat - 1).toNat = _
    rw [e2]; omega
  refine ⟨G, (hl, .lst (natsV (drs.take m))) :: M, Wk.drop1, ⟨by omega, by omega, by decide⟩, ⟨by rw [e2]; omega, by rw [e2]; omega⟩, sz (by rw [en]; omega), fun i acc G' M' => Ex G G' ∧ M' = (hl, .lst (natsV (drs.take m))) :: M ∧ A2 (NodeG G') acc (List.replicate i []), ⟨Ex.refl, rfl, .nil⟩, fun _ _ _ _ _ _ => trivial, ?_, ?_⟩
  · rintro i acc G' M' X hi _ ⟨ex, rfl, ha⟩ fX
    refine asg_R (v := (i : Int)) (by omega) ⟨rfl, sz0, fun p fp => ?_⟩
    have ep := Ex.new (o := .lst []) fp
    refine ⟨upd G' p (.lst []), (hl, .lst (natsV (drs.take m))) :: M, Wk.frz0, ex.trans ep, rfl, ?_⟩
    rw [List.replicate_succ']
    exact (ha.mono fun _ _ z => z.ex ep).app (.cons ⟨p, rfl, upd_same⟩ .nil)
  rintro acc G' M' nl ⟨ex, rfl, ha⟩ _ fnl
  rw [en] at ha
  have hus : A2 (NodeG G') acc (nodesT (highN m) (trFirst m drs).th) := by rw [nodes_first, ← hp6]; exact ha
  refine ⟨G', (hl, .lst (natsV (drs.take m))) :: (nl, .lst acc) :: M, Wk.swap, sz0, fun hd fhd => ?_⟩
  have ed := Ex.new (o := .lst []) fhd
  obtain ⟨G1, hG1⟩ : ∃ g, g = upd G' hd (.lst []) := ⟨_, rfl⟩
  have hhd : G1 hd = some (.lst (natsV (handT m (trFirst m drs).f))) := by rw [hG1, handT_first]; exact upd_same
  rw [← hG1] at ed
  have ex1 := ex.trans ed
  refine ⟨G1, (hl, .lst (natsV (drs.take m))) :: (nl, .lst acc) :: M, by rw [hG1]; exact Wk.frz0, ?_⟩
  refine ⟨G1, _, Wk.refl, av, (.inr (ex_l ex1 hal)), fun i σ G' M' => Ex G1 G' ∧ peakSt K m al bl hl nl (trS m drs (ds.take i)) (pkG m drs ds i) M σ G' M', ⟨Ex.refl, acc, hd, _, _, _, _, _, _, rfl, rfl, hus.mono fun _ _ z => z.ex ed, hhd⟩, fun i σ G' M' _ z => (.inr (ex_l (ex1.trans z.1) hal)), ?_, ?_⟩
  · rintro i σ G' M' hi ⟨ex, us, hd', y6, y9, y10, y11, y12, y13, rfl, rfl, hu, hh⟩
    have hi : i < av.length := hi
    obtain ⟨d, hdi⟩ : ∃ d, ds[i]? = some d := ⟨_, List.getElem?_eq_getElem (by omega)⟩
    obtain ⟨v, hv, T, rfl, hT⟩ := had.get hdi
    have hil : (ds.take i).length = i := by rw [List.length_take]; omega
    have ti := ti_all (lim := ds.length) hdl hlow (ds.take i) (fun d hd => hok.1 d (List.mem_of_mem_take hd)) (by omega)
    refine asg_E hv ?_
    refine peak_b0 m1 ti (hok.1 d (List.mem_of_getElem? hdi)).1 (ex_t (ex1.trans ex) hT) (lat_ex (ex1.trans ex) hb) (hd0 i (by omega)) hu hh (fun G4 σ M4 e4 z => ?_) (fun σ G M G' M' wk ⟨G2, M2, wk2, z⟩ => ⟨G2, M2, wk.trans wk2, z⟩)
    have es : trS m drs (ds.take (i + 1)) = trAsk m d (drs.getD (m + i) 0) (trS m drs (ds.take i)) := by rw [take_succ' hdi, trS_snoc, hil]
    have ep : max (pkG m drs ds i) (handT m (trAsk m d (drs.getD (m + i) 0) (trS m drs (ds.take i))).f).length = pkG m drs ds (i + 1) := by rw [pkG_succ, ← es]; rfl
    rw [← es, es, ep] at z
    rw [← es] at z
    exact ⟨G4, M4, Wk.refl, ex.trans e4, z⟩
  · rintro σ G' M' ⟨ex, us, hd', y6, y9, y10, y11, y12, y13, rfl, rfl, hu, hh⟩
    have q := q G' (ex1.trans ex)
    have e1 : peakF m drs ds = pkG m drs ds av.length := by rw [hav]; rfl
    rw [e1] at q
    exact ⟨G', M, Wk.drop0.trans Wk.drop0, ret0 q⟩
end
section
variable {K : PySem.W.Frag} {vs : List V} {G : Hp} {M : Mem} {R : KR} {Z : KX}
theorem rows_ok {h : Nat} : ∀ {n : Nat} {r : List Nat}, r ∈ rowsL h n → r.length = n ∧ LowN h r
  | 0, r, z => by
    obtain rfl := List.mem_singleton.mp z
    exact ⟨rfl, fun _ w => nomatch w⟩
  | n + 1, r, z => by
    obtain ⟨r0, h0, z⟩ := List.mem_flatMap.mp z
    obtain ⟨x, hx, rfl⟩ := List.mem_map.mp z
    obtain ⟨a, b⟩ := rows_ok h0
    refine ⟨by rw [List.length_append, a]; rfl, fun y hy => ?_⟩
    rcases List.mem_append.mp hy with hy | hy
    · exact b y hy
    · obtain rfl := List.mem_singleton.mp hy
      exact List.mem_range.mp hx
def rowX (h : Nat) (r : List Nat) : List (List Nat) := (List.range (2 ^ h)).map fun x => r ++ [x]
theorem take_flat (f : List Nat → List (List Nat)) (l : List (List Nat)) (j : Nat) : ((l.take j).flatMap f).length ≤ (l.flatMap f).length := by
  have e : l.flatMap f = (l.take j).flatMap f ++ (l.drop j).flatMap f := by rw [← List.flatMap_append, List.take_append_drop]
  rw [e, List.length_append]; omega
theorem pf_law_rows (h : S_law_rows K vs G M R Z) : rd_law_rows K (ends R Z) (sta 7 vs) G M := by
  obtain ⟨_, _, rfl, hg, n, rfl, rfl, hh, hn, hb, q⟩ := sp2_of h
  clear h
  have e2 : (1 : Int) * 2 ^ ((hg : Nat) : Int).toNat = ((2 ^ hg : Nat) : Int) := by rw [Int.toNat_natCast, Int.one_mul]; simp
  have p6 : 2 ^ hg ≤ 64 := Nat.pow_le_pow_right (n := 2) (by decide) (show hg ≤ 6 by omega)
  refine ⟨G, M, Wk.refl, sz0, fun p0 f0 => ⟨sz1, fun f ff => ?_⟩⟩
  have e0 := Ex.new (o := .lst []) f0
  have ff' := ff
  obtain ⟨G1, hG1⟩ : ∃ g, g = upd G p0 (.lst []) := ⟨_, rfl⟩
  have hp0 : G1 p0 = some (.lst (natsV [])) := by rw [hG1]; exact upd_same
  rw [← hG1] at e0
  refine ⟨G1, (f, .lst [.ref p0]) :: M, by rw [hG1]; exact Wk.swap.trans Wk.frz0, ?_⟩
  refine ⟨⟨by omega, by omega⟩, fun i σ G' M' => ∃ (f : Addr) (us : List V) (y3 y4 y5 y6 : Option V), σ = [some (.int hg), some (.int n), some (.ref f), y3, y4, y5, y6] ∧ Ex G G' ∧ M' = (f, .lst us) :: M ∧ A2 (NodeG G') us (rowsL hg i), ⟨f, [.ref p0], _, _, _, _, rfl, e0, rfl, .cons ⟨p0, rfl, hp0⟩ .nil⟩, fun _ _ _ _ _ _ => trivial, ?_, ?_⟩
  · rintro i σ G' M' hi ⟨f, us, y3, y4, y5, y6, rfl, ex, rfl, hus⟩
    have hi : i < ((n : Nat) : Int).toNat := hi
    have hui := hus.len
    refine asg_R (v := (i : Int)) (by omega) ?_
    refine ⟨G', _, Wk.refl, sz0, fun mo fmo => ?_⟩
    refine ⟨G', _, Wk.refl, us, lat_n (n := 1) rfl, fun j σ G2 M2 => ∃ (mo : Addr) (ws : List V) (y5 y6 : Option V), σ = [some (.int hg), some (.int n), some (.ref f), some (.int (i : Int)), some (.ref mo), y5, y6] ∧ Ex G' G2 ∧ M2 = (mo, .lst ws) :: (f, .lst us) :: M ∧ A2 (NodeG G2) ws (((rowsL hg i).take j).flatMap (rowX hg)), ⟨mo, [], _, _, rfl, Ex.refl, rfl, by rw [List.take_zero]; exact .nil⟩, ?_, ?_, ?_⟩
    · rintro j σ G2 M2 _ ⟨mo, ws, y5, y6, rfl, ex2, rfl, hws⟩; exact lat_n (n := 1) rfl
    · rintro j σ G2 M2 hj ⟨mo, ws, y5, y6, rfl, ex2, rfl, hws⟩
      have hj : j < us.length := hj
      obtain ⟨r, hr⟩ : ∃ r, (rowsL hg i)[j]? = some r := ⟨_, List.getElem?_eq_getElem (by omega)⟩
      obtain ⟨v, hv, rb, rfl, hrb⟩ := hus.get hr
      have hrl := (rows_ok (List.mem_of_getElem? hr)).1
      have en : (srcR 0 ((1 : Int) * 2 ^ ((hg : Nat) : Int).toNat).toNat).n = 2 ^ hg := by
        show ((1 : Int) * 2 ^ ((hg : Nat) : Int).toNat).toNat = _
        rw [e2, Int.toNat_natCast]
      refine asg_L hv ?_
      refine ⟨G2, _, Wk.refl, ⟨by omega, by omega, by decide⟩, ⟨by rw [e2]; omega, by rw [e2]; omega⟩, sz (by rw [en]; omega), fun k acc G3 M3 => Ex G2 G3 ∧ M3 = (mo, .lst ws) :: (f, .lst us) :: M ∧ A2 (NodeG G3) acc ((List.range k).map fun x => r ++ [x]), ⟨Ex.refl, rfl, .nil⟩, fun _ _ _ _ _ _ => trivial, ?_, ?_⟩
      · rintro k acc G3 M3 X hk _ ⟨ex3, rfl, hac⟩ fX
        refine asg_R (v := (k : Int)) (by omega) ⟨rfl, sz1, fun t ft => ⟨natsV r, [.int (k : Int)], .inr ((ex2.trans ex3) _ _ hrb), .inl List.mem_cons_self, ?_, fun p fp => ?_⟩⟩
        · rw [natsV_len, hrl]; exact sz (by show _ + 1 ≤ _; omega)
        have ep := Ex.new (o := .lst (natsV r ++ [.int (k : Int)])) fp
        refine ⟨upd G3 p (.lst (natsV r ++ [.int (k : Int)])), (mo, .lst ws) :: (f, .lst us) :: M, Wk.frz0.trans Wk.drop0, ex3.trans ep, rfl, ?_⟩
        rw [List.range_succ, List.map_append]
        exact (hac.mono fun _ _ z => z.ex ep).app (.cons ⟨p, rfl, by rw [upd_same]; exact congrArg (fun z => some (HO.lst z)) (cells_app r [k])⟩ .nil)
      rintro acc G3 M3 c ⟨ex3, rfl, hac⟩ _ fc
      rw [en] at hac
      have hws3 : A2 (NodeG G3) (ws ++ acc) (((rowsL hg i).take (j + 1)).flatMap (rowX hg)) := by
        rw [take_succ' hr, List.flatMap_append]
        refine (hws.mono fun _ _ z => z.ex ex3).app ?_
        rw [List.flatMap_cons, List.flatMap_nil, List.append_nil]
        exact hac
      have hb1 := hb (i + 1) (by omega)
      have hb2 : (((rowsL hg i).take (j + 1)).flatMap (rowX hg)).length ≤ 1000 := Nat.le_trans (take_flat _ _ _) hb1
      refine ⟨ws, acc, .inl (List.mem_cons_of_mem _ List.mem_cons_self), .inl List.mem_cons_self, ?_, fun p fp => ?_⟩
      · have := hws3.len
        rw [List.length_append] at this
        exact sz (by omega)
      exact ⟨G3, (p, .lst (ws ++ acc)) :: (f, .lst us) :: M, Wk.drop1.trans Wk.drop1, p, ws ++ acc, _, _, rfl, ex2.trans ex3, rfl, hws3⟩
    · rintro σ G2 M2 ⟨mo, ws, y5, y6, rfl, ex2, rfl, hws⟩
      have en : (srcL K f us).n = (rowsL hg i).length := hui
      rw [en, List.take_length] at hws
      exact ⟨G2, _, Wk.refl, G2, (mo, .lst ws) :: M, Wk.drop1, mo, ws, _, _, _, _, rfl, ex.trans ex2, rfl, hws⟩
  · rintro σ G' M' ⟨f, us, y3, y4, y5, y6, rfl, ex, rfl, hus⟩
    have en : (srcR 0 ((n : Nat) : Int).toNat).n = n := by show ((n : Nat) : Int).toNat = _; omega
    rw [en] at hus
    exact ⟨G', _, Wk.refl, ret0 (q f us G' ex hus)⟩
end
section
variable {K : PySem.W.Frag} {vs : List V} {G : Hp} {M : Mem} {R : KR} {Z : KX}
def highL (m i : Nat) : List Nat := (List.range i).filter fun k => decide (2 ^ k < m)
theorem highL_succ (m i : Nat) : highL m (i + 1) = highL m i ++ if decide (2 ^ i < m) = true then [i] else [] := by
  unfold highL
  rw [List.range_succ, List.filter_append]
  congr 1
  rw [List.filter_cons]
  split <;> rfl
theorem high_one {m i : Nat} : decide ((1 : Int) * 2 ^ ((0 : Int) + (i : Int)).toNat < (m : Int)) = decide (2 ^ i < m) := by
  rw [show ((0 : Int) + (i : Int)).toNat = i by omega, Int.one_mul]
  refine decide_eq_decide.mpr ?_
  have : ((2 ^ i : Nat) : Int) = (2 : Int) ^ i := by simp
  rw [← this]; omega
theorem pf_law_due (h : S_law_due K vs G M R Z) : rd_law_due K (ends R Z) (sta 8 vs) G M := by
  obtain ⟨_, _, _, rfl, m, ds, b, fs, ⟨rfl, m0, m1⟩, ⟨al, av, rfl, hal, had⟩, hok, rfl, hb, hfl, hlow, hN, q⟩ := sp3_of h
  clear h
  have hav := had.len
  have h60 := hok.2
  have h5 := high_le5 m m1
  refine ⟨G, M, Wk.refl, by decide, sz (by decide), fun i acc G' M' => G' = G ∧ M' = M ∧ acc = natsV (highL m i), ⟨rfl, rfl, rfl⟩, fun _ _ _ _ _ _ => trivial, ?_, ?_⟩
  · rintro i acc G' M' D hi _ ⟨hG, hM, rfl⟩ fD
    subst hG
    subst hM
    have hi : i < 6 := hi
    refine ⟨rfl, ⟨by omega, by omega, by decide⟩, ?_⟩
    show if decide ((1 : Int) * 2 ^ ((0 : Int) + (i : Int)).toNat < (m : Int)) = true then _ else _
    rw [high_one]
    refine ite2' (fun e => ⟨_, _, Wk.refl, rfl, rfl, ?_⟩) (fun e => ⟨_, _, Wk.refl, rfl, rfl, ?_⟩)
    · rw [highL_succ, if_pos e]
      show _ ++ [V.int ((0 : Int) + (i : Int))] = _
      rw [show (0 : Int) + (i : Int) = (i : Int) by omega]; exact cells_app _ [i]
    · rw [highL_succ, if_neg (by rw [e]; decide), List.append_nil]
  rintro acc G' M' w ⟨hG, hM, hacc⟩ _ fw
  subst hG
  subst hM
  subst hacc
  refine ⟨_, seq_0, ?_⟩
  have eh : (natsV (highL m 6)).length = highN m := by rw [natsV_len]; rfl
  show rd_law_due_1 K (ends R Z) [some (.int m), some (.ref al), some (.ref b), some (.int ((natsV (highL m 6)).length : Int)), none, none, none, none] G' ((w, .lst (natsV (highL m 6))) :: M')
  rw [eh]
  refine ⟨G', M', Wk.drop0, sz1, fun l3 f3 => ⟨_, at_n (n := 0) rfl, by omega, by omega, sz (by rw [List.length_singleton]; omega), fun tl ftl => ?_⟩⟩
  rw [← tally_nil]
  refine ⟨G', (tl, .lst (natsV (tallyF m []))) :: M', Wk.drop1, av, lst_g hal, highN m, ds.length, rfl, by rw [hav], by omega, h60, hN, fun rl rv G1 e1 hrv => ?_⟩
  obtain ⟨rs, hrs⟩ : ∃ rs, rs = rowsL (highN m) ds.length := ⟨_, rfl⟩
  have hro : ∀ {i : Nat} {r : List Nat}, rs[i]? = some r → r.length = ds.length ∧ LowN (highN m) r := fun z => by rw [hrs] at z; exact rows_ok (List.mem_of_getElem? z)
  rw [← hrs] at hrv
  obtain ⟨F, hF⟩ : ∃ F : Mem, F = (rl, HO.lst rv) :: M' := ⟨_, rfl⟩
  have hrF : (rl, HO.lst rv) ∈ F := by rw [hF]; exact List.mem_cons_self
  obtain ⟨ps, hps⟩ : ∃ ps : List Nat, ps = rs.map fun r => peakF m (fs ++ r) ds := ⟨_, rfl⟩
  have hrvl := hrv.len
  refine ⟨rv, lat_0, G1, (tl, .lst (natsV (tallyF m []))) :: F, by rw [hF]; exact Wk.swap, fun i σ G3 M3 => ∃ (y6 y7 : Option V), σ = [some (.int m), some (.ref al), some (.ref b), some (.int (highN m : Nat)), none, some (.ref tl), y6, y7] ∧ Ex G1 G3 ∧ M3 = (tl, .lst (natsV (tallyF m (ps.take i)))) :: F, ⟨none, none, rfl, Ex.refl, rfl⟩, ?_, ?_, ?_⟩
  · rintro i σ G' M' _ ⟨y5, y6, rfl, ex, rfl⟩; exact .inl (List.mem_cons_of_mem _ hrF)
  · rintro i σ G3 M3 hi ⟨y6, y7, rfl, ex, rfl⟩
    have hi : i < rv.length := hi
    obtain ⟨r, hr⟩ : ∃ r, rs[i]? = some r := ⟨_, List.getElem?_eq_getElem (by omega)⟩
    obtain ⟨v, hv, rb, rfl, hrb⟩ := hrv.get hr
    obtain ⟨hll, hlo⟩ := hro hr
    have hpi : ps[i]? = some (peakF m (fs ++ r) ds) := by rw [hps, List.getElem?_map, hr]; rfl
    have hpl := peak_le m (fs ++ r) ds
    obtain ⟨pk, hpk⟩ : ∃ pk, pk = peakF m (fs ++ r) ds := ⟨_, rfl⟩
    rw [← hpk] at hpi hpl
    refine asg_L hv ?_
    refine ⟨G3, _, Wk.refl, _, _, .inr ((e1.trans ex) _ _ hb), .inr (ex _ _ hrb), ?_, fun qa fqa => ?_⟩
    · rw [natsV_len, natsV_len, hfl, hll]; exact sz (by omega)
    rw [cells_app]
    refine ⟨m, ds, qa, fs ++ r, rfl, ⟨rfl, m0, m1⟩, ⟨al, av, rfl, ex_l (e1.trans ex) hal, had.mono fun _ _ z => z.ex (e1.trans ex)⟩, hok, rfl, lat_0, by rw [List.length_append, hfl, hll], low_app hlow hlo, fun G4 e4 => ?_⟩
    rw [← hpk]
    refine ⟨⟨by omega, by omega⟩, fun j σ G5 M5 => ∃ (y7 : Option V), σ = [some (.int m), some (.ref al), some (.ref b), some (.int (highN m : Nat)), none, some (.ref tl), some (.ref rb), y7] ∧ G5 = G4 ∧ M5 = (qa, .lst (natsV (fs ++ r))) :: (tl, .lst (natsV (tly m (ps.take i) j))) :: F, ⟨_, rfl, rfl, by rw [tly_zero]⟩, fun _ _ _ _ _ _ => trivial, ?_, ?_⟩
    · rintro j σ G5 M5 hj ⟨y6, rfl, hG, rfl⟩
      subst hG
      have hj : j < ((pk : Nat) + 1 : Int).toNat := hj
      refine asg_R (v := (j : Int)) (by omega) ?_
      have hat := tly_at (m := m) (ps := ps.take i) (i := j) (j := j) (by omega)
      rw [if_neg (Nat.lt_irrefl j), Nat.add_zero] at hat
      refine ⟨G5, _, Wk.refl, natsV (tly m (ps.take i) j), .int (cntG (ps.take i) j : Nat), lst_n (n := 1) rfl, atI_nat (natsV_get hat), 1, natsV (tly m (ps.take i) j), j, rfl, ixN_nat (by rw [natsV_len, tly_len]; omega), ?_⟩
      refine ⟨G5, _, Wk.refl, _, rfl, rfl, ?_⟩
      rw [← tly_step (by omega)]
      show (qa, HO.lst (natsV (fs ++ r))) :: (tl, HO.lst ((natsV (tly m (ps.take i) j)).set j (.int ((cntG (ps.take i) j : Nat) + 1)))) :: F = _
      unfold natsV
      rw [List.map_set]; rfl
    · rintro σ G5 M5 ⟨y6, rfl, hG, rfl⟩
      subst hG
      have en : (srcR 0 ((pk : Nat) + 1 : Int).toNat).n = pk + 1 := by show ((pk : Nat) + 1 : Int).toNat = _; omega
      rw [en, tly_done]
      refine ⟨G5, (tl, .lst (natsV (tallyF m (ps.take (i + 1))))) :: F, ?_, _, _, rfl, ex.trans e4, rfl⟩
      rw [take_succ' hpi]
      exact Wk.drop0
  · rintro σ G3 M3 ⟨y5, y6, rfl, ex, rfl⟩
    have hpl : ps.length = rv.length := by rw [hps, List.length_map, hrvl]
    have q := q tl G3 (e1.trans ex)
    have e1 : dueF m fs ds = tallyF m ps := by rw [hps, hrs]; rfl
    rw [e1] at q
    refine ⟨G3, (tl, .lst (natsV (tallyF m ps))) :: M', ?_, ret0 q⟩
    have en : (srcL K rl rv).n = ps.length := hpl.symm
    rw [en, List.take_length, hF]
    exact Wk.drop1
end
section
variable {K : PySem.W.Frag} {vs : List V} {G : Hp} {M : Mem} {R : KR} {Z : KX}
theorem pf_law_ask (h : S_law_ask K vs G M R Z) : rd_law_ask K (ends R Z) (sta 3 vs) G M := by
  obtain ⟨_, _, rfl, p, n, c, s, m, rfl, rfl, hn, hs, m0, m1, q⟩ := sp2_of h
  refine ⟨G, M, Wk.refl, sz2, fun d fd => ⟨p, 2, n + 1, c, s, rfl, rfl, hn, hs, by decide, by decide, fun r c1 s1 r0 r1 hs1 => ?_⟩⟩
  obtain ⟨y, hy, hym⟩ := at_mem (l := [V.int (m : Int), .int (min (m : Int) 2)]) r0 r1
  obtain ⟨z, rfl, z0, z1⟩ : ∃ z : Int, y = .int z ∧ 1 ≤ z ∧ z ≤ m := by
    simp only [List.mem_cons, List.not_mem_nil, or_false] at hym
    rcases hym with rfl | rfl
    · exact ⟨_, rfl, by omega, by omega⟩
    · exact ⟨_, rfl, by omega, by omega⟩
  refine ⟨_, _, lst_n (n := 0) rfl, hy, p, z, n + 1, c1, s1, rfl, rfl, set_n (M := (d, _) :: M) (n := n + 1) hn, hs1, by omega, by omega, fun cell c2 s2 h0 h1 hs2 => ?_⟩
  obtain ⟨cell, rfl⟩ := Int.eq_ofNat_of_zero_le h0
  refine ⟨G, M.set n (p, pool c2 s2), by simp only [List.set_cons_succ, List.set_set]; exact Wk.drop0, sz2, fun T1 f1 => ⟨p, 100, n, c2, s2, rfl, rfl, set_n hn, hs2, by decide, by decide, fun w c3 s3 w0 w1 hs3 => ⟨sz3, fun T2 f2 => ⟨sz2, fun l fl => ⟨p, 2, n + 1, c3, s3, rfl, rfl, ?_, hs3, by decide, by decide, fun b c4 s4 b0 b1 hs4 => ?_⟩⟩⟩⟩⟩
  · show ((M.set n _).set n _)[n]? = _
    exact set_n (set_n hn)
  obtain ⟨w, rfl⟩ := Int.eq_ofNat_of_zero_le w0
  obtain ⟨v, hv, hv2⟩ := at_two (x := .ref T1) (y := .ref T2) b0 b1
  refine ⟨_, v, lst_n (n := 0) rfl, hv, ?_⟩
  have e1 := Ex.new (o := .tup [V.str "read", .int (cell : Int)]) f1
  have e2 := Ex.new (o := .tup [V.str "write", .int (cell : Int), .int (w : Int)]) f2
  refine retW (G' := upd (upd G T1 (.tup [V.str "read", .int (cell : Int)])) T2 (.tup [V.str "write", .int (cell : Int), .int (w : Int)])) (M' := M.set n (p, pool c4 s4)) (by simp only [List.set_cons_succ, List.set_set]; exact Wk.drop0) ?_
  rcases hv2 with rfl | rfl
  · exact q T1 (.read cell) c4 s4 _ (e1.trans e2) (ex_t e2 sqt_new) ⟨by show cell < m; omega, trivial⟩ hs4
  · exact q T2 (.write cell w) c4 s4 _ (e1.trans e2) sqt_new ⟨by show cell < m; omega, by show w ≤ 999999999999999999; omega⟩ hs4
end

section
/-! ### the law's tallies are the program's -/
theorem lvs_leaf (r : List Nat) : lvs (r.map Dr.leaf) = r := by
  unfold lvs
  rw [List.map_map]
  exact (List.map_congr_left fun _ _ => rfl).trans (List.map_id r)
theorem lvs_back {m : Nat} : ∀ {n : Nat} {ds : List Dr}, A2 DrOk (leafKs m n) ds → (lvs ds).map Dr.leaf = ds
  | 0, _, .nil => rfl
  | n + 1, _, .cons (b := d) h t => by
    cases d with
    | leaf x =>
      show Dr.leaf x :: (lvs _).map Dr.leaf = _
      rw [lvs_back t]
    | row l => have := h.1; cases this
theorem rows_mem {h : Nat} : ∀ {n : Nat} {r : List Nat}, r.length = n → LowN h r → r ∈ rowsL h n
  | 0, r, hl, _ => by rw [List.length_eq_zero_iff.mp hl]; exact List.mem_singleton.mpr rfl
  | n + 1, r, hl, hw => by
    obtain ⟨r0, v, rfl, h0⟩ := snoc_of hl
    exact List.mem_flatMap.mpr ⟨r0, rows_mem h0 fun x hx => hw x (List.mem_append.mpr (.inl hx)), List.mem_map.mpr ⟨v, List.mem_range.mpr (hw v (by simp)), rfl⟩⟩
theorem rows_nodup (h : Nat) : ∀ n, (rowsL h n).Nodup
  | 0 => List.nodup_cons.mpr ⟨List.not_mem_nil, List.nodup_nil⟩
  | n + 1 => by
    show List.Pairwise _ _
    unfold rowsL
    refine List.pairwise_flatMap.mpr ⟨fun r _ => ?_, (rows_nodup h n).imp fun {a b} hab x hx y hy e => ?_⟩
    · exact nodup_mapA (fun a _ b _ e => by have := List.append_cancel_left e; exact (List.cons.inj this).1) List.nodup_range
    · obtain ⟨u, _, rfl⟩ := List.mem_map.mp hx
      obtain ⟨v, _, rfl⟩ := List.mem_map.mp hy
      exact hab (List.append_inj_left' e rfl)
theorem rows_perm {m : Nat} (n : Nat) : (rowsL (highN m) n).Perm ((allR (leafKs m n)).map lvs) := by
  refine (List.perm_ext_iff_of_nodup (rows_nodup _ _) (nodup_mapA (fun a ha b hb e => ?_) (allR_nodup _))).mpr fun r => ⟨fun h => ?_, fun h => ?_⟩
  · rw [← lvs_back (allR_mem.mp ha), ← lvs_back (allR_mem.mp hb), e]
  · obtain ⟨h1, h2⟩ := rows_ok h
    have h3 := rep_dr h2
    rw [h1] at h3
    exact List.mem_map.mpr ⟨r.map Dr.leaf, allR_mem.mpr h3, lvs_leaf r⟩
  · obtain ⟨ds, hd, rfl⟩ := List.mem_map.mp h
    obtain ⟨h1, h2⟩ := lvs_low (allR_mem.mp hd)
    exact rows_mem h1 h2
theorem due_eq (m : Nat) (fs : List Nat) (ds : List Deed) : dueF m fs ds = pocketsF m fs ds := by
  have hp : ((rowsL (highN m) ds.length).map fun r => peakF m (fs ++ r) ds).Perm ((List.range (prK (leafKs m ds.length))).map fun r => peakF m (fs ++ lvs (drawsAt (leafKs m ds.length) r)) ds) := by
    have h := (rows_perm (m := m) ds.length).map fun r => peakF m (fs ++ r) ds
    unfold allR at h
    rw [List.map_map, List.map_map] at h
    exact h
  unfold dueF pocketsF tallyF
  exact List.map_congr_left fun s _ => (hp.filter _).length_eq
theorem leaf_pr (m : Nat) : ∀ n, prK (leafKs m n) = (2 ^ highN m) ^ n
  | 0 => rfl
  | n + 1 => by
    show manyK ⟨true, highN m⟩ * prK (leafKs m n) = _
    rw [leaf_pr m n, Nat.pow_succ, Nat.mul_comm]; rfl
theorem flat_lenC {f : List Nat → List (List Nat)} {c : Nat} (hf : ∀ x, (f x).length = c) : ∀ l : List (List Nat), (l.flatMap f).length = l.length * c
  | [] => by simp
  | x :: l => by rw [List.flatMap_cons, List.length_append, hf, flat_lenC hf l, List.length_cons, Nat.add_mul, Nat.one_mul, Nat.add_comm]
theorem rows_len (h : Nat) : ∀ n, (rowsL h n).length = (2 ^ h) ^ n
  | 0 => rfl
  | n + 1 => by
    unfold rowsL
    rw [flat_lenC (c := 2 ^ h) (fun r => by rw [List.length_map, List.length_range]), rows_len h n, Nat.pow_succ]
end
section
variable {K : PySem.W.Frag} {vs : List V} {G : Hp} {M : Mem} {R : KR} {Z : KX}
theorem pf_law (h : S_law K vs G M R Z) : rd_law K (ends R Z) (sta 13 vs) G M := by
  obtain ⟨_, rfl, a, ns, rfl, hS, hl, q⟩ := sp1_of h
  clear h
  refine ⟨G, [], Wk.nil', a, ns, 0, rfl, rfl, hS, by decide, by decide, hl, fun p c s fp hs => ?_⟩
  refine ⟨G, [(p, pool c s)], Wk.refl, ?_⟩
  refine lit_pick (K := K) (n := 0) (ds := _) (show LitOk K _ _ _ _ by repeat (first | exact lit_int | exact lit_bl | exact lit_str | exact lit_non | exact lit_neg | exact lit_dict | exact lits_nil | apply lits_cons | apply lit_tup | apply lit_lst | apply lit_add | exact lit_var rfl (.int _) | exact lit_var rfl (by assumption) | exact lit_pow ⟨by decide, by decide, by decide⟩ | exact Nat.le_of_ble_eq_true rfl)) rfl rfl hs rfl (Nat.le_of_ble_eq_true rfl) (Nat.le_of_ble_eq_true rfl) fun v d G6 X6 c6 s6 e6 n6 hd r6 hs6 => ?_
  obtain ⟨m, mo, rfl, m0, m1, hmo, hpr⟩ : ∃ m mo : Nat, d = .tup [.int m, .int mo] ∧ 1 ≤ m ∧ m ≤ 32 ∧ mo ≤ 20 ∧ (2 ^ highN m) ^ mo ≤ 1000 := by
    clear r6
    revert d
    simp only [List.forall_mem_cons]
    refine ⟨⟨1, 20, rfl, ?_⟩, ⟨2, 7, rfl, ?_⟩, ⟨3, 4, rfl, ?_⟩, ⟨4, 4, rfl, ?_⟩, ⟨8, 2, rfl, ?_⟩, ⟨8, 3, rfl, ?_⟩, ⟨32, 1, rfl, ?_⟩, ⟨5, 3, rfl, ?_⟩, fun _ z => nomatch z⟩ <;> decide
  cases r6 with
  | @tup T vs6 _ hT hs1 =>
  cases hs1 with
  | cons h1 t1 =>
  cases h1
  cases t1 with
  | cons h2 t2 =>
  cases h2
  cases t2
  refine ⟨_, hT, ?_⟩
  show rd_law_2 K (ends R Z) [some (.ref a), some (.ref p), some (.int m), some (.int mo), none, none, none, none, none, none, none, none, none] G6 (X6 ++ [(p, pool c6 s6)])
  have hS6 := ex_l e6 hS
  clear e6 n6 hd hT hS
  have h5 := high_le5 m m1
  refine ⟨G6, [(p, pool c6 s6)], Wk.dropP X6, by decide, sz (by decide), fun i acc G' M' => G' = G6 ∧ M' = [(p, pool c6 s6)] ∧ acc = natsV (highL m i), ⟨rfl, rfl, rfl⟩, fun _ _ _ _ _ _ => trivial, ?_, ?_⟩
  · rintro i acc G' M' D hi _ ⟨hG, rfl, rfl⟩ fD
    subst hG
    have hi : i < 6 := hi
    refine ⟨rfl, ⟨by omega, by omega, by decide⟩, ?_⟩
    show if decide ((1 : Int) * 2 ^ ((0 : Int) + (i : Int)).toNat < (m : Int)) = true then _ else _
    rw [high_one]
    refine ite2' (fun e => ⟨_, _, Wk.refl, rfl, rfl, ?_⟩) (fun e => ⟨_, _, Wk.refl, rfl, rfl, ?_⟩)
    · rw [highL_succ, if_pos e]
      show _ ++ [V.int ((0 : Int) + (i : Int))] = _
      rw [show (0 : Int) + (i : Int) = (i : Int) by omega]; exact cells_app _ [i]
    · rw [highL_succ, if_neg (by rw [e]; decide), List.append_nil]
  rintro acc G' M' w ⟨hG, rfl, hacc⟩ _ fw
  subst hG
  subst hacc
  refine ⟨_, seq_0, ?_⟩
  have eh : (natsV (highL m 6)).length = highN m := by rw [natsV_len]; rfl
  show rd_law_3 K (ends R Z) [some (.ref a), some (.ref p), some (.int m), some (.int mo), some (.int ((natsV (highL m 6)).length : Int)), none, none, none, none, none, none, none, none] G' ((w, .lst (natsV (highL m 6))) :: [(p, pool c6 s6)])
  rw [eh]
  have p2 : (1 : Int) * 2 ^ ((highN m : Nat) : Int).toNat = ((2 ^ highN m : Nat) : Int) := by rw [Int.toNat_natCast, Int.one_mul]; simp
  have p64 : 2 ^ highN m ≤ 32 := Nat.pow_le_pow_right (n := 2) (by decide) h5
  have p1 : 1 ≤ 2 ^ highN m := Nat.one_le_two_pow
  have cp : CPow 1 ((highN m : Nat) : Int) := ⟨by omega, by omega, by decide⟩
  refine ⟨G', [(p, pool c6 s6)], Wk.drop0, cp, cp, pick (l := [V.int ((1 : Int) * 2 ^ ((highN m : Nat) : Int).toNat), .int (min ((1 : Int) * 2 ^ ((highN m : Nat) : Int).toNat) 2), .int 1]) (n := 0) rfl hs6 (by show 0 < 3; decide) (by show 3 ≤ 1000; decide) fun y c7 s7 d hym hs7 fd => ?_⟩
  obtain ⟨far, rfl, z0, z1⟩ : ∃ z : Int, y = .int z ∧ 1 ≤ z ∧ z ≤ ((2 ^ highN m : Nat) : Int) := by
    rw [p2] at hym
    simp only [List.mem_cons, List.not_mem_nil, or_false] at hym
    rcases hym with rfl | rfl | rfl
    · exact ⟨_, rfl, by omega, by omega⟩
    · exact ⟨_, rfl, by omega, by omega⟩
    · exact ⟨_, rfl, by omega, by omega⟩
  -- the first draws
  refine ⟨G', [(p, pool c7 s7)], Wk.drop0, ⟨by omega, by omega⟩, sz (by show ((m : Int)).toNat ≤ _; omega), fun i acc G2 M2 => ∃ (l : List Nat) (c' s' : Int), G2 = G' ∧ M2 = [(p, pool c' s')] ∧ PoolOk s' ∧ l.length = i ∧ acc = natsV l ∧ LowN (highN m) l, ⟨[], c7, s7, rfl, rfl, hs7, rfl, rfl, fun _ z => nomatch z⟩, fun _ _ _ _ _ _ => trivial, ?_, ?_⟩
  · rintro i acc G2 M2 D hi _ ⟨l, c3, s3, hG, rfl, hs3, rfl, rfl, hlk⟩ fD
    subst hG
    refine ⟨rfl, p, far, 1, c3, s3, rfl, rfl, rfl, hs3, by omega, by omega, fun r c4 s4 r0 r1 hs4 => ?_⟩
    obtain ⟨v, rfl⟩ := Int.eq_ofNat_of_zero_le r0
    refine ⟨G2, [(p, pool c4 s4)], Wk.refl, l ++ [v], c4, s4, rfl, rfl, hs4, by rw [List.length_append]; rfl, (cells_app l [v]), fun x hx => ?_⟩
    rcases List.mem_append.mp hx with hx | hx
    · exact hlk x hx
    · have : x = v := by simpa using hx
      omega
  rintro acc G2 M2 fl ⟨fs, c8, s8, hG, rfl, hs8, hfl, rfl, hlow⟩ _ ffl
  subst hG
  have hfl : fs.length = m := by rw [hfl]; show ((m : Int)).toNat = _; omega
  have e3 := Ex.new (o := .lst (natsV fs)) ffl
  obtain ⟨G3, hG3⟩ : ∃ g, g = upd G2 fl (.lst (natsV fs)) := ⟨_, rfl⟩
  have hfl3 : G3 fl = some (.lst (natsV fs)) := by rw [hG3]; exact upd_same
  rw [← hG3] at e3
  -- the asks
  refine ⟨G3, [(p, pool c8 s8)], by rw [hG3]; exact Wk.frz0, p, _, 0, c8, s8, rfl, rfl, rfl, hs8, (by show (0 : Int) < (mo : Int) + 1; omega), (by show (mo : Int) + 1 < 2 ^ 200; exact Int.lt_of_le_of_lt (b := 30) (by omega) (by decide)), fun r c9 s9 r0 r1 hs9 => ?_⟩
  obtain ⟨n, rfl⟩ := Int.eq_ofNat_of_zero_le r0
  have hnm : n ≤ mo := by have r1 : (n : Int) < (mo : Int) + 1 := r1; omega
  refine ⟨⟨by omega, by omega⟩, sz (by show ((n : Int)).toNat ≤ _; omega), fun i acc G' M' => ∃ (ds : List Deed) (c s : Int), Ex G3 G' ∧ M' = [(p, pool c s)] ∧ PoolOk s ∧ A2 (fun v d => DeedAt K G' v d) acc ds ∧ ds.length = i ∧ ∀ d, d ∈ ds → DeedOk m d, ⟨[], c9, s9, Ex.refl, rfl, hs9, .nil, rfl, fun _ z => nomatch z⟩, fun _ _ _ _ _ _ => trivial, ?_, ?_⟩
  · rintro i acc G' M' D hi _ ⟨ds, c1, s1, ex, rfl, hs1, hds, hdl, hok⟩ fD
    have hi : i < ((n : Int)).toNat := hi
    refine asg_R (v := (i : Int)) (by omega) ⟨rfl, a, ns, 1 + i, rfl, rfl, ex_l (e3.trans ex) hS6, by omega, by omega, hl, fun p2 c2 s2 fp2 hs2 => ?_⟩
    refine ⟨p2, 0, c2, s2, m, rfl, rfl, rfl, hs2, m0, m1, fun T dd c3 s3 G4 e4 hT hdd hs3 => ?_⟩
    refine ⟨G4, [(p, pool c1 s1)], Wk.drop0, ds ++ [dd], c1, s1, ex.trans e4, rfl, hs1, (hds.mono fun _ _ z => z.ex e4).app (.cons ⟨T, rfl, hT⟩ .nil), by rw [List.length_append, hdl]; rfl, fun x hx => ?_⟩
    rcases List.mem_append.mp hx with hx | hx
    · exact hok x hx
    · obtain rfl := List.mem_singleton.mp hx
      exact hdd
  rintro av G4 M4 al ⟨ds, c1, s1, e4, rfl, hs1, hds, hdl, hok⟩ _ fal
  have hdl : ds.length = n := by rw [hdl]; show ((n : Int)).toNat = _; omega
  have e5 := Ex.new (o := .lst av) fal
  obtain ⟨G5, hG5⟩ : ∃ g, g = upd G4 al (.lst av) := ⟨_, rfl⟩
  have hal : SqL K G5 al av := by rw [hG5]; exact sql_of upd_same
  rw [← hG5] at e5
  have had : A2 (fun v d => DeedAt K G5 v d) av ds := hds.mono fun _ _ z => z.ex e5
  have hok : DsOk m ds := ⟨hok, by omega⟩
  have h1000 : ∀ i, i ≤ ds.length → (2 ^ highN m) ^ i ≤ 1000 := fun i hi => Nat.le_trans (Nat.pow_le_pow_right p1 (by omega)) hpr
  have hask : ∀ {G' : Hp}, Ex G5 G' → AsksG K G' (.ref al) ds := fun e => ⟨al, av, rfl, ex_l e hal, had.mono fun _ _ z => z.ex e⟩
  have hf5 := e5 _ _ (e4 _ _ hfl3)
  clear hfl3 hds hS6 hG3
  refine ⟨G5, [], by rw [hG5]; exact Wk.frz0.trans Wk.nil', m, ds, fl, fs, ⟨rfl, m0, m1⟩, hask Ex.refl, hok, rfl, hf5, hfl, hlow, fun i hi => by rw [rows_len]; exact h1000 i hi, fun pd Gd ed => ?_⟩
  obtain ⟨t, ht⟩ : ∃ t, t = pocketsF m fs ds := ⟨_, rfl⟩
  rw [due_eq, ← ht]
  refine ⟨Gd, [(pd, .lst (natsV t))], Wk.refl, natsV fs, lst_g (sql_of (ed _ _ hf5)), fun hd fhd => ?_⟩
  have e7 := Ex.new (o := .lst (natsV fs)) fhd
  obtain ⟨G7, hG7⟩ : ∃ g, g = upd Gd hd (.lst (natsV fs)) := ⟨_, rfl⟩
  have hhd : G7 hd = some (.lst (natsV fs)) := by rw [hG7]; exact upd_same
  rw [← hG7] at e7
  have e57 := ed.trans e7
  have hpr2 : prK (leafKs m ds.length) ≤ 1000 := by rw [leaf_pr]; exact h1000 _ (Nat.le_refl _)
  refine ⟨G7, [(pd, .lst (natsV t))], by rw [hG7]; exact Wk.frz0, m, ds, hd, fs, ⟨rfl, m0, m1⟩, hask e57, hok, rfl, .inr hhd, hfl, hlow, hpr2, fun pf G9 e9 => ?_⟩
  rw [← ht]
  have e59 := e57.trans e9
  refine ⟨G9, (pf, .lst (natsV t)) :: [(pd, .lst (natsV t))], Wk.refl, .type PT.list.name, .type "list", _, .ty "list", ty_lst lat_0, kit_pt .list .list, ?_⟩
  refine eq_nats (neg := true) lat_0 (lat_n (n := 1) rfl) ?_
  refine eq_nats (neg := true) (.inr (sql_of (e9 _ _ hhd))) (.inr (sql_of (e59 _ _ hf5))) ?_
  refine ⟨G9, (pf, .lst (natsV t)) :: [(pd, .lst (natsV t))], Wk.refl, natsV t, lat_0, ?_, fun i acc G' M' => G' = G9 ∧ M' = (pf, .lst (natsV t)) :: [(pd, .lst (natsV t))] ∧ acc = [], ⟨rfl, rfl, rfl⟩, ?_, ?_, ?_⟩
  · show (natsV t).length ≤ sizeLine
    rw [natsV_len, ht]
    unfold pocketsF tallyF
    rw [List.length_map, List.length_range]
    exact sz (by omega)
  · rintro i acc G' M' _ ⟨rfl, rfl, _⟩; exact lat_0
  · rintro i acc G' M' D hi _ ⟨hG, rfl, rfl⟩ fD
    subst hG
    have hi : i < (natsV t).length := hi
    rw [natsV_len] at hi
    obtain ⟨x, hx⟩ : ∃ x, t[i]? = some x := ⟨_, List.getElem?_eq_getElem hi⟩
    exact asg_L (natsV_get hx) ⟨rfl, .type PT.int.name, .type "int", _, .ty "int", ty_int, kit_pt .int .int, .type PT.int.name, .type "bool", _, .ty "bool", ty_int, kit_pt .int .bool, G', _, Wk.refl, rfl, rfl, rfl⟩
  rintro acc G' M' w ⟨hG, rfl, rfl⟩ _ fw
  subst hG
  refine ⟨sz0, fun w2 fw2 => eq_nats (l := []) (neg := true) (lat_n (n := 1) rfl) lat_0 ?_⟩
  refine ⟨G', (pf, .lst (natsV t)) :: [(pd, .lst (natsV t))], Wk.drop0.trans Wk.drop0, tyl_n (n := 0) rfl, 0, _, rfl, ?_⟩
  refine ⟨G', _, Wk.refl, tyl_n (n := 0) rfl, 0, _, rfl, ?_, ?_⟩
  · rw [List.length_reverse, natsV_len, ht]
    unfold pocketsF tallyF
    rw [List.length_map, List.length_range]
    exact Nat.lt_of_le_of_lt (m := 33) (by omega) (by decide)
  refine ⟨G', [(pd, .lst (natsV t))], Wk.drop0, m, ds, hd, fs, ⟨rfl, m0, m1⟩, hask e59, hok, rfl, .inr (e9 _ _ hhd), hfl, hlow, hpr2, fun pf2 G10 e10 => ?_⟩
  rw [← ht]
  exact eq_nats (neg := false) lat_0 (lat_n (n := 1) rfl) (ret0 (q _ _))
end
def topS (i : Nat) : Stmt := PySem.Challenge.pw_blindtouch_k74_pockets_counted.main.body.getD i (.Pass ⟨0, 0, 0, 0⟩)
structure Bs (mg : Str → Option Value) : Prop where
  all : mg "all" = none
  bool : mg "bool" = none
  enumerate : mg "enumerate" = none
  int : mg "int" = none
  isinstance : mg "isinstance" = none
  len : mg "len" = none
  list : mg "list" = none
  max : mg "max" = none
  min : mg "min" = none
  range : mg "range" = none
  reversed : mg "reversed" = none
  set : mg "set" = none
  sorted : mg "sorted" = none
  sum : mg "sum" = none
  tuple : mg "tuple" = none
structure Cs (K : PySem.W.Frag) (mg : Str → Option Value) : Prop where
  g_NoNumber : XG K mg "NoNumber"
  g_NoRoom : XG K mg "NoRoom"
  g_NoAsk : XG K mg "NoAsk"
  g_NoSize : XG K mg "NoSize"
  g_Over : XG K mg "Over"
  g_TooMany : XG K mg "TooMany"
  r_NoNumber : XR K "NoNumber"
  r_NoRoom : XR K "NoRoom"
  r_NoAsk : XR K "NoAsk"
  r_NoSize : XR K "NoSize"
  r_Over : XR K "Over"
  r_TooMany : XR K "TooMany"
  k_MOST_CELLS : ∃ u, mg "MOST_CELLS" = some u ∧ RelV (.int 32) u
  k_MOST_ASKS : ∃ u, mg "MOST_ASKS" = some u ∧ RelV (.int 60) u
  k_TABLE : ∃ u, mg "TABLE" = some u ∧ RelV (.int 4) u
  k_GREATEST : ∃ u, mg "GREATEST" = some u ∧ RelV (.int 999999999999999999) u
  k_MOST_ROWS : ∃ u, mg "MOST_ROWS" = some u ∧ RelV (.int 1000) u
  k_SIDES : XT K mg "SIDES" con_SIDES
  o_Keeper : CK K 1
  o_Shelf : CK K 2
  o_Body : CK K 8
  o_Tree : CK K 6
  f_body : ∀ p ∈ tabF_body, CK K p.1 ∧ (clsN p.1).2[p.2]? = some "body"
  f_cells : ∀ p ∈ tabF_cells, CK K p.1 ∧ (clsN p.1).2[p.2]? = some "cells"
  f_draws : ∀ p ∈ tabF_draws, CK K p.1 ∧ (clsN p.1).2[p.2]? = some "draws"
  f_firsts : ∀ p ∈ tabF_firsts, CK K p.1 ∧ (clsN p.1).2[p.2]? = some "firsts"
  f_hand : ∀ p ∈ tabF_hand, CK K p.1 ∧ (clsN p.1).2[p.2]? = some "hand"
  f_high : ∀ p ∈ tabF_high, CK K p.1 ∧ (clsN p.1).2[p.2]? = some "high"
  f_keeper : ∀ p ∈ tabF_keeper, CK K p.1 ∧ (clsN p.1).2[p.2]? = some "keeper"
  f_limit : ∀ p ∈ tabF_limit, CK K p.1 ∧ (clsN p.1).2[p.2]? = some "limit"
  f_log : ∀ p ∈ tabF_log, CK K p.1 ∧ (clsN p.1).2[p.2]? = some "log"
  f_made : ∀ p ∈ tabF_made, CK K p.1 ∧ (clsN p.1).2[p.2]? = some "made"
  f_number : ∀ p ∈ tabF_number, CK K p.1 ∧ (clsN p.1).2[p.2]? = some "number"
  f_shelf : ∀ p ∈ tabF_shelf, CK K p.1 ∧ (clsN p.1).2[p.2]? = some "shelf"
  f_table : ∀ p ∈ tabF_table, CK K p.1 ∧ (clsN p.1).2[p.2]? = some "table"
  f_things : ∀ p ∈ tabF_things, CK K p.1 ∧ (clsN p.1).2[p.2]? = some "things"
  h_Keeper : PySem.W.keepIn K (.ref (cl K (clsN 1).1)) = true
  h_Shelf : PySem.W.keepIn K (.ref (cl K (clsN 2).1)) = true
  h_Body : PySem.W.keepIn K (.ref (cl K (clsN 8).1)) = true
  h_Tree : PySem.W.keepIn K (.ref (cl K (clsN 6).1)) = true
abbrev s_law_pool : Stmt := topS 65
abbrev N_law_pool : List Str := ["_law_script", "_law_k", "_law_cell", "_law_seed"]
theorem sc_law_pool : FnScope N_law_pool ["_law_script", "_law_k"] (defScope s_law_pool) := ⟨rfl, rfl, rfl, by decide +kernel, rfl, by decide +kernel, by decide +kernel⟩
theorem fo_law_pool {P : Program} {w : World} {K : PySem.W.Frag} {mg : Str → Option Value} {base : Heap} {f : Addr} {fd : FuncData} (B : Bs mg) (C : Cs K mg) (F : Fun K "_law_pool" "_law_pool" s_law_pool f fd)  :
    FnOk P w K mg base (L2.CX P w) 1 f fd ["_law_script", "_law_k"] (lift (S_law_pool K)) := by
  refine fn_ok F sc_law_pool (fun vs G M R Z h => sp_len2 h) (fun cdv A outer s H E hr => ?_)
  have nd : N_law_pool.Nodup := sc_law_pool.nd
  have hu : _ + 64 < cLine := hr.units
  have tk : Takes (cxOf (L2.CX P w) P w K mg base N_law_pool "_law_pool" (defScope s_law_pool) f cdv A outer s H E) (fun c d _ H => E c d H) := takes_of rfl rfl rfl rfl
  have po : PassesOwn (model P w) _ _ _ := passes_of (X := cxOf (L2.CX P w) P w K mg base N_law_pool "_law_pool" (defScope s_law_pool) f cdv A outer s H E) rfl
  exact ⟨rd_law_pool K, jss_cons (js_set (i := 2) (je_callB kc_len B.len (ja_cons (je_var 0) (ja_nil))) nd) (jss_cons (js_if (jt_cmp (kop_lt) (je_var 1) (je_callB kc_len B.len (ja_cons (je_var 0) (ja_nil))) (nomark _)) (jss_cons (js_set (i := 2) (je_ix (je_var 0) (je_var 1)) nd) (jss_nil)) (jss_nil)) (jss_cons (js_set (i := 3) (je_op kop_mod (je_op kop_mul (je_op kop_add (je_op kop_add (je_op kop_mod (je_var 2) (je_int)) (je_op kop_mul (je_int) (je_var 1))) (je_int)) (je_int)) (je_int)) nd) (jss_cons (js_ret (je_lst (ja_cons (je_op kop_mul (je_var 2) (je_callTy kc_int B.int (ja_cons (je_cmp (kop_ge) (je_var 2) (je_op kop_pow (je_int) (je_int)) (nomark _)) (ja_nil)))) (ja_cons (je_var 3) (ja_nil))))) (jss_nil)))), fun vs G M R Z h => pf_law_pool h⟩
theorem df_law_pool {P : Program} {w : World} {K : PySem.W.Frag} {mg : Str → Option Value} {base : Heap} {f : Addr} {fd : FuncData} (B : Bs mg) (C : Cs K mg) (F : Fun K "_law_pool" "_law_pool" s_law_pool f fd) (b : Binds K fd ["_law_script", "_law_k"] []) (gm : mg "_law_pool" = some (.ref f))  :
    Def P w K mg base 1 "_law_pool" ["_law_script", "_law_k"] (S_law_pool K) := ⟨f, fd, fo_law_pool B C F , gm, F.kp, b⟩
abbrev s_law_take : Stmt := topS 66
abbrev N_law_take : List Str := ["_law_pool_here", "_law_many", "_law_digit"]
theorem sc_law_take : FnScope N_law_take ["_law_pool_here", "_law_many"] (defScope s_law_take) := ⟨rfl, rfl, rfl, by decide +kernel, rfl, by decide +kernel, by decide +kernel⟩
theorem fo_law_take {P : Program} {w : World} {K : PySem.W.Frag} {mg : Str → Option Value} {base : Heap} {f : Addr} {fd : FuncData} (B : Bs mg) (C : Cs K mg) (F : Fun K "_law_take" "_law_take" s_law_take f fd)  :
    FnOk P w K mg base (L2.CX P w) 1 f fd ["_law_pool_here", "_law_many"] (lift (S_law_take K)) := by
  refine fn_ok F sc_law_take (fun vs G M R Z h => sp_len2 h) (fun cdv A outer s H E hr => ?_)
  have nd : N_law_take.Nodup := sc_law_take.nd
  have hu : _ + 64 < cLine := hr.units
  have tk : Takes (cxOf (L2.CX P w) P w K mg base N_law_take "_law_take" (defScope s_law_take) f cdv A outer s H E) (fun c d _ H => E c d H) := takes_of rfl rfl rfl rfl
  have po : PassesOwn (model P w) _ _ _ := passes_of (X := cxOf (L2.CX P w) P w K mg base N_law_take "_law_take" (defScope s_law_take) f cdv A outer s H E) rfl
  exact ⟨rd_law_take K, jss_cons (js_if (jt_cmp (kop_gt) (je_ix (je_var 0) (je_int)) (je_int) (nomark _)) (jss_cons (js_set (i := 2) (je_op kop_mod (je_ix (je_var 0) (je_int)) (je_var 1)) nd) (jss_cons (js_asg (je_op kop_fdiv (je_ix (je_var 0) (je_int)) (je_var 1)) (jg_ix (je_var 0) (je_int))) (jss_cons (js_ret (je_var 2)) (jss_nil)))) (jss_nil)) (jss_cons (js_asg (je_op kop_mod (je_op kop_add (je_op kop_mul (je_ix (je_var 0) (je_int)) (je_int)) (je_int)) (je_int)) (jg_ix (je_var 0) (je_int))) (jss_cons (js_ret (je_op kop_mod (je_op kop_fdiv (je_op kop_mod (je_op kop_mul (je_ix (je_var 0) (je_int)) (je_ix (je_var 0) (je_int))) (je_int)) (je_int)) (je_var 1))) (jss_nil))), fun vs G M R Z h => pf_law_take h⟩
theorem df_law_take {P : Program} {w : World} {K : PySem.W.Frag} {mg : Str → Option Value} {base : Heap} {f : Addr} {fd : FuncData} (B : Bs mg) (C : Cs K mg) (F : Fun K "_law_take" "_law_take" s_law_take f fd) (b : Binds K fd ["_law_pool_here", "_law_many"] []) (gm : mg "_law_take" = some (.ref f))  :
    Def P w K mg base 1 "_law_take" ["_law_pool_here", "_law_many"] (S_law_take K) := ⟨f, fd, fo_law_take B C F , gm, F.kp, b⟩
abbrev s_law_ask : Stmt := topS 71
abbrev N_law_ask : List Str := ["_law_pool_here", "_law_many", "_law_cell"]
theorem sc_law_ask : FnScope N_law_ask ["_law_pool_here", "_law_many"] (defScope s_law_ask) := ⟨rfl, rfl, rfl, by decide +kernel, rfl, by decide +kernel, by decide +kernel⟩
theorem fo_law_ask {P : Program} {w : World} {K : PySem.W.Frag} {mg : Str → Option Value} {base : Heap} {f : Addr} {fd : FuncData} (B : Bs mg) (C : Cs K mg) (F : Fun K "_law_ask" "_law_ask" s_law_ask f fd) (D_law_take : Def P w K mg base 1 "_law_take" ["_law_pool_here", "_law_many"] (S_law_take K)) :
    FnOk P w K mg base (L2.CX P w) 2 f fd ["_law_pool_here", "_law_many"] (lift (S_law_ask K)) := by
  refine fn_ok F sc_law_ask (fun vs G M R Z h => sp_len2 h) (fun cdv A outer s H E hr => ?_)
  have nd : N_law_ask.Nodup := sc_law_ask.nd
  have hu : _ + 64 < cLine := hr.units
  have tk : Takes (cxOf (L2.CX P w) P w K mg base N_law_ask "_law_ask" (defScope s_law_ask) f cdv A outer s H E) (fun c d _ H => E c d H) := takes_of rfl rfl rfl rfl
  have po : PassesOwn (model P w) _ _ _ := passes_of (X := cxOf (L2.CX P w) P w K mg base N_law_ask "_law_ask" (defScope s_law_ask) f cdv A outer s H E) rfl
  exact ⟨rd_law_ask K, jss_cons (js_set (i := 2) (je_callD D_law_take hr tk (ja_cons (je_var 0) (ja_cons (je_ix (je_lst (ja_cons (je_var 1) (ja_cons (je_callB kc_min2 B.min (ja_cons (je_var 1) (ja_cons (je_int) (ja_nil)))) (ja_nil)))) (je_callD D_law_take hr tk (ja_cons (je_var 0) (ja_cons (je_int) (ja_nil))))) (ja_nil)))) nd) (jss_cons (js_ret (je_ix (je_lst (ja_cons (je_tup (ja_cons (je_str) (ja_cons (je_var 2) (ja_nil)))) (ja_cons (je_tup (ja_cons (je_str) (ja_cons (je_var 2) (ja_cons (je_callD D_law_take hr tk (ja_cons (je_var 0) (ja_cons (je_int) (ja_nil)))) (ja_nil))))) (ja_nil)))) (je_callD D_law_take hr tk (ja_cons (je_var 0) (ja_cons (je_int) (ja_nil)))))) (jss_nil)), fun vs G M R Z h => pf_law_ask h⟩
theorem df_law_ask {P : Program} {w : World} {K : PySem.W.Frag} {mg : Str → Option Value} {base : Heap} {f : Addr} {fd : FuncData} (B : Bs mg) (C : Cs K mg) (F : Fun K "_law_ask" "_law_ask" s_law_ask f fd) (b : Binds K fd ["_law_pool_here", "_law_many"] []) (gm : mg "_law_ask" = some (.ref f)) (D_law_take : Def P w K mg base 1 "_law_take" ["_law_pool_here", "_law_many"] (S_law_take K)) :
    Def P w K mg base 2 "_law_ask" ["_law_pool_here", "_law_many"] (S_law_ask K) := ⟨f, fd, fo_law_ask B C F D_law_take, gm, F.kp, b⟩
abbrev s_law_rows : Stmt := topS 69
abbrev N_law_rows : List Str := ["_law_high", "_law_many", "_law_found", "_law_k", "_law_more", "_law_row", "_law_leaf"]
theorem sc_law_rows : FnScope N_law_rows ["_law_high", "_law_many"] (defScope s_law_rows) := ⟨rfl, rfl, rfl, by decide +kernel, rfl, by decide +kernel, by decide +kernel⟩
theorem fo_law_rows {P : Program} {w : World} {K : PySem.W.Frag} {mg : Str → Option Value} {base : Heap} {f : Addr} {fd : FuncData} (B : Bs mg) (C : Cs K mg) (F : Fun K "_law_rows" "_law_rows" s_law_rows f fd)  :
    FnOk P w K mg base (L2.CX P w) 1 f fd ["_law_high", "_law_many"] (lift (S_law_rows K)) := by
  refine fn_ok F sc_law_rows (fun vs G M R Z h => sp_len2 h) (fun cdv A outer s H E hr => ?_)
  have nd : N_law_rows.Nodup := sc_law_rows.nd
  have hu : _ + 64 < cLine := hr.units
  have tk : Takes (cxOf (L2.CX P w) P w K mg base N_law_rows "_law_rows" (defScope s_law_rows) f cdv A outer s H E) (fun c d _ H => E c d H) := takes_of rfl rfl rfl rfl
  have po : PassesOwn (model P w) _ _ _ := passes_of (X := cxOf (L2.CX P w) P w K mg base N_law_rows "_law_rows" (defScope s_law_rows) f cdv A outer s H E) rfl
  exact ⟨rd_law_rows K, jss_cons (js_set (i := 2) (je_lst (ja_cons (je_lst (ja_nil)) (ja_nil))) nd) (jss_cons (js_for po rfl (ji_range1 B.range (ja_cons (je_var 1) (ja_nil))) (jg_name (i := 3) nd) (jss_cons (js_set (i := 4) (je_lst (ja_nil)) nd) (jss_cons (js_for po rfl (ji_list (je_var 2)) (jg_name (i := 5) nd) (jss_cons (js_set (i := 4) (je_op kop_add (je_var 4) (je_comp (own := [("_law_leaf", 6)]) rfl nd (ji_range1 B.range (ja_cons (je_op kop_shl (je_int) (je_var 0)) (ja_nil))) (blkOk_by (own := [("_law_leaf", 6)]) (N := N_law_rows) (sc := defScope s_law_rows) (by decide +kernel)) (fun _ _ _ _ _ => by exact jg_name (i := 6) nd) (fun _ _ _ _ _ => by exact jts_nil) (fun _ _ _ _ _ => by exact je_op kop_add (je_var 5) (je_lst (ja_cons (je_var 6) (ja_nil)))))) nd) (jss_nil))) (jss_cons (js_set (i := 2) (je_var 4) nd) (jss_nil))))) (jss_cons (js_ret (je_var 2)) (jss_nil))), fun vs G M R Z h => pf_law_rows h⟩
theorem df_law_rows {P : Program} {w : World} {K : PySem.W.Frag} {mg : Str → Option Value} {base : Heap} {f : Addr} {fd : FuncData} (B : Bs mg) (C : Cs K mg) (F : Fun K "_law_rows" "_law_rows" s_law_rows f fd) (b : Binds K fd ["_law_high", "_law_many"] []) (gm : mg "_law_rows" = some (.ref f))  :
    Def P w K mg base 1 "_law_rows" ["_law_high", "_law_many"] (S_law_rows K) := ⟨f, fd, fo_law_rows B C F , gm, F.kp, b⟩
abbrev s_law_node : Stmt := topS 67
abbrev N_law_node : List Str := ["_law_high", "_law_depth", "_law_leaf"]
theorem sc_law_node : FnScope N_law_node ["_law_high", "_law_depth", "_law_leaf"] (defScope s_law_node) := ⟨rfl, rfl, rfl, by decide +kernel, rfl, by decide +kernel, by decide +kernel⟩
theorem fo_law_node {P : Program} {w : World} {K : PySem.W.Frag} {mg : Str → Option Value} {base : Heap} {f : Addr} {fd : FuncData} (B : Bs mg) (C : Cs K mg) (F : Fun K "_law_node" "_law_node" s_law_node f fd)  :
    FnOk P w K mg base (L2.CX P w) 1 f fd ["_law_high", "_law_depth", "_law_leaf"] (lift (S_law_node K)) := by
  refine fn_ok F sc_law_node (fun vs G M R Z h => sp_len3 h) (fun cdv A outer s H E hr => ?_)
  have nd : N_law_node.Nodup := sc_law_node.nd
  have hu : _ + 64 < cLine := hr.units
  have tk : Takes (cxOf (L2.CX P w) P w K mg base N_law_node "_law_node" (defScope s_law_node) f cdv A outer s H E) (fun c d _ H => E c d H) := takes_of rfl rfl rfl rfl
  have po : PassesOwn (model P w) _ _ _ := passes_of (X := cxOf (L2.CX P w) P w K mg base N_law_node "_law_node" (defScope s_law_node) f cdv A outer s H E) rfl
  exact ⟨rd_law_node K, jss_cons (js_ret (je_op kop_add (je_op kop_sub (je_op kop_shl (je_int) (je_var 1)) (je_int)) (je_op kop_fdiv (je_var 2) (je_op kop_shl (je_int) (je_op kop_sub (je_var 0) (je_var 1)))))) (jss_nil), fun vs G M R Z h => pf_law_node h⟩
theorem df_law_node {P : Program} {w : World} {K : PySem.W.Frag} {mg : Str → Option Value} {base : Heap} {f : Addr} {fd : FuncData} (B : Bs mg) (C : Cs K mg) (F : Fun K "_law_node" "_law_node" s_law_node f fd) (b : Binds K fd ["_law_high", "_law_depth", "_law_leaf"] []) (gm : mg "_law_node" = some (.ref f))  :
    Def P w K mg base 1 "_law_node" ["_law_high", "_law_depth", "_law_leaf"] (S_law_node K) := ⟨f, fd, fo_law_node B C F , gm, F.kp, b⟩
abbrev s_law_peak : Stmt := topS 68
abbrev N_law_peak : List Str := ["_law_high", "_law_many", "_law_asks", "_law_draws", "_law_held", "_law_nodes", "_law_node_here", "_law_hand", "_law_found", "_law_number", "_law_deed", "_law_way", "_law_depth", "_law_fits", "_law_cell"]
theorem sc_law_peak : FnScope N_law_peak ["_law_high", "_law_many", "_law_asks", "_law_draws"] (defScope s_law_peak) := ⟨rfl, rfl, rfl, by decide +kernel, rfl, by decide +kernel, by decide +kernel⟩
theorem fo_law_peak {P : Program} {w : World} {K : PySem.W.Frag} {mg : Str → Option Value} {base : Heap} {f : Addr} {fd : FuncData} (B : Bs mg) (C : Cs K mg) (F : Fun K "_law_peak" "_law_peak" s_law_peak f fd) (D_law_node : Def P w K mg base 1 "_law_node" ["_law_high", "_law_depth", "_law_leaf"] (S_law_node K)) :
    FnOk P w K mg base (L2.CX P w) 2 f fd ["_law_high", "_law_many", "_law_asks", "_law_draws"] (lift (S_law_peak K)) := by
  refine fn_ok F sc_law_peak (fun vs G M R Z h => sp_len4 h) (fun cdv A outer s H E hr => ?_)
  have nd : N_law_peak.Nodup := sc_law_peak.nd
  have hu : _ + 64 < cLine := hr.units
  have tk : Takes (cxOf (L2.CX P w) P w K mg base N_law_peak "_law_peak" (defScope s_law_peak) f cdv A outer s H E) (fun c d _ H => E c d H) := takes_of rfl rfl rfl rfl
  have po : PassesOwn (model P w) _ _ _ := passes_of (X := cxOf (L2.CX P w) P w K mg base N_law_peak "_law_peak" (defScope s_law_peak) f cdv A outer s H E) rfl
  exact ⟨rd_law_peak K, jss_cons (js_set (i := 4) (je_callTy kc_list B.list (ja_cons (je_slice (je_var 3) (jo_none) (jo_some (je_var 1))) (ja_nil))) nd) (jss_cons (js_setComp (own := [("_law_node_here", 6)]) (i := 5) rfl nd (sw_true rfl rfl rfl (by decide +kernel)) (ji_range1 B.range (ja_cons (je_op kop_sub (je_op kop_shl (je_int) (je_var 0)) (je_int)) (ja_nil))) (blkOk_by (own := [("_law_node_here", 6)]) (N := N_law_peak) (sc := defScope s_law_peak) (by decide +kernel)) (fun _ _ _ _ _ => by exact jg_name (i := 6) nd) (fun _ _ _ _ _ => by exact jts_nil) (fun _ _ _ _ _ => by exact je_lst (ja_nil))) (jss_cons (js_set (i := 7) (je_lst (ja_nil)) nd) (jss_cons (js_set (i := 8) (je_int) nd) (jss_cons (js_for po rfl (ji_enum B.enumerate (ja_cons (je_var 2) (ja_nil))) (jg_tup rfl (jgs_cons (jg_name (i := 9) nd) (jgs_cons (jg_name (i := 10) nd) (jgs_nil)))) (jss_cons (js_set (i := 11) (je_comp (own := [("_law_depth", 12)]) rfl nd (ji_range1 B.range (ja_cons (je_op kop_add (je_var 0) (je_int)) (ja_nil))) (blkOk_by (own := [("_law_depth", 12)]) (N := N_law_peak) (sc := defScope s_law_peak) (by decide +kernel)) (fun _ _ _ _ _ => by exact jg_name (i := 12) nd) (fun _ _ _ _ _ => by exact jts_nil) (fun _ _ _ _ _ => by exact je_callD D_law_node hr takes0 (ja_cons (je_var 0) (ja_cons (je_var 12) (ja_cons (je_ix (je_var 4) (je_ix (je_var 10) (je_int))) (ja_nil)))))) nd) (jss_cons (js_asg (je_ix (je_var 3) (je_op kop_add (je_var 1) (je_var 9))) (jg_ix (je_var 4) (je_ix (je_var 10) (je_int)))) (jss_cons (js_for po rfl (ji_list (je_var 11)) (jg_name (i := 6) nd) (jss_cons (js_set (i := 7) (je_op kop_add (je_var 7) (je_ix (je_var 5) (je_var 6))) nd) (jss_nil))) (jss_cons (js_set (i := 7) (je_sortedSet B.sorted B.set (je_op kop_add (je_var 7) (je_lst (ja_cons (je_ix (je_var 10) (je_int)) (ja_nil))))) nd) (jss_cons (js_for po rfl (ji_range3 B.range (ja_cons (je_var 0) (ja_cons (je_neg (je_int)) (ja_cons (je_neg (je_int)) (ja_nil))))) (jg_name (i := 12) nd) (jss_cons (js_set (i := 13) (je_comp (own := [("_law_cell", 14)]) rfl nd (ji_list (je_var 7)) (blkOk_by (own := [("_law_cell", 14)]) (N := N_law_peak) (sc := defScope s_law_peak) (by decide +kernel)) (fun _ _ _ _ _ => by exact jg_name (i := 14) nd) (fun _ _ _ _ _ => by exact jts_one (jt_cmp (kop_eq hu) (je_callD D_law_node hr takes0 (ja_cons (je_var 0) (ja_cons (je_var 12) (ja_cons (je_ix (je_var 4) (je_var 14)) (ja_nil))))) (je_ix (je_var 11) (je_var 12)) (nomark _))) (fun _ _ _ _ _ => by exact je_var 14)) nd) (jss_cons (js_asg (je_slice (je_var 13) (jo_none) (jo_some (je_int))) (jg_ix (je_var 5) (je_ix (je_var 11) (je_var 12)))) (jss_cons (js_setComp (own := [("_law_cell", 14)]) (i := 7) rfl nd (sw_true rfl rfl rfl (by decide +kernel)) (ji_list (je_var 7)) (blkOk_by (own := [("_law_cell", 14)]) (N := N_law_peak) (sc := defScope s_law_peak) (by decide +kernel)) (fun _ _ _ _ _ => by exact jg_name (i := 14) nd) (fun _ _ _ _ _ => by exact jts_one (jt_cmp (kop_notin) (je_var 14) (je_slice (je_var 13) (jo_none) (jo_some (je_int))) (by with_unfolding_all rfl))) (fun _ _ _ _ _ => by exact je_var 14)) (jss_nil))))) (jss_cons (js_set (i := 8) (je_callB kc_max2 B.max (ja_cons (je_var 8) (ja_cons (je_callB kc_len B.len (ja_cons (je_var 7) (ja_nil))) (ja_nil)))) nd) (jss_nil)))))))) (jss_cons (js_ret (je_var 8)) (jss_nil)))))), fun vs G M R Z h => pf_law_peak h⟩
theorem df_law_peak {P : Program} {w : World} {K : PySem.W.Frag} {mg : Str → Option Value} {base : Heap} {f : Addr} {fd : FuncData} (B : Bs mg) (C : Cs K mg) (F : Fun K "_law_peak" "_law_peak" s_law_peak f fd) (b : Binds K fd ["_law_high", "_law_many", "_law_asks", "_law_draws"] []) (gm : mg "_law_peak" = some (.ref f)) (D_law_node : Def P w K mg base 1 "_law_node" ["_law_high", "_law_depth", "_law_leaf"] (S_law_node K)) :
    Def P w K mg base 2 "_law_peak" ["_law_high", "_law_many", "_law_asks", "_law_draws"] (S_law_peak K) := ⟨f, fd, fo_law_peak B C F D_law_node, gm, F.kp, b⟩
abbrev s_law_due : Stmt := topS 70
abbrev N_law_due : List Str := ["_law_many", "_law_asks", "_law_firsts", "_law_high", "_law_k", "_law_due_here", "_law_draws", "_law_size"]
theorem sc_law_due : FnScope N_law_due ["_law_many", "_law_asks", "_law_firsts"] (defScope s_law_due) := ⟨rfl, rfl, rfl, by decide +kernel, rfl, by decide +kernel, by decide +kernel⟩
theorem fo_law_due {P : Program} {w : World} {K : PySem.W.Frag} {mg : Str → Option Value} {base : Heap} {f : Addr} {fd : FuncData} (B : Bs mg) (C : Cs K mg) (F : Fun K "_law_due" "_law_due" s_law_due f fd) (D_law_rows : Def P w K mg base 1 "_law_rows" ["_law_high", "_law_many"] (S_law_rows K)) (D_law_peak : Def P w K mg base 2 "_law_peak" ["_law_high", "_law_many", "_law_asks", "_law_draws"] (S_law_peak K)) :
    FnOk P w K mg base (L2.CX P w) 3 f fd ["_law_many", "_law_asks", "_law_firsts"] (lift (S_law_due K)) := by
  refine fn_ok F sc_law_due (fun vs G M R Z h => sp_len3 h) (fun cdv A outer s H E hr => ?_)
  have nd : N_law_due.Nodup := sc_law_due.nd
  have hu : _ + 64 < cLine := hr.units
  have tk : Takes (cxOf (L2.CX P w) P w K mg base N_law_due "_law_due" (defScope s_law_due) f cdv A outer s H E) (fun c d _ H => E c d H) := takes_of rfl rfl rfl rfl
  have po : PassesOwn (model P w) _ _ _ := passes_of (X := cxOf (L2.CX P w) P w K mg base N_law_due "_law_due" (defScope s_law_due) f cdv A outer s H E) rfl
  exact ⟨rd_law_due K, jss_cons (js_set (i := 3) (je_callB kc_len B.len (ja_cons (je_comp (own := [("_law_k", 4)]) rfl nd (ji_range1 B.range (ja_cons (je_int) (ja_nil))) (blkOk_by (own := [("_law_k", 4)]) (N := N_law_due) (sc := defScope s_law_due) (by decide +kernel)) (fun _ _ _ _ _ => by exact jg_name (i := 4) nd) (fun _ _ _ _ _ => by exact jts_one (jt_cmp (kop_lt) (je_op kop_shl (je_int) (je_var 4)) (je_var 0) (nomark _))) (fun _ _ _ _ _ => by exact je_var 4)) (ja_nil))) nd) (jss_cons (js_set (i := 5) (je_op kop_mul (je_lst (ja_cons (je_int) (ja_nil))) (je_op kop_add (je_var 0) (je_int))) nd) (jss_cons (js_for po rfl (ji_w (ji_list (je_callD D_law_rows hr tk (ja_cons (je_var 3) (ja_cons (je_callB kc_len B.len (ja_cons (je_var 1) (ja_nil))) (ja_nil)))))) (jg_name (i := 6) nd) (jss_cons (js_for po rfl (ji_range1 B.range (ja_cons (je_op kop_add (je_callD D_law_peak hr tk (ja_cons (je_var 3) (ja_cons (je_var 0) (ja_cons (je_var 1) (ja_cons (je_op kop_add (je_var 2) (je_var 6)) (ja_nil)))))) (je_int)) (ja_nil))) (jg_name (i := 7) nd) (jss_cons (js_asg (je_op kop_add (je_ix (je_var 5) (je_var 7)) (je_int)) (jg_ix (je_var 5) (je_var 7))) (jss_nil))) (jss_nil))) (jss_cons (js_ret (je_var 5)) (jss_nil)))), fun vs G M R Z h => pf_law_due h⟩
theorem df_law_due {P : Program} {w : World} {K : PySem.W.Frag} {mg : Str → Option Value} {base : Heap} {f : Addr} {fd : FuncData} (B : Bs mg) (C : Cs K mg) (F : Fun K "_law_due" "_law_due" s_law_due f fd) (b : Binds K fd ["_law_many", "_law_asks", "_law_firsts"] []) (gm : mg "_law_due" = some (.ref f)) (D_law_rows : Def P w K mg base 1 "_law_rows" ["_law_high", "_law_many"] (S_law_rows K)) (D_law_peak : Def P w K mg base 2 "_law_peak" ["_law_high", "_law_many", "_law_asks", "_law_draws"] (S_law_peak K)) :
    Def P w K mg base 3 "_law_due" ["_law_many", "_law_asks", "_law_firsts"] (S_law_due K) := ⟨f, fd, fo_law_due B C F D_law_rows D_law_peak, gm, F.kp, b⟩
abbrev s_is_whole : Stmt := topS 11
abbrev N_is_whole : List Str := ["thing"]
theorem sc_is_whole : FnScope N_is_whole ["thing"] (defScope s_is_whole) := ⟨rfl, rfl, rfl, by decide +kernel, rfl, by decide +kernel, by decide +kernel⟩
theorem fo_is_whole {P : Program} {w : World} {K : PySem.W.Frag} {mg : Str → Option Value} {base : Heap} {f : Addr} {fd : FuncData} (B : Bs mg) (C : Cs K mg) (F : Fun K "is_whole" "is_whole" s_is_whole f fd)  :
    FnOk P w K mg base (L2.CX P w) 1 f fd ["thing"] (lift (S_is_whole K)) := by
  refine fn_ok F sc_is_whole (fun vs G M R Z h => sp_len1 h) (fun cdv A outer s H E hr => ?_)
  have nd : N_is_whole.Nodup := sc_is_whole.nd
  have hu : _ + 64 < cLine := hr.units
  have tk : Takes (cxOf (L2.CX P w) P w K mg base N_is_whole "is_whole" (defScope s_is_whole) f cdv A outer s H E) (fun c d _ H => E c d H) := takes_of rfl rfl rfl rfl
  have po : PassesOwn (model P w) _ _ _ := passes_of (X := cxOf (L2.CX P w) P w K mg base N_is_whole "is_whole" (defScope s_is_whole) f cdv A outer s H E) rfl
  exact ⟨rd_is_whole K, jss_cons (js_ret (je_and (je_callB kc_isi B.isinstance (ja_cons (je_var 0) (ja_cons (je_ty B.int) (ja_nil)))) (je_one (je_not (je_callB kc_isi B.isinstance (ja_cons (je_var 0) (ja_cons (je_ty B.bool) (ja_nil)))))))) (jss_nil), fun vs G M R Z h => pf_is_whole h⟩
theorem df_is_whole {P : Program} {w : World} {K : PySem.W.Frag} {mg : Str → Option Value} {base : Heap} {f : Addr} {fd : FuncData} (B : Bs mg) (C : Cs K mg) (F : Fun K "is_whole" "is_whole" s_is_whole f fd) (b : Binds K fd ["thing"] []) (gm : mg "is_whole" = some (.ref f))  :
    Def P w K mg base 1 "is_whole" ["thing"] (S_is_whole K) := ⟨f, fd, fo_is_whole B C F , gm, F.kp, b⟩
abbrev s_is_within : Stmt := topS 12
abbrev N_is_within : List Str := ["thing", "least", "most"]
theorem sc_is_within : FnScope N_is_within ["thing", "least", "most"] (defScope s_is_within) := ⟨rfl, rfl, rfl, by decide +kernel, rfl, by decide +kernel, by decide +kernel⟩
theorem fo_is_within {P : Program} {w : World} {K : PySem.W.Frag} {mg : Str → Option Value} {base : Heap} {f : Addr} {fd : FuncData} (B : Bs mg) (C : Cs K mg) (F : Fun K "is_within" "is_within" s_is_within f fd) (D_is_whole : Def P w K mg base 1 "is_whole" ["thing"] (S_is_whole K)) :
    FnOk P w K mg base (L2.CX P w) 2 f fd ["thing", "least", "most"] (lift (S_is_within K)) := by
  refine fn_ok F sc_is_within (fun vs G M R Z h => sp_len3 h) (fun cdv A outer s H E hr => ?_)
  have nd : N_is_within.Nodup := sc_is_within.nd
  have hu : _ + 64 < cLine := hr.units
  have tk : Takes (cxOf (L2.CX P w) P w K mg base N_is_within "is_within" (defScope s_is_within) f cdv A outer s H E) (fun c d _ H => E c d H) := takes_of rfl rfl rfl rfl
  have po : PassesOwn (model P w) _ _ _ := passes_of (X := cxOf (L2.CX P w) P w K mg base N_is_within "is_within" (defScope s_is_within) f cdv A outer s H E) rfl
  exact ⟨rd_is_within K, jss_cons (js_ret (je_and (je_callD D_is_whole hr tk (ja_cons (je_var 0) (ja_nil))) (je_one (je_chain (kop_le) (kop_le) (je_var 1) (je_var 0) (je_var 2))))) (jss_nil), fun vs G M R Z h => pf_is_within h⟩
theorem df_is_within {P : Program} {w : World} {K : PySem.W.Frag} {mg : Str → Option Value} {base : Heap} {f : Addr} {fd : FuncData} (B : Bs mg) (C : Cs K mg) (F : Fun K "is_within" "is_within" s_is_within f fd) (b : Binds K fd ["thing", "least", "most"] []) (gm : mg "is_within" = some (.ref f)) (D_is_whole : Def P w K mg base 1 "is_whole" ["thing"] (S_is_whole K)) :
    Def P w K mg base 2 "is_within" ["thing", "least", "most"] (S_is_within K) := ⟨f, fd, fo_is_within B C F D_is_whole, gm, F.kp, b⟩
abbrev s_look_at_many : Stmt := topS 35
abbrev N_look_at_many : List Str := ["many"]
theorem sc_look_at_many : FnScope N_look_at_many ["many"] (defScope s_look_at_many) := ⟨rfl, rfl, rfl, by decide +kernel, rfl, by decide +kernel, by decide +kernel⟩
theorem fo_look_at_many {P : Program} {w : World} {K : PySem.W.Frag} {mg : Str → Option Value} {base : Heap} {f : Addr} {fd : FuncData} (B : Bs mg) (C : Cs K mg) (F : Fun K "look_at_many" "look_at_many" s_look_at_many f fd) (D_is_within : Def P w K mg base 2 "is_within" ["thing", "least", "most"] (S_is_within K)) :
    FnOk P w K mg base (L2.CX P w) 3 f fd ["many"] (lift (S_look_at_many K)) := by
  refine fn_ok F sc_look_at_many (fun vs G M R Z h => sp_len1 h) (fun cdv A outer s H E hr => ?_)
  have nd : N_look_at_many.Nodup := sc_look_at_many.nd
  have hu : _ + 64 < cLine := hr.units
  have tk : Takes (cxOf (L2.CX P w) P w K mg base N_look_at_many "look_at_many" (defScope s_look_at_many) f cdv A outer s H E) (fun c d _ H => E c d H) := takes_of rfl rfl rfl rfl
  have po : PassesOwn (model P w) _ _ _ := passes_of (X := cxOf (L2.CX P w) P w K mg base N_look_at_many "look_at_many" (defScope s_look_at_many) f cdv A outer s H E) rfl
  exact ⟨rd_look_at_many K, jss_cons (js_if (jt_not (jt_val (je_callD D_is_within hr tk (ja_cons (je_var 0) (ja_cons (je_int) (ja_cons (je_const C.k_MOST_CELLS) (ja_nil))))))) (jss_cons (js_raise C.g_NoSize C.r_NoSize tk) (jss_nil)) (jss_nil)) (jss_nil), fun vs G M R Z h => pf_look_at_many h⟩
theorem df_look_at_many {P : Program} {w : World} {K : PySem.W.Frag} {mg : Str → Option Value} {base : Heap} {f : Addr} {fd : FuncData} (B : Bs mg) (C : Cs K mg) (F : Fun K "look_at_many" "look_at_many" s_look_at_many f fd) (b : Binds K fd ["many"] []) (gm : mg "look_at_many" = some (.ref f)) (D_is_within : Def P w K mg base 2 "is_within" ["thing", "least", "most"] (S_is_within K)) :
    Def P w K mg base 3 "look_at_many" ["many"] (S_look_at_many K) := ⟨f, fd, fo_look_at_many B C F D_is_within, gm, F.kp, b⟩
abbrev s_is_ask : Stmt := topS 50
abbrev N_is_ask : List Str := ["many", "thing"]
theorem sc_is_ask : FnScope N_is_ask ["many", "thing"] (defScope s_is_ask) := ⟨rfl, rfl, rfl, by decide +kernel, rfl, by decide +kernel, by decide +kernel⟩
theorem fo_is_ask {P : Program} {w : World} {K : PySem.W.Frag} {mg : Str → Option Value} {base : Heap} {f : Addr} {fd : FuncData} (B : Bs mg) (C : Cs K mg) (F : Fun K "is_ask" "is_ask" s_is_ask f fd) (D_is_within : Def P w K mg base 2 "is_within" ["thing", "least", "most"] (S_is_within K)) :
    FnOk P w K mg base (L2.CX P w) 3 f fd ["many", "thing"] (lift (S_is_ask K)) := by
  refine fn_ok F sc_is_ask (fun vs G M R Z h => sp_len2 h) (fun cdv A outer s H E hr => ?_)
  have nd : N_is_ask.Nodup := sc_is_ask.nd
  have hu : _ + 64 < cLine := hr.units
  have tk : Takes (cxOf (L2.CX P w) P w K mg base N_is_ask "is_ask" (defScope s_is_ask) f cdv A outer s H E) (fun c d _ H => E c d H) := takes_of rfl rfl rfl rfl
  have po : PassesOwn (model P w) _ _ _ := passes_of (X := cxOf (L2.CX P w) P w K mg base N_is_ask "is_ask" (defScope s_is_ask) f cdv A outer s H E) rfl
  exact ⟨rd_is_ask K, jss_cons (js_if ((jw_or (jt_not (jt_val (je_callB kc_isi B.isinstance (ja_cons (je_var 1) (ja_cons (je_ty B.tuple) (ja_nil)))))) (jw_or (jt_cmp (kop_lt) (je_callB kc_len B.len (ja_cons (je_var 1) (ja_nil))) (je_int) (nomark _)) (jw_or1 (jt_not (jt_val (je_callD D_is_within hr tk (ja_cons (je_ix (je_var 1) (je_int)) (ja_cons (je_int) (ja_cons (je_op kop_sub (je_var 0) (je_int)) (ja_nil)))))))))).jt) (jss_cons (js_ret (je_bl)) (jss_nil)) (jss_nil)) (jss_cons (js_if (jt_cmp (kop_eq hu) (je_callB kc_len B.len (ja_cons (je_var 1) (ja_nil))) (je_int) (nomark _)) (jss_cons (js_ret (je_cmp (kop_eqD hu) (je_ix (je_var 1) (je_int)) (je_str) (nomark _))) (jss_nil)) (jss_nil)) (jss_cons (js_ret (je_and (je_cmp (kop_eq hu) (je_callB kc_len B.len (ja_cons (je_var 1) (ja_nil))) (je_int) (nomark _)) (je_and (je_cmp (kop_eqD hu) (je_ix (je_var 1) (je_int)) (je_str) (nomark _)) (je_one (je_callD D_is_within hr tk (ja_cons (je_ix (je_var 1) (je_int)) (ja_cons (je_int) (ja_cons (je_const C.k_GREATEST) (ja_nil))))))))) (jss_nil))), fun vs G M R Z h => pf_is_ask h⟩
theorem df_is_ask {P : Program} {w : World} {K : PySem.W.Frag} {mg : Str → Option Value} {base : Heap} {f : Addr} {fd : FuncData} (B : Bs mg) (C : Cs K mg) (F : Fun K "is_ask" "is_ask" s_is_ask f fd) (b : Binds K fd ["many", "thing"] []) (gm : mg "is_ask" = some (.ref f)) (D_is_within : Def P w K mg base 2 "is_within" ["thing", "least", "most"] (S_is_within K)) :
    Def P w K mg base 3 "is_ask" ["many", "thing"] (S_is_ask K) := ⟨f, fd, fo_is_ask B C F D_is_within, gm, F.kp, b⟩
abbrev s_look_at_asks : Stmt := topS 54
abbrev N_look_at_asks : List Str := ["many", "asks", "deed"]
theorem sc_look_at_asks : FnScope N_look_at_asks ["many", "asks"] (defScope s_look_at_asks) := ⟨rfl, rfl, rfl, by decide +kernel, rfl, by decide +kernel, by decide +kernel⟩
theorem fo_look_at_asks {P : Program} {w : World} {K : PySem.W.Frag} {mg : Str → Option Value} {base : Heap} {f : Addr} {fd : FuncData} (B : Bs mg) (C : Cs K mg) (F : Fun K "look_at_asks" "look_at_asks" s_look_at_asks f fd) (D_is_ask : Def P w K mg base 3 "is_ask" ["many", "thing"] (S_is_ask K)) :
    FnOk P w K mg base (L2.CX P w) 4 f fd ["many", "asks"] (lift (S_look_at_asks K)) := by
  refine fn_ok F sc_look_at_asks (fun vs G M R Z h => sp_len2 h) (fun cdv A outer s H E hr => ?_)
  have nd : N_look_at_asks.Nodup := sc_look_at_asks.nd
  have hu : _ + 64 < cLine := hr.units
  have tk : Takes (cxOf (L2.CX P w) P w K mg base N_look_at_asks "look_at_asks" (defScope s_look_at_asks) f cdv A outer s H E) (fun c d _ H => E c d H) := takes_of rfl rfl rfl rfl
  have po : PassesOwn (model P w) _ _ _ := passes_of (X := cxOf (L2.CX P w) P w K mg base N_look_at_asks "look_at_asks" (defScope s_look_at_asks) f cdv A outer s H E) rfl
  exact ⟨rd_look_at_asks K, jss_cons (js_if ((jw_or (jt_not (jt_val (je_callB kc_isi B.isinstance (ja_cons (je_var 1) (ja_cons (je_ty B.list) (ja_nil)))))) (jw_or1 (jt_cmp (kop_gt) (je_callB kc_len B.len (ja_cons (je_var 1) (ja_nil))) (je_const C.k_MOST_ASKS) (nomark _)))).jt) (jss_cons (js_raise C.g_NoAsk C.r_NoAsk tk) (jss_nil)) (jss_nil)) (jss_cons (js_for po rfl (ji_list (je_var 1)) (jg_name (i := 2) nd) (jss_cons (js_if (jt_not (jt_val (je_callD D_is_ask hr tk (ja_cons (je_var 0) (ja_cons (je_var 2) (ja_nil)))))) (jss_cons (js_raise C.g_NoAsk C.r_NoAsk tk) (jss_nil)) (jss_nil)) (jss_nil))) (jss_nil)), fun vs G M R Z h => pf_look_at_asks h⟩
theorem df_look_at_asks {P : Program} {w : World} {K : PySem.W.Frag} {mg : Str → Option Value} {base : Heap} {f : Addr} {fd : FuncData} (B : Bs mg) (C : Cs K mg) (F : Fun K "look_at_asks" "look_at_asks" s_look_at_asks f fd) (b : Binds K fd ["many", "asks"] []) (gm : mg "look_at_asks" = some (.ref f)) (D_is_ask : Def P w K mg base 3 "is_ask" ["many", "thing"] (S_is_ask K)) :
    Def P w K mg base 4 "look_at_asks" ["many", "asks"] (S_look_at_asks K) := ⟨f, fd, fo_look_at_asks B C F D_is_ask, gm, F.kp, b⟩
abbrev s_high_of : Stmt := topS 38
abbrev N_high_of : List Str := ["many", "high"]
theorem sc_high_of : FnScope N_high_of ["many"] (defScope s_high_of) := ⟨rfl, rfl, rfl, by decide +kernel, rfl, by decide +kernel, by decide +kernel⟩
theorem fo_high_of {P : Program} {w : World} {K : PySem.W.Frag} {mg : Str → Option Value} {base : Heap} {f : Addr} {fd : FuncData} (B : Bs mg) (C : Cs K mg) (F : Fun K "high_of" "high_of" s_high_of f fd)  :
    FnOk P w K mg base (L2.CX P w) 1 f fd ["many"] (lift (S_high_of K)) := by
  refine fn_ok F sc_high_of (fun vs G M R Z h => sp_len1 h) (fun cdv A outer s H E hr => ?_)
  have nd : N_high_of.Nodup := sc_high_of.nd
  have hu : _ + 64 < cLine := hr.units
  have tk : Takes (cxOf (L2.CX P w) P w K mg base N_high_of "high_of" (defScope s_high_of) f cdv A outer s H E) (fun c d _ H => E c d H) := takes_of rfl rfl rfl rfl
  have po : PassesOwn (model P w) _ _ _ := passes_of (X := cxOf (L2.CX P w) P w K mg base N_high_of "high_of" (defScope s_high_of) f cdv A outer s H E) rfl
  exact ⟨rd_high_of K, jss_cons (js_set (i := 1) (je_int) nd) (jss_cons (js_while po (jt_cmp (kop_lt) (je_op kop_shl (je_int) (je_var 1)) (je_var 0) (nomark _)) (jss_cons (js_set (i := 1) (je_op kop_add (je_var 1) (je_int)) nd) (jss_nil))) (jss_cons (js_ret (je_var 1)) (jss_nil))), fun vs G M R Z h => pf_high_of h⟩
theorem df_high_of {P : Program} {w : World} {K : PySem.W.Frag} {mg : Str → Option Value} {base : Heap} {f : Addr} {fd : FuncData} (B : Bs mg) (C : Cs K mg) (F : Fun K "high_of" "high_of" s_high_of f fd) (b : Binds K fd ["many"] []) (gm : mg "high_of" = some (.ref f))  :
    Def P w K mg base 1 "high_of" ["many"] (S_high_of K) := ⟨f, fd, fo_high_of B C F , gm, F.kp, b⟩
abbrev s_leaves : Stmt := topS 24
abbrev N_leaves : List Str := ["high"]
theorem sc_leaves : FnScope N_leaves ["high"] (defScope s_leaves) := ⟨rfl, rfl, rfl, by decide +kernel, rfl, by decide +kernel, by decide +kernel⟩
theorem fo_leaves {P : Program} {w : World} {K : PySem.W.Frag} {mg : Str → Option Value} {base : Heap} {f : Addr} {fd : FuncData} (B : Bs mg) (C : Cs K mg) (F : Fun K "leaves" "leaves" s_leaves f fd)  :
    FnOk P w K mg base (L2.CX P w) 1 f fd ["high"] (lift (S_leaves K)) := by
  refine fn_ok F sc_leaves (fun vs G M R Z h => sp_len1 h) (fun cdv A outer s H E hr => ?_)
  have nd : N_leaves.Nodup := sc_leaves.nd
  have hu : _ + 64 < cLine := hr.units
  have tk : Takes (cxOf (L2.CX P w) P w K mg base N_leaves "leaves" (defScope s_leaves) f cdv A outer s H E) (fun c d _ H => E c d H) := takes_of rfl rfl rfl rfl
  have po : PassesOwn (model P w) _ _ _ := passes_of (X := cxOf (L2.CX P w) P w K mg base N_leaves "leaves" (defScope s_leaves) f cdv A outer s H E) rfl
  exact ⟨rd_leaves K, jss_cons (js_ret (je_op kop_shl (je_int) (je_var 0))) (jss_nil), fun vs G M R Z h => pf_leaves h⟩
theorem df_leaves {P : Program} {w : World} {K : PySem.W.Frag} {mg : Str → Option Value} {base : Heap} {f : Addr} {fd : FuncData} (B : Bs mg) (C : Cs K mg) (F : Fun K "leaves" "leaves" s_leaves f fd) (b : Binds K fd ["high"] []) (gm : mg "leaves" = some (.ref f))  :
    Def P w K mg base 1 "leaves" ["high"] (S_leaves K) := ⟨f, fd, fo_leaves B C F , gm, F.kp, b⟩
abbrev s_is_row : Stmt := topS 22
abbrev N_is_row : List Str := ["size", "thing", "place", "number"]
theorem sc_is_row : FnScope N_is_row ["size", "thing"] (defScope s_is_row) := ⟨rfl, rfl, rfl, by decide +kernel, rfl, by decide +kernel, by decide +kernel⟩
theorem fo_is_row {P : Program} {w : World} {K : PySem.W.Frag} {mg : Str → Option Value} {base : Heap} {f : Addr} {fd : FuncData} (B : Bs mg) (C : Cs K mg) (F : Fun K "is_row" "is_row" s_is_row f fd) (D_is_within : Def P w K mg base 2 "is_within" ["thing", "least", "most"] (S_is_within K)) :
    FnOk P w K mg base (L2.CX P w) 3 f fd ["size", "thing"] (lift (S_is_row K)) := by
  refine fn_ok F sc_is_row (fun vs G M R Z h => sp_len2 h) (fun cdv A outer s H E hr => ?_)
  have nd : N_is_row.Nodup := sc_is_row.nd
  have hu : _ + 64 < cLine := hr.units
  have tk : Takes (cxOf (L2.CX P w) P w K mg base N_is_row "is_row" (defScope s_is_row) f cdv A outer s H E) (fun c d _ H => E c d H) := takes_of rfl rfl rfl rfl
  have po : PassesOwn (model P w) _ _ _ := passes_of (X := cxOf (L2.CX P w) P w K mg base N_is_row "is_row" (defScope s_is_row) f cdv A outer s H E) rfl
  exact ⟨rd_is_row K, jss_cons (js_if ((jw_or (jt_not (jt_val (je_callB kc_isi B.isinstance (ja_cons (je_var 1) (ja_cons (je_ty B.list) (ja_nil)))))) (jw_or1 (jt_cmp (kop_ne hu) (je_callB kc_len B.len (ja_cons (je_var 1) (ja_nil))) (je_var 0) (nomark _)))).jt) (jss_cons (js_ret (je_bl)) (jss_nil)) (jss_nil)) (jss_cons (js_ret (je_callB kc_all B.all (ja_cons (je_comp (own := [("place", 2), ("number", 3)]) rfl nd (ji_enum B.enumerate (ja_cons (je_var 1) (ja_nil))) (blkOk_by (own := [("place", 2), ("number", 3)]) (N := N_is_row) (sc := defScope s_is_row) (by decide +kernel)) (fun _ _ _ _ _ => by exact jg_tup rfl (jgs_cons (jg_name (i := 2) nd) (jgs_cons (jg_name (i := 3) nd) (jgs_nil)))) (fun _ _ _ _ _ => by exact jts_nil) (fun _ _ _ _ _ => by exact je_callD D_is_within hr takes0 (ja_cons (je_var 3) (ja_cons (je_int) (ja_cons (je_var 2) (ja_nil)))))) (ja_nil)))) (jss_nil)), fun vs G M R Z h => pf_is_row h⟩
theorem df_is_row {P : Program} {w : World} {K : PySem.W.Frag} {mg : Str → Option Value} {base : Heap} {f : Addr} {fd : FuncData} (B : Bs mg) (C : Cs K mg) (F : Fun K "is_row" "is_row" s_is_row f fd) (b : Binds K fd ["size", "thing"] []) (gm : mg "is_row" = some (.ref f)) (D_is_within : Def P w K mg base 2 "is_within" ["thing", "least", "most"] (S_is_within K)) :
    Def P w K mg base 3 "is_row" ["size", "thing"] (S_is_row K) := ⟨f, fd, fo_is_row B C F D_is_within, gm, F.kp, b⟩
abbrev s_is_draw : Stmt := topS 23
abbrev N_is_draw : List Str := ["kind", "thing"]
theorem sc_is_draw : FnScope N_is_draw ["kind", "thing"] (defScope s_is_draw) := ⟨rfl, rfl, rfl, by decide +kernel, rfl, by decide +kernel, by decide +kernel⟩
theorem fo_is_draw {P : Program} {w : World} {K : PySem.W.Frag} {mg : Str → Option Value} {base : Heap} {f : Addr} {fd : FuncData} (B : Bs mg) (C : Cs K mg) (F : Fun K "is_draw" "is_draw" s_is_draw f fd) (D_leaves : Def P w K mg base 1 "leaves" ["high"] (S_leaves K)) (D_is_within : Def P w K mg base 2 "is_within" ["thing", "least", "most"] (S_is_within K)) (D_is_row : Def P w K mg base 3 "is_row" ["size", "thing"] (S_is_row K)) :
    FnOk P w K mg base (L2.CX P w) 4 f fd ["kind", "thing"] (lift (S_is_draw K)) := by
  refine fn_ok F sc_is_draw (fun vs G M R Z h => sp_len2 h) (fun cdv A outer s H E hr => ?_)
  have nd : N_is_draw.Nodup := sc_is_draw.nd
  have hu : _ + 64 < cLine := hr.units
  have tk : Takes (cxOf (L2.CX P w) P w K mg base N_is_draw "is_draw" (defScope s_is_draw) f cdv A outer s H E) (fun c d _ H => E c d H) := takes_of rfl rfl rfl rfl
  have po : PassesOwn (model P w) _ _ _ := passes_of (X := cxOf (L2.CX P w) P w K mg base N_is_draw "is_draw" (defScope s_is_draw) f cdv A outer s H E) rfl
  exact ⟨rd_is_draw K, jss_cons (js_if (jt_cmp (kop_eq hu) (je_ix (je_var 0) (je_int)) (je_str) (nomark _)) (jss_cons (js_ret (je_callD D_is_within hr tk (ja_cons (je_var 1) (ja_cons (je_int) (ja_cons (je_op kop_sub (je_callD D_leaves hr tk (ja_cons (je_ix (je_var 0) (je_int)) (ja_nil))) (je_int)) (ja_nil)))))) (jss_nil)) (jss_nil)) (jss_cons (js_ret (je_callD D_is_row hr tk (ja_cons (je_ix (je_var 0) (je_int)) (ja_cons (je_var 1) (ja_nil))))) (jss_nil)), fun vs G M R Z h => pf_is_draw h⟩
theorem df_is_draw {P : Program} {w : World} {K : PySem.W.Frag} {mg : Str → Option Value} {base : Heap} {f : Addr} {fd : FuncData} (B : Bs mg) (C : Cs K mg) (F : Fun K "is_draw" "is_draw" s_is_draw f fd) (b : Binds K fd ["kind", "thing"] []) (gm : mg "is_draw" = some (.ref f)) (D_leaves : Def P w K mg base 1 "leaves" ["high"] (S_leaves K)) (D_is_within : Def P w K mg base 2 "is_within" ["thing", "least", "most"] (S_is_within K)) (D_is_row : Def P w K mg base 3 "is_row" ["size", "thing"] (S_is_row K)) :
    Def P w K mg base 4 "is_draw" ["kind", "thing"] (S_is_draw K) := ⟨f, fd, fo_is_draw B C F D_leaves D_is_within D_is_row, gm, F.kp, b⟩
abbrev s_look_at_draws : Stmt := topS 25
abbrev N_look_at_draws : List Str := ["kinds", "thing", "place", "kind"]
theorem sc_look_at_draws : FnScope N_look_at_draws ["kinds", "thing"] (defScope s_look_at_draws) := ⟨rfl, rfl, rfl, by decide +kernel, rfl, by decide +kernel, by decide +kernel⟩
theorem fo_look_at_draws {P : Program} {w : World} {K : PySem.W.Frag} {mg : Str → Option Value} {base : Heap} {f : Addr} {fd : FuncData} (B : Bs mg) (C : Cs K mg) (F : Fun K "look_at_draws" "look_at_draws" s_look_at_draws f fd) (D_is_draw : Def P w K mg base 4 "is_draw" ["kind", "thing"] (S_is_draw K)) :
    FnOk P w K mg base (L2.CX P w) 5 f fd ["kinds", "thing"] (lift (S_look_at_draws K)) := by
  refine fn_ok F sc_look_at_draws (fun vs G M R Z h => sp_len2 h) (fun cdv A outer s H E hr => ?_)
  have nd : N_look_at_draws.Nodup := sc_look_at_draws.nd
  have hu : _ + 64 < cLine := hr.units
  have tk : Takes (cxOf (L2.CX P w) P w K mg base N_look_at_draws "look_at_draws" (defScope s_look_at_draws) f cdv A outer s H E) (fun c d _ H => E c d H) := takes_of rfl rfl rfl rfl
  have po : PassesOwn (model P w) _ _ _ := passes_of (X := cxOf (L2.CX P w) P w K mg base N_look_at_draws "look_at_draws" (defScope s_look_at_draws) f cdv A outer s H E) rfl
  exact ⟨rd_look_at_draws K, jss_cons (js_if ((jw_or (jt_not (jt_val (je_callB kc_isi B.isinstance (ja_cons (je_var 1) (ja_cons (je_ty B.list) (ja_nil)))))) (jw_or1 (jt_cmp (kop_ne hu) (je_callB kc_len B.len (ja_cons (je_var 1) (ja_nil))) (je_callB kc_len B.len (ja_cons (je_var 0) (ja_nil))) (nomark _)))).jt) (jss_cons (js_never) (jss_nil)) (jss_nil)) (jss_cons (js_for po rfl (ji_enum B.enumerate (ja_cons (je_var 0) (ja_nil))) (jg_tup rfl (jgs_cons (jg_name (i := 2) nd) (jgs_cons (jg_name (i := 3) nd) (jgs_nil)))) (jss_cons (js_if (jt_not (jt_val (je_callD D_is_draw hr tk (ja_cons (je_var 3) (ja_cons (je_ix (je_var 1) (je_var 2)) (ja_nil)))))) (jss_cons (js_never) (jss_nil)) (jss_nil)) (jss_nil))) (jss_nil)), fun vs G M R Z h => pf_look_at_draws h⟩
theorem df_look_at_draws {P : Program} {w : World} {K : PySem.W.Frag} {mg : Str → Option Value} {base : Heap} {f : Addr} {fd : FuncData} (B : Bs mg) (C : Cs K mg) (F : Fun K "look_at_draws" "look_at_draws" s_look_at_draws f fd) (b : Binds K fd ["kinds", "thing"] []) (gm : mg "look_at_draws" = some (.ref f)) (D_is_draw : Def P w K mg base 4 "is_draw" ["kind", "thing"] (S_is_draw K)) :
    Def P w K mg base 5 "look_at_draws" ["kinds", "thing"] (S_look_at_draws K) := ⟨f, fd, fo_look_at_draws B C F D_is_draw, gm, F.kp, b⟩
abbrev s_many_of : Stmt := topS 27
abbrev N_many_of : List Str := ["kind", "many", "number"]
theorem sc_many_of : FnScope N_many_of ["kind"] (defScope s_many_of) := ⟨rfl, rfl, rfl, by decide +kernel, rfl, by decide +kernel, by decide +kernel⟩
theorem fo_many_of {P : Program} {w : World} {K : PySem.W.Frag} {mg : Str → Option Value} {base : Heap} {f : Addr} {fd : FuncData} (B : Bs mg) (C : Cs K mg) (F : Fun K "many_of" "many_of" s_many_of f fd) (D_leaves : Def P w K mg base 1 "leaves" ["high"] (S_leaves K)) :
    FnOk P w K mg base (L2.CX P w) 2 f fd ["kind"] (lift (S_many_of K)) := by
  refine fn_ok F sc_many_of (fun vs G M R Z h => sp_len1 h) (fun cdv A outer s H E hr => ?_)
  have nd : N_many_of.Nodup := sc_many_of.nd
  have hu : _ + 64 < cLine := hr.units
  have tk : Takes (cxOf (L2.CX P w) P w K mg base N_many_of "many_of" (defScope s_many_of) f cdv A outer s H E) (fun c d _ H => E c d H) := takes_of rfl rfl rfl rfl
  have po : PassesOwn (model P w) _ _ _ := passes_of (X := cxOf (L2.CX P w) P w K mg base N_many_of "many_of" (defScope s_many_of) f cdv A outer s H E) rfl
  exact ⟨rd_many_of K, jss_cons (js_if (jt_cmp (kop_eq hu) (je_ix (je_var 0) (je_int)) (je_str) (nomark _)) (jss_cons (js_ret (je_callD D_leaves hr tk (ja_cons (je_ix (je_var 0) (je_int)) (ja_nil)))) (jss_nil)) (jss_nil)) (jss_cons (js_set (i := 1) (je_int) nd) (jss_cons (js_for po rfl (ji_range2 B.range (ja_cons (je_int) (ja_cons (je_op kop_add (je_ix (je_var 0) (je_int)) (je_int)) (ja_nil)))) (jg_name (i := 2) nd) (jss_cons (js_set (i := 1) (je_op kop_mul (je_var 1) (je_var 2)) nd) (jss_nil))) (jss_cons (js_ret (je_var 1)) (jss_nil)))), fun vs G M R Z h => pf_many_of h⟩
theorem df_many_of {P : Program} {w : World} {K : PySem.W.Frag} {mg : Str → Option Value} {base : Heap} {f : Addr} {fd : FuncData} (B : Bs mg) (C : Cs K mg) (F : Fun K "many_of" "many_of" s_many_of f fd) (b : Binds K fd ["kind"] []) (gm : mg "many_of" = some (.ref f)) (D_leaves : Def P w K mg base 1 "leaves" ["high"] (S_leaves K)) :
    Def P w K mg base 2 "many_of" ["kind"] (S_many_of K) := ⟨f, fd, fo_many_of B C F D_leaves, gm, F.kp, b⟩
abbrev s_how_many : Stmt := topS 28
abbrev N_how_many : List Str := ["kinds", "many", "kind"]
theorem sc_how_many : FnScope N_how_many ["kinds"] (defScope s_how_many) := ⟨rfl, rfl, rfl, by decide +kernel, rfl, by decide +kernel, by decide +kernel⟩
theorem fo_how_many {P : Program} {w : World} {K : PySem.W.Frag} {mg : Str → Option Value} {base : Heap} {f : Addr} {fd : FuncData} (B : Bs mg) (C : Cs K mg) (F : Fun K "how_many" "how_many" s_how_many f fd) (D_many_of : Def P w K mg base 2 "many_of" ["kind"] (S_many_of K)) :
    FnOk P w K mg base (L2.CX P w) 3 f fd ["kinds"] (lift (S_how_many K)) := by
  refine fn_ok F sc_how_many (fun vs G M R Z h => sp_len1 h) (fun cdv A outer s H E hr => ?_)
  have nd : N_how_many.Nodup := sc_how_many.nd
  have hu : _ + 64 < cLine := hr.units
  have tk : Takes (cxOf (L2.CX P w) P w K mg base N_how_many "how_many" (defScope s_how_many) f cdv A outer s H E) (fun c d _ H => E c d H) := takes_of rfl rfl rfl rfl
  have po : PassesOwn (model P w) _ _ _ := passes_of (X := cxOf (L2.CX P w) P w K mg base N_how_many "how_many" (defScope s_how_many) f cdv A outer s H E) rfl
  exact ⟨rd_how_many K, jss_cons (js_set (i := 1) (je_int) nd) (jss_cons (js_for po rfl (ji_list (je_var 0)) (jg_name (i := 2) nd) (jss_cons (js_set (i := 1) (je_op kop_mul (je_var 1) (je_callD D_many_of hr tk (ja_cons (je_var 2) (ja_nil)))) nd) (jss_nil))) (jss_cons (js_ret (je_var 1)) (jss_nil))), fun vs G M R Z h => pf_how_many h⟩
theorem df_how_many {P : Program} {w : World} {K : PySem.W.Frag} {mg : Str → Option Value} {base : Heap} {f : Addr} {fd : FuncData} (B : Bs mg) (C : Cs K mg) (F : Fun K "how_many" "how_many" s_how_many f fd) (b : Binds K fd ["kinds"] []) (gm : mg "how_many" = some (.ref f)) (D_many_of : Def P w K mg base 2 "many_of" ["kind"] (S_many_of K)) :
    Def P w K mg base 3 "how_many" ["kinds"] (S_how_many K) := ⟨f, fd, fo_how_many B C F D_many_of, gm, F.kp, b⟩
abbrev s_row_at : Stmt := topS 29
abbrev N_row_at : List Str := ["size", "number", "row", "place"]
theorem sc_row_at : FnScope N_row_at ["size", "number"] (defScope s_row_at) := ⟨rfl, rfl, rfl, by decide +kernel, rfl, by decide +kernel, by decide +kernel⟩
theorem fo_row_at {P : Program} {w : World} {K : PySem.W.Frag} {mg : Str → Option Value} {base : Heap} {f : Addr} {fd : FuncData} (B : Bs mg) (C : Cs K mg) (F : Fun K "row_at" "row_at" s_row_at f fd)  :
    FnOk P w K mg base (L2.CX P w) 1 f fd ["size", "number"] (lift (S_row_at K)) := by
  refine fn_ok F sc_row_at (fun vs G M R Z h => sp_len2 h) (fun cdv A outer s H E hr => ?_)
  have nd : N_row_at.Nodup := sc_row_at.nd
  have hu : _ + 64 < cLine := hr.units
  have tk : Takes (cxOf (L2.CX P w) P w K mg base N_row_at "row_at" (defScope s_row_at) f cdv A outer s H E) (fun c d _ H => E c d H) := takes_of rfl rfl rfl rfl
  have po : PassesOwn (model P w) _ _ _ := passes_of (X := cxOf (L2.CX P w) P w K mg base N_row_at "row_at" (defScope s_row_at) f cdv A outer s H E) rfl
  exact ⟨rd_row_at K, jss_cons (js_set (i := 2) (je_lst (ja_nil)) nd) (jss_cons (js_for po rfl (ji_range3 B.range (ja_cons (je_op kop_sub (je_var 0) (je_int)) (ja_cons (je_neg (je_int)) (ja_cons (je_neg (je_int)) (ja_nil))))) (jg_name (i := 3) nd) (jss_cons (js_expr (je_bm PySem.F.plainAttrs_list PySem.F.slot_list_append PySem.F.type_list_append km_append (je_var 2) (ja_cons (je_op kop_mod (je_var 1) (je_op kop_add (je_var 3) (je_int))) (ja_nil)))) (jss_cons (js_set (i := 1) (je_op kop_fdiv (je_var 1) (je_op kop_add (je_var 3) (je_int))) nd) (jss_nil)))) (jss_cons (js_ret (je_revl (je_var 2))) (jss_nil))), fun vs G M R Z h => pf_row_at h⟩
theorem df_row_at {P : Program} {w : World} {K : PySem.W.Frag} {mg : Str → Option Value} {base : Heap} {f : Addr} {fd : FuncData} (B : Bs mg) (C : Cs K mg) (F : Fun K "row_at" "row_at" s_row_at f fd) (b : Binds K fd ["size", "number"] []) (gm : mg "row_at" = some (.ref f))  :
    Def P w K mg base 1 "row_at" ["size", "number"] (S_row_at K) := ⟨f, fd, fo_row_at B C F , gm, F.kp, b⟩
abbrev s_draws_at : Stmt := topS 30
abbrev N_draws_at : List Str := ["kinds", "number", "draws", "kind", "own"]
theorem sc_draws_at : FnScope N_draws_at ["kinds", "number"] (defScope s_draws_at) := ⟨rfl, rfl, rfl, by decide +kernel, rfl, by decide +kernel, by decide +kernel⟩
theorem fo_draws_at {P : Program} {w : World} {K : PySem.W.Frag} {mg : Str → Option Value} {base : Heap} {f : Addr} {fd : FuncData} (B : Bs mg) (C : Cs K mg) (F : Fun K "draws_at" "draws_at" s_draws_at f fd) (D_how_many : Def P w K mg base 3 "how_many" ["kinds"] (S_how_many K)) (D_is_within : Def P w K mg base 2 "is_within" ["thing", "least", "most"] (S_is_within K)) (D_many_of : Def P w K mg base 2 "many_of" ["kind"] (S_many_of K)) (D_row_at : Def P w K mg base 1 "row_at" ["size", "number"] (S_row_at K)) :
    FnOk P w K mg base (L2.CX P w) 4 f fd ["kinds", "number"] (lift (S_draws_at K)) := by
  refine fn_ok F sc_draws_at (fun vs G M R Z h => sp_len2 h) (fun cdv A outer s H E hr => ?_)
  have nd : N_draws_at.Nodup := sc_draws_at.nd
  have hu : _ + 64 < cLine := hr.units
  have tk : Takes (cxOf (L2.CX P w) P w K mg base N_draws_at "draws_at" (defScope s_draws_at) f cdv A outer s H E) (fun c d _ H => E c d H) := takes_of rfl rfl rfl rfl
  have po : PassesOwn (model P w) _ _ _ := passes_of (X := cxOf (L2.CX P w) P w K mg base N_draws_at "draws_at" (defScope s_draws_at) f cdv A outer s H E) rfl
  exact ⟨rd_draws_at K, jss_cons (js_if (jt_not (jt_val (je_callD D_is_within hr tk (ja_cons (je_var 1) (ja_cons (je_int) (ja_cons (je_op kop_sub (je_callD D_how_many hr tk (ja_cons (je_var 0) (ja_nil))) (je_int)) (ja_nil))))))) (jss_cons (js_raise C.g_NoNumber C.r_NoNumber tk) (jss_nil)) (jss_nil)) (jss_cons (js_set (i := 2) (je_lst (ja_nil)) nd) (jss_cons (js_for po rfl (ji_rev B.reversed (ja_cons (je_var 0) (ja_nil))) (jg_name (i := 3) nd) (jss_cons (js_set (i := 4) (je_op kop_mod (je_var 1) (je_callD D_many_of hr tk (ja_cons (je_var 3) (ja_nil)))) nd) (jss_cons (js_set (i := 1) (je_op kop_fdiv (je_var 1) (je_callD D_many_of hr tk (ja_cons (je_var 3) (ja_nil)))) nd) (jss_cons (js_expr (je_bm PySem.F.plainAttrs_list PySem.F.slot_list_append PySem.F.type_list_append km_append (je_var 2) (ja_cons (je_ite (jt_cmp (kop_eq hu) (je_ix (je_var 3) (je_int)) (je_str) (nomark _)) (je_var 4) (je_callD D_row_at hr tk (ja_cons (je_ix (je_var 3) (je_int)) (ja_cons (je_var 4) (ja_nil))))) (ja_nil)))) (jss_nil))))) (jss_cons (js_ret (je_revl (je_var 2))) (jss_nil)))), fun vs G M R Z h => pf_draws_at h⟩
theorem df_draws_at {P : Program} {w : World} {K : PySem.W.Frag} {mg : Str → Option Value} {base : Heap} {f : Addr} {fd : FuncData} (B : Bs mg) (C : Cs K mg) (F : Fun K "draws_at" "draws_at" s_draws_at f fd) (b : Binds K fd ["kinds", "number"] []) (gm : mg "draws_at" = some (.ref f)) (D_how_many : Def P w K mg base 3 "how_many" ["kinds"] (S_how_many K)) (D_is_within : Def P w K mg base 2 "is_within" ["thing", "least", "most"] (S_is_within K)) (D_many_of : Def P w K mg base 2 "many_of" ["kind"] (S_many_of K)) (D_row_at : Def P w K mg base 1 "row_at" ["size", "number"] (S_row_at K)) :
    Def P w K mg base 4 "draws_at" ["kinds", "number"] (S_draws_at K) := ⟨f, fd, fo_draws_at B C F D_how_many D_is_within D_many_of D_row_at, gm, F.kp, b⟩
abbrev s_all_draws : Stmt := topS 61
abbrev N_all_draws : List Str := ["kinds", "many", "number"]
theorem sc_all_draws : FnScope N_all_draws ["kinds"] (defScope s_all_draws) := ⟨rfl, rfl, rfl, by decide +kernel, rfl, by decide +kernel, by decide +kernel⟩
theorem fo_all_draws {P : Program} {w : World} {K : PySem.W.Frag} {mg : Str → Option Value} {base : Heap} {f : Addr} {fd : FuncData} (B : Bs mg) (C : Cs K mg) (F : Fun K "all_draws" "all_draws" s_all_draws f fd) (D_how_many : Def P w K mg base 3 "how_many" ["kinds"] (S_how_many K)) (D_draws_at : Def P w K mg base 4 "draws_at" ["kinds", "number"] (S_draws_at K)) :
    FnOk P w K mg base (L2.CX P w) 5 f fd ["kinds"] (lift (S_all_draws K)) := by
  refine fn_ok F sc_all_draws (fun vs G M R Z h => sp_len1 h) (fun cdv A outer s H E hr => ?_)
  have nd : N_all_draws.Nodup := sc_all_draws.nd
  have hu : _ + 64 < cLine := hr.units
  have tk : Takes (cxOf (L2.CX P w) P w K mg base N_all_draws "all_draws" (defScope s_all_draws) f cdv A outer s H E) (fun c d _ H => E c d H) := takes_of rfl rfl rfl rfl
  have po : PassesOwn (model P w) _ _ _ := passes_of (X := cxOf (L2.CX P w) P w K mg base N_all_draws "all_draws" (defScope s_all_draws) f cdv A outer s H E) rfl
  exact ⟨rd_all_draws K, jss_cons (js_set (i := 1) (je_callD D_how_many hr tk (ja_cons (je_var 0) (ja_nil))) nd) (jss_cons (js_if (jt_cmp (kop_gt) (je_var 1) (je_const C.k_MOST_ROWS) (nomark _)) (jss_cons (js_raise C.g_TooMany C.r_TooMany tk) (jss_nil)) (jss_nil)) (jss_cons (js_ret (je_comp (own := [("number", 2)]) rfl nd (ji_range1 B.range (ja_cons (je_var 1) (ja_nil))) (blkOk_by (own := [("number", 2)]) (N := N_all_draws) (sc := defScope s_all_draws) (by decide +kernel)) (fun _ _ _ _ _ => by exact jg_name (i := 2) nd) (fun _ _ _ _ _ => by exact jts_nil) (fun _ _ _ _ _ => by exact je_callD D_draws_at hr takes0 (ja_cons (je_var 0) (ja_cons (je_var 2) (ja_nil)))))) (jss_nil))), fun vs G M R Z h => pf_all_draws h⟩
theorem df_all_draws {P : Program} {w : World} {K : PySem.W.Frag} {mg : Str → Option Value} {base : Heap} {f : Addr} {fd : FuncData} (B : Bs mg) (C : Cs K mg) (F : Fun K "all_draws" "all_draws" s_all_draws f fd) (b : Binds K fd ["kinds"] []) (gm : mg "all_draws" = some (.ref f)) (D_how_many : Def P w K mg base 3 "how_many" ["kinds"] (S_how_many K)) (D_draws_at : Def P w K mg base 4 "draws_at" ["kinds", "number"] (S_draws_at K)) :
    Def P w K mg base 5 "all_draws" ["kinds"] (S_all_draws K) := ⟨f, fd, fo_all_draws B C F D_how_many D_draws_at, gm, F.kp, b⟩
abbrev s_look_at_sizes : Stmt := topS 36
abbrev N_look_at_sizes : List Str := ["many", "most"]
theorem sc_look_at_sizes : FnScope N_look_at_sizes ["many", "most"] (defScope s_look_at_sizes) := ⟨rfl, rfl, rfl, by decide +kernel, rfl, by decide +kernel, by decide +kernel⟩
theorem fo_look_at_sizes {P : Program} {w : World} {K : PySem.W.Frag} {mg : Str → Option Value} {base : Heap} {f : Addr} {fd : FuncData} (B : Bs mg) (C : Cs K mg) (F : Fun K "look_at_sizes" "look_at_sizes" s_look_at_sizes f fd) (D_look_at_many : Def P w K mg base 3 "look_at_many" ["many"] (S_look_at_many K)) (D_is_within : Def P w K mg base 2 "is_within" ["thing", "least", "most"] (S_is_within K)) :
    FnOk P w K mg base (L2.CX P w) 4 f fd ["many", "most"] (lift (S_look_at_sizes K)) := by
  refine fn_ok F sc_look_at_sizes (fun vs G M R Z h => sp_len2 h) (fun cdv A outer s H E hr => ?_)
  have nd : N_look_at_sizes.Nodup := sc_look_at_sizes.nd
  have hu : _ + 64 < cLine := hr.units
  have tk : Takes (cxOf (L2.CX P w) P w K mg base N_look_at_sizes "look_at_sizes" (defScope s_look_at_sizes) f cdv A outer s H E) (fun c d _ H => E c d H) := takes_of rfl rfl rfl rfl
  have po : PassesOwn (model P w) _ _ _ := passes_of (X := cxOf (L2.CX P w) P w K mg base N_look_at_sizes "look_at_sizes" (defScope s_look_at_sizes) f cdv A outer s H E) rfl
  exact ⟨rd_look_at_sizes K, jss_cons (js_expr (je_callD D_look_at_many hr tk (ja_cons (je_var 0) (ja_nil)))) (jss_cons (js_if (jt_not (jt_val (je_callD D_is_within hr tk (ja_cons (je_var 1) (ja_cons (je_int) (ja_cons (je_const C.k_MOST_ASKS) (ja_nil))))))) (jss_cons (js_raise C.g_NoSize C.r_NoSize tk) (jss_nil)) (jss_nil)) (jss_nil)), fun vs G M R Z h => pf_look_at_sizes h⟩
theorem df_look_at_sizes {P : Program} {w : World} {K : PySem.W.Frag} {mg : Str → Option Value} {base : Heap} {f : Addr} {fd : FuncData} (B : Bs mg) (C : Cs K mg) (F : Fun K "look_at_sizes" "look_at_sizes" s_look_at_sizes f fd) (b : Binds K fd ["many", "most"] []) (gm : mg "look_at_sizes" = some (.ref f)) (D_look_at_many : Def P w K mg base 3 "look_at_many" ["many"] (S_look_at_many K)) (D_is_within : Def P w K mg base 2 "is_within" ["thing", "least", "most"] (S_is_within K)) :
    Def P w K mg base 4 "look_at_sizes" ["many", "most"] (S_look_at_sizes K) := ⟨f, fd, fo_look_at_sizes B C F D_look_at_many D_is_within, gm, F.kp, b⟩
abbrev s_side_of : Stmt := topS 37
abbrev N_side_of : List Str := ["many", "side"]
theorem sc_side_of : FnScope N_side_of ["many"] (defScope s_side_of) := ⟨rfl, rfl, rfl, by decide +kernel, rfl, by decide +kernel, by decide +kernel⟩
theorem fo_side_of {P : Program} {w : World} {K : PySem.W.Frag} {mg : Str → Option Value} {base : Heap} {f : Addr} {fd : FuncData} (B : Bs mg) (C : Cs K mg) (F : Fun K "side_of" "side_of" s_side_of f fd)  :
    FnOk P w K mg base (L2.CX P w) 1 f fd ["many"] (lift (S_side_of K)) := by
  refine fn_ok F sc_side_of (fun vs G M R Z h => sp_len1 h) (fun cdv A outer s H E hr => ?_)
  have nd : N_side_of.Nodup := sc_side_of.nd
  have hu : _ + 64 < cLine := hr.units
  have tk : Takes (cxOf (L2.CX P w) P w K mg base N_side_of "side_of" (defScope s_side_of) f cdv A outer s H E) (fun c d _ H => E c d H) := takes_of rfl rfl rfl rfl
  have po : PassesOwn (model P w) _ _ _ := passes_of (X := cxOf (L2.CX P w) P w K mg base N_side_of "side_of" (defScope s_side_of) f cdv A outer s H E) rfl
  exact ⟨rd_side_of K, jss_cons (js_set (i := 1) (je_int) nd) (jss_cons (js_while po (jt_cmp (kop_lt) (je_op kop_mul (je_var 1) (je_var 1)) (je_var 0) (nomark _)) (jss_cons (js_set (i := 1) (je_op kop_add (je_var 1) (je_int)) nd) (jss_nil))) (jss_cons (js_ret (je_var 1)) (jss_nil))), fun vs G M R Z h => pf_side_of h⟩
theorem df_side_of {P : Program} {w : World} {K : PySem.W.Frag} {mg : Str → Option Value} {base : Heap} {f : Addr} {fd : FuncData} (B : Bs mg) (C : Cs K mg) (F : Fun K "side_of" "side_of" s_side_of f fd) (b : Binds K fd ["many"] []) (gm : mg "side_of" = some (.ref f))  :
    Def P w K mg base 1 "side_of" ["many"] (S_side_of K) := ⟨f, fd, fo_side_of B C F , gm, F.kp, b⟩
abbrev s_spare_needs : Stmt := topS 44
abbrev N_spare_needs : List Str := ["many", "most", "side", "start"]
theorem sc_spare_needs : FnScope N_spare_needs ["many", "most"] (defScope s_spare_needs) := ⟨rfl, rfl, rfl, by decide +kernel, rfl, by decide +kernel, by decide +kernel⟩
theorem fo_spare_needs {P : Program} {w : World} {K : PySem.W.Frag} {mg : Str → Option Value} {base : Heap} {f : Addr} {fd : FuncData} (B : Bs mg) (C : Cs K mg) (F : Fun K "spare_needs" "spare_needs" s_spare_needs f fd) (D_side_of : Def P w K mg base 1 "side_of" ["many"] (S_side_of K)) :
    FnOk P w K mg base (L2.CX P w) 2 f fd ["many", "most"] (lift (S_spare_needs K)) := by
  refine fn_ok F sc_spare_needs (fun vs G M R Z h => sp_len2 h) (fun cdv A outer s H E hr => ?_)
  have nd : N_spare_needs.Nodup := sc_spare_needs.nd
  have hu : _ + 64 < cLine := hr.units
  have tk : Takes (cxOf (L2.CX P w) P w K mg base N_spare_needs "spare_needs" (defScope s_spare_needs) f cdv A outer s H E) (fun c d _ H => E c d H) := takes_of rfl rfl rfl rfl
  have po : PassesOwn (model P w) _ _ _ := passes_of (X := cxOf (L2.CX P w) P w K mg base N_spare_needs "spare_needs" (defScope s_spare_needs) f cdv A outer s H E) rfl
  exact ⟨rd_spare_needs K, jss_cons (js_set (i := 2) (je_callD D_side_of hr tk (ja_cons (je_var 0) (ja_nil))) nd) (jss_cons (js_ret (je_comp (own := [("start", 3)]) rfl nd (ji_range3 B.range (ja_cons (je_int) (ja_cons (je_var 1) (ja_cons (je_var 2) (ja_nil))))) (blkOk_by (own := [("start", 3)]) (N := N_spare_needs) (sc := defScope s_spare_needs) (by decide +kernel)) (fun _ _ _ _ _ => by exact jg_name (i := 3) nd) (fun _ _ _ _ _ => by exact jts_nil) (fun _ _ _ _ _ => by exact je_tup (ja_cons (je_str) (ja_cons (je_op kop_add (je_var 0) (je_var 2)) (ja_nil)))))) (jss_nil)), fun vs G M R Z h => pf_spare_needs h⟩
theorem df_spare_needs {P : Program} {w : World} {K : PySem.W.Frag} {mg : Str → Option Value} {base : Heap} {f : Addr} {fd : FuncData} (B : Bs mg) (C : Cs K mg) (F : Fun K "spare_needs" "spare_needs" s_spare_needs f fd) (b : Binds K fd ["many", "most"] []) (gm : mg "spare_needs" = some (.ref f)) (D_side_of : Def P w K mg base 1 "side_of" ["many"] (S_side_of K)) :
    Def P w K mg base 2 "spare_needs" ["many", "most"] (S_spare_needs K) := ⟨f, fd, fo_spare_needs B C F D_side_of, gm, F.kp, b⟩
abbrev s_last_of : Stmt := topS 39
abbrev N_last_of : List Str := ["many"]
theorem sc_last_of : FnScope N_last_of ["many"] (defScope s_last_of) := ⟨rfl, rfl, rfl, by decide +kernel, rfl, by decide +kernel, by decide +kernel⟩
theorem fo_last_of {P : Program} {w : World} {K : PySem.W.Frag} {mg : Str → Option Value} {base : Heap} {f : Addr} {fd : FuncData} (B : Bs mg) (C : Cs K mg) (F : Fun K "last_of" "last_of" s_last_of f fd) (D_high_of : Def P w K mg base 1 "high_of" ["many"] (S_high_of K)) :
    FnOk P w K mg base (L2.CX P w) 2 f fd ["many"] (lift (S_last_of K)) := by
  refine fn_ok F sc_last_of (fun vs G M R Z h => sp_len1 h) (fun cdv A outer s H E hr => ?_)
  have nd : N_last_of.Nodup := sc_last_of.nd
  have hu : _ + 64 < cLine := hr.units
  have tk : Takes (cxOf (L2.CX P w) P w K mg base N_last_of "last_of" (defScope s_last_of) f cdv A outer s H E) (fun c d _ H => E c d H) := takes_of rfl rfl rfl rfl
  have po : PassesOwn (model P w) _ _ _ := passes_of (X := cxOf (L2.CX P w) P w K mg base N_last_of "last_of" (defScope s_last_of) f cdv A outer s H E) rfl
  exact ⟨rd_last_of K, jss_cons (js_ret (je_callB kc_max2 B.max (ja_cons (je_int) (ja_cons (je_op kop_sub (je_callD D_high_of hr tk (ja_cons (je_var 0) (ja_nil))) (je_int)) (ja_nil))))) (jss_nil), fun vs G M R Z h => pf_last_of h⟩
theorem df_last_of {P : Program} {w : World} {K : PySem.W.Frag} {mg : Str → Option Value} {base : Heap} {f : Addr} {fd : FuncData} (B : Bs mg) (C : Cs K mg) (F : Fun K "last_of" "last_of" s_last_of f fd) (b : Binds K fd ["many"] []) (gm : mg "last_of" = some (.ref f)) (D_high_of : Def P w K mg base 1 "high_of" ["many"] (S_high_of K)) :
    Def P w K mg base 2 "last_of" ["many"] (S_last_of K) := ⟨f, fd, fo_last_of B C F D_high_of, gm, F.kp, b⟩
abbrev s_stair_of : Stmt := topS 41
abbrev N_stair_of : List Str := ["many", "pour", "stair"]
theorem sc_stair_of : FnScope N_stair_of ["many", "pour"] (defScope s_stair_of) := ⟨rfl, rfl, rfl, by decide +kernel, rfl, by decide +kernel, by decide +kernel⟩
theorem fo_stair_of {P : Program} {w : World} {K : PySem.W.Frag} {mg : Str → Option Value} {base : Heap} {f : Addr} {fd : FuncData} (B : Bs mg) (C : Cs K mg) (F : Fun K "stair_of" "stair_of" s_stair_of f fd) (D_last_of : Def P w K mg base 2 "last_of" ["many"] (S_last_of K)) :
    FnOk P w K mg base (L2.CX P w) 3 f fd ["many", "pour"] (lift (S_stair_of K)) := by
  refine fn_ok F sc_stair_of (fun vs G M R Z h => sp_len2 h) (fun cdv A outer s H E hr => ?_)
  have nd : N_stair_of.Nodup := sc_stair_of.nd
  have hu : _ + 64 < cLine := hr.units
  have tk : Takes (cxOf (L2.CX P w) P w K mg base N_stair_of "stair_of" (defScope s_stair_of) f cdv A outer s H E) (fun c d _ H => E c d H) := takes_of rfl rfl rfl rfl
  have po : PassesOwn (model P w) _ _ _ := passes_of (X := cxOf (L2.CX P w) P w K mg base N_stair_of "stair_of" (defScope s_stair_of) f cdv A outer s H E) rfl
  exact ⟨rd_stair_of K, jss_cons (js_set (i := 2) (je_int) nd) (jss_cons (js_while po ((jw_and (jt_cmp (kop_lt) (je_var 2) (je_callD D_last_of hr tk (ja_cons (je_var 0) (ja_nil))) (nomark _)) (jw_and1 (jt_cmp (kop_eq hu) (je_op kop_mod (je_var 1) (je_op kop_shl (je_int) (je_var 2))) (je_int) (nomark _)))).jt) (jss_cons (js_set (i := 2) (je_op kop_add (je_var 2) (je_int)) nd) (jss_nil))) (jss_cons (js_ret (je_var 2)) (jss_nil))), fun vs G M R Z h => pf_stair_of h⟩
theorem df_stair_of {P : Program} {w : World} {K : PySem.W.Frag} {mg : Str → Option Value} {base : Heap} {f : Addr} {fd : FuncData} (B : Bs mg) (C : Cs K mg) (F : Fun K "stair_of" "stair_of" s_stair_of f fd) (b : Binds K fd ["many", "pour"] []) (gm : mg "stair_of" = some (.ref f)) (D_last_of : Def P w K mg base 2 "last_of" ["many"] (S_last_of K)) :
    Def P w K mg base 3 "stair_of" ["many", "pour"] (S_stair_of K) := ⟨f, fd, fo_stair_of B C F D_last_of, gm, F.kp, b⟩
abbrev s_slots_of : Stmt := topS 40
abbrev N_slots_of : List Str := ["many", "stair", "spare"]
theorem sc_slots_of : FnScope N_slots_of ["many", "stair"] (defScope s_slots_of) := ⟨rfl, rfl, rfl, by decide +kernel, rfl, by decide +kernel, by decide +kernel⟩
theorem fo_slots_of {P : Program} {w : World} {K : PySem.W.Frag} {mg : Str → Option Value} {base : Heap} {f : Addr} {fd : FuncData} (B : Bs mg) (C : Cs K mg) (F : Fun K "slots_of" "slots_of" s_slots_of f fd) (D_last_of : Def P w K mg base 2 "last_of" ["many"] (S_last_of K)) :
    FnOk P w K mg base (L2.CX P w) 3 f fd ["many", "stair"] (lift (S_slots_of K)) := by
  refine fn_ok F sc_slots_of (fun vs G M R Z h => sp_len2 h) (fun cdv A outer s H E hr => ?_)
  have nd : N_slots_of.Nodup := sc_slots_of.nd
  have hu : _ + 64 < cLine := hr.units
  have tk : Takes (cxOf (L2.CX P w) P w K mg base N_slots_of "slots_of" (defScope s_slots_of) f cdv A outer s H E) (fun c d _ H => E c d H) := takes_of rfl rfl rfl rfl
  have po : PassesOwn (model P w) _ _ _ := passes_of (X := cxOf (L2.CX P w) P w K mg base N_slots_of "slots_of" (defScope s_slots_of) f cdv A outer s H E) rfl
  exact ⟨rd_slots_of K, jss_cons (js_set (i := 2) (je_op kop_shl (je_int) (je_var 1)) nd) (jss_cons (js_if (jt_cmp (kop_eq hu) (je_var 1) (je_callD D_last_of hr tk (ja_cons (je_var 0) (ja_nil))) (nomark _)) (jss_cons (js_ret (je_tup (ja_cons (je_var 0) (ja_cons (je_var 2) (ja_nil))))) (jss_nil)) (jss_nil)) (jss_cons (js_ret (je_tup (ja_cons (je_var 2) (ja_cons (je_var 2) (ja_nil))))) (jss_nil))), fun vs G M R Z h => pf_slots_of h⟩
theorem df_slots_of {P : Program} {w : World} {K : PySem.W.Frag} {mg : Str → Option Value} {base : Heap} {f : Addr} {fd : FuncData} (B : Bs mg) (C : Cs K mg) (F : Fun K "slots_of" "slots_of" s_slots_of f fd) (b : Binds K fd ["many", "stair"] []) (gm : mg "slots_of" = some (.ref f)) (D_last_of : Def P w K mg base 2 "last_of" ["many"] (S_last_of K)) :
    Def P w K mg base 3 "slots_of" ["many", "stair"] (S_slots_of K) := ⟨f, fd, fo_slots_of B C F D_last_of, gm, F.kp, b⟩
abbrev s_stairs_needs : Stmt := topS 45
abbrev N_stairs_needs : List Str := ["many", "most", "stairs", "pour", "stair"]
theorem sc_stairs_needs : FnScope N_stairs_needs ["many", "most"] (defScope s_stairs_needs) := ⟨rfl, rfl, rfl, by decide +kernel, rfl, by decide +kernel, by decide +kernel⟩
theorem fo_stairs_needs {P : Program} {w : World} {K : PySem.W.Frag} {mg : Str → Option Value} {base : Heap} {f : Addr} {fd : FuncData} (B : Bs mg) (C : Cs K mg) (F : Fun K "stairs_needs" "stairs_needs" s_stairs_needs f fd) (D_last_of : Def P w K mg base 2 "last_of" ["many"] (S_last_of K)) (D_stair_of : Def P w K mg base 3 "stair_of" ["many", "pour"] (S_stair_of K)) (D_slots_of : Def P w K mg base 3 "slots_of" ["many", "stair"] (S_slots_of K)) :
    FnOk P w K mg base (L2.CX P w) 4 f fd ["many", "most"] (lift (S_stairs_needs K)) := by
  refine fn_ok F sc_stairs_needs (fun vs G M R Z h => sp_len2 h) (fun cdv A outer s H E hr => ?_)
  have nd : N_stairs_needs.Nodup := sc_stairs_needs.nd
  have hu : _ + 64 < cLine := hr.units
  have tk : Takes (cxOf (L2.CX P w) P w K mg base N_stairs_needs "stairs_needs" (defScope s_stairs_needs) f cdv A outer s H E) (fun c d _ H => E c d H) := takes_of rfl rfl rfl rfl
  have po : PassesOwn (model P w) _ _ _ := passes_of (X := cxOf (L2.CX P w) P w K mg base N_stairs_needs "stairs_needs" (defScope s_stairs_needs) f cdv A outer s H E) rfl
  exact ⟨rd_stairs_needs K, jss_cons (js_if (jt_cmp (kop_eq hu) (je_var 1) (je_int) (nomark _)) (jss_cons (js_ret (je_lst (ja_nil))) (jss_nil)) (jss_nil)) (jss_cons (js_set (i := 2) (je_op kop_add (je_lst (ja_cons (je_callD D_last_of hr tk (ja_cons (je_var 0) (ja_nil))) (ja_nil))) (je_comp (own := [("pour", 3)]) rfl nd (ji_range2 B.range (ja_cons (je_int) (ja_cons (je_op kop_fdiv (je_op kop_add (je_var 1) (je_int)) (je_int)) (ja_nil)))) (blkOk_by (own := [("pour", 3)]) (N := N_stairs_needs) (sc := defScope s_stairs_needs) (by decide +kernel)) (fun _ _ _ _ _ => by exact jg_name (i := 3) nd) (fun _ _ _ _ _ => by exact jts_nil) (fun _ _ _ _ _ => by exact je_callD D_stair_of hr takes0 (ja_cons (je_var 0) (ja_cons (je_var 3) (ja_nil)))))) nd) (jss_cons (js_ret (je_comp (own := [("stair", 4)]) rfl nd (ji_list (je_var 2)) (blkOk_by (own := [("stair", 4)]) (N := N_stairs_needs) (sc := defScope s_stairs_needs) (by decide +kernel)) (fun _ _ _ _ _ => by exact jg_name (i := 4) nd) (fun _ _ _ _ _ => by exact jts_nil) (fun _ _ _ _ _ => by exact je_tup (ja_cons (je_str) (ja_cons (je_callB kc_sumS B.sum (ja_cons (je_callD D_slots_of hr takes0 (ja_cons (je_var 0) (ja_cons (je_var 4) (ja_nil)))) (ja_nil))) (ja_nil)))))) (jss_nil))), fun vs G M R Z h => pf_stairs_needs h⟩
theorem df_stairs_needs {P : Program} {w : World} {K : PySem.W.Frag} {mg : Str → Option Value} {base : Heap} {f : Addr} {fd : FuncData} (B : Bs mg) (C : Cs K mg) (F : Fun K "stairs_needs" "stairs_needs" s_stairs_needs f fd) (b : Binds K fd ["many", "most"] []) (gm : mg "stairs_needs" = some (.ref f)) (D_last_of : Def P w K mg base 2 "last_of" ["many"] (S_last_of K)) (D_stair_of : Def P w K mg base 3 "stair_of" ["many", "pour"] (S_stair_of K)) (D_slots_of : Def P w K mg base 3 "slots_of" ["many", "stair"] (S_slots_of K)) :
    Def P w K mg base 4 "stairs_needs" ["many", "most"] (S_stairs_needs K) := ⟨f, fd, fo_stairs_needs B C F D_last_of D_stair_of D_slots_of, gm, F.kp, b⟩
abbrev s_grove_needs : Stmt := topS 46
abbrev N_grove_needs : List Str := ["trees", "most", "kinds", "many"]
theorem sc_grove_needs : FnScope N_grove_needs ["trees", "most"] (defScope s_grove_needs) := ⟨rfl, rfl, rfl, by decide +kernel, rfl, by decide +kernel, by decide +kernel⟩
theorem fo_grove_needs {P : Program} {w : World} {K : PySem.W.Frag} {mg : Str → Option Value} {base : Heap} {f : Addr} {fd : FuncData} (B : Bs mg) (C : Cs K mg) (F : Fun K "grove_needs" "grove_needs" s_grove_needs f fd) (D_high_of : Def P w K mg base 1 "high_of" ["many"] (S_high_of K)) :
    FnOk P w K mg base (L2.CX P w) 2 f fd ["trees", "most"] (lift (S_grove_needs K)) := by
  refine fn_ok F sc_grove_needs (fun vs G M R Z h => sp_len2 h) (fun cdv A outer s H E hr => ?_)
  have nd : N_grove_needs.Nodup := sc_grove_needs.nd
  have hu : _ + 64 < cLine := hr.units
  have tk : Takes (cxOf (L2.CX P w) P w K mg base N_grove_needs "grove_needs" (defScope s_grove_needs) f cdv A outer s H E) (fun c d _ H => E c d H) := takes_of rfl rfl rfl rfl
  have po : PassesOwn (model P w) _ _ _ := passes_of (X := cxOf (L2.CX P w) P w K mg base N_grove_needs "grove_needs" (defScope s_grove_needs) f cdv A outer s H E) rfl
  exact ⟨rd_grove_needs K, jss_cons (js_set (i := 2) (je_lst (ja_nil)) nd) (jss_cons (js_for po rfl (ji_list (je_var 0)) (jg_name (i := 3) nd) (jss_cons (js_set (i := 2) (je_op kop_add (je_var 2) (je_op kop_mul (je_lst (ja_cons (je_tup (ja_cons (je_str) (ja_cons (je_callD D_high_of hr tk (ja_cons (je_var 3) (ja_nil))) (ja_nil)))) (ja_nil))) (je_var 3))) nd) (jss_nil))) (jss_cons (js_ret (je_op kop_add (je_var 2) (je_op kop_mul (je_comp (own := [("many", 3)]) rfl nd (ji_list (je_var 0)) (blkOk_by (own := [("many", 3)]) (N := N_grove_needs) (sc := defScope s_grove_needs) (by decide +kernel)) (fun _ _ _ _ _ => by exact jg_name (i := 3) nd) (fun _ _ _ _ _ => by exact jts_nil) (fun _ _ _ _ _ => by exact je_tup (ja_cons (je_str) (ja_cons (je_callD D_high_of hr takes0 (ja_cons (je_var 3) (ja_nil))) (ja_nil))))) (je_var 1)))) (jss_nil))), fun vs G M R Z h => pf_grove_needs h⟩
theorem df_grove_needs {P : Program} {w : World} {K : PySem.W.Frag} {mg : Str → Option Value} {base : Heap} {f : Addr} {fd : FuncData} (B : Bs mg) (C : Cs K mg) (F : Fun K "grove_needs" "grove_needs" s_grove_needs f fd) (b : Binds K fd ["trees", "most"] []) (gm : mg "grove_needs" = some (.ref f)) (D_high_of : Def P w K mg base 1 "high_of" ["many"] (S_high_of K)) :
    Def P w K mg base 2 "grove_needs" ["trees", "most"] (S_grove_needs K) := ⟨f, fd, fo_grove_needs B C F D_high_of, gm, F.kp, b⟩
abbrev s_trees_of : Stmt := topS 42
abbrev N_trees_of : List Str := ["many", "found"]
theorem sc_trees_of : FnScope N_trees_of ["many"] (defScope s_trees_of) := ⟨rfl, rfl, rfl, by decide +kernel, rfl, by decide +kernel, by decide +kernel⟩
theorem fo_trees_of {P : Program} {w : World} {K : PySem.W.Frag} {mg : Str → Option Value} {base : Heap} {f : Addr} {fd : FuncData} (B : Bs mg) (C : Cs K mg) (F : Fun K "trees_of" "trees_of" s_trees_of f fd)  :
    FnOk P w K mg base (L2.CX P w) 1 f fd ["many"] (lift (S_trees_of K)) := by
  refine fn_ok F sc_trees_of (fun vs G M R Z h => sp_len1 h) (fun cdv A outer s H E hr => ?_)
  have nd : N_trees_of.Nodup := sc_trees_of.nd
  have hu : _ + 64 < cLine := hr.units
  have tk : Takes (cxOf (L2.CX P w) P w K mg base N_trees_of "trees_of" (defScope s_trees_of) f cdv A outer s H E) (fun c d _ H => E c d H) := takes_of rfl rfl rfl rfl
  have po : PassesOwn (model P w) _ _ _ := passes_of (X := cxOf (L2.CX P w) P w K mg base N_trees_of "trees_of" (defScope s_trees_of) f cdv A outer s H E) rfl
  exact ⟨rd_trees_of K, jss_cons (js_set (i := 1) (je_lst (ja_cons (je_var 0) (ja_nil))) nd) (jss_cons (js_while po (jt_cmp (kop_gt) (je_ix (je_var 1) (je_neg (je_int))) (je_const C.k_TABLE) (nomark _)) (jss_cons (js_expr (je_bm PySem.F.plainAttrs_list PySem.F.slot_list_append PySem.F.type_list_append km_append (je_var 1) (ja_cons (je_op kop_fdiv (je_op kop_sub (je_op kop_add (je_ix (je_var 1) (je_neg (je_int))) (je_const C.k_TABLE)) (je_int)) (je_const C.k_TABLE)) (ja_nil)))) (jss_nil))) (jss_cons (js_ret (je_var 1)) (jss_nil))), fun vs G M R Z h => pf_trees_of h⟩
theorem df_trees_of {P : Program} {w : World} {K : PySem.W.Frag} {mg : Str → Option Value} {base : Heap} {f : Addr} {fd : FuncData} (B : Bs mg) (C : Cs K mg) (F : Fun K "trees_of" "trees_of" s_trees_of f fd) (b : Binds K fd ["many"] []) (gm : mg "trees_of" = some (.ref f))  :
    Def P w K mg base 1 "trees_of" ["many"] (S_trees_of K) := ⟨f, fd, fo_trees_of B C F , gm, F.kp, b⟩
abbrev s_kinds_of : Stmt := topS 47
abbrev N_kinds_of : List Str := ["way", "many", "most"]
theorem sc_kinds_of : FnScope N_kinds_of ["way", "many", "most"] (defScope s_kinds_of) := ⟨rfl, rfl, rfl, by decide +kernel, rfl, by decide +kernel, by decide +kernel⟩
theorem fo_kinds_of {P : Program} {w : World} {K : PySem.W.Frag} {mg : Str → Option Value} {base : Heap} {f : Addr} {fd : FuncData} (B : Bs mg) (C : Cs K mg) (F : Fun K "kinds_of" "kinds_of" s_kinds_of f fd) (D_spare_needs : Def P w K mg base 2 "spare_needs" ["many", "most"] (S_spare_needs K)) (D_stairs_needs : Def P w K mg base 4 "stairs_needs" ["many", "most"] (S_stairs_needs K)) (D_grove_needs : Def P w K mg base 2 "grove_needs" ["trees", "most"] (S_grove_needs K)) (D_trees_of : Def P w K mg base 1 "trees_of" ["many"] (S_trees_of K)) :
    FnOk P w K mg base (L2.CX P w) 5 f fd ["way", "many", "most"] (lift (S_kinds_of K)) := by
  refine fn_ok F sc_kinds_of (fun vs G M R Z h => sp_len3 h) (fun cdv A outer s H E hr => ?_)
  have nd : N_kinds_of.Nodup := sc_kinds_of.nd
  have hu : _ + 64 < cLine := hr.units
  have tk : Takes (cxOf (L2.CX P w) P w K mg base N_kinds_of "kinds_of" (defScope s_kinds_of) f cdv A outer s H E) (fun c d _ H => E c d H) := takes_of rfl rfl rfl rfl
  have po : PassesOwn (model P w) _ _ _ := passes_of (X := cxOf (L2.CX P w) P w K mg base N_kinds_of "kinds_of" (defScope s_kinds_of) f cdv A outer s H E) rfl
  exact ⟨rd_kinds_of K, jss_cons (js_if (jt_cmp (kop_eq hu) (je_var 0) (je_str) (nomark _)) (jss_cons (js_ret (je_callD D_spare_needs hr tk (ja_cons (je_var 1) (ja_cons (je_var 2) (ja_nil))))) (jss_nil)) (jss_nil)) (jss_cons (js_if (jt_cmp (kop_eq hu) (je_var 0) (je_str) (nomark _)) (jss_cons (js_ret (je_callD D_stairs_needs hr tk (ja_cons (je_var 1) (ja_cons (je_var 2) (ja_nil))))) (jss_nil)) (jss_nil)) (jss_cons (js_if (jt_cmp (kop_eq hu) (je_var 0) (je_str) (nomark _)) (jss_cons (js_ret (je_callD D_grove_needs hr tk (ja_cons (je_lst (ja_cons (je_var 1) (ja_nil))) (ja_cons (je_var 2) (ja_nil))))) (jss_nil)) (jss_nil)) (jss_cons (js_if (jt_cmp (kop_eq hu) (je_var 0) (je_str) (nomark _)) (jss_cons (js_ret (je_callD D_grove_needs hr tk (ja_cons (je_callD D_trees_of hr tk (ja_cons (je_var 1) (ja_nil))) (ja_cons (je_var 2) (ja_nil))))) (jss_nil)) (jss_nil)) (jss_cons (js_ret (je_lst (ja_nil))) (jss_nil))))), fun vs G M R Z h => pf_kinds_of h⟩
theorem df_kinds_of {P : Program} {w : World} {K : PySem.W.Frag} {mg : Str → Option Value} {base : Heap} {f : Addr} {fd : FuncData} (B : Bs mg) (C : Cs K mg) (F : Fun K "kinds_of" "kinds_of" s_kinds_of f fd) (b : Binds K fd ["way", "many", "most"] []) (gm : mg "kinds_of" = some (.ref f)) (D_spare_needs : Def P w K mg base 2 "spare_needs" ["many", "most"] (S_spare_needs K)) (D_stairs_needs : Def P w K mg base 4 "stairs_needs" ["many", "most"] (S_stairs_needs K)) (D_grove_needs : Def P w K mg base 2 "grove_needs" ["trees", "most"] (S_grove_needs K)) (D_trees_of : Def P w K mg base 1 "trees_of" ["many"] (S_trees_of K)) :
    Def P w K mg base 5 "kinds_of" ["way", "many", "most"] (S_kinds_of K) := ⟨f, fd, fo_kinds_of B C F D_spare_needs D_stairs_needs D_grove_needs D_trees_of, gm, F.kp, b⟩
abbrev s_copied : Stmt := topS 26
abbrev N_copied : List Str := ["draws", "draw"]
theorem sc_copied : FnScope N_copied ["draws"] (defScope s_copied) := ⟨rfl, rfl, rfl, by decide +kernel, rfl, by decide +kernel, by decide +kernel⟩
theorem fo_copied {P : Program} {w : World} {K : PySem.W.Frag} {mg : Str → Option Value} {base : Heap} {f : Addr} {fd : FuncData} (B : Bs mg) (C : Cs K mg) (F : Fun K "copied" "copied" s_copied f fd)  :
    FnOk P w K mg base (L2.CX P w) 1 f fd ["draws"] (lift (S_copied K)) := by
  refine fn_ok F sc_copied (fun vs G M R Z h => sp_len1 h) (fun cdv A outer s H E hr => ?_)
  have nd : N_copied.Nodup := sc_copied.nd
  have hu : _ + 64 < cLine := hr.units
  have tk : Takes (cxOf (L2.CX P w) P w K mg base N_copied "copied" (defScope s_copied) f cdv A outer s H E) (fun c d _ H => E c d H) := takes_of rfl rfl rfl rfl
  have po : PassesOwn (model P w) _ _ _ := passes_of (X := cxOf (L2.CX P w) P w K mg base N_copied "copied" (defScope s_copied) f cdv A outer s H E) rfl
  exact ⟨rd_copied K, jss_cons (js_ret (je_comp (own := [("draw", 1)]) rfl nd (ji_list (je_var 0)) (blkOk_by (own := [("draw", 1)]) (N := N_copied) (sc := defScope s_copied) (by decide +kernel)) (fun _ _ _ _ _ => by exact jg_name (i := 1) nd) (fun _ _ _ _ _ => by exact jts_nil) (fun _ _ _ _ _ => by exact je_ite (jt_val (je_callB kc_isi B.isinstance (ja_cons (je_var 1) (ja_cons (je_ty B.list) (ja_nil))))) (je_callTy kc_list B.list (ja_cons (je_var 1) (ja_nil))) (je_var 1)))) (jss_nil), fun vs G M R Z h => pf_copied h⟩
theorem df_copied {P : Program} {w : World} {K : PySem.W.Frag} {mg : Str → Option Value} {base : Heap} {f : Addr} {fd : FuncData} (B : Bs mg) (C : Cs K mg) (F : Fun K "copied" "copied" s_copied f fd) (b : Binds K fd ["draws"] []) (gm : mg "copied" = some (.ref f))  :
    Def P w K mg base 1 "copied" ["draws"] (S_copied K) := ⟨f, fd, fo_copied B C F , gm, F.kp, b⟩
abbrev s_Keeper_init : Stmt := inClass (topS 14) 0
abbrev N_Keeper_init : List Str := ["self"]
theorem sc_Keeper_init : FnScope N_Keeper_init ["self"] (defScope s_Keeper_init) := ⟨rfl, rfl, rfl, by decide +kernel, rfl, by decide +kernel, by decide +kernel⟩
theorem fo_Keeper_init {P : Program} {w : World} {K : PySem.W.Frag} {mg : Str → Option Value} {base : Heap} {f : Addr} {fd : FuncData} (B : Bs mg) (C : Cs K mg) (F : Fun K "__init__" "Keeper.__init__" s_Keeper_init f fd)  :
    FnOk P w K mg base (L2.CX P w) 1 f fd ["self"] (lift (S_Keeper_init K)) := by
  refine fn_ok F sc_Keeper_init (fun vs G M R Z h => sp_len1 h) (fun cdv A outer s H E hr => ?_)
  have nd : N_Keeper_init.Nodup := sc_Keeper_init.nd
  have hu : _ + 64 < cLine := hr.units
  have tk : Takes (cxOf (L2.CX P w) P w K mg base N_Keeper_init "Keeper.__init__" (defScope s_Keeper_init) f cdv A outer s H E) (fun c d _ H => E c d H) := takes_of rfl rfl rfl rfl
  have po : PassesOwn (model P w) _ _ _ := passes_of (X := cxOf (L2.CX P w) P w K mg base N_Keeper_init "Keeper.__init__" (defScope s_Keeper_init) f cdv A outer s H E) rfl
  exact ⟨rd_Keeper_init K, jss_cons (js_fset (je_var 0) (je_lst (ja_nil)) C.f_log) (jss_nil), fun vs G M R Z h => pf_Keeper_init h⟩
abbrev s_Store_init : Stmt := inClass (topS 56) 0
abbrev N_Store_init : List Str := ["self", "way", "many", "most", "draws"]
theorem sc_Store_init : FnScope N_Store_init ["self", "way", "many", "most", "draws"] (defScope s_Store_init) := ⟨rfl, rfl, rfl, by decide +kernel, rfl, by decide +kernel, by decide +kernel⟩
theorem fo_Store_init {P : Program} {w : World} {K : PySem.W.Frag} {mg : Str → Option Value} {base : Heap} {f : Addr} {fd : FuncData} (B : Bs mg) (C : Cs K mg) (F : Fun K "__init__" "Store.__init__" s_Store_init f fd) (D_look_at_sizes : Def P w K mg base 4 "look_at_sizes" ["many", "most"] (S_look_at_sizes K)) (D_kinds_of : Def P w K mg base 5 "kinds_of" ["way", "many", "most"] (S_kinds_of K)) (D_look_at_draws : Def P w K mg base 5 "look_at_draws" ["kinds", "thing"] (S_look_at_draws K)) (D_copied : Def P w K mg base 1 "copied" ["draws"] (S_copied K)) (N_Keeper : CDef P w K mg base 1 1 "Keeper" (S_Keeper_init K)) :
    FnOk P w K mg base (L2.CX P w) 6 f fd ["self", "way", "many", "most", "draws"] (lift (S_Store_init K)) := by
  refine fn_ok F sc_Store_init (fun vs G M R Z h => sp_len5 h) (fun cdv A outer s H E hr => ?_)
  have nd : N_Store_init.Nodup := sc_Store_init.nd
  have hu : _ + 64 < cLine := hr.units
  have tk : Takes (cxOf (L2.CX P w) P w K mg base N_Store_init "Store.__init__" (defScope s_Store_init) f cdv A outer s H E) (fun c d _ H => E c d H) := takes_of rfl rfl rfl rfl
  have po : PassesOwn (model P w) _ _ _ := passes_of (X := cxOf (L2.CX P w) P w K mg base N_Store_init "Store.__init__" (defScope s_Store_init) f cdv A outer s H E) rfl
  exact ⟨rd_Store_init K, jss_cons (js_expr (je_callD D_look_at_sizes hr tk (ja_cons (je_var 2) (ja_cons (je_var 3) (ja_nil))))) (jss_cons (js_expr (je_callD D_look_at_draws hr tk (ja_cons (je_callD D_kinds_of hr tk (ja_cons (je_var 1) (ja_cons (je_var 2) (ja_cons (je_var 3) (ja_nil))))) (ja_cons (je_var 4) (ja_nil))))) (jss_cons (js_fset (je_var 0) (je_var 2) C.f_cells) (jss_cons (js_fset (je_var 0) (je_var 3) C.f_limit) (jss_cons (js_fset (je_var 0) (je_callD D_copied hr tk (ja_cons (je_var 4) (ja_nil))) C.f_draws) (jss_cons (js_fset (je_var 0) (je_make0 N_Keeper C.h_Keeper hr tk) C.f_keeper) (jss_cons (js_fset (je_var 0) (je_int) C.f_made) (jss_nil))))))), fun vs G M R Z h => pf_Store_init h⟩
abbrev s_Shelf_init : Stmt := inClass (topS 15) 0
abbrev N_Shelf_init : List Str := ["self", "keeper", "number", "things"]
theorem sc_Shelf_init : FnScope N_Shelf_init ["self", "keeper", "number", "things"] (defScope s_Shelf_init) := ⟨rfl, rfl, rfl, by decide +kernel, rfl, by decide +kernel, by decide +kernel⟩
theorem fo_Shelf_init {P : Program} {w : World} {K : PySem.W.Frag} {mg : Str → Option Value} {base : Heap} {f : Addr} {fd : FuncData} (B : Bs mg) (C : Cs K mg) (F : Fun K "__init__" "Shelf.__init__" s_Shelf_init f fd)  :
    FnOk P w K mg base (L2.CX P w) 1 f fd ["self", "keeper", "number", "things"] (lift (S_Shelf_init K)) := by
  refine fn_ok F sc_Shelf_init (fun vs G M R Z h => sp_len4 h) (fun cdv A outer s H E hr => ?_)
  have nd : N_Shelf_init.Nodup := sc_Shelf_init.nd
  have hu : _ + 64 < cLine := hr.units
  have tk : Takes (cxOf (L2.CX P w) P w K mg base N_Shelf_init "Shelf.__init__" (defScope s_Shelf_init) f cdv A outer s H E) (fun c d _ H => E c d H) := takes_of rfl rfl rfl rfl
  have po : PassesOwn (model P w) _ _ _ := passes_of (X := cxOf (L2.CX P w) P w K mg base N_Shelf_init "Shelf.__init__" (defScope s_Shelf_init) f cdv A outer s H E) rfl
  exact ⟨rd_Shelf_init K, jss_cons (js_fset (je_var 0) (je_var 1) C.f_keeper) (jss_cons (js_fset (je_var 0) (je_var 2) C.f_number) (jss_cons (js_fset (je_var 0) (je_callTy kc_list B.list (ja_cons (je_var 3) (ja_nil))) C.f_things) (jss_nil))), fun vs G M R Z h => pf_Shelf_init h⟩
abbrev s_Body_init : Stmt := inClass (topS 20) 0
abbrev N_Body_init : List Str := ["self", "keeper", "number", "high", "firsts"]
theorem sc_Body_init : FnScope N_Body_init ["self", "keeper", "number", "high", "firsts"] (defScope s_Body_init) := ⟨rfl, rfl, rfl, by decide +kernel, rfl, by decide +kernel, by decide +kernel⟩
theorem fo_Body_init {P : Program} {w : World} {K : PySem.W.Frag} {mg : Str → Option Value} {base : Heap} {f : Addr} {fd : FuncData} (B : Bs mg) (C : Cs K mg) (F : Fun K "__init__" "Body.__init__" s_Body_init f fd) (N_Shelf : CDef P w K mg base 1 2 "Shelf" (S_Shelf_init K)) :
    FnOk P w K mg base (L2.CX P w) 3 f fd ["self", "keeper", "number", "high", "firsts"] (lift (S_Body_init K)) := by
  refine fn_ok F sc_Body_init (fun vs G M R Z h => sp_len5 h) (fun cdv A outer s H E hr => ?_)
  have nd : N_Body_init.Nodup := sc_Body_init.nd
  have hu : _ + 64 < cLine := hr.units
  have tk : Takes (cxOf (L2.CX P w) P w K mg base N_Body_init "Body.__init__" (defScope s_Body_init) f cdv A outer s H E) (fun c d _ H => E c d H) := takes_of rfl rfl rfl rfl
  have po : PassesOwn (model P w) _ _ _ := passes_of (X := cxOf (L2.CX P w) P w K mg base N_Body_init "Body.__init__" (defScope s_Body_init) f cdv A outer s H E) rfl
  exact ⟨rd_Body_init K, jss_cons (js_fset (je_var 0) (je_make N_Shelf C.h_Shelf hr tk (ja_cons (je_var 1) (ja_cons (je_var 2) (ja_cons (je_op kop_mul (je_lst (ja_cons (je_non) (ja_nil))) (je_op kop_mul (je_int) (je_op kop_sub (je_op kop_shl (je_int) (je_var 3)) (je_int)))) (ja_nil))))) C.f_shelf) (jss_cons (js_fset (je_var 0) (je_var 3) C.f_high) (jss_cons (js_fset (je_var 0) (je_callTy kc_list B.list (ja_cons (je_var 4) (ja_nil))) C.f_firsts) (jss_cons (js_fset (je_var 0) (je_dnew) C.f_hand) (jss_nil)))), fun vs G M R Z h => pf_Body_init h⟩
abbrev s_Tree_init : Stmt := inClass (topS 58) 0
abbrev N_Tree_init : List Str := ["self", "many", "most", "draws"]
theorem sc_Tree_init : FnScope N_Tree_init ["self", "many", "most", "draws"] (defScope s_Tree_init) := ⟨rfl, rfl, rfl, by decide +kernel, rfl, by decide +kernel, by decide +kernel⟩
theorem fo_Tree_init {P : Program} {w : World} {K : PySem.W.Frag} {mg : Str → Option Value} {base : Heap} {f : Addr} {fd : FuncData} (B : Bs mg) (C : Cs K mg) (F : Fun K "__init__" "Tree.__init__" s_Tree_init f fd) (D_high_of : Def P w K mg base 1 "high_of" ["many"] (S_high_of K)) (N_Body : CDef P w K mg base 3 8 "Body" (S_Body_init K)) (F_Store_init : FDef P w K mg base 6 "Store" "__init__" (S_Store_init K)) :
    FnOk P w K mg base (L2.CX P w) 7 f fd ["self", "many", "most", "draws"] (lift (S_Tree_init K)) := by
  refine fn_ok F sc_Tree_init (fun vs G M R Z h => sp_len4 h) (fun cdv A outer s H E hr => ?_)
  have nd : N_Tree_init.Nodup := sc_Tree_init.nd
  have hu : _ + 64 < cLine := hr.units
  have tk : Takes (cxOf (L2.CX P w) P w K mg base N_Tree_init "Tree.__init__" (defScope s_Tree_init) f cdv A outer s H E) (fun c d _ H => E c d H) := takes_of rfl rfl rfl rfl
  have po : PassesOwn (model P w) _ _ _ := passes_of (X := cxOf (L2.CX P w) P w K mg base N_Tree_init "Tree.__init__" (defScope s_Tree_init) f cdv A outer s H E) rfl
  exact ⟨rd_Tree_init K, jss_cons (js_expr (je_clsCall F_Store_init hr tk (ja_cons (je_var 0) (ja_cons (je_str) (ja_cons (je_var 1) (ja_cons (je_var 2) (ja_cons (je_var 3) (ja_nil)))))))) (jss_cons (js_fset (je_var 0) (je_make N_Body C.h_Body hr tk (ja_cons (je_fld (je_var 0) C.f_keeper) (ja_cons (je_int) (ja_cons (je_callD D_high_of hr tk (ja_cons (je_var 1) (ja_nil))) (ja_cons (je_op kop_mul (je_lst (ja_cons (je_int) (ja_nil))) (je_var 1)) (ja_nil)))))) C.f_body) (jss_cons (js_fset (je_var 0) (je_slice (je_fld (je_var 0) C.f_draws) (jo_none) (jo_some (je_var 1))) C.f_table) (jss_nil))), fun vs G M R Z h => pf_Tree_init h⟩
abbrev s_need_ask : Stmt := topS 51
abbrev N_need_ask : List Str := ["many", "thing"]
theorem sc_need_ask : FnScope N_need_ask ["many", "thing"] (defScope s_need_ask) := ⟨rfl, rfl, rfl, by decide +kernel, rfl, by decide +kernel, by decide +kernel⟩
theorem fo_need_ask {P : Program} {w : World} {K : PySem.W.Frag} {mg : Str → Option Value} {base : Heap} {f : Addr} {fd : FuncData} (B : Bs mg) (C : Cs K mg) (F : Fun K "need_ask" "need_ask" s_need_ask f fd) (D_is_ask : Def P w K mg base 3 "is_ask" ["many", "thing"] (S_is_ask K)) :
    FnOk P w K mg base (L2.CX P w) 4 f fd ["many", "thing"] (lift (S_need_ask K)) := by
  refine fn_ok F sc_need_ask (fun vs G M R Z h => sp_len2 h) (fun cdv A outer s H E hr => ?_)
  have nd : N_need_ask.Nodup := sc_need_ask.nd
  have hu : _ + 64 < cLine := hr.units
  have tk : Takes (cxOf (L2.CX P w) P w K mg base N_need_ask "need_ask" (defScope s_need_ask) f cdv A outer s H E) (fun c d _ H => E c d H) := takes_of rfl rfl rfl rfl
  have po : PassesOwn (model P w) _ _ _ := passes_of (X := cxOf (L2.CX P w) P w K mg base N_need_ask "need_ask" (defScope s_need_ask) f cdv A outer s H E) rfl
  exact ⟨rd_need_ask K, jss_cons (js_if (jt_not (jt_val (je_callD D_is_ask hr tk (ja_cons (je_var 0) (ja_cons (je_var 1) (ja_nil)))))) (jss_cons (js_raise C.g_NoAsk C.r_NoAsk tk) (jss_nil)) (jss_nil)) (jss_nil), fun vs G M R Z h => pf_need_ask h⟩
theorem df_need_ask {P : Program} {w : World} {K : PySem.W.Frag} {mg : Str → Option Value} {base : Heap} {f : Addr} {fd : FuncData} (B : Bs mg) (C : Cs K mg) (F : Fun K "need_ask" "need_ask" s_need_ask f fd) (b : Binds K fd ["many", "thing"] []) (gm : mg "need_ask" = some (.ref f)) (D_is_ask : Def P w K mg base 3 "is_ask" ["many", "thing"] (S_is_ask K)) :
    Def P w K mg base 4 "need_ask" ["many", "thing"] (S_need_ask K) := ⟨f, fd, fo_need_ask B C F D_is_ask, gm, F.kp, b⟩
abbrev s_Store_left : Stmt := inClass (topS 56) 4
abbrev N_Store_left : List Str := ["self"]
theorem sc_Store_left : FnScope N_Store_left ["self"] (defScope s_Store_left) := ⟨rfl, rfl, rfl, by decide +kernel, rfl, by decide +kernel, by decide +kernel⟩
theorem fo_Store_left {P : Program} {w : World} {K : PySem.W.Frag} {mg : Str → Option Value} {base : Heap} {f : Addr} {fd : FuncData} (B : Bs mg) (C : Cs K mg) (F : Fun K "left" "Store.left" s_Store_left f fd)  :
    FnOk P w K mg base (L2.CX P w) 1 f fd ["self"] (lift (S_Store_left K)) := by
  refine fn_ok F sc_Store_left (fun vs G M R Z h => sp_len1 h) (fun cdv A outer s H E hr => ?_)
  have nd : N_Store_left.Nodup := sc_Store_left.nd
  have hu : _ + 64 < cLine := hr.units
  have tk : Takes (cxOf (L2.CX P w) P w K mg base N_Store_left "Store.left" (defScope s_Store_left) f cdv A outer s H E) (fun c d _ H => E c d H) := takes_of rfl rfl rfl rfl
  have po : PassesOwn (model P w) _ _ _ := passes_of (X := cxOf (L2.CX P w) P w K mg base N_Store_left "Store.left" (defScope s_Store_left) f cdv A outer s H E) rfl
  exact ⟨rd_Store_left K, jss_cons (js_ret (je_op kop_sub (je_fld (je_var 0) C.f_limit) (je_fld (je_var 0) C.f_made))) (jss_nil), fun vs G M R Z h => pf_Store_left h⟩
abbrev s_Shelf_need_room : Stmt := inClass (topS 15) 2
abbrev N_Shelf_need_room : List Str := ["self", "room"]
theorem sc_Shelf_need_room : FnScope N_Shelf_need_room ["self", "room"] (defScope s_Shelf_need_room) := ⟨rfl, rfl, rfl, by decide +kernel, rfl, by decide +kernel, by decide +kernel⟩
theorem fo_Shelf_need_room {P : Program} {w : World} {K : PySem.W.Frag} {mg : Str → Option Value} {base : Heap} {f : Addr} {fd : FuncData} (B : Bs mg) (C : Cs K mg) (F : Fun K "need_room" "Shelf.need_room" s_Shelf_need_room f fd) (D_is_within : Def P w K mg base 2 "is_within" ["thing", "least", "most"] (S_is_within K)) :
    FnOk P w K mg base (L2.CX P w) 3 f fd ["self", "room"] (lift (S_Shelf_need_room K)) := by
  refine fn_ok F sc_Shelf_need_room (fun vs G M R Z h => sp_len2 h) (fun cdv A outer s H E hr => ?_)
  have nd : N_Shelf_need_room.Nodup := sc_Shelf_need_room.nd
  have hu : _ + 64 < cLine := hr.units
  have tk : Takes (cxOf (L2.CX P w) P w K mg base N_Shelf_need_room "Shelf.need_room" (defScope s_Shelf_need_room) f cdv A outer s H E) (fun c d _ H => E c d H) := takes_of rfl rfl rfl rfl
  have po : PassesOwn (model P w) _ _ _ := passes_of (X := cxOf (L2.CX P w) P w K mg base N_Shelf_need_room "Shelf.need_room" (defScope s_Shelf_need_room) f cdv A outer s H E) rfl
  exact ⟨rd_Shelf_need_room K, jss_cons (js_if (jt_not (jt_val (je_callD D_is_within hr tk (ja_cons (je_var 1) (ja_cons (je_int) (ja_cons (je_op kop_sub (je_callB kc_len B.len (ja_cons (je_fld (je_var 0) C.f_things) (ja_nil))) (je_int)) (ja_nil))))))) (jss_cons (js_raise C.g_NoRoom C.r_NoRoom tk) (jss_nil)) (jss_nil)) (jss_nil), fun vs G M R Z h => pf_Shelf_need_room h⟩
abbrev s_Keeper_sees : Stmt := inClass (topS 14) 1
abbrev N_Keeper_sees : List Str := ["self", "deed", "shelf", "room"]
theorem sc_Keeper_sees : FnScope N_Keeper_sees ["self", "deed", "shelf", "room"] (defScope s_Keeper_sees) := ⟨rfl, rfl, rfl, by decide +kernel, rfl, by decide +kernel, by decide +kernel⟩
theorem fo_Keeper_sees {P : Program} {w : World} {K : PySem.W.Frag} {mg : Str → Option Value} {base : Heap} {f : Addr} {fd : FuncData} (B : Bs mg) (C : Cs K mg) (F : Fun K "sees" "Keeper.sees" s_Keeper_sees f fd)  :
    FnOk P w K mg base (L2.CX P w) 1 f fd ["self", "deed", "shelf", "room"] (lift (S_Keeper_sees K)) := by
  refine fn_ok F sc_Keeper_sees (fun vs G M R Z h => sp_len4 h) (fun cdv A outer s H E hr => ?_)
  have nd : N_Keeper_sees.Nodup := sc_Keeper_sees.nd
  have hu : _ + 64 < cLine := hr.units
  have tk : Takes (cxOf (L2.CX P w) P w K mg base N_Keeper_sees "Keeper.sees" (defScope s_Keeper_sees) f cdv A outer s H E) (fun c d _ H => E c d H) := takes_of rfl rfl rfl rfl
  have po : PassesOwn (model P w) _ _ _ := passes_of (X := cxOf (L2.CX P w) P w K mg base N_Keeper_sees "Keeper.sees" (defScope s_Keeper_sees) f cdv A outer s H E) rfl
  exact ⟨rd_Keeper_sees K, jss_cons (js_expr (je_bm PySem.F.plainAttrs_list PySem.F.slot_list_append PySem.F.type_list_append km_append (je_fld (je_var 0) C.f_log) (ja_cons (je_tup (ja_cons (je_var 1) (ja_cons (je_var 2) (ja_cons (je_var 3) (ja_nil))))) (ja_nil)))) (jss_nil), fun vs G M R Z h => pf_Keeper_sees h⟩
abbrev s_Shelf_look : Stmt := inClass (topS 15) 3
abbrev N_Shelf_look : List Str := ["self", "room"]
theorem sc_Shelf_look : FnScope N_Shelf_look ["self", "room"] (defScope s_Shelf_look) := ⟨rfl, rfl, rfl, by decide +kernel, rfl, by decide +kernel, by decide +kernel⟩
theorem fo_Shelf_look {P : Program} {w : World} {K : PySem.W.Frag} {mg : Str → Option Value} {base : Heap} {f : Addr} {fd : FuncData} (B : Bs mg) (C : Cs K mg) (F : Fun K "look" "Shelf.look" s_Shelf_look f fd) (M_need_room : ∀ p ∈ tabM_need_room K, MDef P w K mg base 3 p.1 "need_room" p.2) (M_sees : ∀ p ∈ tabM_sees K, MDef P w K mg base 1 p.1 "sees" p.2) :
    FnOk P w K mg base (L2.CX P w) 4 f fd ["self", "room"] (lift (S_Shelf_look K)) := by
  refine fn_ok F sc_Shelf_look (fun vs G M R Z h => sp_len2 h) (fun cdv A outer s H E hr => ?_)
  have nd : N_Shelf_look.Nodup := sc_Shelf_look.nd
  have hu : _ + 64 < cLine := hr.units
  have tk : Takes (cxOf (L2.CX P w) P w K mg base N_Shelf_look "Shelf.look" (defScope s_Shelf_look) f cdv A outer s H E) (fun c d _ H => E c d H) := takes_of rfl rfl rfl rfl
  have po : PassesOwn (model P w) _ _ _ := passes_of (X := cxOf (L2.CX P w) P w K mg base N_Shelf_look "Shelf.look" (defScope s_Shelf_look) f cdv A outer s H E) rfl
  exact ⟨rd_Shelf_look K, jss_cons (js_expr (je_meth (fun p hp => (M_need_room p hp).mono (by decide)) hr tk (je_var 0) (ja_cons (je_var 1) (ja_nil)))) (jss_cons (js_expr (je_meth (fun p hp => (M_sees p hp).mono (by decide)) hr tk (je_fld (je_var 0) C.f_keeper) (ja_cons (je_str) (ja_cons (je_fld (je_var 0) C.f_number) (ja_cons (je_var 1) (ja_nil)))))) (jss_cons (js_ret (je_ix (je_fld (je_var 0) C.f_things) (je_var 1))) (jss_nil))), fun vs G M R Z h => pf_Shelf_look h⟩
abbrev s_node_at : Stmt := topS 18
abbrev N_node_at : List Str := ["high", "depth", "leaf"]
theorem sc_node_at : FnScope N_node_at ["high", "depth", "leaf"] (defScope s_node_at) := ⟨rfl, rfl, rfl, by decide +kernel, rfl, by decide +kernel, by decide +kernel⟩
theorem fo_node_at {P : Program} {w : World} {K : PySem.W.Frag} {mg : Str → Option Value} {base : Heap} {f : Addr} {fd : FuncData} (B : Bs mg) (C : Cs K mg) (F : Fun K "node_at" "node_at" s_node_at f fd)  :
    FnOk P w K mg base (L2.CX P w) 1 f fd ["high", "depth", "leaf"] (lift (S_node_at K)) := by
  refine fn_ok F sc_node_at (fun vs G M R Z h => sp_len3 h) (fun cdv A outer s H E hr => ?_)
  have nd : N_node_at.Nodup := sc_node_at.nd
  have hu : _ + 64 < cLine := hr.units
  have tk : Takes (cxOf (L2.CX P w) P w K mg base N_node_at "node_at" (defScope s_node_at) f cdv A outer s H E) (fun c d _ H => E c d H) := takes_of rfl rfl rfl rfl
  have po : PassesOwn (model P w) _ _ _ := passes_of (X := cxOf (L2.CX P w) P w K mg base N_node_at "node_at" (defScope s_node_at) f cdv A outer s H E) rfl
  exact ⟨rd_node_at K, jss_cons (js_ret (je_op kop_add (je_op kop_sub (je_op kop_shl (je_int) (je_var 1)) (je_int)) (je_op kop_shr (je_var 2) (je_op kop_sub (je_var 0) (je_var 1))))) (jss_nil), fun vs G M R Z h => pf_node_at h⟩
theorem df_node_at {P : Program} {w : World} {K : PySem.W.Frag} {mg : Str → Option Value} {base : Heap} {f : Addr} {fd : FuncData} (B : Bs mg) (C : Cs K mg) (F : Fun K "node_at" "node_at" s_node_at f fd) (b : Binds K fd ["high", "depth", "leaf"] []) (gm : mg "node_at" = some (.ref f))  :
    Def P w K mg base 1 "node_at" ["high", "depth", "leaf"] (S_node_at K) := ⟨f, fd, fo_node_at B C F , gm, F.kp, b⟩
abbrev s_room_of : Stmt := topS 19
abbrev N_room_of : List Str := ["node", "side"]
theorem sc_room_of : FnScope N_room_of ["node", "side"] (defScope s_room_of) := ⟨rfl, rfl, rfl, by decide +kernel, rfl, by decide +kernel, by decide +kernel⟩
theorem fo_room_of {P : Program} {w : World} {K : PySem.W.Frag} {mg : Str → Option Value} {base : Heap} {f : Addr} {fd : FuncData} (B : Bs mg) (C : Cs K mg) (F : Fun K "room_of" "room_of" s_room_of f fd)  :
    FnOk P w K mg base (L2.CX P w) 1 f fd ["node", "side"] (lift (S_room_of K)) := by
  refine fn_ok F sc_room_of (fun vs G M R Z h => sp_len2 h) (fun cdv A outer s H E hr => ?_)
  have nd : N_room_of.Nodup := sc_room_of.nd
  have hu : _ + 64 < cLine := hr.units
  have tk : Takes (cxOf (L2.CX P w) P w K mg base N_room_of "room_of" (defScope s_room_of) f cdv A outer s H E) (fun c d _ H => E c d H) := takes_of rfl rfl rfl rfl
  have po : PassesOwn (model P w) _ _ _ := passes_of (X := cxOf (L2.CX P w) P w K mg base N_room_of "room_of" (defScope s_room_of) f cdv A outer s H E) rfl
  exact ⟨rd_room_of K, jss_cons (js_ret (je_op kop_add (je_op kop_mul (je_int) (je_var 0)) (je_var 1))) (jss_nil), fun vs G M R Z h => pf_room_of h⟩
theorem df_room_of {P : Program} {w : World} {K : PySem.W.Frag} {mg : Str → Option Value} {base : Heap} {f : Addr} {fd : FuncData} (B : Bs mg) (C : Cs K mg) (F : Fun K "room_of" "room_of" s_room_of f fd) (b : Binds K fd ["node", "side"] []) (gm : mg "room_of" = some (.ref f))  :
    Def P w K mg base 1 "room_of" ["node", "side"] (S_room_of K) := ⟨f, fd, fo_room_of B C F , gm, F.kp, b⟩
abbrev s_Body_look_way : Stmt := inClass (topS 20) 1
abbrev N_Body_look_way : List Str := ["self", "leaf", "depth", "side", "thing"]
theorem sc_Body_look_way : FnScope N_Body_look_way ["self", "leaf"] (defScope s_Body_look_way) := ⟨rfl, rfl, rfl, by decide +kernel, rfl, by decide +kernel, by decide +kernel⟩
theorem fo_Body_look_way {P : Program} {w : World} {K : PySem.W.Frag} {mg : Str → Option Value} {base : Heap} {f : Addr} {fd : FuncData} (B : Bs mg) (C : Cs K mg) (F : Fun K "look_way" "Body.look_way" s_Body_look_way f fd) (D_node_at : Def P w K mg base 1 "node_at" ["high", "depth", "leaf"] (S_node_at K)) (D_room_of : Def P w K mg base 1 "room_of" ["node", "side"] (S_room_of K)) (M_look : ∀ p ∈ tabM_look K, MDef P w K mg base 4 p.1 "look" p.2) :
    FnOk P w K mg base (L2.CX P w) 5 f fd ["self", "leaf"] (lift (S_Body_look_way K)) := by
  refine fn_ok F sc_Body_look_way (fun vs G M R Z h => sp_len2 h) (fun cdv A outer s H E hr => ?_)
  have nd : N_Body_look_way.Nodup := sc_Body_look_way.nd
  have hu : _ + 64 < cLine := hr.units
  have tk : Takes (cxOf (L2.CX P w) P w K mg base N_Body_look_way "Body.look_way" (defScope s_Body_look_way) f cdv A outer s H E) (fun c d _ H => E c d H) := takes_of rfl rfl rfl rfl
  have po : PassesOwn (model P w) _ _ _ := passes_of (X := cxOf (L2.CX P w) P w K mg base N_Body_look_way "Body.look_way" (defScope s_Body_look_way) f cdv A outer s H E) rfl
  exact ⟨rd_Body_look_way K, jss_cons (js_for po rfl (ji_range1 B.range (ja_cons (je_op kop_add (je_fld (je_var 0) C.f_high) (je_int)) (ja_nil))) (jg_name (i := 2) nd) (jss_cons (js_for po rfl (ji_tup (je_conT C.k_SIDES)) (jg_name (i := 3) nd) (jss_cons (js_set (i := 4) (je_meth (fun p hp => (M_look p hp).mono (by decide)) hr tk (je_fld (je_var 0) C.f_shelf) (ja_cons (je_callD D_room_of hr tk (ja_cons (je_callD D_node_at hr tk (ja_cons (je_fld (je_var 0) C.f_high) (ja_cons (je_var 2) (ja_cons (je_var 1) (ja_nil))))) (ja_cons (je_var 3) (ja_nil)))) (ja_nil))) nd) (jss_cons (js_if (jt_cmp (kop_isnot2) (je_var 4) (je_non) (nomark _)) (jss_cons (js_dset hu (je_fld (je_var 0) C.f_hand) (je_ix (je_var 4) (je_int)) (je_tup (ja_cons (je_ix (je_var 4) (je_int)) (ja_cons (je_ix (je_var 4) (je_int)) (ja_nil))))) (jss_nil)) (jss_nil)) (jss_nil)))) (jss_nil))) (jss_nil), fun vs G M R Z h => pf_Body_look_way h⟩
abbrev s_Body_word_of : Stmt := inClass (topS 20) 2
abbrev N_Body_word_of : List Str := ["self", "cell"]
theorem sc_Body_word_of : FnScope N_Body_word_of ["self", "cell"] (defScope s_Body_word_of) := ⟨rfl, rfl, rfl, by decide +kernel, rfl, by decide +kernel, by decide +kernel⟩
theorem fo_Body_word_of {P : Program} {w : World} {K : PySem.W.Frag} {mg : Str → Option Value} {base : Heap} {f : Addr} {fd : FuncData} (B : Bs mg) (C : Cs K mg) (F : Fun K "word_of" "Body.word_of" s_Body_word_of f fd)  :
    FnOk P w K mg base (L2.CX P w) 1 f fd ["self", "cell"] (lift (S_Body_word_of K)) := by
  refine fn_ok F sc_Body_word_of (fun vs G M R Z h => sp_len2 h) (fun cdv A outer s H E hr => ?_)
  have nd : N_Body_word_of.Nodup := sc_Body_word_of.nd
  have hu : _ + 64 < cLine := hr.units
  have tk : Takes (cxOf (L2.CX P w) P w K mg base N_Body_word_of "Body.word_of" (defScope s_Body_word_of) f cdv A outer s H E) (fun c d _ H => E c d H) := takes_of rfl rfl rfl rfl
  have po : PassesOwn (model P w) _ _ _ := passes_of (X := cxOf (L2.CX P w) P w K mg base N_Body_word_of "Body.word_of" (defScope s_Body_word_of) f cdv A outer s H E) rfl
  exact ⟨rd_Body_word_of K, jss_cons (js_if (jt_din hu (je_var 1) (je_fld (je_var 0) C.f_hand)) (jss_cons (js_ret (je_ix (je_dget hu (je_fld (je_var 0) C.f_hand) (je_var 1)) (je_int))) (jss_nil)) (jss_nil)) (jss_cons (js_ret (je_ix (je_fld (je_var 0) C.f_firsts) (je_var 1))) (jss_nil)), fun vs G M R Z h => pf_Body_word_of h⟩
abbrev s_Body_keep : Stmt := inClass (topS 20) 3
abbrev N_Body_keep : List Str := ["self", "cell", "word", "leaf"]
theorem sc_Body_keep : FnScope N_Body_keep ["self", "cell", "word", "leaf"] (defScope s_Body_keep) := ⟨rfl, rfl, rfl, by decide +kernel, rfl, by decide +kernel, by decide +kernel⟩
theorem fo_Body_keep {P : Program} {w : World} {K : PySem.W.Frag} {mg : Str → Option Value} {base : Heap} {f : Addr} {fd : FuncData} (B : Bs mg) (C : Cs K mg) (F : Fun K "keep" "Body.keep" s_Body_keep f fd)  :
    FnOk P w K mg base (L2.CX P w) 1 f fd ["self", "cell", "word", "leaf"] (lift (S_Body_keep K)) := by
  refine fn_ok F sc_Body_keep (fun vs G M R Z h => sp_len4 h) (fun cdv A outer s H E hr => ?_)
  have nd : N_Body_keep.Nodup := sc_Body_keep.nd
  have hu : _ + 64 < cLine := hr.units
  have tk : Takes (cxOf (L2.CX P w) P w K mg base N_Body_keep "Body.keep" (defScope s_Body_keep) f cdv A outer s H E) (fun c d _ H => E c d H) := takes_of rfl rfl rfl rfl
  have po : PassesOwn (model P w) _ _ _ := passes_of (X := cxOf (L2.CX P w) P w K mg base N_Body_keep "Body.keep" (defScope s_Body_keep) f cdv A outer s H E) rfl
  exact ⟨rd_Body_keep K, jss_cons (js_dset hu (je_fld (je_var 0) C.f_hand) (je_var 1) (je_tup (ja_cons (je_var 2) (ja_cons (je_var 3) (ja_nil))))) (jss_nil), fun vs G M R Z h => pf_Body_keep h⟩
abbrev s_Body_fitting : Stmt := inClass (topS 20) 4
abbrev N_Body_fitting : List Str := ["self", "depth", "node", "found", "cell"]
theorem sc_Body_fitting : FnScope N_Body_fitting ["self", "depth", "node"] (defScope s_Body_fitting) := ⟨rfl, rfl, rfl, by decide +kernel, rfl, by decide +kernel, by decide +kernel⟩
theorem fo_Body_fitting {P : Program} {w : World} {K : PySem.W.Frag} {mg : Str → Option Value} {base : Heap} {f : Addr} {fd : FuncData} (B : Bs mg) (C : Cs K mg) (F : Fun K "fitting" "Body.fitting" s_Body_fitting f fd) (D_node_at : Def P w K mg base 1 "node_at" ["high", "depth", "leaf"] (S_node_at K)) :
    FnOk P w K mg base (L2.CX P w) 2 f fd ["self", "depth", "node"] (lift (S_Body_fitting K)) := by
  refine fn_ok F sc_Body_fitting (fun vs G M R Z h => sp_len3 h) (fun cdv A outer s H E hr => ?_)
  have nd : N_Body_fitting.Nodup := sc_Body_fitting.nd
  have hu : _ + 64 < cLine := hr.units
  have tk : Takes (cxOf (L2.CX P w) P w K mg base N_Body_fitting "Body.fitting" (defScope s_Body_fitting) f cdv A outer s H E) (fun c d _ H => E c d H) := takes_of rfl rfl rfl rfl
  have po : PassesOwn (model P w) _ _ _ := passes_of (X := cxOf (L2.CX P w) P w K mg base N_Body_fitting "Body.fitting" (defScope s_Body_fitting) f cdv A outer s H E) rfl
  exact ⟨rd_Body_fitting K, jss_cons (js_setComp (own := [("cell", 4)]) (i := 3) rfl nd (sw_true rfl rfl rfl (by decide +kernel)) (ji_list (je_callB kc_sortedD B.sorted (ja_cons (je_fld (je_var 0) C.f_hand) (ja_nil)))) (blkOk_by (own := [("cell", 4)]) (N := N_Body_fitting) (sc := defScope s_Body_fitting) (by decide +kernel)) (fun _ _ _ _ _ => by exact jg_name (i := 4) nd) (fun _ _ _ _ _ => by exact jts_one (jt_cmp (kop_eq hu) (je_callD D_node_at hr takes0 (ja_cons (je_fld (je_var 0) C.f_high) (ja_cons (je_var 1) (ja_cons (je_ix (je_dget hu (je_fld (je_var 0) C.f_hand) (je_var 4)) (je_int)) (ja_nil))))) (je_var 2) (nomark _))) (fun _ _ _ _ _ => by exact je_var 4)) (jss_cons (js_ret (je_slice (je_var 3) (jo_none) (jo_some (je_int)))) (jss_nil)), fun vs G M R Z h => pf_Body_fitting h⟩
abbrev s_Shelf_lay : Stmt := inClass (topS 15) 4
abbrev N_Shelf_lay : List Str := ["self", "room", "thing"]
theorem sc_Shelf_lay : FnScope N_Shelf_lay ["self", "room", "thing"] (defScope s_Shelf_lay) := ⟨rfl, rfl, rfl, by decide +kernel, rfl, by decide +kernel, by decide +kernel⟩
theorem fo_Shelf_lay {P : Program} {w : World} {K : PySem.W.Frag} {mg : Str → Option Value} {base : Heap} {f : Addr} {fd : FuncData} (B : Bs mg) (C : Cs K mg) (F : Fun K "lay" "Shelf.lay" s_Shelf_lay f fd) (M_need_room : ∀ p ∈ tabM_need_room K, MDef P w K mg base 3 p.1 "need_room" p.2) (M_sees : ∀ p ∈ tabM_sees K, MDef P w K mg base 1 p.1 "sees" p.2) :
    FnOk P w K mg base (L2.CX P w) 4 f fd ["self", "room", "thing"] (lift (S_Shelf_lay K)) := by
  refine fn_ok F sc_Shelf_lay (fun vs G M R Z h => sp_len3 h) (fun cdv A outer s H E hr => ?_)
  have nd : N_Shelf_lay.Nodup := sc_Shelf_lay.nd
  have hu : _ + 64 < cLine := hr.units
  have tk : Takes (cxOf (L2.CX P w) P w K mg base N_Shelf_lay "Shelf.lay" (defScope s_Shelf_lay) f cdv A outer s H E) (fun c d _ H => E c d H) := takes_of rfl rfl rfl rfl
  have po : PassesOwn (model P w) _ _ _ := passes_of (X := cxOf (L2.CX P w) P w K mg base N_Shelf_lay "Shelf.lay" (defScope s_Shelf_lay) f cdv A outer s H E) rfl
  exact ⟨rd_Shelf_lay K, jss_cons (js_expr (je_meth (fun p hp => (M_need_room p hp).mono (by decide)) hr tk (je_var 0) (ja_cons (je_var 1) (ja_nil)))) (jss_cons (js_expr (je_meth (fun p hp => (M_sees p hp).mono (by decide)) hr tk (je_fld (je_var 0) C.f_keeper) (ja_cons (je_str) (ja_cons (je_fld (je_var 0) C.f_number) (ja_cons (je_var 1) (ja_nil)))))) (jss_cons (js_asg (je_var 2) (jg_ix (je_fld (je_var 0) C.f_things) (je_var 1))) (jss_nil))), fun vs G M R Z h => pf_Shelf_lay h⟩
abbrev s_Body_lay_way : Stmt := inClass (topS 20) 5
abbrev N_Body_lay_way : List Str := ["self", "leaf", "depth", "node", "cells", "side", "thing", "word", "own"]
theorem sc_Body_lay_way : FnScope N_Body_lay_way ["self", "leaf"] (defScope s_Body_lay_way) := ⟨rfl, rfl, rfl, by decide +kernel, rfl, by decide +kernel, by decide +kernel⟩
theorem fo_Body_lay_way {P : Program} {w : World} {K : PySem.W.Frag} {mg : Str → Option Value} {base : Heap} {f : Addr} {fd : FuncData} (B : Bs mg) (C : Cs K mg) (F : Fun K "lay_way" "Body.lay_way" s_Body_lay_way f fd) (D_node_at : Def P w K mg base 1 "node_at" ["high", "depth", "leaf"] (S_node_at K)) (D_room_of : Def P w K mg base 1 "room_of" ["node", "side"] (S_room_of K)) (M_fitting : ∀ p ∈ tabM_fitting K, MDef P w K mg base 2 p.1 "fitting" p.2) (M_lay : ∀ p ∈ tabM_lay K, MDef P w K mg base 4 p.1 "lay" p.2) :
    FnOk P w K mg base (L2.CX P w) 5 f fd ["self", "leaf"] (lift (S_Body_lay_way K)) := by
  refine fn_ok F sc_Body_lay_way (fun vs G M R Z h => sp_len2 h) (fun cdv A outer s H E hr => ?_)
  have nd : N_Body_lay_way.Nodup := sc_Body_lay_way.nd
  have hu : _ + 64 < cLine := hr.units
  have tk : Takes (cxOf (L2.CX P w) P w K mg base N_Body_lay_way "Body.lay_way" (defScope s_Body_lay_way) f cdv A outer s H E) (fun c d _ H => E c d H) := takes_of rfl rfl rfl rfl
  have po : PassesOwn (model P w) _ _ _ := passes_of (X := cxOf (L2.CX P w) P w K mg base N_Body_lay_way "Body.lay_way" (defScope s_Body_lay_way) f cdv A outer s H E) rfl
  exact ⟨rd_Body_lay_way K, jss_cons (js_for po rfl (ji_range3 B.range (ja_cons (je_fld (je_var 0) C.f_high) (ja_cons (je_neg (je_int)) (ja_cons (je_neg (je_int)) (ja_nil))))) (jg_name (i := 2) nd) (jss_cons (js_set (i := 3) (je_callD D_node_at hr tk (ja_cons (je_fld (je_var 0) C.f_high) (ja_cons (je_var 2) (ja_cons (je_var 1) (ja_nil))))) nd) (jss_cons (js_set (i := 4) (je_meth (fun p hp => (M_fitting p hp).mono (by decide)) hr tk (je_var 0) (ja_cons (je_var 2) (ja_cons (je_var 3) (ja_nil)))) nd) (jss_cons (js_for po rfl (ji_tup (je_conT C.k_SIDES)) (jg_name (i := 5) nd) (jss_cons (js_set (i := 6) (je_non) nd) (jss_cons (js_if (jt_cmp (kop_lt) (je_var 5) (je_callB kc_len B.len (ja_cons (je_var 4) (ja_nil))) (nomark _)) (jss_cons (js_asg (je_dpop2 (je_fld (je_var 0) C.f_hand) (je_ix (je_var 4) (je_var 5)) (je_tup (ja_cons (je_int) (ja_cons (je_int) (ja_nil))))) (jg_tup rfl (jgs_cons (jg_name (i := 7) nd) (jgs_cons (jg_name (i := 8) nd) (jgs_nil))))) (jss_cons (js_set (i := 6) (je_tup (ja_cons (je_ix (je_var 4) (je_var 5)) (ja_cons (je_var 7) (ja_cons (je_var 8) (ja_nil))))) nd) (jss_nil))) (jss_nil)) (jss_cons (js_expr (je_meth (fun p hp => (M_lay p hp).mono (by decide)) hr tk (je_fld (je_var 0) C.f_shelf) (ja_cons (je_callD D_room_of hr tk (ja_cons (je_var 3) (ja_cons (je_var 5) (ja_nil)))) (ja_cons (je_var 6) (ja_nil))))) (jss_nil))))) (jss_nil))))) (jss_nil), fun vs G M R Z h => pf_Body_lay_way h⟩
abbrev s_Tree_answered : Stmt := inClass (topS 58) 1
abbrev N_Tree_answered : List Str := ["self", "cell", "word", "leaf", "told"]
theorem sc_Tree_answered : FnScope N_Tree_answered ["self", "cell", "word"] (defScope s_Tree_answered) := ⟨rfl, rfl, rfl, by decide +kernel, rfl, by decide +kernel, by decide +kernel⟩
theorem fo_Tree_answered {P : Program} {w : World} {K : PySem.W.Frag} {mg : Str → Option Value} {base : Heap} {f : Addr} {fd : FuncData} (B : Bs mg) (C : Cs K mg) (F : Fun K "answered" "Tree.answered" s_Tree_answered f fd) (M_look_way : ∀ p ∈ tabM_look_way K, MDef P w K mg base 5 p.1 "look_way" p.2) (M_word_of : ∀ p ∈ tabM_word_of K, MDef P w K mg base 1 p.1 "word_of" p.2) (M_keep : ∀ p ∈ tabM_keep K, MDef P w K mg base 1 p.1 "keep" p.2) (M_lay_way : ∀ p ∈ tabM_lay_way K, MDef P w K mg base 5 p.1 "lay_way" p.2) :
    FnOk P w K mg base (L2.CX P w) 6 f fd ["self", "cell", "word"] (lift (S_Tree_answered K)) := by
  refine fn_ok F sc_Tree_answered (fun vs G M R Z h => sp_len3 h) (fun cdv A outer s H E hr => ?_)
  have nd : N_Tree_answered.Nodup := sc_Tree_answered.nd
  have hu : _ + 64 < cLine := hr.units
  have tk : Takes (cxOf (L2.CX P w) P w K mg base N_Tree_answered "Tree.answered" (defScope s_Tree_answered) f cdv A outer s H E) (fun c d _ H => E c d H) := takes_of rfl rfl rfl rfl
  have po : PassesOwn (model P w) _ _ _ := passes_of (X := cxOf (L2.CX P w) P w K mg base N_Tree_answered "Tree.answered" (defScope s_Tree_answered) f cdv A outer s H E) rfl
  exact ⟨rd_Tree_answered K, jss_cons (js_set (i := 3) (je_ix (je_fld (je_var 0) C.f_table) (je_var 1)) nd) (jss_cons (js_asg (je_ix (je_fld (je_var 0) C.f_draws) (je_op kop_add (je_fld (je_var 0) C.f_cells) (je_fld (je_var 0) C.f_made))) (jg_ix (je_fld (je_var 0) C.f_table) (je_var 1))) (jss_cons (js_expr (je_meth (fun p hp => (M_look_way p hp).mono (by decide)) hr tk (je_fld (je_var 0) C.f_body) (ja_cons (je_var 3) (ja_nil)))) (jss_cons (js_set (i := 4) (je_meth (fun p hp => (M_word_of p hp).mono (by decide)) hr tk (je_fld (je_var 0) C.f_body) (ja_cons (je_var 1) (ja_nil))) nd) (jss_cons (js_expr (je_meth (fun p hp => (M_keep p hp).mono (by decide)) hr tk (je_fld (je_var 0) C.f_body) (ja_cons (je_var 1) (ja_cons (je_ite (jt_cmp (kop_is2) (je_var 2) (je_non) (nomark _)) (je_var 4) (je_var 2)) (ja_cons (je_ix (je_fld (je_var 0) C.f_table) (je_var 1)) (ja_nil)))))) (jss_cons (js_expr (je_meth (fun p hp => (M_lay_way p hp).mono (by decide)) hr tk (je_fld (je_var 0) C.f_body) (ja_cons (je_var 3) (ja_nil)))) (jss_cons (js_ret (je_var 4)) (jss_nil))))))), fun vs G M R Z h => pf_Tree_answered h⟩
abbrev s_word_asked : Stmt := topS 52
abbrev N_word_asked : List Str := ["deed"]
theorem sc_word_asked : FnScope N_word_asked ["deed"] (defScope s_word_asked) := ⟨rfl, rfl, rfl, by decide +kernel, rfl, by decide +kernel, by decide +kernel⟩
theorem fo_word_asked {P : Program} {w : World} {K : PySem.W.Frag} {mg : Str → Option Value} {base : Heap} {f : Addr} {fd : FuncData} (B : Bs mg) (C : Cs K mg) (F : Fun K "word_asked" "word_asked" s_word_asked f fd)  :
    FnOk P w K mg base (L2.CX P w) 1 f fd ["deed"] (lift (S_word_asked K)) := by
  refine fn_ok F sc_word_asked (fun vs G M R Z h => sp_len1 h) (fun cdv A outer s H E hr => ?_)
  have nd : N_word_asked.Nodup := sc_word_asked.nd
  have hu : _ + 64 < cLine := hr.units
  have tk : Takes (cxOf (L2.CX P w) P w K mg base N_word_asked "word_asked" (defScope s_word_asked) f cdv A outer s H E) (fun c d _ H => E c d H) := takes_of rfl rfl rfl rfl
  have po : PassesOwn (model P w) _ _ _ := passes_of (X := cxOf (L2.CX P w) P w K mg base N_word_asked "word_asked" (defScope s_word_asked) f cdv A outer s H E) rfl
  exact ⟨rd_word_asked K, jss_cons (js_if (jt_cmp (kop_eq hu) (je_ix (je_var 0) (je_int)) (je_str) (nomark _)) (jss_cons (js_ret (je_non)) (jss_nil)) (jss_nil)) (jss_cons (js_ret (je_ix (je_var 0) (je_int))) (jss_nil)), fun vs G M R Z h => pf_word_asked h⟩
theorem df_word_asked {P : Program} {w : World} {K : PySem.W.Frag} {mg : Str → Option Value} {base : Heap} {f : Addr} {fd : FuncData} (B : Bs mg) (C : Cs K mg) (F : Fun K "word_asked" "word_asked" s_word_asked f fd) (b : Binds K fd ["deed"] []) (gm : mg "word_asked" = some (.ref f))  :
    Def P w K mg base 1 "word_asked" ["deed"] (S_word_asked K) := ⟨f, fd, fo_word_asked B C F , gm, F.kp, b⟩
abbrev s_Store_ask : Stmt := inClass (topS 56) 8
abbrev N_Store_ask : List Str := ["self", "deed", "told"]
theorem sc_Store_ask : FnScope N_Store_ask ["self", "deed"] (defScope s_Store_ask) := ⟨rfl, rfl, rfl, by decide +kernel, rfl, by decide +kernel, by decide +kernel⟩
theorem fo_Store_ask {P : Program} {w : World} {K : PySem.W.Frag} {mg : Str → Option Value} {base : Heap} {f : Addr} {fd : FuncData} (B : Bs mg) (C : Cs K mg) (F : Fun K "ask" "Store.ask" s_Store_ask f fd) (D_need_ask : Def P w K mg base 4 "need_ask" ["many", "thing"] (S_need_ask K)) (D_word_asked : Def P w K mg base 1 "word_asked" ["deed"] (S_word_asked K)) (M_left : ∀ p ∈ tabM_left K, MDef P w K mg base 1 p.1 "left" p.2) (M_answered : ∀ p ∈ tabM_answered K, MDef P w K mg base 6 p.1 "answered" p.2) :
    FnOk P w K mg base (L2.CX P w) 7 f fd ["self", "deed"] (lift (S_Store_ask K)) := by
  refine fn_ok F sc_Store_ask (fun vs G M R Z h => sp_len2 h) (fun cdv A outer s H E hr => ?_)
  have nd : N_Store_ask.Nodup := sc_Store_ask.nd
  have hu : _ + 64 < cLine := hr.units
  have tk : Takes (cxOf (L2.CX P w) P w K mg base N_Store_ask "Store.ask" (defScope s_Store_ask) f cdv A outer s H E) (fun c d _ H => E c d H) := takes_of rfl rfl rfl rfl
  have po : PassesOwn (model P w) _ _ _ := passes_of (X := cxOf (L2.CX P w) P w K mg base N_Store_ask "Store.ask" (defScope s_Store_ask) f cdv A outer s H E) rfl
  exact ⟨rd_Store_ask K, jss_cons (js_expr (je_callD D_need_ask hr tk (ja_cons (je_fld (je_var 0) C.f_cells) (ja_cons (je_var 1) (ja_nil))))) (jss_cons (js_if (jt_cmp (kop_lt) (je_meth0 (fun p hp => (M_left p hp).mono (by decide)) hr tk (je_var 0)) (je_int) (nomark _)) (jss_cons (js_raise C.g_Over C.r_Over tk) (jss_nil)) (jss_nil)) (jss_cons (js_set (i := 2) (je_meth (fun p hp => (M_answered p hp).mono (by decide)) hr tk (je_var 0) (ja_cons (je_ix (je_var 1) (je_int)) (ja_cons (je_callD D_word_asked hr tk (ja_cons (je_var 1) (ja_nil))) (ja_nil)))) nd) (jss_cons (js_fset (je_var 0) (je_op kop_add (je_fld (je_var 0) C.f_made) (je_int)) C.f_made) (jss_cons (js_ret (je_var 2)) (jss_nil))))), fun vs G M R Z h => pf_Store_ask h⟩
abbrev s_Body_cells_in_hand : Stmt := inClass (topS 20) 6
abbrev N_Body_cells_in_hand : List Str := ["self"]
theorem sc_Body_cells_in_hand : FnScope N_Body_cells_in_hand ["self"] (defScope s_Body_cells_in_hand) := ⟨rfl, rfl, rfl, by decide +kernel, rfl, by decide +kernel, by decide +kernel⟩
theorem fo_Body_cells_in_hand {P : Program} {w : World} {K : PySem.W.Frag} {mg : Str → Option Value} {base : Heap} {f : Addr} {fd : FuncData} (B : Bs mg) (C : Cs K mg) (F : Fun K "cells_in_hand" "Body.cells_in_hand" s_Body_cells_in_hand f fd)  :
    FnOk P w K mg base (L2.CX P w) 1 f fd ["self"] (lift (S_Body_cells_in_hand K)) := by
  refine fn_ok F sc_Body_cells_in_hand (fun vs G M R Z h => sp_len1 h) (fun cdv A outer s H E hr => ?_)
  have nd : N_Body_cells_in_hand.Nodup := sc_Body_cells_in_hand.nd
  have hu : _ + 64 < cLine := hr.units
  have tk : Takes (cxOf (L2.CX P w) P w K mg base N_Body_cells_in_hand "Body.cells_in_hand" (defScope s_Body_cells_in_hand) f cdv A outer s H E) (fun c d _ H => E c d H) := takes_of rfl rfl rfl rfl
  have po : PassesOwn (model P w) _ _ _ := passes_of (X := cxOf (L2.CX P w) P w K mg base N_Body_cells_in_hand "Body.cells_in_hand" (defScope s_Body_cells_in_hand) f cdv A outer s H E) rfl
  exact ⟨rd_Body_cells_in_hand K, jss_cons (js_ret (je_callB kc_sortedD B.sorted (ja_cons (je_fld (je_var 0) C.f_hand) (ja_nil)))) (jss_nil), fun vs G M R Z h => pf_Body_cells_in_hand h⟩
abbrev s_Tree_pocket : Stmt := inClass (topS 58) 2
abbrev N_Tree_pocket : List Str := ["self"]
theorem sc_Tree_pocket : FnScope N_Tree_pocket ["self"] (defScope s_Tree_pocket) := ⟨rfl, rfl, rfl, by decide +kernel, rfl, by decide +kernel, by decide +kernel⟩
theorem fo_Tree_pocket {P : Program} {w : World} {K : PySem.W.Frag} {mg : Str → Option Value} {base : Heap} {f : Addr} {fd : FuncData} (B : Bs mg) (C : Cs K mg) (F : Fun K "pocket" "Tree.pocket" s_Tree_pocket f fd) (M_cells_in_hand : ∀ p ∈ tabM_cells_in_hand K, MDef P w K mg base 1 p.1 "cells_in_hand" p.2) :
    FnOk P w K mg base (L2.CX P w) 2 f fd ["self"] (lift (S_Tree_pocket K)) := by
  refine fn_ok F sc_Tree_pocket (fun vs G M R Z h => sp_len1 h) (fun cdv A outer s H E hr => ?_)
  have nd : N_Tree_pocket.Nodup := sc_Tree_pocket.nd
  have hu : _ + 64 < cLine := hr.units
  have tk : Takes (cxOf (L2.CX P w) P w K mg base N_Tree_pocket "Tree.pocket" (defScope s_Tree_pocket) f cdv A outer s H E) (fun c d _ H => E c d H) := takes_of rfl rfl rfl rfl
  have po : PassesOwn (model P w) _ _ _ := passes_of (X := cxOf (L2.CX P w) P w K mg base N_Tree_pocket "Tree.pocket" (defScope s_Tree_pocket) f cdv A outer s H E) rfl
  exact ⟨rd_Tree_pocket K, jss_cons (js_ret (je_meth0 (fun p hp => (M_cells_in_hand p hp).mono (by decide)) hr tk (je_fld (je_var 0) C.f_body))) (jss_nil), fun vs G M R Z h => pf_Tree_pocket h⟩
abbrev s_peak : Stmt := topS 62
abbrev N_peak : List Str := ["many", "asks", "draws", "store", "found", "deed"]
theorem sc_peak : FnScope N_peak ["many", "asks", "draws"] (defScope s_peak) := ⟨rfl, rfl, rfl, by decide +kernel, rfl, by decide +kernel, by decide +kernel⟩
theorem fo_peak {P : Program} {w : World} {K : PySem.W.Frag} {mg : Str → Option Value} {base : Heap} {f : Addr} {fd : FuncData} (B : Bs mg) (C : Cs K mg) (F : Fun K "peak" "peak" s_peak f fd) (N_Tree : CDef P w K mg base 7 6 "Tree" (S_Tree_init K)) (M_ask : ∀ p ∈ tabM_ask K, MDef P w K mg base 7 p.1 "ask" p.2) (M_pocket : ∀ p ∈ tabM_pocket K, MDef P w K mg base 2 p.1 "pocket" p.2) :
    FnOk P w K mg base (L2.CX P w) 9 f fd ["many", "asks", "draws"] (lift (S_peak K)) := by
  refine fn_ok F sc_peak (fun vs G M R Z h => sp_len3 h) (fun cdv A outer s H E hr => ?_)
  have nd : N_peak.Nodup := sc_peak.nd
  have hu : _ + 64 < cLine := hr.units
  have tk : Takes (cxOf (L2.CX P w) P w K mg base N_peak "peak" (defScope s_peak) f cdv A outer s H E) (fun c d _ H => E c d H) := takes_of rfl rfl rfl rfl
  have po : PassesOwn (model P w) _ _ _ := passes_of (X := cxOf (L2.CX P w) P w K mg base N_peak "peak" (defScope s_peak) f cdv A outer s H E) rfl
  exact ⟨rd_peak K, jss_cons (js_set (i := 3) (je_make N_Tree C.h_Tree hr tk (ja_cons (je_var 0) (ja_cons (je_callB kc_len B.len (ja_cons (je_var 1) (ja_nil))) (ja_cons (je_var 2) (ja_nil))))) nd) (jss_cons (js_set (i := 4) (je_int) nd) (jss_cons (js_for po rfl (ji_list (je_var 1)) (jg_name (i := 5) nd) (jss_cons (js_expr (je_meth (fun p hp => (M_ask p hp).mono (by decide)) hr tk (je_var 3) (ja_cons (je_var 5) (ja_nil)))) (jss_cons (js_set (i := 4) (je_callB kc_max2 B.max (ja_cons (je_var 4) (ja_cons (je_callB kc_len B.len (ja_cons (je_meth0 (fun p hp => (M_pocket p hp).mono (by decide)) hr tk (je_var 3)) (ja_nil))) (ja_nil)))) nd) (jss_nil)))) (jss_cons (js_ret (je_var 4)) (jss_nil)))), fun vs G M R Z h => pf_peak h⟩
theorem df_peak {P : Program} {w : World} {K : PySem.W.Frag} {mg : Str → Option Value} {base : Heap} {f : Addr} {fd : FuncData} (B : Bs mg) (C : Cs K mg) (F : Fun K "peak" "peak" s_peak f fd) (b : Binds K fd ["many", "asks", "draws"] []) (gm : mg "peak" = some (.ref f)) (N_Tree : CDef P w K mg base 7 6 "Tree" (S_Tree_init K)) (M_ask : ∀ p ∈ tabM_ask K, MDef P w K mg base 7 p.1 "ask" p.2) (M_pocket : ∀ p ∈ tabM_pocket K, MDef P w K mg base 2 p.1 "pocket" p.2) :
    Def P w K mg base 9 "peak" ["many", "asks", "draws"] (S_peak K) := ⟨f, fd, fo_peak B C F N_Tree M_ask M_pocket, gm, F.kp, b⟩
abbrev s_pockets_of : Stmt := topS 63
abbrev N_pockets_of : List Str := ["many", "asks", "firsts", "kind", "told", "draws", "size"]
theorem sc_pockets_of : FnScope N_pockets_of ["many", "asks", "firsts"] (defScope s_pockets_of) := ⟨rfl, rfl, rfl, by decide +kernel, rfl, by decide +kernel, by decide +kernel⟩
theorem fo_pockets_of {P : Program} {w : World} {K : PySem.W.Frag} {mg : Str → Option Value} {base : Heap} {f : Addr} {fd : FuncData} (B : Bs mg) (C : Cs K mg) (F : Fun K "pockets_of" "pockets_of" s_pockets_of f fd) (D_look_at_many : Def P w K mg base 3 "look_at_many" ["many"] (S_look_at_many K)) (D_look_at_asks : Def P w K mg base 4 "look_at_asks" ["many", "asks"] (S_look_at_asks K)) (D_high_of : Def P w K mg base 1 "high_of" ["many"] (S_high_of K)) (D_look_at_draws : Def P w K mg base 5 "look_at_draws" ["kinds", "thing"] (S_look_at_draws K)) (D_all_draws : Def P w K mg base 5 "all_draws" ["kinds"] (S_all_draws K)) (D_peak : Def P w K mg base 9 "peak" ["many", "asks", "draws"] (S_peak K)) :
    FnOk P w K mg base (L2.CX P w) 10 f fd ["many", "asks", "firsts"] (lift (S_pockets_of K)) := by
  refine fn_ok F sc_pockets_of (fun vs G M R Z h => sp_len3 h) (fun cdv A outer s H E hr => ?_)
  have nd : N_pockets_of.Nodup := sc_pockets_of.nd
  have hu : _ + 64 < cLine := hr.units
  have tk : Takes (cxOf (L2.CX P w) P w K mg base N_pockets_of "pockets_of" (defScope s_pockets_of) f cdv A outer s H E) (fun c d _ H => E c d H) := takes_of rfl rfl rfl rfl
  have po : PassesOwn (model P w) _ _ _ := passes_of (X := cxOf (L2.CX P w) P w K mg base N_pockets_of "pockets_of" (defScope s_pockets_of) f cdv A outer s H E) rfl
  exact ⟨rd_pockets_of K, jss_cons (js_expr (je_callD D_look_at_many hr tk (ja_cons (je_var 0) (ja_nil)))) (jss_cons (js_expr (je_callD D_look_at_asks hr tk (ja_cons (je_var 0) (ja_cons (je_var 1) (ja_nil))))) (jss_cons (js_set (i := 3) (je_tup (ja_cons (je_str) (ja_cons (je_callD D_high_of hr tk (ja_cons (je_var 0) (ja_nil))) (ja_nil)))) nd) (jss_cons (js_expr (je_callD D_look_at_draws hr tk (ja_cons (je_op kop_mul (je_lst (ja_cons (je_var 3) (ja_nil))) (je_var 0)) (ja_cons (je_var 2) (ja_nil))))) (jss_cons (js_set (i := 4) (je_op kop_mul (je_lst (ja_cons (je_int) (ja_nil))) (je_op kop_add (je_var 0) (je_int))) nd) (jss_cons (js_for po rfl (ji_w (ji_list (je_callD D_all_draws hr tk (ja_cons (je_op kop_mul (je_lst (ja_cons (je_var 3) (ja_nil))) (je_callB kc_len B.len (ja_cons (je_var 1) (ja_nil)))) (ja_nil))))) (jg_name (i := 5) nd) (jss_cons (js_for po rfl (ji_range1 B.range (ja_cons (je_op kop_add (je_callD D_peak hr tk (ja_cons (je_var 0) (ja_cons (je_var 1) (ja_cons (je_op kop_add (je_var 2) (je_var 5)) (ja_nil))))) (je_int)) (ja_nil))) (jg_name (i := 6) nd) (jss_cons (js_asg (je_op kop_add (je_ix (je_var 4) (je_var 6)) (je_int)) (jg_ix (je_var 4) (je_var 6))) (jss_nil))) (jss_nil))) (jss_cons (js_ret (je_var 4)) (jss_nil))))))), fun vs G M R Z h => pf_pockets_of h⟩
theorem df_pockets_of {P : Program} {w : World} {K : PySem.W.Frag} {mg : Str → Option Value} {base : Heap} {f : Addr} {fd : FuncData} (B : Bs mg) (C : Cs K mg) (F : Fun K "pockets_of" "pockets_of" s_pockets_of f fd) (b : Binds K fd ["many", "asks", "firsts"] []) (gm : mg "pockets_of" = some (.ref f)) (D_look_at_many : Def P w K mg base 3 "look_at_many" ["many"] (S_look_at_many K)) (D_look_at_asks : Def P w K mg base 4 "look_at_asks" ["many", "asks"] (S_look_at_asks K)) (D_high_of : Def P w K mg base 1 "high_of" ["many"] (S_high_of K)) (D_look_at_draws : Def P w K mg base 5 "look_at_draws" ["kinds", "thing"] (S_look_at_draws K)) (D_all_draws : Def P w K mg base 5 "all_draws" ["kinds"] (S_all_draws K)) (D_peak : Def P w K mg base 9 "peak" ["many", "asks", "draws"] (S_peak K)) :
    Def P w K mg base 10 "pockets_of" ["many", "asks", "firsts"] (S_pockets_of K) := ⟨f, fd, fo_pockets_of B C F D_look_at_many D_look_at_asks D_high_of D_look_at_draws D_all_draws D_peak, gm, F.kp, b⟩
abbrev s_law : Stmt := topS 72
abbrev N_law : List Str := ["_law_script", "_law_pool_here", "_law_many", "_law_most", "_law_high", "_law_k", "_law_far", "_law_firsts", "_law_asks", "_law_due_here", "_law_handed", "_law_found", "_law_one"]
theorem sc_law : FnScope N_law ["_law_script"] (defScope s_law) := ⟨rfl, rfl, rfl, by decide +kernel, rfl, by decide +kernel, by decide +kernel⟩
theorem fo_law {P : Program} {w : World} {K : PySem.W.Frag} {mg : Str → Option Value} {base : Heap} {f : Addr} {fd : FuncData} (B : Bs mg) (C : Cs K mg) (F : Fun K "law" "law" s_law f fd) (D_law_pool : Def P w K mg base 1 "_law_pool" ["_law_script", "_law_k"] (S_law_pool K)) (D_law_take : Def P w K mg base 1 "_law_take" ["_law_pool_here", "_law_many"] (S_law_take K)) (D_law_ask : Def P w K mg base 2 "_law_ask" ["_law_pool_here", "_law_many"] (S_law_ask K)) (D_law_due : Def P w K mg base 3 "_law_due" ["_law_many", "_law_asks", "_law_firsts"] (S_law_due K)) (D_pockets_of : Def P w K mg base 10 "pockets_of" ["many", "asks", "firsts"] (S_pockets_of K)) :
    FnOk P w K mg base (L2.CX P w) 11 f fd ["_law_script"] (lift (S_law K)) := by
  refine fn_ok F sc_law (fun vs G M R Z h => sp_len1 h) (fun cdv A outer s H E hr => ?_)
  have nd : N_law.Nodup := sc_law.nd
  have hu : _ + 64 < cLine := hr.units
  have tk : Takes (cxOf (L2.CX P w) P w K mg base N_law "law" (defScope s_law) f cdv A outer s H E) (fun c d _ H => E c d H) := takes_of rfl rfl rfl rfl
  have po : PassesOwn (model P w) _ _ _ := passes_of (X := cxOf (L2.CX P w) P w K mg base N_law "law" (defScope s_law) f cdv A outer s H E) rfl
  exact ⟨rd_law K, jss_cons (js_set (i := 1) (je_callD D_law_pool hr tk (ja_cons (je_var 0) (ja_cons (je_int) (ja_nil)))) nd) (jss_cons (js_asg (je_ix (je_lst (ja_cons (je_tup (ja_cons (je_int) (ja_cons (je_int) (ja_nil)))) (ja_cons (je_tup (ja_cons (je_int) (ja_cons (je_int) (ja_nil)))) (ja_cons (je_tup (ja_cons (je_int) (ja_cons (je_int) (ja_nil)))) (ja_cons (je_tup (ja_cons (je_int) (ja_cons (je_int) (ja_nil)))) (ja_cons (je_tup (ja_cons (je_int) (ja_cons (je_int) (ja_nil)))) (ja_cons (je_tup (ja_cons (je_int) (ja_cons (je_int) (ja_nil)))) (ja_cons (je_tup (ja_cons (je_int) (ja_cons (je_int) (ja_nil)))) (ja_cons (je_tup (ja_cons (je_int) (ja_cons (je_int) (ja_nil)))) (ja_nil)))))))))) (je_callD D_law_take hr tk (ja_cons (je_var 1) (ja_cons (je_int) (ja_nil))))) (jg_tup rfl (jgs_cons (jg_name (i := 2) nd) (jgs_cons (jg_name (i := 3) nd) (jgs_nil))))) (jss_cons (js_set (i := 4) (je_callB kc_len B.len (ja_cons (je_comp (own := [("_law_k", 5)]) rfl nd (ji_range1 B.range (ja_cons (je_int) (ja_nil))) (blkOk_by (own := [("_law_k", 5)]) (N := N_law) (sc := defScope s_law) (by decide +kernel)) (fun _ _ _ _ _ => by exact jg_name (i := 5) nd) (fun _ _ _ _ _ => by exact jts_one (jt_cmp (kop_lt) (je_op kop_shl (je_int) (je_var 5)) (je_var 2) (nomark _))) (fun _ _ _ _ _ => by exact je_var 5)) (ja_nil))) nd) (jss_cons (js_set (i := 6) (je_ix (je_lst (ja_cons (je_op kop_shl (je_int) (je_var 4)) (ja_cons (je_callB kc_min2 B.min (ja_cons (je_op kop_shl (je_int) (je_var 4)) (ja_cons (je_int) (ja_nil)))) (ja_cons (je_int) (ja_nil))))) (je_callD D_law_take hr tk (ja_cons (je_var 1) (ja_cons (je_int) (ja_nil))))) nd) (jss_cons (js_setComp (own := [("_law_k", 5)]) (i := 7) rfl nd (sw_true rfl rfl rfl (by decide +kernel)) (ji_range1 B.range (ja_cons (je_var 2) (ja_nil))) (blkOk_by (own := [("_law_k", 5)]) (N := N_law) (sc := defScope s_law) (by decide +kernel)) (fun _ _ _ _ _ => by exact jg_name (i := 5) nd) (fun _ _ _ _ _ => by exact jts_nil) (fun _ _ _ _ _ => by exact je_callD D_law_take hr takes0 (ja_cons (je_var 1) (ja_cons (je_var 6) (ja_nil))))) (jss_cons (js_setComp (own := [("_law_k", 5)]) (i := 8) rfl nd (sw_true rfl rfl rfl (by decide +kernel)) (ji_range1 B.range (ja_cons (je_callD D_law_take hr tk (ja_cons (je_var 1) (ja_cons (je_op kop_add (je_var 3) (je_int)) (ja_nil)))) (ja_nil))) (blkOk_by (own := [("_law_k", 5)]) (N := N_law) (sc := defScope s_law) (by decide +kernel)) (fun _ _ _ _ _ => by exact jg_name (i := 5) nd) (fun _ _ _ _ _ => by exact jts_nil) (fun _ _ _ _ _ => by exact je_callD D_law_ask hr takes0 (ja_cons (je_callD D_law_pool hr takes0 (ja_cons (je_var 0) (ja_cons (je_op kop_add (je_int) (je_var 5)) (ja_nil)))) (ja_cons (je_var 2) (ja_nil))))) (jss_cons (js_set (i := 9) (je_callD D_law_due hr tk (ja_cons (je_var 2) (ja_cons (je_var 8) (ja_cons (je_var 7) (ja_nil))))) nd) (jss_cons (js_set (i := 10) (je_callTy kc_list B.list (ja_cons (je_var 7) (ja_nil))) nd) (jss_cons (js_set (i := 11) (je_callD D_pockets_of hr tk (ja_cons (je_var 2) (ja_cons (je_var 8) (ja_cons (je_var 10) (ja_nil))))) nd) (jss_cons (js_if ((jw_or (jt_not (jt_val (je_callB kc_isi B.isinstance (ja_cons (je_var 11) (ja_cons (je_ty B.list) (ja_nil)))))) (jw_or (jt_cmp (kop_ne hu) (je_var 11) (je_var 9) (nomark _)) (jw_or1 (jt_cmp (kop_ne hu) (je_var 10) (je_var 7) (nomark _))))).jt) (jss_cons (js_ret (je_bl)) (jss_nil)) (jss_nil)) (jss_cons (js_if (jt_cmp (kop_ne hu) (je_comp (own := [("_law_one", 12)]) rfl nd (ji_list (je_var 11)) (blkOk_by (own := [("_law_one", 12)]) (N := N_law) (sc := defScope s_law) (by decide +kernel)) (fun _ _ _ _ _ => by exact jg_name (i := 12) nd) (fun _ _ _ _ _ => by exact jts_one ((jw_or (jt_not (jt_val (je_callB kc_isi B.isinstance (ja_cons (je_var 12) (ja_cons (je_ty B.int) (ja_nil)))))) (jw_or1 (jt_val (je_callB kc_isi B.isinstance (ja_cons (je_var 12) (ja_cons (je_ty B.bool) (ja_nil))))))).jt)) (fun _ _ _ _ _ => by exact je_var 12)) (je_lst (ja_nil)) (nomark _)) (jss_cons (js_ret (je_bl)) (jss_nil)) (jss_nil)) (jss_cons (js_expr (je_bm0 PySem.F.plainAttrs_list PySem.F.slot_list_reverse PySem.F.type_list_reverse km_reverse (je_var 11))) (jss_cons (js_expr (je_bm PySem.F.plainAttrs_list PySem.F.slot_list_append PySem.F.type_list_append km_append (je_var 11) (ja_cons (je_int) (ja_nil)))) (jss_cons (js_ret (je_cmp (kop_eq hu) (je_callD D_pockets_of hr tk (ja_cons (je_var 2) (ja_cons (je_var 8) (ja_cons (je_var 10) (ja_nil))))) (je_var 9) (nomark _))) (jss_nil)))))))))))))), fun vs G M R Z h => pf_law h⟩
theorem df_law {P : Program} {w : World} {K : PySem.W.Frag} {mg : Str → Option Value} {base : Heap} {f : Addr} {fd : FuncData} (B : Bs mg) (C : Cs K mg) (F : Fun K "law" "law" s_law f fd) (b : Binds K fd ["_law_script"] []) (gm : mg "law" = some (.ref f)) (D_law_pool : Def P w K mg base 1 "_law_pool" ["_law_script", "_law_k"] (S_law_pool K)) (D_law_take : Def P w K mg base 1 "_law_take" ["_law_pool_here", "_law_many"] (S_law_take K)) (D_law_ask : Def P w K mg base 2 "_law_ask" ["_law_pool_here", "_law_many"] (S_law_ask K)) (D_law_due : Def P w K mg base 3 "_law_due" ["_law_many", "_law_asks", "_law_firsts"] (S_law_due K)) (D_pockets_of : Def P w K mg base 10 "pockets_of" ["many", "asks", "firsts"] (S_pockets_of K)) :
    Def P w K mg base 11 "law" ["_law_script"] (S_law K) := ⟨f, fd, fo_law B C F D_law_pool D_law_take D_law_ask D_law_due D_pockets_of, gm, F.kp, b⟩
theorem len_0 {α : Type} {P : List α → Prop} (h : P []) : ∀ us : List α, us.length = 0 → P us := fun us hl => match us, hl with
  | [], _ => h
theorem len_1 {α : Type} {P : List α → Prop} (h : ∀ a0, P [a0]) : ∀ us : List α, us.length = 1 → P us := fun us hl => match us, hl with
  | [a0], _ => h a0
theorem len_2 {α : Type} {P : List α → Prop} (h : ∀ a0 a1, P [a0, a1]) : ∀ us : List α, us.length = 2 → P us := fun us hl => match us, hl with
  | [a0, a1], _ => h a0 a1
theorem len_3 {α : Type} {P : List α → Prop} (h : ∀ a0 a1 a2, P [a0, a1, a2]) : ∀ us : List α, us.length = 3 → P us := fun us hl => match us, hl with
  | [a0, a1, a2], _ => h a0 a1 a2
theorem len_4 {α : Type} {P : List α → Prop} (h : ∀ a0 a1 a2 a3, P [a0, a1, a2, a3]) : ∀ us : List α, us.length = 4 → P us := fun us hl => match us, hl with
  | [a0, a1, a2, a3], _ => h a0 a1 a2 a3
theorem len_5 {α : Type} {P : List α → Prop} (h : ∀ a0 a1 a2 a3 a4, P [a0, a1, a2, a3, a4]) : ∀ us : List α, us.length = 5 → P us := fun us hl => match us, hl with
  | [a0, a1, a2, a3, a4], _ => h a0 a1 a2 a3 a4
theorem len_6 {α : Type} {P : List α → Prop} (h : ∀ a0 a1 a2 a3 a4 a5, P [a0, a1, a2, a3, a4, a5]) : ∀ us : List α, us.length = 6 → P us := fun us hl => match us, hl with
  | [a0, a1, a2, a3, a4, a5], _ => h a0 a1 a2 a3 a4 a5
theorem len_7 {α : Type} {P : List α → Prop} (h : ∀ a0 a1 a2 a3 a4 a5 a6, P [a0, a1, a2, a3, a4, a5, a6]) : ∀ us : List α, us.length = 7 → P us := fun us hl => match us, hl with
  | [a0, a1, a2, a3, a4, a5, a6], _ => h a0 a1 a2 a3 a4 a5 a6
theorem fa_nil {α : Type} {P : α → Prop} : ∀ x ∈ ([] : List α), P x := fun _ z => nomatch z
theorem all_mk {l : PySem.W.OpenLaw} {w : World} {K : PySem.W.Frag} {h : Heap} {mg : Str → Option Value} {fa f0 f1 f2 f3 f4 f5 f6 f7 f8 f9 f10 f11 f12 f13 f14 f15 f16 f17 f18 f19 f20 f21 f22 f23 f24 f25 f26 f27 f28 f29 f30 f31 f32 f33 f34 f35 f36 f37 f38 f39 f40 f41 f42 f43 f44 f45 f46 f47 f48 f49 f50 f51 f52 f53 f54 f55 f56 f57 f58 : Addr} (X : K.In h) (G : h.Ns mainGlobals mg) (hfa : mg "law" = some (.ref fa))
    {od0 an0 od1 an1 od2 an2 od3 an3 od4 an4 od5 an5 od6 an6 od7 an7 od8 an8 od9 an9 od10 an10 od11 an11 od12 an12 od13 an13 od14 an14 od15 an15 od16 an16 od17 an17 od18 an18 od19 an19 od20 an20 od21 an21 od22 an22 od23 an23 od24 an24 od25 an25 od26 an26 od27 an27 od28 an28 od29 an29 od30 an30 od31 an31 od32 an32 od33 an33 od34 an34 od35 an35 od36 an36 od37 an37 od38 an38 od39 an39 od40 an40 od41 an41 od42 an42 od43 an43 od44 an44 od45 an45 od46 an46 od47 an47 od48 an48 od49 an49 od50 an50 od51 an51 od52 an52 od53 an53 od54 an54 od55 an55 od56 an56 od57 an57 od58 an58 : Option Addr} {sl0 sl1 sl2 sl3 sl4 sl5 sl6 sl7 sl8 sl9 sl10 sl11 sl12 sl13 sl14 sl15 sl16 sl17 sl18 sl19 sl20 sl21 sl22 sl23 sl24 sl25 sl26 sl27 sl28 sl29 sl30 sl31 sl32 sl33 sl34 sl35 sl36 sl37 sl38 sl39 sl40 sl41 sl42 sl43 sl44 sl45 sl46 sl47 sl48 sl49 sl50 sl51 sl52 sl53 sl54 sl55 sl56 sl57 sl58 : Array (Option Value)} {oc0 kV0 dc0 pm0 cd0 ct0 oc1 kV1 dc1 pm1 cd1 ct1 oc2 kV2 dc2 pm2 cd2 ct2 oc3 kV3 dc3 pm3 cd3 ct3 oc4 kV4 dc4 pm4 cd4 ct4 oc5 kV5 dc5 pm5 cd5 ct5 oc6 kV6 dc6 pm6 cd6 ct6 oc7 kV7 dc7 pm7 cd7 ct7 oc8 kV8 dc8 pm8 cd8 ct8 oc9 kV9 dc9 pm9 cd9 ct9 oc10 kV10 dc10 pm10 cd10 ct10 oc11 kV11 dc11 pm11 cd11 ct11 oc12 kV12 dc12 pm12 cd12 ct12 oc13 kV13 dc13 pm13 cd13 ct13 oc14 kV14 dc14 pm14 cd14 ct14 oc15 kV15 dc15 pm15 cd15 ct15 oc16 kV16 dc16 pm16 cd16 ct16 oc17 kV17 dc17 pm17 cd17 ct17 oc18 kV18 dc18 pm18 cd18 ct18 oc19 kV19 dc19 pm19 cd19 ct19 oc20 kV20 dc20 pm20 cd20 ct20 oc21 kV21 dc21 pm21 cd21 ct21 oc22 kV22 dc22 pm22 cd22 ct22 oc23 kV23 dc23 pm23 cd23 ct23 oc24 kV24 dc24 pm24 cd24 ct24 oc25 kV25 dc25 pm25 cd25 ct25 oc26 kV26 dc26 pm26 cd26 ct26 oc27 kV27 dc27 pm27 cd27 ct27 oc28 kV28 dc28 pm28 cd28 ct28 oc29 kV29 dc29 pm29 cd29 ct29 oc30 kV30 dc30 pm30 cd30 ct30 oc31 kV31 dc31 pm31 cd31 ct31 oc32 kV32 dc32 pm32 cd32 ct32 oc33 kV33 dc33 pm33 cd33 ct33 oc34 kV34 dc34 pm34 cd34 ct34 oc35 kV35 dc35 pm35 cd35 ct35 oc36 kV36 dc36 pm36 cd36 ct36 oc37 kV37 dc37 pm37 cd37 ct37 oc38 kV38 dc38 pm38 cd38 ct38 oc39 kV39 dc39 pm39 cd39 ct39 oc40 kV40 dc40 pm40 cd40 ct40 oc41 kV41 dc41 pm41 cd41 ct41 oc42 kV42 dc42 pm42 cd42 ct42 oc43 kV43 dc43 pm43 cd43 ct43 oc44 kV44 dc44 pm44 cd44 ct44 oc45 kV45 dc45 pm45 cd45 ct45 oc46 kV46 dc46 pm46 cd46 ct46 oc47 kV47 dc47 pm47 cd47 ct47 oc48 kV48 dc48 pm48 cd48 ct48 oc49 kV49 dc49 pm49 cd49 ct49 oc50 kV50 dc50 pm50 cd50 ct50 oc51 kV51 dc51 pm51 cd51 ct51 oc52 kV52 dc52 pm52 cd52 ct52 oc53 kV53 dc53 pm53 cd53 ct53 oc54 kV54 dc54 pm54 cd54 ct54 oc55 kV55 dc55 pm55 cd55 ct55 oc56 kV56 dc56 pm56 cd56 ct56 oc57 kV57 dc57 pm57 cd57 ct57 oc58 kV58 dc58 pm58 cd58 ct58 : Value}
    (a0 : PySem.W.nsIn K mainGlobals "_law_pool" = some (some (.ref f0))) (l0 : K.lookup f0 = some ⟨oc0, od0, .func (PySem.W.fnOf "_law_pool" "_law_pool" (defArgs s_law_pool) (defBody s_law_pool) (defScope s_law_pool) .none kV0 dc0 pm0 an0 cd0 ct0), sl0⟩) (c0 : PySem.W.codeIn K cd0 "_law_pool" = true) (k0 : PySem.W.keepIn K (.ref f0) = true)
    (a1 : PySem.W.nsIn K mainGlobals "_law_take" = some (some (.ref f1))) (l1 : K.lookup f1 = some ⟨oc1, od1, .func (PySem.W.fnOf "_law_take" "_law_take" (defArgs s_law_take) (defBody s_law_take) (defScope s_law_take) .none kV1 dc1 pm1 an1 cd1 ct1), sl1⟩) (c1 : PySem.W.codeIn K cd1 "_law_take" = true) (k1 : PySem.W.keepIn K (.ref f1) = true)
    (a2 : PySem.W.nsIn K mainGlobals "_law_ask" = some (some (.ref f2))) (l2 : K.lookup f2 = some ⟨oc2, od2, .func (PySem.W.fnOf "_law_ask" "_law_ask" (defArgs s_law_ask) (defBody s_law_ask) (defScope s_law_ask) .none kV2 dc2 pm2 an2 cd2 ct2), sl2⟩) (c2 : PySem.W.codeIn K cd2 "_law_ask" = true) (k2 : PySem.W.keepIn K (.ref f2) = true)
    (a3 : PySem.W.nsIn K mainGlobals "_law_rows" = some (some (.ref f3))) (l3 : K.lookup f3 = some ⟨oc3, od3, .func (PySem.W.fnOf "_law_rows" "_law_rows" (defArgs s_law_rows) (defBody s_law_rows) (defScope s_law_rows) .none kV3 dc3 pm3 an3 cd3 ct3), sl3⟩) (c3 : PySem.W.codeIn K cd3 "_law_rows" = true) (k3 : PySem.W.keepIn K (.ref f3) = true)
    (a4 : PySem.W.nsIn K mainGlobals "_law_node" = some (some (.ref f4))) (l4 : K.lookup f4 = some ⟨oc4, od4, .func (PySem.W.fnOf "_law_node" "_law_node" (defArgs s_law_node) (defBody s_law_node) (defScope s_law_node) .none kV4 dc4 pm4 an4 cd4 ct4), sl4⟩) (c4 : PySem.W.codeIn K cd4 "_law_node" = true) (k4 : PySem.W.keepIn K (.ref f4) = true)
    (a5 : PySem.W.nsIn K mainGlobals "_law_peak" = some (some (.ref f5))) (l5 : K.lookup f5 = some ⟨oc5, od5, .func (PySem.W.fnOf "_law_peak" "_law_peak" (defArgs s_law_peak) (defBody s_law_peak) (defScope s_law_peak) .none kV5 dc5 pm5 an5 cd5 ct5), sl5⟩) (c5 : PySem.W.codeIn K cd5 "_law_peak" = true) (k5 : PySem.W.keepIn K (.ref f5) = true)
    (a6 : PySem.W.nsIn K mainGlobals "_law_due" = some (some (.ref f6))) (l6 : K.lookup f6 = some ⟨oc6, od6, .func (PySem.W.fnOf "_law_due" "_law_due" (defArgs s_law_due) (defBody s_law_due) (defScope s_law_due) .none kV6 dc6 pm6 an6 cd6 ct6), sl6⟩) (c6 : PySem.W.codeIn K cd6 "_law_due" = true) (k6 : PySem.W.keepIn K (.ref f6) = true)
    (a7 : PySem.W.nsIn K mainGlobals "is_whole" = some (some (.ref f7))) (l7 : K.lookup f7 = some ⟨oc7, od7, .func (PySem.W.fnOf "is_whole" "is_whole" (defArgs s_is_whole) (defBody s_is_whole) (defScope s_is_whole) .none kV7 dc7 pm7 an7 cd7 ct7), sl7⟩) (c7 : PySem.W.codeIn K cd7 "is_whole" = true) (k7 : PySem.W.keepIn K (.ref f7) = true)
    (a8 : PySem.W.nsIn K mainGlobals "is_within" = some (some (.ref f8))) (l8 : K.lookup f8 = some ⟨oc8, od8, .func (PySem.W.fnOf "is_within" "is_within" (defArgs s_is_within) (defBody s_is_within) (defScope s_is_within) .none kV8 dc8 pm8 an8 cd8 ct8), sl8⟩) (c8 : PySem.W.codeIn K cd8 "is_within" = true) (k8 : PySem.W.keepIn K (.ref f8) = true)
    (a9 : PySem.W.nsIn K mainGlobals "look_at_many" = some (some (.ref f9))) (l9 : K.lookup f9 = some ⟨oc9, od9, .func (PySem.W.fnOf "look_at_many" "look_at_many" (defArgs s_look_at_many) (defBody s_look_at_many) (defScope s_look_at_many) .none kV9 dc9 pm9 an9 cd9 ct9), sl9⟩) (c9 : PySem.W.codeIn K cd9 "look_at_many" = true) (k9 : PySem.W.keepIn K (.ref f9) = true)
    (a10 : PySem.W.nsIn K mainGlobals "is_ask" = some (some (.ref f10))) (l10 : K.lookup f10 = some ⟨oc10, od10, .func (PySem.W.fnOf "is_ask" "is_ask" (defArgs s_is_ask) (defBody s_is_ask) (defScope s_is_ask) .none kV10 dc10 pm10 an10 cd10 ct10), sl10⟩) (c10 : PySem.W.codeIn K cd10 "is_ask" = true) (k10 : PySem.W.keepIn K (.ref f10) = true)
    (a11 : PySem.W.nsIn K mainGlobals "look_at_asks" = some (some (.ref f11))) (l11 : K.lookup f11 = some ⟨oc11, od11, .func (PySem.W.fnOf "look_at_asks" "look_at_asks" (defArgs s_look_at_asks) (defBody s_look_at_asks) (defScope s_look_at_asks) .none kV11 dc11 pm11 an11 cd11 ct11), sl11⟩) (c11 : PySem.W.codeIn K cd11 "look_at_asks" = true) (k11 : PySem.W.keepIn K (.ref f11) = true)
    (a12 : PySem.W.nsIn K mainGlobals "high_of" = some (some (.ref f12))) (l12 : K.lookup f12 = some ⟨oc12, od12, .func (PySem.W.fnOf "high_of" "high_of" (defArgs s_high_of) (defBody s_high_of) (defScope s_high_of) .none kV12 dc12 pm12 an12 cd12 ct12), sl12⟩) (c12 : PySem.W.codeIn K cd12 "high_of" = true) (k12 : PySem.W.keepIn K (.ref f12) = true)
    (a13 : PySem.W.nsIn K mainGlobals "leaves" = some (some (.ref f13))) (l13 : K.lookup f13 = some ⟨oc13, od13, .func (PySem.W.fnOf "leaves" "leaves" (defArgs s_leaves) (defBody s_leaves) (defScope s_leaves) .none kV13 dc13 pm13 an13 cd13 ct13), sl13⟩) (c13 : PySem.W.codeIn K cd13 "leaves" = true) (k13 : PySem.W.keepIn K (.ref f13) = true)
    (a14 : PySem.W.nsIn K mainGlobals "is_row" = some (some (.ref f14))) (l14 : K.lookup f14 = some ⟨oc14, od14, .func (PySem.W.fnOf "is_row" "is_row" (defArgs s_is_row) (defBody s_is_row) (defScope s_is_row) .none kV14 dc14 pm14 an14 cd14 ct14), sl14⟩) (c14 : PySem.W.codeIn K cd14 "is_row" = true) (k14 : PySem.W.keepIn K (.ref f14) = true)
    (a15 : PySem.W.nsIn K mainGlobals "is_draw" = some (some (.ref f15))) (l15 : K.lookup f15 = some ⟨oc15, od15, .func (PySem.W.fnOf "is_draw" "is_draw" (defArgs s_is_draw) (defBody s_is_draw) (defScope s_is_draw) .none kV15 dc15 pm15 an15 cd15 ct15), sl15⟩) (c15 : PySem.W.codeIn K cd15 "is_draw" = true) (k15 : PySem.W.keepIn K (.ref f15) = true)
    (a16 : PySem.W.nsIn K mainGlobals "look_at_draws" = some (some (.ref f16))) (l16 : K.lookup f16 = some ⟨oc16, od16, .func (PySem.W.fnOf "look_at_draws" "look_at_draws" (defArgs s_look_at_draws) (defBody s_look_at_draws) (defScope s_look_at_draws) .none kV16 dc16 pm16 an16 cd16 ct16), sl16⟩) (c16 : PySem.W.codeIn K cd16 "look_at_draws" = true) (k16 : PySem.W.keepIn K (.ref f16) = true)
    (a17 : PySem.W.nsIn K mainGlobals "many_of" = some (some (.ref f17))) (l17 : K.lookup f17 = some ⟨oc17, od17, .func (PySem.W.fnOf "many_of" "many_of" (defArgs s_many_of) (defBody s_many_of) (defScope s_many_of) .none kV17 dc17 pm17 an17 cd17 ct17), sl17⟩) (c17 : PySem.W.codeIn K cd17 "many_of" = true) (k17 : PySem.W.keepIn K (.ref f17) = true)
    (a18 : PySem.W.nsIn K mainGlobals "how_many" = some (some (.ref f18))) (l18 : K.lookup f18 = some ⟨oc18, od18, .func (PySem.W.fnOf "how_many" "how_many" (defArgs s_how_many) (defBody s_how_many) (defScope s_how_many) .none kV18 dc18 pm18 an18 cd18 ct18), sl18⟩) (c18 : PySem.W.codeIn K cd18 "how_many" = true) (k18 : PySem.W.keepIn K (.ref f18) = true)
    (a19 : PySem.W.nsIn K mainGlobals "row_at" = some (some (.ref f19))) (l19 : K.lookup f19 = some ⟨oc19, od19, .func (PySem.W.fnOf "row_at" "row_at" (defArgs s_row_at) (defBody s_row_at) (defScope s_row_at) .none kV19 dc19 pm19 an19 cd19 ct19), sl19⟩) (c19 : PySem.W.codeIn K cd19 "row_at" = true) (k19 : PySem.W.keepIn K (.ref f19) = true)
    (a20 : PySem.W.nsIn K mainGlobals "draws_at" = some (some (.ref f20))) (l20 : K.lookup f20 = some ⟨oc20, od20, .func (PySem.W.fnOf "draws_at" "draws_at" (defArgs s_draws_at) (defBody s_draws_at) (defScope s_draws_at) .none kV20 dc20 pm20 an20 cd20 ct20), sl20⟩) (c20 : PySem.W.codeIn K cd20 "draws_at" = true) (k20 : PySem.W.keepIn K (.ref f20) = true)
    (a21 : PySem.W.nsIn K mainGlobals "all_draws" = some (some (.ref f21))) (l21 : K.lookup f21 = some ⟨oc21, od21, .func (PySem.W.fnOf "all_draws" "all_draws" (defArgs s_all_draws) (defBody s_all_draws) (defScope s_all_draws) .none kV21 dc21 pm21 an21 cd21 ct21), sl21⟩) (c21 : PySem.W.codeIn K cd21 "all_draws" = true) (k21 : PySem.W.keepIn K (.ref f21) = true)
    (a22 : PySem.W.nsIn K mainGlobals "look_at_sizes" = some (some (.ref f22))) (l22 : K.lookup f22 = some ⟨oc22, od22, .func (PySem.W.fnOf "look_at_sizes" "look_at_sizes" (defArgs s_look_at_sizes) (defBody s_look_at_sizes) (defScope s_look_at_sizes) .none kV22 dc22 pm22 an22 cd22 ct22), sl22⟩) (c22 : PySem.W.codeIn K cd22 "look_at_sizes" = true) (k22 : PySem.W.keepIn K (.ref f22) = true)
    (a23 : PySem.W.nsIn K mainGlobals "side_of" = some (some (.ref f23))) (l23 : K.lookup f23 = some ⟨oc23, od23, .func (PySem.W.fnOf "side_of" "side_of" (defArgs s_side_of) (defBody s_side_of) (defScope s_side_of) .none kV23 dc23 pm23 an23 cd23 ct23), sl23⟩) (c23 : PySem.W.codeIn K cd23 "side_of" = true) (k23 : PySem.W.keepIn K (.ref f23) = true)
    (a24 : PySem.W.nsIn K mainGlobals "spare_needs" = some (some (.ref f24))) (l24 : K.lookup f24 = some ⟨oc24, od24, .func (PySem.W.fnOf "spare_needs" "spare_needs" (defArgs s_spare_needs) (defBody s_spare_needs) (defScope s_spare_needs) .none kV24 dc24 pm24 an24 cd24 ct24), sl24⟩) (c24 : PySem.W.codeIn K cd24 "spare_needs" = true) (k24 : PySem.W.keepIn K (.ref f24) = true)
    (a25 : PySem.W.nsIn K mainGlobals "last_of" = some (some (.ref f25))) (l25 : K.lookup f25 = some ⟨oc25, od25, .func (PySem.W.fnOf "last_of" "last_of" (defArgs s_last_of) (defBody s_last_of) (defScope s_last_of) .none kV25 dc25 pm25 an25 cd25 ct25), sl25⟩) (c25 : PySem.W.codeIn K cd25 "last_of" = true) (k25 : PySem.W.keepIn K (.ref f25) = true)
    (a26 : PySem.W.nsIn K mainGlobals "stair_of" = some (some (.ref f26))) (l26 : K.lookup f26 = some ⟨oc26, od26, .func (PySem.W.fnOf "stair_of" "stair_of" (defArgs s_stair_of) (defBody s_stair_of) (defScope s_stair_of) .none kV26 dc26 pm26 an26 cd26 ct26), sl26⟩) (c26 : PySem.W.codeIn K cd26 "stair_of" = true) (k26 : PySem.W.keepIn K (.ref f26) = true)
    (a27 : PySem.W.nsIn K mainGlobals "slots_of" = some (some (.ref f27))) (l27 : K.lookup f27 = some ⟨oc27, od27, .func (PySem.W.fnOf "slots_of" "slots_of" (defArgs s_slots_of) (defBody s_slots_of) (defScope s_slots_of) .none kV27 dc27 pm27 an27 cd27 ct27), sl27⟩) (c27 : PySem.W.codeIn K cd27 "slots_of" = true) (k27 : PySem.W.keepIn K (.ref f27) = true)
    (a28 : PySem.W.nsIn K mainGlobals "stairs_needs" = some (some (.ref f28))) (l28 : K.lookup f28 = some ⟨oc28, od28, .func (PySem.W.fnOf "stairs_needs" "stairs_needs" (defArgs s_stairs_needs) (defBody s_stairs_needs) (defScope s_stairs_needs) .none kV28 dc28 pm28 an28 cd28 ct28), sl28⟩) (c28 : PySem.W.codeIn K cd28 "stairs_needs" = true) (k28 : PySem.W.keepIn K (.ref f28) = true)
    (a29 : PySem.W.nsIn K mainGlobals "grove_needs" = some (some (.ref f29))) (l29 : K.lookup f29 = some ⟨oc29, od29, .func (PySem.W.fnOf "grove_needs" "grove_needs" (defArgs s_grove_needs) (defBody s_grove_needs) (defScope s_grove_needs) .none kV29 dc29 pm29 an29 cd29 ct29), sl29⟩) (c29 : PySem.W.codeIn K cd29 "grove_needs" = true) (k29 : PySem.W.keepIn K (.ref f29) = true)
    (a30 : PySem.W.nsIn K mainGlobals "trees_of" = some (some (.ref f30))) (l30 : K.lookup f30 = some ⟨oc30, od30, .func (PySem.W.fnOf "trees_of" "trees_of" (defArgs s_trees_of) (defBody s_trees_of) (defScope s_trees_of) .none kV30 dc30 pm30 an30 cd30 ct30), sl30⟩) (c30 : PySem.W.codeIn K cd30 "trees_of" = true) (k30 : PySem.W.keepIn K (.ref f30) = true)
    (a31 : PySem.W.nsIn K mainGlobals "kinds_of" = some (some (.ref f31))) (l31 : K.lookup f31 = some ⟨oc31, od31, .func (PySem.W.fnOf "kinds_of" "kinds_of" (defArgs s_kinds_of) (defBody s_kinds_of) (defScope s_kinds_of) .none kV31 dc31 pm31 an31 cd31 ct31), sl31⟩) (c31 : PySem.W.codeIn K cd31 "kinds_of" = true) (k31 : PySem.W.keepIn K (.ref f31) = true)
    (a32 : PySem.W.nsIn K mainGlobals "copied" = some (some (.ref f32))) (l32 : K.lookup f32 = some ⟨oc32, od32, .func (PySem.W.fnOf "copied" "copied" (defArgs s_copied) (defBody s_copied) (defScope s_copied) .none kV32 dc32 pm32 an32 cd32 ct32), sl32⟩) (c32 : PySem.W.codeIn K cd32 "copied" = true) (k32 : PySem.W.keepIn K (.ref f32) = true)
    (a33 : PySem.W.isFn K (.ref f33) = true) (l33 : K.lookup f33 = some ⟨oc33, od33, .func (PySem.W.fnOf "__init__" "Keeper.__init__" (defArgs s_Keeper_init) (defBody s_Keeper_init) (defScope s_Keeper_init) .none kV33 dc33 pm33 an33 cd33 ct33), sl33⟩) (c33 : PySem.W.codeIn K cd33 "Keeper.__init__" = true) (k33 : PySem.W.keepIn K (.ref f33) = true)
    (a34 : PySem.W.isFn K (.ref f34) = true) (l34 : K.lookup f34 = some ⟨oc34, od34, .func (PySem.W.fnOf "__init__" "Store.__init__" (defArgs s_Store_init) (defBody s_Store_init) (defScope s_Store_init) .none kV34 dc34 pm34 an34 cd34 ct34), sl34⟩) (c34 : PySem.W.codeIn K cd34 "Store.__init__" = true) (k34 : PySem.W.keepIn K (.ref f34) = true)
    (a35 : PySem.W.isFn K (.ref f35) = true) (l35 : K.lookup f35 = some ⟨oc35, od35, .func (PySem.W.fnOf "__init__" "Shelf.__init__" (defArgs s_Shelf_init) (defBody s_Shelf_init) (defScope s_Shelf_init) .none kV35 dc35 pm35 an35 cd35 ct35), sl35⟩) (c35 : PySem.W.codeIn K cd35 "Shelf.__init__" = true) (k35 : PySem.W.keepIn K (.ref f35) = true)
    (a36 : PySem.W.isFn K (.ref f36) = true) (l36 : K.lookup f36 = some ⟨oc36, od36, .func (PySem.W.fnOf "__init__" "Body.__init__" (defArgs s_Body_init) (defBody s_Body_init) (defScope s_Body_init) .none kV36 dc36 pm36 an36 cd36 ct36), sl36⟩) (c36 : PySem.W.codeIn K cd36 "Body.__init__" = true) (k36 : PySem.W.keepIn K (.ref f36) = true)
    (a37 : PySem.W.isFn K (.ref f37) = true) (l37 : K.lookup f37 = some ⟨oc37, od37, .func (PySem.W.fnOf "__init__" "Tree.__init__" (defArgs s_Tree_init) (defBody s_Tree_init) (defScope s_Tree_init) .none kV37 dc37 pm37 an37 cd37 ct37), sl37⟩) (c37 : PySem.W.codeIn K cd37 "Tree.__init__" = true) (k37 : PySem.W.keepIn K (.ref f37) = true)
    (a38 : PySem.W.nsIn K mainGlobals "need_ask" = some (some (.ref f38))) (l38 : K.lookup f38 = some ⟨oc38, od38, .func (PySem.W.fnOf "need_ask" "need_ask" (defArgs s_need_ask) (defBody s_need_ask) (defScope s_need_ask) .none kV38 dc38 pm38 an38 cd38 ct38), sl38⟩) (c38 : PySem.W.codeIn K cd38 "need_ask" = true) (k38 : PySem.W.keepIn K (.ref f38) = true)
    (a39 : PySem.W.isFn K (.ref f39) = true) (l39 : K.lookup f39 = some ⟨oc39, od39, .func (PySem.W.fnOf "left" "Store.left" (defArgs s_Store_left) (defBody s_Store_left) (defScope s_Store_left) .none kV39 dc39 pm39 an39 cd39 ct39), sl39⟩) (c39 : PySem.W.codeIn K cd39 "Store.left" = true) (k39 : PySem.W.keepIn K (.ref f39) = true)
    (a40 : PySem.W.isFn K (.ref f40) = true) (l40 : K.lookup f40 = some ⟨oc40, od40, .func (PySem.W.fnOf "need_room" "Shelf.need_room" (defArgs s_Shelf_need_room) (defBody s_Shelf_need_room) (defScope s_Shelf_need_room) .none kV40 dc40 pm40 an40 cd40 ct40), sl40⟩) (c40 : PySem.W.codeIn K cd40 "Shelf.need_room" = true) (k40 : PySem.W.keepIn K (.ref f40) = true)
    (a41 : PySem.W.isFn K (.ref f41) = true) (l41 : K.lookup f41 = some ⟨oc41, od41, .func (PySem.W.fnOf "sees" "Keeper.sees" (defArgs s_Keeper_sees) (defBody s_Keeper_sees) (defScope s_Keeper_sees) .none kV41 dc41 pm41 an41 cd41 ct41), sl41⟩) (c41 : PySem.W.codeIn K cd41 "Keeper.sees" = true) (k41 : PySem.W.keepIn K (.ref f41) = true)
    (a42 : PySem.W.isFn K (.ref f42) = true) (l42 : K.lookup f42 = some ⟨oc42, od42, .func (PySem.W.fnOf "look" "Shelf.look" (defArgs s_Shelf_look) (defBody s_Shelf_look) (defScope s_Shelf_look) .none kV42 dc42 pm42 an42 cd42 ct42), sl42⟩) (c42 : PySem.W.codeIn K cd42 "Shelf.look" = true) (k42 : PySem.W.keepIn K (.ref f42) = true)
    (a43 : PySem.W.nsIn K mainGlobals "node_at" = some (some (.ref f43))) (l43 : K.lookup f43 = some ⟨oc43, od43, .func (PySem.W.fnOf "node_at" "node_at" (defArgs s_node_at) (defBody s_node_at) (defScope s_node_at) .none kV43 dc43 pm43 an43 cd43 ct43), sl43⟩) (c43 : PySem.W.codeIn K cd43 "node_at" = true) (k43 : PySem.W.keepIn K (.ref f43) = true)
    (a44 : PySem.W.nsIn K mainGlobals "room_of" = some (some (.ref f44))) (l44 : K.lookup f44 = some ⟨oc44, od44, .func (PySem.W.fnOf "room_of" "room_of" (defArgs s_room_of) (defBody s_room_of) (defScope s_room_of) .none kV44 dc44 pm44 an44 cd44 ct44), sl44⟩) (c44 : PySem.W.codeIn K cd44 "room_of" = true) (k44 : PySem.W.keepIn K (.ref f44) = true)
    (a45 : PySem.W.isFn K (.ref f45) = true) (l45 : K.lookup f45 = some ⟨oc45, od45, .func (PySem.W.fnOf "look_way" "Body.look_way" (defArgs s_Body_look_way) (defBody s_Body_look_way) (defScope s_Body_look_way) .none kV45 dc45 pm45 an45 cd45 ct45), sl45⟩) (c45 : PySem.W.codeIn K cd45 "Body.look_way" = true) (k45 : PySem.W.keepIn K (.ref f45) = true)
    (a46 : PySem.W.isFn K (.ref f46) = true) (l46 : K.lookup f46 = some ⟨oc46, od46, .func (PySem.W.fnOf "word_of" "Body.word_of" (defArgs s_Body_word_of) (defBody s_Body_word_of) (defScope s_Body_word_of) .none kV46 dc46 pm46 an46 cd46 ct46), sl46⟩) (c46 : PySem.W.codeIn K cd46 "Body.word_of" = true) (k46 : PySem.W.keepIn K (.ref f46) = true)
    (a47 : PySem.W.isFn K (.ref f47) = true) (l47 : K.lookup f47 = some ⟨oc47, od47, .func (PySem.W.fnOf "keep" "Body.keep" (defArgs s_Body_keep) (defBody s_Body_keep) (defScope s_Body_keep) .none kV47 dc47 pm47 an47 cd47 ct47), sl47⟩) (c47 : PySem.W.codeIn K cd47 "Body.keep" = true) (k47 : PySem.W.keepIn K (.ref f47) = true)
    (a48 : PySem.W.isFn K (.ref f48) = true) (l48 : K.lookup f48 = some ⟨oc48, od48, .func (PySem.W.fnOf "fitting" "Body.fitting" (defArgs s_Body_fitting) (defBody s_Body_fitting) (defScope s_Body_fitting) .none kV48 dc48 pm48 an48 cd48 ct48), sl48⟩) (c48 : PySem.W.codeIn K cd48 "Body.fitting" = true) (k48 : PySem.W.keepIn K (.ref f48) = true)
    (a49 : PySem.W.isFn K (.ref f49) = true) (l49 : K.lookup f49 = some ⟨oc49, od49, .func (PySem.W.fnOf "lay" "Shelf.lay" (defArgs s_Shelf_lay) (defBody s_Shelf_lay) (defScope s_Shelf_lay) .none kV49 dc49 pm49 an49 cd49 ct49), sl49⟩) (c49 : PySem.W.codeIn K cd49 "Shelf.lay" = true) (k49 : PySem.W.keepIn K (.ref f49) = true)
    (a50 : PySem.W.isFn K (.ref f50) = true) (l50 : K.lookup f50 = some ⟨oc50, od50, .func (PySem.W.fnOf "lay_way" "Body.lay_way" (defArgs s_Body_lay_way) (defBody s_Body_lay_way) (defScope s_Body_lay_way) .none kV50 dc50 pm50 an50 cd50 ct50), sl50⟩) (c50 : PySem.W.codeIn K cd50 "Body.lay_way" = true) (k50 : PySem.W.keepIn K (.ref f50) = true)
    (a51 : PySem.W.isFn K (.ref f51) = true) (l51 : K.lookup f51 = some ⟨oc51, od51, .func (PySem.W.fnOf "answered" "Tree.answered" (defArgs s_Tree_answered) (defBody s_Tree_answered) (defScope s_Tree_answered) .none kV51 dc51 pm51 an51 cd51 ct51), sl51⟩) (c51 : PySem.W.codeIn K cd51 "Tree.answered" = true) (k51 : PySem.W.keepIn K (.ref f51) = true)
    (a52 : PySem.W.nsIn K mainGlobals "word_asked" = some (some (.ref f52))) (l52 : K.lookup f52 = some ⟨oc52, od52, .func (PySem.W.fnOf "word_asked" "word_asked" (defArgs s_word_asked) (defBody s_word_asked) (defScope s_word_asked) .none kV52 dc52 pm52 an52 cd52 ct52), sl52⟩) (c52 : PySem.W.codeIn K cd52 "word_asked" = true) (k52 : PySem.W.keepIn K (.ref f52) = true)
    (a53 : PySem.W.isFn K (.ref f53) = true) (l53 : K.lookup f53 = some ⟨oc53, od53, .func (PySem.W.fnOf "ask" "Store.ask" (defArgs s_Store_ask) (defBody s_Store_ask) (defScope s_Store_ask) .none kV53 dc53 pm53 an53 cd53 ct53), sl53⟩) (c53 : PySem.W.codeIn K cd53 "Store.ask" = true) (k53 : PySem.W.keepIn K (.ref f53) = true)
    (a54 : PySem.W.isFn K (.ref f54) = true) (l54 : K.lookup f54 = some ⟨oc54, od54, .func (PySem.W.fnOf "cells_in_hand" "Body.cells_in_hand" (defArgs s_Body_cells_in_hand) (defBody s_Body_cells_in_hand) (defScope s_Body_cells_in_hand) .none kV54 dc54 pm54 an54 cd54 ct54), sl54⟩) (c54 : PySem.W.codeIn K cd54 "Body.cells_in_hand" = true) (k54 : PySem.W.keepIn K (.ref f54) = true)
    (a55 : PySem.W.isFn K (.ref f55) = true) (l55 : K.lookup f55 = some ⟨oc55, od55, .func (PySem.W.fnOf "pocket" "Tree.pocket" (defArgs s_Tree_pocket) (defBody s_Tree_pocket) (defScope s_Tree_pocket) .none kV55 dc55 pm55 an55 cd55 ct55), sl55⟩) (c55 : PySem.W.codeIn K cd55 "Tree.pocket" = true) (k55 : PySem.W.keepIn K (.ref f55) = true)
    (a56 : PySem.W.nsIn K mainGlobals "peak" = some (some (.ref f56))) (l56 : K.lookup f56 = some ⟨oc56, od56, .func (PySem.W.fnOf "peak" "peak" (defArgs s_peak) (defBody s_peak) (defScope s_peak) .none kV56 dc56 pm56 an56 cd56 ct56), sl56⟩) (c56 : PySem.W.codeIn K cd56 "peak" = true) (k56 : PySem.W.keepIn K (.ref f56) = true)
    (a57 : PySem.W.nsIn K mainGlobals "pockets_of" = some (some (.ref f57))) (l57 : K.lookup f57 = some ⟨oc57, od57, .func (PySem.W.fnOf "pockets_of" "pockets_of" (defArgs s_pockets_of) (defBody s_pockets_of) (defScope s_pockets_of) .none kV57 dc57 pm57 an57 cd57 ct57), sl57⟩) (c57 : PySem.W.codeIn K cd57 "pockets_of" = true) (k57 : PySem.W.keepIn K (.ref f57) = true)
    (a58 : PySem.W.nsIn K mainGlobals "law" = some (some (.ref f58))) (l58 : K.lookup f58 = some ⟨oc58, od58, .func (PySem.W.fnOf "law" "law" (defArgs s_law) (defBody s_law) (defScope s_law) .none kV58 dc58 pm58 an58 cd58 ct58), sl58⟩) (c58 : PySem.W.codeIn K cd58 "law" = true) (k58 : PySem.W.keepIn K (.ref f58) = true)
    (z_all : PySem.W.nsIn K mainGlobals "all" = some none)
    (z_bool : PySem.W.nsIn K mainGlobals "bool" = some none)
    (z_enumerate : PySem.W.nsIn K mainGlobals "enumerate" = some none)
    (z_int : PySem.W.nsIn K mainGlobals "int" = some none)
    (z_isinstance : PySem.W.nsIn K mainGlobals "isinstance" = some none)
    (z_len : PySem.W.nsIn K mainGlobals "len" = some none)
    (z_list : PySem.W.nsIn K mainGlobals "list" = some none)
    (z_max : PySem.W.nsIn K mainGlobals "max" = some none)
    (z_min : PySem.W.nsIn K mainGlobals "min" = some none)
    (z_range : PySem.W.nsIn K mainGlobals "range" = some none)
    (z_reversed : PySem.W.nsIn K mainGlobals "reversed" = some none)
    (z_set : PySem.W.nsIn K mainGlobals "set" = some none)
    (z_sorted : PySem.W.nsIn K mainGlobals "sorted" = some none)
    (z_sum : PySem.W.nsIn K mainGlobals "sum" = some none)
    (z_tuple : PySem.W.nsIn K mainGlobals "tuple" = some none)
    {X_NoNumber X_NoRoom X_NoAsk X_NoSize X_Over X_TooMany : Addr}
    {tk_MOST_CELLS : Tok}
    {tk_MOST_ASKS : Tok}
    {tk_TABLE : Tok}
    {tk_GREATEST : Tok}
    {tk_MOST_ROWS : Tok}
    {KA_SIDES : Addr} {ko_SIDES : Option Addr} {ki_SIDES : Array Value} {kn_SIDES : Nat} {ks_SIDES : Array (Option Value)}
    {O_Keeper O_Shelf O_Body O_Tree O_Store : Addr}
    (xa_NoNumber : PySem.W.nsIn K mainGlobals "NoNumber" = some (some (.ref X_NoNumber)))
    (xk_NoNumber : PySem.W.keepIn K (.ref X_NoNumber) = true)
    (xx_NoNumber : PySem.W.excIn K X_NoNumber [.type "ValueError", .type "Exception", .type "BaseException", .type "object"] "ValueError.__new__" = true)
    (xb_NoNumber : PySem.W.subIn K (.ref X_NoNumber) (.type "BaseException") = some true)
    (xt_NoNumber : PySem.W.typeIn K (.ref X_NoNumber) = some (.type "type"))
    (x4_NoNumber : PySem.W.hasDictIn K X_NoNumber = true)
    (xa_NoRoom : PySem.W.nsIn K mainGlobals "NoRoom" = some (some (.ref X_NoRoom)))
    (xk_NoRoom : PySem.W.keepIn K (.ref X_NoRoom) = true)
    (xx_NoRoom : PySem.W.excIn K X_NoRoom [.type "ValueError", .type "Exception", .type "BaseException", .type "object"] "ValueError.__new__" = true)
    (xb_NoRoom : PySem.W.subIn K (.ref X_NoRoom) (.type "BaseException") = some true)
    (xt_NoRoom : PySem.W.typeIn K (.ref X_NoRoom) = some (.type "type"))
    (x4_NoRoom : PySem.W.hasDictIn K X_NoRoom = true)
    (xa_NoAsk : PySem.W.nsIn K mainGlobals "NoAsk" = some (some (.ref X_NoAsk)))
    (xk_NoAsk : PySem.W.keepIn K (.ref X_NoAsk) = true)
    (xx_NoAsk : PySem.W.excIn K X_NoAsk [.type "ValueError", .type "Exception", .type "BaseException", .type "object"] "ValueError.__new__" = true)
    (xb_NoAsk : PySem.W.subIn K (.ref X_NoAsk) (.type "BaseException") = some true)
    (xt_NoAsk : PySem.W.typeIn K (.ref X_NoAsk) = some (.type "type"))
    (x4_NoAsk : PySem.W.hasDictIn K X_NoAsk = true)
    (xa_NoSize : PySem.W.nsIn K mainGlobals "NoSize" = some (some (.ref X_NoSize)))
    (xk_NoSize : PySem.W.keepIn K (.ref X_NoSize) = true)
    (xx_NoSize : PySem.W.excIn K X_NoSize [.type "ValueError", .type "Exception", .type "BaseException", .type "object"] "ValueError.__new__" = true)
    (xb_NoSize : PySem.W.subIn K (.ref X_NoSize) (.type "BaseException") = some true)
    (xt_NoSize : PySem.W.typeIn K (.ref X_NoSize) = some (.type "type"))
    (x4_NoSize : PySem.W.hasDictIn K X_NoSize = true)
    (xa_Over : PySem.W.nsIn K mainGlobals "Over" = some (some (.ref X_Over)))
    (xk_Over : PySem.W.keepIn K (.ref X_Over) = true)
    (xx_Over : PySem.W.excIn K X_Over [.type "ValueError", .type "Exception", .type "BaseException", .type "object"] "ValueError.__new__" = true)
    (xb_Over : PySem.W.subIn K (.ref X_Over) (.type "BaseException") = some true)
    (xt_Over : PySem.W.typeIn K (.ref X_Over) = some (.type "type"))
    (x4_Over : PySem.W.hasDictIn K X_Over = true)
    (xa_TooMany : PySem.W.nsIn K mainGlobals "TooMany" = some (some (.ref X_TooMany)))
    (xk_TooMany : PySem.W.keepIn K (.ref X_TooMany) = true)
    (xx_TooMany : PySem.W.excIn K X_TooMany [.type "ValueError", .type "Exception", .type "BaseException", .type "object"] "ValueError.__new__" = true)
    (xb_TooMany : PySem.W.subIn K (.ref X_TooMany) (.type "BaseException") = some true)
    (xt_TooMany : PySem.W.typeIn K (.ref X_TooMany) = some (.type "type"))
    (x4_TooMany : PySem.W.hasDictIn K X_TooMany = true)
    (ka_MOST_CELLS : PySem.W.nsIn K mainGlobals "MOST_CELLS" = some (some (.int 32 tk_MOST_CELLS)))
    (ka_MOST_ASKS : PySem.W.nsIn K mainGlobals "MOST_ASKS" = some (some (.int 60 tk_MOST_ASKS)))
    (ka_TABLE : PySem.W.nsIn K mainGlobals "TABLE" = some (some (.int 4 tk_TABLE)))
    (ka_GREATEST : PySem.W.nsIn K mainGlobals "GREATEST" = some (some (.int 999999999999999999 tk_GREATEST)))
    (ka_MOST_ROWS : PySem.W.nsIn K mainGlobals "MOST_ROWS" = some (some (.int 1000 tk_MOST_ROWS)))
    (ka_SIDES : PySem.W.nsIn K mainGlobals "SIDES" = some (some (.ref KA_SIDES)))
    (kl_SIDES : K.lookup KA_SIDES = some ⟨.type "tuple", ko_SIDES, .seq ki_SIDES kn_SIDES, ks_SIDES⟩)
    (kv_SIDES : ki_SIDES.toList.map absV = con_SIDES.map some)
    (kz_SIDES : ki_SIDES.size ≤ 1000)
    (oa_Keeper : PySem.W.nsIn K mainGlobals "Keeper" = some (some (.ref O_Keeper)))
    (oa_Shelf : PySem.W.nsIn K mainGlobals "Shelf" = some (some (.ref O_Shelf)))
    (oa_Body : PySem.W.nsIn K mainGlobals "Body" = some (some (.ref O_Body)))
    (oa_Tree : PySem.W.nsIn K mainGlobals "Tree" = some (some (.ref O_Tree)))
    (oa_Store : PySem.W.nsIn K mainGlobals "Store" = some (some (.ref O_Store)))
    (o1_Keeper : PySem.W.plainGet K O_Keeper Str.empty = true)
    (o2_Keeper : PySem.W.hasDictIn K O_Keeper = true)
    (o3_Keeper : PySem.W.plainOver K O_Keeper = true)
    (o4_Keeper : PySem.W.findIn K (.ref O_Keeper) "__setattr__" = some (some (.builtin "object.__setattr__")))
    (on_Keeper_log : PySem.W.findIn K (.ref O_Keeper) "log" = some none)
    (o1_Shelf : PySem.W.plainGet K O_Shelf Str.empty = true)
    (o2_Shelf : PySem.W.hasDictIn K O_Shelf = true)
    (o3_Shelf : PySem.W.plainOver K O_Shelf = true)
    (o4_Shelf : PySem.W.findIn K (.ref O_Shelf) "__setattr__" = some (some (.builtin "object.__setattr__")))
    (on_Shelf_keeper : PySem.W.findIn K (.ref O_Shelf) "keeper" = some none)
    (on_Shelf_number : PySem.W.findIn K (.ref O_Shelf) "number" = some none)
    (on_Shelf_things : PySem.W.findIn K (.ref O_Shelf) "things" = some none)
    (o1_Body : PySem.W.plainGet K O_Body Str.empty = true)
    (o2_Body : PySem.W.hasDictIn K O_Body = true)
    (o3_Body : PySem.W.plainOver K O_Body = true)
    (o4_Body : PySem.W.findIn K (.ref O_Body) "__setattr__" = some (some (.builtin "object.__setattr__")))
    (on_Body_shelf : PySem.W.findIn K (.ref O_Body) "shelf" = some none)
    (on_Body_high : PySem.W.findIn K (.ref O_Body) "high" = some none)
    (on_Body_firsts : PySem.W.findIn K (.ref O_Body) "firsts" = some none)
    (on_Body_hand : PySem.W.findIn K (.ref O_Body) "hand" = some none)
    (o1_Tree : PySem.W.plainGet K O_Tree Str.empty = true)
    (o2_Tree : PySem.W.hasDictIn K O_Tree = true)
    (o3_Tree : PySem.W.plainOver K O_Tree = true)
    (o4_Tree : PySem.W.findIn K (.ref O_Tree) "__setattr__" = some (some (.builtin "object.__setattr__")))
    (on_Tree_cells : PySem.W.findIn K (.ref O_Tree) "cells" = some none)
    (on_Tree_limit : PySem.W.findIn K (.ref O_Tree) "limit" = some none)
    (on_Tree_draws : PySem.W.findIn K (.ref O_Tree) "draws" = some none)
    (on_Tree_keeper : PySem.W.findIn K (.ref O_Tree) "keeper" = some none)
    (on_Tree_made : PySem.W.findIn K (.ref O_Tree) "made" = some none)
    (on_Tree_body : PySem.W.findIn K (.ref O_Tree) "body" = some none)
    (on_Tree_table : PySem.W.findIn K (.ref O_Tree) "table" = some none)
    (om_Keeper : PySem.W.makesIn K O_Keeper = true)
    (ok_Keeper : PySem.W.keepIn K (.ref O_Keeper) = true)
    (oi_Keeper : PySem.W.findIn K (.ref O_Keeper) "__init__" = some (some (.ref f33)))
    (om_Shelf : PySem.W.makesIn K O_Shelf = true)
    (ok_Shelf : PySem.W.keepIn K (.ref O_Shelf) = true)
    (oi_Shelf : PySem.W.findIn K (.ref O_Shelf) "__init__" = some (some (.ref f35)))
    (om_Body : PySem.W.makesIn K O_Body = true)
    (ok_Body : PySem.W.keepIn K (.ref O_Body) = true)
    (oi_Body : PySem.W.findIn K (.ref O_Body) "__init__" = some (some (.ref f36)))
    (om_Tree : PySem.W.makesIn K O_Tree = true)
    (ok_Tree : PySem.W.keepIn K (.ref O_Tree) = true)
    (oi_Tree : PySem.W.findIn K (.ref O_Tree) "__init__" = some (some (.ref f37)))
    (of_Tree_answered : PySem.W.findIn K (.ref O_Tree) "answered" = some (some (.ref f51)))
    (of_Tree_ask : PySem.W.findIn K (.ref O_Tree) "ask" = some (some (.ref f53)))
    (of_Body_cells_in_hand : PySem.W.findIn K (.ref O_Body) "cells_in_hand" = some (some (.ref f54)))
    (of_Body_fitting : PySem.W.findIn K (.ref O_Body) "fitting" = some (some (.ref f48)))
    (of_Body_keep : PySem.W.findIn K (.ref O_Body) "keep" = some (some (.ref f47)))
    (of_Shelf_lay : PySem.W.findIn K (.ref O_Shelf) "lay" = some (some (.ref f49)))
    (of_Body_lay_way : PySem.W.findIn K (.ref O_Body) "lay_way" = some (some (.ref f50)))
    (of_Tree_left : PySem.W.findIn K (.ref O_Tree) "left" = some (some (.ref f39)))
    (of_Shelf_look : PySem.W.findIn K (.ref O_Shelf) "look" = some (some (.ref f42)))
    (of_Body_look_way : PySem.W.findIn K (.ref O_Body) "look_way" = some (some (.ref f45)))
    (of_Shelf_need_room : PySem.W.findIn K (.ref O_Shelf) "need_room" = some (some (.ref f40)))
    (of_Tree_pocket : PySem.W.findIn K (.ref O_Tree) "pocket" = some (some (.ref f55)))
    (of_Keeper_sees : PySem.W.findIn K (.ref O_Keeper) "sees" = some (some (.ref f41)))
    (of_Body_word_of : PySem.W.findIn K (.ref O_Body) "word_of" = some (some (.ref f46)))
    (or_Store : PySem.W.readsIn K O_Store (.type "type") = true)
    (og_Store : PySem.W.specialIn K (.ref O_Store) "__getattribute__" = some (some (.builtin "type.__getattribute__")))
    (oc_Store___init__ : PySem.W.findCls K (.ref O_Store) (.type "type") "__init__" = some (.val (.ref f34)))
    : ∃ fd : FuncData, (∀ (s : Shared) (v : Value), BindsTo s fd ⟨[v], []⟩ [("_law_script", v)]) ∧ ∀ base : Heap, K.In base → base.Ns mainGlobals mg → FnOk l.prog w K mg base (L2.CX l.prog w) 11 fa fd ["_law_script"] (lift (S_law K)) := by
  have e := hfa.symm.trans (PySem.W.mg_of X G a58)
  cases e
  have B : Bs mg := ⟨PySem.W.mg_none_of X G z_all, PySem.W.mg_none_of X G z_bool, PySem.W.mg_none_of X G z_enumerate, PySem.W.mg_none_of X G z_int, PySem.W.mg_none_of X G z_isinstance, PySem.W.mg_none_of X G z_len, PySem.W.mg_none_of X G z_list, PySem.W.mg_none_of X G z_max, PySem.W.mg_none_of X G z_min, PySem.W.mg_none_of X G z_range, PySem.W.mg_none_of X G z_reversed, PySem.W.mg_none_of X G z_set, PySem.W.mg_none_of X G z_sorted, PySem.W.mg_none_of X G z_sum, PySem.W.mg_none_of X G z_tuple⟩
  have ck_Keeper : CK K 1 := ck_mk (k := 1) oa_Keeper o1_Keeper o2_Keeper o3_Keeper o4_Keeper (List.forall_mem_cons.mpr ⟨on_Keeper_log, fa_nil⟩)
  have ck_Shelf : CK K 2 := ck_mk (k := 2) oa_Shelf o1_Shelf o2_Shelf o3_Shelf o4_Shelf (List.forall_mem_cons.mpr ⟨on_Shelf_keeper, List.forall_mem_cons.mpr ⟨on_Shelf_number, List.forall_mem_cons.mpr ⟨on_Shelf_things, fa_nil⟩⟩⟩)
  have ck_Body : CK K 8 := ck_mk (k := 8) oa_Body o1_Body o2_Body o3_Body o4_Body (List.forall_mem_cons.mpr ⟨on_Body_shelf, List.forall_mem_cons.mpr ⟨on_Body_high, List.forall_mem_cons.mpr ⟨on_Body_firsts, List.forall_mem_cons.mpr ⟨on_Body_hand, fa_nil⟩⟩⟩⟩)
  have ck_Tree : CK K 6 := ck_mk (k := 6) oa_Tree o1_Tree o2_Tree o3_Tree o4_Tree (List.forall_mem_cons.mpr ⟨on_Tree_cells, List.forall_mem_cons.mpr ⟨on_Tree_limit, List.forall_mem_cons.mpr ⟨on_Tree_draws, List.forall_mem_cons.mpr ⟨on_Tree_keeper, List.forall_mem_cons.mpr ⟨on_Tree_made, List.forall_mem_cons.mpr ⟨on_Tree_body, List.forall_mem_cons.mpr ⟨on_Tree_table, fa_nil⟩⟩⟩⟩⟩⟩⟩)
  have C : Cs K mg := ⟨xg_mk X G xa_NoNumber xk_NoNumber, xg_mk X G xa_NoRoom xk_NoRoom, xg_mk X G xa_NoAsk xk_NoAsk, xg_mk X G xa_NoSize xk_NoSize, xg_mk X G xa_Over xk_Over, xg_mk X G xa_TooMany xk_TooMany, xr_mk xa_NoNumber xx_NoNumber xb_NoNumber xt_NoNumber, xr_mk xa_NoRoom xx_NoRoom xb_NoRoom xt_NoRoom, xr_mk xa_NoAsk xx_NoAsk xb_NoAsk xt_NoAsk, xr_mk xa_NoSize xx_NoSize xb_NoSize xt_NoSize, xr_mk xa_Over xx_Over xb_Over xt_Over, xr_mk xa_TooMany xx_TooMany xb_TooMany xt_TooMany, ⟨_, PySem.W.mg_of X G ka_MOST_CELLS, _, rfl⟩, ⟨_, PySem.W.mg_of X G ka_MOST_ASKS, _, rfl⟩, ⟨_, PySem.W.mg_of X G ka_TABLE, _, rfl⟩, ⟨_, PySem.W.mg_of X G ka_GREATEST, _, rfl⟩, ⟨_, PySem.W.mg_of X G ka_MOST_ROWS, _, rfl⟩, xt_mk X G ka_SIDES kl_SIDES kv_SIDES (by intro y hy; simp only [con_SIDES, List.mem_cons, List.not_mem_nil, or_false] at hy; rcases hy with rfl | rfl <;> first | exact .inl ⟨_, rfl⟩ | exact .inr ⟨_, rfl⟩) kz_SIDES, ck_Keeper, ck_Shelf, ck_Body, ck_Tree, List.forall_mem_cons.mpr ⟨⟨ck_Tree, rfl⟩, fa_nil⟩, List.forall_mem_cons.mpr ⟨⟨ck_Tree, rfl⟩, fa_nil⟩, List.forall_mem_cons.mpr ⟨⟨ck_Tree, rfl⟩, fa_nil⟩, List.forall_mem_cons.mpr ⟨⟨ck_Body, rfl⟩, fa_nil⟩, List.forall_mem_cons.mpr ⟨⟨ck_Body, rfl⟩, fa_nil⟩, List.forall_mem_cons.mpr ⟨⟨ck_Body, rfl⟩, fa_nil⟩, List.forall_mem_cons.mpr ⟨⟨ck_Shelf, rfl⟩, List.forall_mem_cons.mpr ⟨⟨ck_Tree, rfl⟩, fa_nil⟩⟩, List.forall_mem_cons.mpr ⟨⟨ck_Tree, rfl⟩, fa_nil⟩, List.forall_mem_cons.mpr ⟨⟨ck_Keeper, rfl⟩, fa_nil⟩, List.forall_mem_cons.mpr ⟨⟨ck_Tree, rfl⟩, fa_nil⟩, List.forall_mem_cons.mpr ⟨⟨ck_Shelf, rfl⟩, fa_nil⟩, List.forall_mem_cons.mpr ⟨⟨ck_Body, rfl⟩, fa_nil⟩, List.forall_mem_cons.mpr ⟨⟨ck_Tree, rfl⟩, fa_nil⟩, List.forall_mem_cons.mpr ⟨⟨ck_Shelf, rfl⟩, fa_nil⟩, keep_mk (k := 1) oa_Keeper ok_Keeper, keep_mk (k := 2) oa_Shelf ok_Shelf, keep_mk (k := 8) oa_Body ok_Body, keep_mk (k := 6) oa_Tree ok_Tree⟩
  have F0 := fun_mk (st := s_law_pool) l0 c0 k0
  have b0 := F0.binds (ps := ["_law_script", "_law_k"]) fun _ _ _ _ _ _ us hl => len_2 (P := fun us => bindArgs _ { pos := us } = pure (List.zip _ us)) (fun _ _ => rfl) us hl
  have F1 := fun_mk (st := s_law_take) l1 c1 k1
  have b1 := F1.binds (ps := ["_law_pool_here", "_law_many"]) fun _ _ _ _ _ _ us hl => len_2 (P := fun us => bindArgs _ { pos := us } = pure (List.zip _ us)) (fun _ _ => rfl) us hl
  have F2 := fun_mk (st := s_law_ask) l2 c2 k2
  have b2 := F2.binds (ps := ["_law_pool_here", "_law_many"]) fun _ _ _ _ _ _ us hl => len_2 (P := fun us => bindArgs _ { pos := us } = pure (List.zip _ us)) (fun _ _ => rfl) us hl
  have F3 := fun_mk (st := s_law_rows) l3 c3 k3
  have b3 := F3.binds (ps := ["_law_high", "_law_many"]) fun _ _ _ _ _ _ us hl => len_2 (P := fun us => bindArgs _ { pos := us } = pure (List.zip _ us)) (fun _ _ => rfl) us hl
  have F4 := fun_mk (st := s_law_node) l4 c4 k4
  have b4 := F4.binds (ps := ["_law_high", "_law_depth", "_law_leaf"]) fun _ _ _ _ _ _ us hl => len_3 (P := fun us => bindArgs _ { pos := us } = pure (List.zip _ us)) (fun _ _ _ => rfl) us hl
  have F5 := fun_mk (st := s_law_peak) l5 c5 k5
  have b5 := F5.binds (ps := ["_law_high", "_law_many", "_law_asks", "_law_draws"]) fun _ _ _ _ _ _ us hl => len_4 (P := fun us => bindArgs _ { pos := us } = pure (List.zip _ us)) (fun _ _ _ _ => rfl) us hl
  have F6 := fun_mk (st := s_law_due) l6 c6 k6
  have b6 := F6.binds (ps := ["_law_many", "_law_asks", "_law_firsts"]) fun _ _ _ _ _ _ us hl => len_3 (P := fun us => bindArgs _ { pos := us } = pure (List.zip _ us)) (fun _ _ _ => rfl) us hl
  have F7 := fun_mk (st := s_is_whole) l7 c7 k7
  have b7 := F7.binds (ps := ["thing"]) fun _ _ _ _ _ _ us hl => len_1 (P := fun us => bindArgs _ { pos := us } = pure (List.zip _ us)) (fun _ => rfl) us hl
  have F8 := fun_mk (st := s_is_within) l8 c8 k8
  have b8 := F8.binds (ps := ["thing", "least", "most"]) fun _ _ _ _ _ _ us hl => len_3 (P := fun us => bindArgs _ { pos := us } = pure (List.zip _ us)) (fun _ _ _ => rfl) us hl
  have F9 := fun_mk (st := s_look_at_many) l9 c9 k9
  have b9 := F9.binds (ps := ["many"]) fun _ _ _ _ _ _ us hl => len_1 (P := fun us => bindArgs _ { pos := us } = pure (List.zip _ us)) (fun _ => rfl) us hl
  have F10 := fun_mk (st := s_is_ask) l10 c10 k10
  have b10 := F10.binds (ps := ["many", "thing"]) fun _ _ _ _ _ _ us hl => len_2 (P := fun us => bindArgs _ { pos := us } = pure (List.zip _ us)) (fun _ _ => rfl) us hl
  have F11 := fun_mk (st := s_look_at_asks) l11 c11 k11
  have b11 := F11.binds (ps := ["many", "asks"]) fun _ _ _ _ _ _ us hl => len_2 (P := fun us => bindArgs _ { pos := us } = pure (List.zip _ us)) (fun _ _ => rfl) us hl
  have F12 := fun_mk (st := s_high_of) l12 c12 k12
  have b12 := F12.binds (ps := ["many"]) fun _ _ _ _ _ _ us hl => len_1 (P := fun us => bindArgs _ { pos := us } = pure (List.zip _ us)) (fun _ => rfl) us hl
  have F13 := fun_mk (st := s_leaves) l13 c13 k13
  have b13 := F13.binds (ps := ["high"]) fun _ _ _ _ _ _ us hl => len_1 (P := fun us => bindArgs _ { pos := us } = pure (List.zip _ us)) (fun _ => rfl) us hl
  have F14 := fun_mk (st := s_is_row) l14 c14 k14
  have b14 := F14.binds (ps := ["size", "thing"]) fun _ _ _ _ _ _ us hl => len_2 (P := fun us => bindArgs _ { pos := us } = pure (List.zip _ us)) (fun _ _ => rfl) us hl
  have F15 := fun_mk (st := s_is_draw) l15 c15 k15
  have b15 := F15.binds (ps := ["kind", "thing"]) fun _ _ _ _ _ _ us hl => len_2 (P := fun us => bindArgs _ { pos := us } = pure (List.zip _ us)) (fun _ _ => rfl) us hl
  have F16 := fun_mk (st := s_look_at_draws) l16 c16 k16
  have b16 := F16.binds (ps := ["kinds", "thing"]) fun _ _ _ _ _ _ us hl => len_2 (P := fun us => bindArgs _ { pos := us } = pure (List.zip _ us)) (fun _ _ => rfl) us hl
  have F17 := fun_mk (st := s_many_of) l17 c17 k17
  have b17 := F17.binds (ps := ["kind"]) fun _ _ _ _ _ _ us hl => len_1 (P := fun us => bindArgs _ { pos := us } = pure (List.zip _ us)) (fun _ => rfl) us hl
  have F18 := fun_mk (st := s_how_many) l18 c18 k18
  have b18 := F18.binds (ps := ["kinds"]) fun _ _ _ _ _ _ us hl => len_1 (P := fun us => bindArgs _ { pos := us } = pure (List.zip _ us)) (fun _ => rfl) us hl
  have F19 := fun_mk (st := s_row_at) l19 c19 k19
  have b19 := F19.binds (ps := ["size", "number"]) fun _ _ _ _ _ _ us hl => len_2 (P := fun us => bindArgs _ { pos := us } = pure (List.zip _ us)) (fun _ _ => rfl) us hl
  have F20 := fun_mk (st := s_draws_at) l20 c20 k20
  have b20 := F20.binds (ps := ["kinds", "number"]) fun _ _ _ _ _ _ us hl => len_2 (P := fun us => bindArgs _ { pos := us } = pure (List.zip _ us)) (fun _ _ => rfl) us hl
  have F21 := fun_mk (st := s_all_draws) l21 c21 k21
  have b21 := F21.binds (ps := ["kinds"]) fun _ _ _ _ _ _ us hl => len_1 (P := fun us => bindArgs _ { pos := us } = pure (List.zip _ us)) (fun _ => rfl) us hl
  have F22 := fun_mk (st := s_look_at_sizes) l22 c22 k22
  have b22 := F22.binds (ps := ["many", "most"]) fun _ _ _ _ _ _ us hl => len_2 (P := fun us => bindArgs _ { pos := us } = pure (List.zip _ us)) (fun _ _ => rfl) us hl
  have F23 := fun_mk (st := s_side_of) l23 c23 k23
  have b23 := F23.binds (ps := ["many"]) fun _ _ _ _ _ _ us hl => len_1 (P := fun us => bindArgs _ { pos := us } = pure (List.zip _ us)) (fun _ => rfl) us hl
  have F24 := fun_mk (st := s_spare_needs) l24 c24 k24
  have b24 := F24.binds (ps := ["many", "most"]) fun _ _ _ _ _ _ us hl => len_2 (P := fun us => bindArgs _ { pos := us } = pure (List.zip _ us)) (fun _ _ => rfl) us hl
  have F25 := fun_mk (st := s_last_of) l25 c25 k25
  have b25 := F25.binds (ps := ["many"]) fun _ _ _ _ _ _ us hl => len_1 (P := fun us => bindArgs _ { pos := us } = pure (List.zip _ us)) (fun _ => rfl) us hl
  have F26 := fun_mk (st := s_stair_of) l26 c26 k26
  have b26 := F26.binds (ps := ["many", "pour"]) fun _ _ _ _ _ _ us hl => len_2 (P := fun us => bindArgs _ { pos := us } = pure (List.zip _ us)) (fun _ _ => rfl) us hl
  have F27 := fun_mk (st := s_slots_of) l27 c27 k27
  have b27 := F27.binds (ps := ["many", "stair"]) fun _ _ _ _ _ _ us hl => len_2 (P := fun us => bindArgs _ { pos := us } = pure (List.zip _ us)) (fun _ _ => rfl) us hl
  have F28 := fun_mk (st := s_stairs_needs) l28 c28 k28
  have b28 := F28.binds (ps := ["many", "most"]) fun _ _ _ _ _ _ us hl => len_2 (P := fun us => bindArgs _ { pos := us } = pure (List.zip _ us)) (fun _ _ => rfl) us hl
  have F29 := fun_mk (st := s_grove_needs) l29 c29 k29
  have b29 := F29.binds (ps := ["trees", "most"]) fun _ _ _ _ _ _ us hl => len_2 (P := fun us => bindArgs _ { pos := us } = pure (List.zip _ us)) (fun _ _ => rfl) us hl
  have F30 := fun_mk (st := s_trees_of) l30 c30 k30
  have b30 := F30.binds (ps := ["many"]) fun _ _ _ _ _ _ us hl => len_1 (P := fun us => bindArgs _ { pos := us } = pure (List.zip _ us)) (fun _ => rfl) us hl
  have F31 := fun_mk (st := s_kinds_of) l31 c31 k31
  have b31 := F31.binds (ps := ["way", "many", "most"]) fun _ _ _ _ _ _ us hl => len_3 (P := fun us => bindArgs _ { pos := us } = pure (List.zip _ us)) (fun _ _ _ => rfl) us hl
  have F32 := fun_mk (st := s_copied) l32 c32 k32
  have b32 := F32.binds (ps := ["draws"]) fun _ _ _ _ _ _ us hl => len_1 (P := fun us => bindArgs _ { pos := us } = pure (List.zip _ us)) (fun _ => rfl) us hl
  have F33 := fun_mk (st := s_Keeper_init) l33 c33 k33
  have b33 := F33.binds (ps := ["self"]) fun _ _ _ _ _ _ us hl => len_1 (P := fun us => bindArgs _ { pos := us } = pure (List.zip _ us)) (fun _ => rfl) us hl
  have F34 := fun_mk (st := s_Store_init) l34 c34 k34
  have b34 := F34.binds (ps := ["self", "way", "many", "most", "draws"]) fun _ _ _ _ _ _ us hl => len_5 (P := fun us => bindArgs _ { pos := us } = pure (List.zip _ us)) (fun _ _ _ _ _ => rfl) us hl
  have F35 := fun_mk (st := s_Shelf_init) l35 c35 k35
  have b35 := F35.binds (ps := ["self", "keeper", "number", "things"]) fun _ _ _ _ _ _ us hl => len_4 (P := fun us => bindArgs _ { pos := us } = pure (List.zip _ us)) (fun _ _ _ _ => rfl) us hl
  have F36 := fun_mk (st := s_Body_init) l36 c36 k36
  have b36 := F36.binds (ps := ["self", "keeper", "number", "high", "firsts"]) fun _ _ _ _ _ _ us hl => len_5 (P := fun us => bindArgs _ { pos := us } = pure (List.zip _ us)) (fun _ _ _ _ _ => rfl) us hl
  have F37 := fun_mk (st := s_Tree_init) l37 c37 k37
  have b37 := F37.binds (ps := ["self", "many", "most", "draws"]) fun _ _ _ _ _ _ us hl => len_4 (P := fun us => bindArgs _ { pos := us } = pure (List.zip _ us)) (fun _ _ _ _ => rfl) us hl
  have F38 := fun_mk (st := s_need_ask) l38 c38 k38
  have b38 := F38.binds (ps := ["many", "thing"]) fun _ _ _ _ _ _ us hl => len_2 (P := fun us => bindArgs _ { pos := us } = pure (List.zip _ us)) (fun _ _ => rfl) us hl
  have F39 := fun_mk (st := s_Store_left) l39 c39 k39
  have b39 := F39.binds (ps := ["self"]) fun _ _ _ _ _ _ us hl => len_1 (P := fun us => bindArgs _ { pos := us } = pure (List.zip _ us)) (fun _ => rfl) us hl
  have F40 := fun_mk (st := s_Shelf_need_room) l40 c40 k40
  have b40 := F40.binds (ps := ["self", "room"]) fun _ _ _ _ _ _ us hl => len_2 (P := fun us => bindArgs _ { pos := us } = pure (List.zip _ us)) (fun _ _ => rfl) us hl
  have F41 := fun_mk (st := s_Keeper_sees) l41 c41 k41
  have b41 := F41.binds (ps := ["self", "deed", "shelf", "room"]) fun _ _ _ _ _ _ us hl => len_4 (P := fun us => bindArgs _ { pos := us } = pure (List.zip _ us)) (fun _ _ _ _ => rfl) us hl
  have F42 := fun_mk (st := s_Shelf_look) l42 c42 k42
  have b42 := F42.binds (ps := ["self", "room"]) fun _ _ _ _ _ _ us hl => len_2 (P := fun us => bindArgs _ { pos := us } = pure (List.zip _ us)) (fun _ _ => rfl) us hl
  have F43 := fun_mk (st := s_node_at) l43 c43 k43
  have b43 := F43.binds (ps := ["high", "depth", "leaf"]) fun _ _ _ _ _ _ us hl => len_3 (P := fun us => bindArgs _ { pos := us } = pure (List.zip _ us)) (fun _ _ _ => rfl) us hl
  have F44 := fun_mk (st := s_room_of) l44 c44 k44
  have b44 := F44.binds (ps := ["node", "side"]) fun _ _ _ _ _ _ us hl => len_2 (P := fun us => bindArgs _ { pos := us } = pure (List.zip _ us)) (fun _ _ => rfl) us hl
  have F45 := fun_mk (st := s_Body_look_way) l45 c45 k45
  have b45 := F45.binds (ps := ["self", "leaf"]) fun _ _ _ _ _ _ us hl => len_2 (P := fun us => bindArgs _ { pos := us } = pure (List.zip _ us)) (fun _ _ => rfl) us hl
  have F46 := fun_mk (st := s_Body_word_of) l46 c46 k46
  have b46 := F46.binds (ps := ["self", "cell"]) fun _ _ _ _ _ _ us hl => len_2 (P := fun us => bindArgs _ { pos := us } = pure (List.zip _ us)) (fun _ _ => rfl) us hl
  have F47 := fun_mk (st := s_Body_keep) l47 c47 k47
  have b47 := F47.binds (ps := ["self", "cell", "word", "leaf"]) fun _ _ _ _ _ _ us hl => len_4 (P := fun us => bindArgs _ { pos := us } = pure (List.zip _ us)) (fun _ _ _ _ => rfl) us hl
  have F48 := fun_mk (st := s_Body_fitting) l48 c48 k48
  have b48 := F48.binds (ps := ["self", "depth", "node"]) fun _ _ _ _ _ _ us hl => len_3 (P := fun us => bindArgs _ { pos := us } = pure (List.zip _ us)) (fun _ _ _ => rfl) us hl
  have F49 := fun_mk (st := s_Shelf_lay) l49 c49 k49
  have b49 := F49.binds (ps := ["self", "room", "thing"]) fun _ _ _ _ _ _ us hl => len_3 (P := fun us => bindArgs _ { pos := us } = pure (List.zip _ us)) (fun _ _ _ => rfl) us hl
  have F50 := fun_mk (st := s_Body_lay_way) l50 c50 k50
  have b50 := F50.binds (ps := ["self", "leaf"]) fun _ _ _ _ _ _ us hl => len_2 (P := fun us => bindArgs _ { pos := us } = pure (List.zip _ us)) (fun _ _ => rfl) us hl
  have F51 := fun_mk (st := s_Tree_answered) l51 c51 k51
  have b51 := F51.binds (ps := ["self", "cell", "word"]) fun _ _ _ _ _ _ us hl => len_3 (P := fun us => bindArgs _ { pos := us } = pure (List.zip _ us)) (fun _ _ _ => rfl) us hl
  have F52 := fun_mk (st := s_word_asked) l52 c52 k52
  have b52 := F52.binds (ps := ["deed"]) fun _ _ _ _ _ _ us hl => len_1 (P := fun us => bindArgs _ { pos := us } = pure (List.zip _ us)) (fun _ => rfl) us hl
  have F53 := fun_mk (st := s_Store_ask) l53 c53 k53
  have b53 := F53.binds (ps := ["self", "deed"]) fun _ _ _ _ _ _ us hl => len_2 (P := fun us => bindArgs _ { pos := us } = pure (List.zip _ us)) (fun _ _ => rfl) us hl
  have F54 := fun_mk (st := s_Body_cells_in_hand) l54 c54 k54
  have b54 := F54.binds (ps := ["self"]) fun _ _ _ _ _ _ us hl => len_1 (P := fun us => bindArgs _ { pos := us } = pure (List.zip _ us)) (fun _ => rfl) us hl
  have F55 := fun_mk (st := s_Tree_pocket) l55 c55 k55
  have b55 := F55.binds (ps := ["self"]) fun _ _ _ _ _ _ us hl => len_1 (P := fun us => bindArgs _ { pos := us } = pure (List.zip _ us)) (fun _ => rfl) us hl
  have F56 := fun_mk (st := s_peak) l56 c56 k56
  have b56 := F56.binds (ps := ["many", "asks", "draws"]) fun _ _ _ _ _ _ us hl => len_3 (P := fun us => bindArgs _ { pos := us } = pure (List.zip _ us)) (fun _ _ _ => rfl) us hl
  have F57 := fun_mk (st := s_pockets_of) l57 c57 k57
  have b57 := F57.binds (ps := ["many", "asks", "firsts"]) fun _ _ _ _ _ _ us hl => len_3 (P := fun us => bindArgs _ { pos := us } = pure (List.zip _ us)) (fun _ _ _ => rfl) us hl
  have F58 := fun_mk (st := s_law) l58 c58 k58
  have b58 := F58.binds (ps := ["_law_script"]) fun _ _ _ _ _ _ us hl => len_1 (P := fun us => bindArgs _ { pos := us } = pure (List.zip _ us)) (fun _ => rfl) us hl
  refine ⟨PySem.W.fnOf "law" "law" (defArgs s_law) (defBody s_law) (defScope s_law) .none kV58 dc58 pm58 an58 cd58 ct58, fun s v => .of_eq rfl, fun base _ _ => ?_⟩
  have D_law_pool := df_law_pool (P := l.prog) (w := w) (base := base) B C F0 b0 (PySem.W.mg_of X G a0) 
  have D_law_take := df_law_take (P := l.prog) (w := w) (base := base) B C F1 b1 (PySem.W.mg_of X G a1) 
  have D_law_ask := df_law_ask (P := l.prog) (w := w) (base := base) B C F2 b2 (PySem.W.mg_of X G a2) D_law_take
  have D_law_rows := df_law_rows (P := l.prog) (w := w) (base := base) B C F3 b3 (PySem.W.mg_of X G a3) 
  have D_law_node := df_law_node (P := l.prog) (w := w) (base := base) B C F4 b4 (PySem.W.mg_of X G a4) 
  have D_law_peak := df_law_peak (P := l.prog) (w := w) (base := base) B C F5 b5 (PySem.W.mg_of X G a5) D_law_node
  have D_law_due := df_law_due (P := l.prog) (w := w) (base := base) B C F6 b6 (PySem.W.mg_of X G a6) D_law_rows D_law_peak
  have D_is_whole := df_is_whole (P := l.prog) (w := w) (base := base) B C F7 b7 (PySem.W.mg_of X G a7) 
  have D_is_within := df_is_within (P := l.prog) (w := w) (base := base) B C F8 b8 (PySem.W.mg_of X G a8) D_is_whole
  have D_look_at_many := df_look_at_many (P := l.prog) (w := w) (base := base) B C F9 b9 (PySem.W.mg_of X G a9) D_is_within
  have D_is_ask := df_is_ask (P := l.prog) (w := w) (base := base) B C F10 b10 (PySem.W.mg_of X G a10) D_is_within
  have D_look_at_asks := df_look_at_asks (P := l.prog) (w := w) (base := base) B C F11 b11 (PySem.W.mg_of X G a11) D_is_ask
  have D_high_of := df_high_of (P := l.prog) (w := w) (base := base) B C F12 b12 (PySem.W.mg_of X G a12) 
  have D_leaves := df_leaves (P := l.prog) (w := w) (base := base) B C F13 b13 (PySem.W.mg_of X G a13) 
  have D_is_row := df_is_row (P := l.prog) (w := w) (base := base) B C F14 b14 (PySem.W.mg_of X G a14) D_is_within
  have D_is_draw := df_is_draw (P := l.prog) (w := w) (base := base) B C F15 b15 (PySem.W.mg_of X G a15) D_leaves D_is_within D_is_row
  have D_look_at_draws := df_look_at_draws (P := l.prog) (w := w) (base := base) B C F16 b16 (PySem.W.mg_of X G a16) D_is_draw
  have D_many_of := df_many_of (P := l.prog) (w := w) (base := base) B C F17 b17 (PySem.W.mg_of X G a17) D_leaves
  have D_how_many := df_how_many (P := l.prog) (w := w) (base := base) B C F18 b18 (PySem.W.mg_of X G a18) D_many_of
  have D_row_at := df_row_at (P := l.prog) (w := w) (base := base) B C F19 b19 (PySem.W.mg_of X G a19) 
  have D_draws_at := df_draws_at (P := l.prog) (w := w) (base := base) B C F20 b20 (PySem.W.mg_of X G a20) D_how_many D_is_within D_many_of D_row_at
  have D_all_draws := df_all_draws (P := l.prog) (w := w) (base := base) B C F21 b21 (PySem.W.mg_of X G a21) D_how_many D_draws_at
  have D_look_at_sizes := df_look_at_sizes (P := l.prog) (w := w) (base := base) B C F22 b22 (PySem.W.mg_of X G a22) D_look_at_many D_is_within
  have D_side_of := df_side_of (P := l.prog) (w := w) (base := base) B C F23 b23 (PySem.W.mg_of X G a23) 
  have D_spare_needs := df_spare_needs (P := l.prog) (w := w) (base := base) B C F24 b24 (PySem.W.mg_of X G a24) D_side_of
  have D_last_of := df_last_of (P := l.prog) (w := w) (base := base) B C F25 b25 (PySem.W.mg_of X G a25) D_high_of
  have D_stair_of := df_stair_of (P := l.prog) (w := w) (base := base) B C F26 b26 (PySem.W.mg_of X G a26) D_last_of
  have D_slots_of := df_slots_of (P := l.prog) (w := w) (base := base) B C F27 b27 (PySem.W.mg_of X G a27) D_last_of
  have D_stairs_needs := df_stairs_needs (P := l.prog) (w := w) (base := base) B C F28 b28 (PySem.W.mg_of X G a28) D_last_of D_stair_of D_slots_of
  have D_grove_needs := df_grove_needs (P := l.prog) (w := w) (base := base) B C F29 b29 (PySem.W.mg_of X G a29) D_high_of
  have D_trees_of := df_trees_of (P := l.prog) (w := w) (base := base) B C F30 b30 (PySem.W.mg_of X G a30) 
  have D_kinds_of := df_kinds_of (P := l.prog) (w := w) (base := base) B C F31 b31 (PySem.W.mg_of X G a31) D_spare_needs D_stairs_needs D_grove_needs D_trees_of
  have D_copied := df_copied (P := l.prog) (w := w) (base := base) B C F32 b32 (PySem.W.mg_of X G a32) 
  have G33 := fo_Keeper_init (P := l.prog) (w := w) (base := base) B C F33 
  have N_Keeper : CDef l.prog w K mg base 1 1 "Keeper" (S_Keeper_init K) := cd_mk (k := 1) (x := "Keeper") rfl oa_Keeper (PySem.W.mg_of X G oa_Keeper) G33 om_Keeper oi_Keeper a33 ok_Keeper b33
  have G34 := fo_Store_init (P := l.prog) (w := w) (base := base) B C F34 D_look_at_sizes D_kinds_of D_look_at_draws D_copied N_Keeper
  have G35 := fo_Shelf_init (P := l.prog) (w := w) (base := base) B C F35 
  have N_Shelf : CDef l.prog w K mg base 1 2 "Shelf" (S_Shelf_init K) := cd_mk (k := 2) (x := "Shelf") rfl oa_Shelf (PySem.W.mg_of X G oa_Shelf) G35 om_Shelf oi_Shelf a35 ok_Shelf b35
  have G36 := fo_Body_init (P := l.prog) (w := w) (base := base) B C F36 N_Shelf
  have N_Body : CDef l.prog w K mg base 3 8 "Body" (S_Body_init K) := cd_mk (k := 8) (x := "Body") rfl oa_Body (PySem.W.mg_of X G oa_Body) G36 om_Body oi_Body a36 ok_Body b36
  have F_Store_init : FDef l.prog w K mg base 6 "Store" "__init__" (S_Store_init K) := fd_mk oa_Store (PySem.W.mg_of X G oa_Store) G34 oc_Store___init__ b34 F34.kp or_Store og_Store
  have G37 := fo_Tree_init (P := l.prog) (w := w) (base := base) B C F37 D_high_of N_Body F_Store_init
  have D_need_ask := df_need_ask (P := l.prog) (w := w) (base := base) B C F38 b38 (PySem.W.mg_of X G a38) D_is_ask
  have G39 := fo_Store_left (P := l.prog) (w := w) (base := base) B C F39 
  have G40 := fo_Shelf_need_room (P := l.prog) (w := w) (base := base) B C F40 D_is_within
  have G41 := fo_Keeper_sees (P := l.prog) (w := w) (base := base) B C F41 
  have M_need_room : ∀ p ∈ tabM_need_room K, MDef l.prog w K mg base 3 p.1 "need_room" p.2 := List.forall_mem_cons.mpr ⟨md_mk (k := 2) oa_Shelf (G40.mono (by decide)) of_Shelf_need_room a40 F40.kp b40 ck_Shelf (by decide +kernel), fa_nil⟩
  have M_sees : ∀ p ∈ tabM_sees K, MDef l.prog w K mg base 1 p.1 "sees" p.2 := List.forall_mem_cons.mpr ⟨md_mk (k := 1) oa_Keeper (G41.mono (by decide)) of_Keeper_sees a41 F41.kp b41 ck_Keeper (by decide +kernel), fa_nil⟩
  have G42 := fo_Shelf_look (P := l.prog) (w := w) (base := base) B C F42 M_need_room M_sees
  have D_node_at := df_node_at (P := l.prog) (w := w) (base := base) B C F43 b43 (PySem.W.mg_of X G a43) 
  have D_room_of := df_room_of (P := l.prog) (w := w) (base := base) B C F44 b44 (PySem.W.mg_of X G a44) 
  have M_look : ∀ p ∈ tabM_look K, MDef l.prog w K mg base 4 p.1 "look" p.2 := List.forall_mem_cons.mpr ⟨md_mk (k := 2) oa_Shelf (G42.mono (by decide)) of_Shelf_look a42 F42.kp b42 ck_Shelf (by decide +kernel), fa_nil⟩
  have G45 := fo_Body_look_way (P := l.prog) (w := w) (base := base) B C F45 D_node_at D_room_of M_look
  have G46 := fo_Body_word_of (P := l.prog) (w := w) (base := base) B C F46 
  have G47 := fo_Body_keep (P := l.prog) (w := w) (base := base) B C F47 
  have G48 := fo_Body_fitting (P := l.prog) (w := w) (base := base) B C F48 D_node_at
  have G49 := fo_Shelf_lay (P := l.prog) (w := w) (base := base) B C F49 M_need_room M_sees
  have M_fitting : ∀ p ∈ tabM_fitting K, MDef l.prog w K mg base 2 p.1 "fitting" p.2 := List.forall_mem_cons.mpr ⟨md_mk (k := 8) oa_Body (G48.mono (by decide)) of_Body_fitting a48 F48.kp b48 ck_Body (by decide +kernel), fa_nil⟩
  have M_lay : ∀ p ∈ tabM_lay K, MDef l.prog w K mg base 4 p.1 "lay" p.2 := List.forall_mem_cons.mpr ⟨md_mk (k := 2) oa_Shelf (G49.mono (by decide)) of_Shelf_lay a49 F49.kp b49 ck_Shelf (by decide +kernel), fa_nil⟩
  have G50 := fo_Body_lay_way (P := l.prog) (w := w) (base := base) B C F50 D_node_at D_room_of M_fitting M_lay
  have M_look_way : ∀ p ∈ tabM_look_way K, MDef l.prog w K mg base 5 p.1 "look_way" p.2 := List.forall_mem_cons.mpr ⟨md_mk (k := 8) oa_Body (G45.mono (by decide)) of_Body_look_way a45 F45.kp b45 ck_Body (by decide +kernel), fa_nil⟩
  have M_word_of : ∀ p ∈ tabM_word_of K, MDef l.prog w K mg base 1 p.1 "word_of" p.2 := List.forall_mem_cons.mpr ⟨md_mk (k := 8) oa_Body (G46.mono (by decide)) of_Body_word_of a46 F46.kp b46 ck_Body (by decide +kernel), fa_nil⟩
  have M_keep : ∀ p ∈ tabM_keep K, MDef l.prog w K mg base 1 p.1 "keep" p.2 := List.forall_mem_cons.mpr ⟨md_mk (k := 8) oa_Body (G47.mono (by decide)) of_Body_keep a47 F47.kp b47 ck_Body (by decide +kernel), fa_nil⟩
  have M_lay_way : ∀ p ∈ tabM_lay_way K, MDef l.prog w K mg base 5 p.1 "lay_way" p.2 := List.forall_mem_cons.mpr ⟨md_mk (k := 8) oa_Body (G50.mono (by decide)) of_Body_lay_way a50 F50.kp b50 ck_Body (by decide +kernel), fa_nil⟩
  have G51 := fo_Tree_answered (P := l.prog) (w := w) (base := base) B C F51 M_look_way M_word_of M_keep M_lay_way
  have D_word_asked := df_word_asked (P := l.prog) (w := w) (base := base) B C F52 b52 (PySem.W.mg_of X G a52) 
  have M_left : ∀ p ∈ tabM_left K, MDef l.prog w K mg base 1 p.1 "left" p.2 := List.forall_mem_cons.mpr ⟨md_mk (k := 6) oa_Tree (G39.mono (by decide)) of_Tree_left a39 F39.kp b39 ck_Tree (by decide +kernel), fa_nil⟩
  have M_answered : ∀ p ∈ tabM_answered K, MDef l.prog w K mg base 6 p.1 "answered" p.2 := List.forall_mem_cons.mpr ⟨md_mk (k := 6) oa_Tree (G51.mono (by decide)) of_Tree_answered a51 F51.kp b51 ck_Tree (by decide +kernel), fa_nil⟩
  have G53 := fo_Store_ask (P := l.prog) (w := w) (base := base) B C F53 D_need_ask D_word_asked M_left M_answered
  have G54 := fo_Body_cells_in_hand (P := l.prog) (w := w) (base := base) B C F54 
  have M_cells_in_hand : ∀ p ∈ tabM_cells_in_hand K, MDef l.prog w K mg base 1 p.1 "cells_in_hand" p.2 := List.forall_mem_cons.mpr ⟨md_mk (k := 8) oa_Body (G54.mono (by decide)) of_Body_cells_in_hand a54 F54.kp b54 ck_Body (by decide +kernel), fa_nil⟩
  have G55 := fo_Tree_pocket (P := l.prog) (w := w) (base := base) B C F55 M_cells_in_hand
  have N_Tree : CDef l.prog w K mg base 7 6 "Tree" (S_Tree_init K) := cd_mk (k := 6) (x := "Tree") rfl oa_Tree (PySem.W.mg_of X G oa_Tree) G37 om_Tree oi_Tree a37 ok_Tree b37
  have M_ask : ∀ p ∈ tabM_ask K, MDef l.prog w K mg base 7 p.1 "ask" p.2 := List.forall_mem_cons.mpr ⟨md_mk (k := 6) oa_Tree (G53.mono (by decide)) of_Tree_ask a53 F53.kp b53 ck_Tree (by decide +kernel), fa_nil⟩
  have M_pocket : ∀ p ∈ tabM_pocket K, MDef l.prog w K mg base 2 p.1 "pocket" p.2 := List.forall_mem_cons.mpr ⟨md_mk (k := 6) oa_Tree (G55.mono (by decide)) of_Tree_pocket a55 F55.kp b55 ck_Tree (by decide +kernel), fa_nil⟩
  have D_peak := df_peak (P := l.prog) (w := w) (base := base) B C F56 b56 (PySem.W.mg_of X G a56) N_Tree M_ask M_pocket
  have D_pockets_of := df_pockets_of (P := l.prog) (w := w) (base := base) B C F57 b57 (PySem.W.mg_of X G a57) D_look_at_many D_look_at_asks D_high_of D_look_at_draws D_all_draws D_peak
  exact fo_law (P := l.prog) (w := w) (base := base) B C F58 D_law_pool D_law_take D_law_ask D_law_due D_pockets_of
end BT
def PySem.W.Fast.tw13310307311969740769 := 0
def PySem.W.Fast.tw7337918491544515746 := 0
def PySem.W.Fast.tw5947317776594404451 := 0
def PySem.W.Fast.tw11341253139451361443 := 0
def PySem.W.Fast.tw220553680445587748 := 0
def PySem.W.Fast.tw14715332141490677348 := 0
def PySem.W.Fast.tw14903047402691128518 := 0
def PySem.W.Fast.tw16834673054304657480 := 0
def PySem.W.Fast.tw18309256323503684329 := 0
def PySem.W.Fast.tw4755546272220562828 := 0
def PySem.W.Fast.tw12077840688694359468 := 0
def PySem.W.Fast.tw11767198343954528525 := 0
def PySem.W.Fast.tw11951727880071798638 := 0
def PySem.W.Fast.tw3580661076305276783 := 0
def PySem.W.Fast.tw1723239605306384499 := 0
def PySem.W.Fast.tw7144819951650530547 := 0
def PySem.W.Fast.tw4128876949938667155 := 0
def PySem.W.Fast.tw9078928083788500118 := 0
def PySem.W.Fast.tw13830874543789085014 := 0
def PySem.W.Fast.tw814210332168617590 := 0
def PySem.W.Fast.tw1860650581107569118 := 0
def PySem.W.Fast.tw7864115496865607871 := 0
open PySem PySem.W PyProof.Rows
set_option maxHeartbeats 0 in
theorem PySem.Challenge.cw_blindtouch_k74_pockets_counted_holds : PySem.Challenge.rw_blindtouch_k74_pockets_counted.Holds := by
  w_on; o_law; k_head; (case hw => w_witness2)
  k_fill
  refine L2.walk_of (l := PySem.Challenge.rw_blindtouch_k74_pockets_counted) (n := 63) (k := 11) (x := "_law_script") (CX := fun w => L2.CX (PySem.Challenge.rw_blindtouch_k74_pockets_counted).prog w) (sp := fun w => BT.lift (BT.S_law _)) rfl (by decide) rfl ⟨rfl, by decide, by decide⟩ (fun w h Y => PySem.W.kIn_of Y) ?F (fun _ H a ns hl _ hS => BT.law_start hl hS) (fun _ _ _ _ _ h => BT.cx_none h)
  case F =>
    intro w mg fa h KX G hmg
    refine' BT.all_mk KX G hmg ?a0 ?l0 ?c0 ?k0 ?a1 ?l1 ?c1 ?k1 ?a2 ?l2 ?c2 ?k2 ?a3 ?l3 ?c3 ?k3 ?a4 ?l4 ?c4 ?k4 ?a5 ?l5 ?c5 ?k5 ?a6 ?l6 ?c6 ?k6 ?a7 ?l7 ?c7 ?k7 ?a8 ?l8 ?c8 ?k8 ?a9 ?l9 ?c9 ?k9 ?a10 ?l10 ?c10 ?k10 ?a11 ?l11 ?c11 ?k11 ?a12 ?l12 ?c12 ?k12 ?a13 ?l13 ?c13 ?k13 ?a14 ?l14 ?c14 ?k14 ?a15 ?l15 ?c15 ?k15 ?a16 ?l16 ?c16 ?k16 ?a17 ?l17 ?c17 ?k17 ?a18 ?l18 ?c18 ?k18 ?a19 ?l19 ?c19 ?k19 ?a20 ?l20 ?c20 ?k20 ?a21 ?l21 ?c21 ?k21 ?a22 ?l22 ?c22 ?k22 ?a23 ?l23 ?c23 ?k23 ?a24 ?l24 ?c24 ?k24 ?a25 ?l25 ?c25 ?k25 ?a26 ?l26 ?c26 ?k26 ?a27 ?l27 ?c27 ?k27 ?a28 ?l28 ?c28 ?k28 ?a29 ?l29 ?c29 ?k29 ?a30 ?l30 ?c30 ?k30 ?a31 ?l31 ?c31 ?k31 ?a32 ?l32 ?c32 ?k32 ?a33 ?l33 ?c33 ?k33 ?a34 ?l34 ?c34 ?k34 ?a35 ?l35 ?c35 ?k35 ?a36 ?l36 ?c36 ?k36 ?a37 ?l37 ?c37 ?k37 ?a38 ?l38 ?c38 ?k38 ?a39 ?l39 ?c39 ?k39 ?a40 ?l40 ?c40 ?k40 ?a41 ?l41 ?c41 ?k41 ?a42 ?l42 ?c42 ?k42 ?a43 ?l43 ?c43 ?k43 ?a44 ?l44 ?c44 ?k44 ?a45 ?l45 ?c45 ?k45 ?a46 ?l46 ?c46 ?k46 ?a47 ?l47 ?c47 ?k47 ?a48 ?l48 ?c48 ?k48 ?a49 ?l49 ?c49 ?k49 ?a50 ?l50 ?c50 ?k50 ?a51 ?l51 ?c51 ?k51 ?a52 ?l52 ?c52 ?k52 ?a53 ?l53 ?c53 ?k53 ?a54 ?l54 ?c54 ?k54 ?a55 ?l55 ?c55 ?k55 ?a56 ?l56 ?c56 ?k56 ?a57 ?l57 ?c57 ?k57 ?a58 ?l58 ?c58 ?k58 ?z_all ?z_bool ?z_enumerate ?z_int ?z_isinstance ?z_len ?z_list ?z_max ?z_min ?z_range ?z_reversed ?z_set ?z_sorted ?z_sum ?z_tuple ?xa_NoNumber ?xk_NoNumber ?xx_NoNumber ?xb_NoNumber ?xt_NoNumber ?x4_NoNumber ?xa_NoRoom ?xk_NoRoom ?xx_NoRoom ?xb_NoRoom ?xt_NoRoom ?x4_NoRoom ?xa_NoAsk ?xk_NoAsk ?xx_NoAsk ?xb_NoAsk ?xt_NoAsk ?x4_NoAsk ?xa_NoSize ?xk_NoSize ?xx_NoSize ?xb_NoSize ?xt_NoSize ?x4_NoSize ?xa_Over ?xk_Over ?xx_Over ?xb_Over ?xt_Over ?x4_Over ?xa_TooMany ?xk_TooMany ?xx_TooMany ?xb_TooMany ?xt_TooMany ?x4_TooMany ?ka_MOST_CELLS ?ka_MOST_ASKS ?ka_TABLE ?ka_GREATEST ?ka_MOST_ROWS ?ka_SIDES ?kl_SIDES ?kv_SIDES ?kz_SIDES ?oa_Keeper ?oa_Shelf ?oa_Body ?oa_Tree ?oa_Store ?o1_Keeper ?o2_Keeper ?o3_Keeper ?o4_Keeper ?on_Keeper_log ?o1_Shelf ?o2_Shelf ?o3_Shelf ?o4_Shelf ?on_Shelf_keeper ?on_Shelf_number ?on_Shelf_things ?o1_Body ?o2_Body ?o3_Body ?o4_Body ?on_Body_shelf ?on_Body_high ?on_Body_firsts ?on_Body_hand ?o1_Tree ?o2_Tree ?o3_Tree ?o4_Tree ?on_Tree_cells ?on_Tree_limit ?on_Tree_draws ?on_Tree_keeper ?on_Tree_made ?on_Tree_body ?on_Tree_table ?om_Keeper ?ok_Keeper ?oi_Keeper ?om_Shelf ?ok_Shelf ?oi_Shelf ?om_Body ?ok_Body ?oi_Body ?om_Tree ?ok_Tree ?oi_Tree ?of_Tree_answered ?of_Tree_ask ?of_Body_cells_in_hand ?of_Body_fitting ?of_Body_keep ?of_Shelf_lay ?of_Body_lay_way ?of_Tree_left ?of_Shelf_look ?of_Body_look_way ?of_Shelf_need_room ?of_Tree_pocket ?of_Keeper_sees ?of_Body_word_of ?or_Store ?og_Store ?oc_Store___init__
    (case oa_Keeper => k_is); (case oa_Shelf => k_is); (case oa_Body => k_is); (case oa_Tree => k_is); (case oa_Store => k_is); (case oi_Keeper => k_is); (case oi_Shelf => k_is); (case oi_Body => k_is); (case oi_Tree => k_is); (case of_Tree_answered => k_is); (case of_Tree_ask => k_is); (case of_Body_cells_in_hand => k_is); (case of_Body_fitting => k_is); (case of_Body_keep => k_is); (case of_Shelf_lay => k_is); (case of_Body_lay_way => k_is); (case of_Tree_left => k_is); (case of_Shelf_look => k_is); (case of_Body_look_way => k_is); (case of_Shelf_need_room => k_is); (case of_Tree_pocket => k_is); (case of_Keeper_sees => k_is); (case of_Body_word_of => k_is); (case oc_Store___init__ => k_is); (case a0 => k_is); (case l0 => k_is); (case c0 => k_is); (case k0 => k_is); (case a1 => k_is); (case l1 => k_is); (case c1 => k_is); (case k1 => k_is); (case a2 => k_is); (case l2 => k_is); (case c2 => k_is); (case k2 => k_is); (case a3 => k_is); (case l3 => k_is); (case c3 => k_is); (case k3 => k_is); (case a4 => k_is); (case l4 => k_is); (case c4 => k_is); (case k4 => k_is); (case a5 => k_is); (case l5 => k_is); (case c5 => k_is); (case k5 => k_is); (case a6 => k_is); (case l6 => k_is); (case c6 => k_is); (case k6 => k_is); (case a7 => k_is); (case l7 => k_is); (case c7 => k_is); (case k7 => k_is); (case a8 => k_is); (case l8 => k_is); (case c8 => k_is); (case k8 => k_is); (case a9 => k_is); (case l9 => k_is); (case c9 => k_is); (case k9 => k_is); (case a10 => k_is); (case l10 => k_is); (case c10 => k_is); (case k10 => k_is); (case a11 => k_is); (case l11 => k_is); (case c11 => k_is); (case k11 => k_is); (case a12 => k_is); (case l12 => k_is); (case c12 => k_is); (case k12 => k_is); (case a13 => k_is); (case l13 => k_is); (case c13 => k_is); (case k13 => k_is); (case a14 => k_is); (case l14 => k_is); (case c14 => k_is); (case k14 => k_is); (case a15 => k_is); (case l15 => k_is); (case c15 => k_is); (case k15 => k_is); (case a16 => k_is); (case l16 => k_is); (case c16 => k_is); (case k16 => k_is); (case a17 => k_is); (case l17 => k_is); (case c17 => k_is); (case k17 => k_is); (case a18 => k_is); (case l18 => k_is); (case c18 => k_is); (case k18 => k_is); (case a19 => k_is); (case l19 => k_is); (case c19 => k_is); (case k19 => k_is); (case a20 => k_is); (case l20 => k_is); (case c20 => k_is); (case k20 => k_is); (case a21 => k_is); (case l21 => k_is); (case c21 => k_is); (case k21 => k_is); (case a22 => k_is); (case l22 => k_is); (case c22 => k_is); (case k22 => k_is); (case a23 => k_is); (case l23 => k_is); (case c23 => k_is); (case k23 => k_is); (case a24 => k_is); (case l24 => k_is); (case c24 => k_is); (case k24 => k_is); (case a25 => k_is); (case l25 => k_is); (case c25 => k_is); (case k25 => k_is); (case a26 => k_is); (case l26 => k_is); (case c26 => k_is); (case k26 => k_is); (case a27 => k_is); (case l27 => k_is); (case c27 => k_is); (case k27 => k_is); (case a28 => k_is); (case l28 => k_is); (case c28 => k_is); (case k28 => k_is); (case a29 => k_is); (case l29 => k_is); (case c29 => k_is); (case k29 => k_is); (case a30 => k_is); (case l30 => k_is); (case c30 => k_is); (case k30 => k_is); (case a31 => k_is); (case l31 => k_is); (case c31 => k_is); (case k31 => k_is); (case a32 => k_is); (case l32 => k_is); (case c32 => k_is); (case k32 => k_is); (case a33 => k_is); (case l33 => k_is); (case c33 => k_is); (case k33 => k_is); (case a34 => k_is); (case l34 => k_is); (case c34 => k_is); (case k34 => k_is); (case a35 => k_is); (case l35 => k_is); (case c35 => k_is); (case k35 => k_is); (case a36 => k_is); (case l36 => k_is); (case c36 => k_is); (case k36 => k_is); (case a37 => k_is); (case l37 => k_is); (case c37 => k_is); (case k37 => k_is); (case a38 => k_is); (case l38 => k_is); (case c38 => k_is); (case k38 => k_is); (case a39 => k_is); (case l39 => k_is); (case c39 => k_is); (case k39 => k_is); (case a40 => k_is); (case l40 => k_is); (case c40 => k_is); (case k40 => k_is); (case a41 => k_is); (case l41 => k_is); (case c41 => k_is); (case k41 => k_is); (case a42 => k_is); (case l42 => k_is); (case c42 => k_is); (case k42 => k_is); (case a43 => k_is); (case l43 => k_is); (case c43 => k_is); (case k43 => k_is); (case a44 => k_is); (case l44 => k_is); (case c44 => k_is); (case k44 => k_is); (case a45 => k_is); (case l45 => k_is); (case c45 => k_is); (case k45 => k_is); (case a46 => k_is); (case l46 => k_is); (case c46 => k_is); (case k46 => k_is); (case a47 => k_is); (case l47 => k_is); (case c47 => k_is); (case k47 => k_is); (case a48 => k_is); (case l48 => k_is); (case c48 => k_is); (case k48 => k_is); (case a49 => k_is); (case l49 => k_is); (case c49 => k_is); (case k49 => k_is); (case a50 => k_is); (case l50 => k_is); (case c50 => k_is); (case k50 => k_is); (case a51 => k_is); (case l51 => k_is); (case c51 => k_is); (case k51 => k_is); (case a52 => k_is); (case l52 => k_is); (case c52 => k_is); (case k52 => k_is); (case a53 => k_is); (case l53 => k_is); (case c53 => k_is); (case k53 => k_is); (case a54 => k_is); (case l54 => k_is); (case c54 => k_is); (case k54 => k_is); (case a55 => k_is); (case l55 => k_is); (case c55 => k_is); (case k55 => k_is); (case a56 => k_is); (case l56 => k_is); (case c56 => k_is); (case k56 => k_is); (case a57 => k_is); (case l57 => k_is); (case c57 => k_is); (case k57 => k_is); (case a58 => k_is); (case l58 => k_is); (case c58 => k_is); (case k58 => k_is); (case z_all => k_is); (case z_bool => k_is); (case z_enumerate => k_is); (case z_int => k_is); (case z_isinstance => k_is); (case z_len => k_is); (case z_list => k_is); (case z_max => k_is); (case z_min => k_is); (case z_range => k_is); (case z_reversed => k_is); (case z_set => k_is); (case z_sorted => k_is); (case z_sum => k_is); (case z_tuple => k_is); (case xa_NoNumber => k_is); (case xk_NoNumber => k_is); (case xb_NoNumber => k_is); (case xt_NoNumber => k_is); (case x4_NoNumber => k_is); (case xa_NoRoom => k_is); (case xk_NoRoom => k_is); (case xb_NoRoom => k_is); (case xt_NoRoom => k_is); (case x4_NoRoom => k_is); (case xa_NoAsk => k_is); (case xk_NoAsk => k_is); (case xb_NoAsk => k_is); (case xt_NoAsk => k_is); (case x4_NoAsk => k_is); (case xa_NoSize => k_is); (case xk_NoSize => k_is); (case xb_NoSize => k_is); (case xt_NoSize => k_is); (case x4_NoSize => k_is); (case xa_Over => k_is); (case xk_Over => k_is); (case xb_Over => k_is); (case xt_Over => k_is); (case x4_Over => k_is); (case xa_TooMany => k_is); (case xk_TooMany => k_is); (case xb_TooMany => k_is); (case xt_TooMany => k_is); (case x4_TooMany => k_is); (case ka_MOST_CELLS => k_is); (case ka_MOST_ASKS => k_is); (case ka_TABLE => k_is); (case ka_GREATEST => k_is); (case ka_MOST_ROWS => k_is); (case ka_SIDES => k_is); (case kl_SIDES => k_is); (case o1_Keeper => k_is); (case o2_Keeper => k_is); (case o3_Keeper => k_is); (case o4_Keeper => k_is); (case on_Keeper_log => k_is); (case o1_Shelf => k_is); (case o2_Shelf => k_is); (case o3_Shelf => k_is); (case o4_Shelf => k_is); (case on_Shelf_keeper => k_is); (case on_Shelf_number => k_is); (case on_Shelf_things => k_is); (case o1_Body => k_is); (case o2_Body => k_is); (case o3_Body => k_is); (case o4_Body => k_is); (case on_Body_shelf => k_is); (case on_Body_high => k_is); (case on_Body_firsts => k_is); (case on_Body_hand => k_is); (case o1_Tree => k_is); (case o2_Tree => k_is); (case o3_Tree => k_is); (case o4_Tree => k_is); (case on_Tree_cells => k_is); (case on_Tree_limit => k_is); (case on_Tree_draws => k_is); (case on_Tree_keeper => k_is); (case on_Tree_made => k_is); (case on_Tree_body => k_is); (case on_Tree_table => k_is); (case om_Keeper => k_is); (case ok_Keeper => k_is); (case om_Shelf => k_is); (case ok_Shelf => k_is); (case om_Body => k_is); (case ok_Body => k_is); (case om_Tree => k_is); (case ok_Tree => k_is); (case or_Store => k_is); (case og_Store => k_is)
    (case xx_NoNumber => k_exc)
    (case xx_NoRoom => k_exc)
    (case xx_NoAsk => k_exc)
    (case xx_NoSize => k_exc)
    (case xx_Over => k_exc)
    (case xx_TooMany => k_exc)
    (case kv_SIDES => rfl)
    (case kz_SIDES => decide)
