import PyProof.Rows.All
import Wide.All
import OpenK.AllK
import Wide.FinOn
import HandS.ForMost
import HandS.Exc
import HandS.TryOnly
import HandS.ExcOwn
import HandS.WordsExc
import HandS.Wide
import HandS.WideBits
import HandS.IsInst
import HandS.SortInts
import HandS.Style
import HandS.ExcIs
import HandS.ExcValue
import HandS.Conv
import HandS.Dict
import KE.DataMinMax
import HandS.RevRange
import HandS.More
import PyProof.SetRoads
import HandS.SetKeys
import HandS.TupAny
import HandS.NoneIn
import PyProof.EqKinds
import PyProof.FactsAll.dict
import HandS.ListItems
import PyProof.ReprRoads
import PyProof.ReprLen
import PyProof.Rows.StrJoinMade
import HandS.Set
import HandS.SetFor
import PySem.Challenge.RW_blindtouch_k50_what_is_a_leading
set_option Elab.async false
set_option linter.all false
set_option maxRecDepth 100000
set_option maxHeartbeats 4000000
/-! KL: readings over what is known of the heap: a frozen part G, and cells M that may be written. -/
namespace BT
def Now (P : Prop) : Prop := P
theorem of_now {P : Prop} (h : Now P) : P := h
theorem now_true {P : Prop} (h : P) : Now P = True := eq_true h
open PySem PySem.Spec L2
open PyProof.Rows hiding St

abbrev Mem := List (Addr × HO)
structure Hv (G : Hp) (M : Mem) (H : Hp) : Prop where
  ex : ∀ a o, G a = some o → H a = some o
  mu : ∀ x, x ∈ M → H x.1 = some x.2
  nd : (M.map (·.1)).Nodup
  dj : ∀ x, x ∈ M → G x.1 = none
def Fr (G : Hp) (M : Mem) (p : Addr) : Prop := G p = none ∧ ∀ x, x ∈ M → x.1 ≠ p
def At (G : Hp) (M : Mem) (a : Addr) (o : HO) : Prop := (a, o) ∈ M ∨ G a = some o
section
variable {G : Hp} {M : Mem} {H : Hp} {p a : Addr} {o o' : HO} {n : Nat}
theorem Hv.self (H : Hp) : Hv H [] H := ⟨fun _ _ h => h, fun _ h => (nomatch h), List.nodup_nil, fun _ h => (nomatch h)⟩
theorem Hv.fr (h : Hv G M H) (hp : H p = none) : Fr G M p := by
  refine ⟨?_, fun x hx e => ?_⟩
  · cases e : G p with
    | none => rfl
    | some o => rw [h.ex p o e] at hp; cases hp
  · have := h.mu x hx
    rw [e, hp] at this; cases this
theorem Hv.at (h : Hv G M H) (q : At G M a o) : H a = some o := by
  refine of_now ?_
  simp (disch := with_unfolding_all
    rcases q with q | q
    · exact h.mu _ q
    · exact h.ex _ _ q) only [↓now_true]
theorem Hv.newM (h : Hv G M H) (hp : H p = none) : Hv G ((p, o) :: M) (upd H p o) := by
  refine of_now ?_
  simp (disch := with_unfolding_all
    have f := h.fr hp
    refine ⟨fun b u e => ?_, fun x hx => ?_, ?_, fun x hx => ?_⟩
    · rw [upd_ne (ne_of_none (h.ex b u e) hp)]; exact h.ex b u e
    · rcases List.mem_cons.mp hx with rfl | hx
      · exact upd_same
      · rw [upd_ne (f.2 x hx)]; exact h.mu x hx
    · rw [List.map_cons, List.nodup_cons]
      refine ⟨fun hm => ?_, h.nd⟩
      obtain ⟨x, hx, e⟩ := List.mem_map.mp hm
      exact f.2 x hx e
    · rcases List.mem_cons.mp hx with rfl | hx
      · exact f.1
      · exact h.dj x hx) only [↓now_true]
theorem Hv.newG (h : Hv G M H) (hp : H p = none) : Hv (upd G p o) M (upd H p o) := by
  refine of_now ?_
  simp (disch := with_unfolding_all
    have f := h.fr hp
    refine ⟨fun b u e => ?_, fun x hx => ?_, h.nd, fun x hx => ?_⟩
    · by_cases hb : b = p
      · subst hb; rw [upd_same] at e ⊢; exact e
      · rw [upd_ne hb] at e ⊢; exact h.ex b u e
    · rw [upd_ne (f.2 x hx)]; exact h.mu x hx
    · rw [upd_ne (f.2 x hx)]; exact h.dj x hx) only [↓now_true]
/-- an object that nobody knows of is laid: nothing known changes -/
theorem Hv.junk (h : Hv G M H) (hp : H p = none) : Hv G M (upd H p o) := by
  refine of_now ?_
  simp (disch := with_unfolding_all
    have f := h.fr hp
    refine ⟨fun b u e => ?_, fun x hx => ?_, h.nd, h.dj⟩
    · rw [upd_ne (ne_of_none (h.ex b u e) hp)]; exact h.ex b u e
    · rw [upd_ne (f.2 x hx)]; exact h.mu x hx) only [↓now_true]
theorem Hv.get (h : Hv G M H) (hn : M[n]? = some (p, o)) : H p = some o := h.mu _ (List.mem_of_getElem? hn)
theorem map_set_fst : ∀ (M : Mem) (n : Nat) (p : Addr) (o o' : HO), M[n]? = some (p, o) → (M.set n (p, o')).map (·.1) = M.map (·.1)
  | [], _, _, _, _, h => by simp at h
  | x :: M, 0, p, o, o', h => by
    have e : x = (p, o) := by simpa using h
    subst e; rfl
  | x :: M, n + 1, p, o, o', h => by
    have e : M[n]? = some (p, o) := by simpa using h
    show x.1 :: (M.set n (p, o')).map (·.1) = _
    rw [map_set_fst M n p o o' e]; rfl
theorem nodup_at : ∀ (M : Mem) (n : Nat) (p : Addr) (o : HO) (x : Addr × HO) (m : Nat), (M.map (·.1)).Nodup → M[n]? = some (p, o) → M[m]? = some x → x.1 = p → m = n := by
  refine of_now ?_
  simp (disch := with_unfolding_all
    intro M n p o x m hd h1 h2 e
    have q1 : (M.map (·.1))[n]? = some p := by rw [List.getElem?_map, h1]; rfl
    have q2 : (M.map (·.1))[m]? = some p := by rw [List.getElem?_map, h2, ← e]; rfl
    obtain ⟨l1, e1⟩ := List.getElem?_eq_some_iff.mp q1
    obtain ⟨l2, e2⟩ := List.getElem?_eq_some_iff.mp q2
    exact (List.getElem_inj hd).mp (e2.trans e1.symm)) only [↓now_true]
theorem Hv.set (h : Hv G M H) (hn : M[n]? = some (p, o)) : Hv G (M.set n (p, o')) (upd H p o') := by
  refine of_now ?_
  simp (disch := with_unfolding_all
    have hlt : n < M.length := (List.getElem?_eq_some_iff.mp hn).1
    refine ⟨fun b u e => ?_, fun x hx => ?_, ?_, fun x hx => ?_⟩
    · have : b ≠ p := fun z => by
        have q := h.dj _ (List.mem_of_getElem? hn)
        rw [z] at e
        rw [show G p = none from q] at e; cases e
      rw [upd_ne this]; exact h.ex b u e
    · obtain ⟨m, hm⟩ := List.getElem?_of_mem hx
      by_cases e : m = n
      · subst e
        rw [List.getElem?_set_self hlt] at hm
        cases hm
        exact upd_same
      · rw [List.getElem?_set_ne (Ne.symm e)] at hm
        have : x.1 ≠ p := fun z => e (nodup_at M n p o x m h.nd hn hm z)
        rw [upd_ne this]
        exact h.mu x (List.mem_of_getElem? hm)
    · rw [map_set_fst M n p o o' hn]; exact h.nd
    · have : x.1 ∈ M.map (·.1) := by
        rw [← map_set_fst M n p o o' hn]; exact List.mem_map.mpr ⟨x, hx, rfl⟩
      obtain ⟨y, hy, e⟩ := List.mem_map.mp this
      rw [← e]; exact h.dj y hy) only [↓now_true]
/-- what is known may be forgotten, and what may be written may be frozen -/
def Wk (G : Hp) (M : Mem) (G' : Hp) (M' : Mem) : Prop := ∀ H, Hv G M H → Hv G' M' H
theorem Wk.refl : Wk G M G M := fun _ h => h
theorem Wk.trans {G1 G2 G3 : Hp} {M1 M2 M3 : Mem} (a : Wk G1 M1 G2 M2) (b : Wk G2 M2 G3 M3) : Wk G1 M1 G3 M3 := fun H h => b H (a H h)
theorem Wk.drop (M1 : Mem) {x : Addr × HO} {M2 : Mem} : Wk G (M1 ++ x :: M2) G (M1 ++ M2) := fun H h => by
  refine ⟨h.ex, fun y hy => h.mu y ?_, ?_, fun y hy => h.dj y ?_⟩
  · rcases List.mem_append.mp hy with q | q
    · exact List.mem_append.mpr (.inl q)
    · exact List.mem_append.mpr (.inr (List.mem_cons_of_mem _ q))
  · refine h.nd.sublist ?_
    simp
  · rcases List.mem_append.mp hy with q | q
    · exact List.mem_append.mpr (.inl q)
    · exact List.mem_append.mpr (.inr (List.mem_cons_of_mem _ q))
theorem Wk.drop0 {x : Addr × HO} : Wk G (x :: M) G M := Wk.drop []
theorem Wk.frz (M1 : Mem) {M2 : Mem} : Wk G (M1 ++ (p, o) :: M2) (upd G p o) (M1 ++ M2) := fun H h => by
  have hp : H p = some o := h.mu (p, o) (by simp)
  have hg : G p = none := h.dj (p, o) (by simp)
  have h2 := Wk.drop (G := G) M1 (x := (p, o)) (M2 := M2) H h
  refine ⟨fun b u e => ?_, h2.mu, h2.nd, fun x hx => ?_⟩
  · by_cases hb : b = p
    · subst hb; rw [upd_same] at e; cases e; exact hp
    · rw [upd_ne hb] at e; exact h.ex b u e
  · have : x.1 ≠ p := fun z => by
      have nd := h.nd
      rw [List.map_append, List.map_cons, List.nodup_append] at nd
      obtain ⟨n1, n2, n3⟩ := nd
      rcases List.mem_append.mp hx with q | q
      · exact n3 x.1 (List.mem_map.mpr ⟨x, q, rfl⟩) p (by simp) z
      · rw [List.nodup_cons] at n2
        exact n2.1 (by rw [← z]; exact List.mem_map.mpr ⟨x, q, rfl⟩)
    rw [upd_ne this]; exact h2.dj x hx
theorem Wk.frz0 : Wk G ((p, o) :: M) (upd G p o) M := Wk.frz []
theorem Wk.perm {M' : Mem} (e : M'.Perm M) : Wk G M G M' := fun H h =>
  ⟨h.ex, fun x hx => h.mu x (e.mem_iff.mp hx), (e.map _).nodup_iff.mpr h.nd, fun x hx => h.dj x (e.mem_iff.mp hx)⟩
/-- less of the frozen part -/
theorem Wk.less {G' : Hp} (e : ∀ a o, G' a = some o → G a = some o) : Wk G M G' M := fun H h =>
  ⟨fun a o q => h.ex a o (e a o q), h.mu, h.nd, fun x hx => by
    cases q : G' x.1 with
    | none => rfl
    | some o => have := h.dj x hx; rw [e _ _ q] at this; cases this⟩
end

/-! ### extension of the frozen part -/
def Ex (G G' : Hp) : Prop := ∀ a o, G a = some o → G' a = some o
theorem Ex.refl {G : Hp} : Ex G G := fun _ _ h => h
theorem Ex.trans {G G1 G2 : Hp} (a : Ex G G1) (b : Ex G1 G2) : Ex G G2 := fun x o h => b x o (a x o h)
theorem Ex.new {G : Hp} {M : Mem} {p : Addr} {o : HO} (h : Fr G M p) : Ex G (upd G p o) := fun a u e => by
  rw [upd_ne (ne_of_none e h.1)]; exact e
theorem Ex.new' {G : Hp} {p : Addr} {o : HO} (h : G p = none) : Ex G (upd G p o) := fun a u e => by
  rw [upd_ne (ne_of_none e h)]; exact e
theorem ex_rd {H H' : Hp} {a : Addr} {u : HO} (e : Ex H H') (h : Rd H a u) : Rd H' a u := by
  refine of_now ?_
  simp (disch := with_unfolding_all
    rcases h with h | ⟨o, h⟩
    · exact .inl (e a _ h)
    · exact .inr ⟨o, e a _ h⟩) only [↓now_true]
theorem ex_l {K : PySem.W.Frag} {H H' : Hp} {a : Addr} {xs : List V} (e : Ex H H') (h : SqL K H a xs) : SqL K H' a xs := by
  refine of_now ?_
  simp (disch := with_unfolding_all
    rcases h with h | h
    · exact .inl (ex_rd e h)
    · exact .inr h) only [↓now_true]
theorem ex_t {K : PySem.W.Frag} {H H' : Hp} {a : Addr} {xs : List V} (e : Ex H H') (h : SqT K H a xs) : SqT K H' a xs := by
  refine of_now ?_
  simp (disch := with_unfolding_all
    rcases h with h | h
    · exact .inl (ex_rd e h)
    · exact .inr h) only [↓now_true]
mutual
theorem ex_d {K : PySem.W.Frag} {H H' : Hp} (e : Ex H H') : ∀ (d : PyData) {v : V}, Dp K H v d → Dp K H' v d
  | _, _, .non => .non
  | _, _, .bl b => .bl b
  | _, _, .int b => .int b
  | _, _, .str b => .str b
  | .list ds, _, .lst s a => .lst (ex_l e s) (ex_ds e ds a)
  | .tuple ds, _, .tup s a => .tup (ex_t e s) (ex_ds e ds a)
theorem ex_ds {K : PySem.W.Frag} {H H' : Hp} (e : Ex H H') : ∀ (ds : List PyData) {vs : List V}, DpAll K H vs ds → DpAll K H' vs ds
  | _, _, .nil => .nil
  | d :: ds, _, .cons a b => .cons (ex_d e d a) (ex_ds e ds b)
end
/-- a list, a tuple that can be read -/
def LstAt (K : PySem.W.Frag) (G : Hp) (M : Mem) (a : Addr) (xs : List V) : Prop := (a, HO.lst xs) ∈ M ∨ SqL K G a xs
def SeqAt' (K : PySem.W.Frag) (G : Hp) (M : Mem) (a : Addr) (xs : List V) : Prop := LstAt K G M a xs ∨ SqT K G a xs
/-- data that can be read -/
def DatAt (K : PySem.W.Frag) (G : Hp) (M : Mem) (v : V) (d : PyData) : Prop := ∀ H, Hv G M H → Dp K H v d
section
variable {K : PySem.W.Frag} {G : Hp} {M : Mem} {H : Hp} {a : Addr} {xs : List V}
theorem Hv.exx (h : Hv G M H) : Ex G H := h.ex
theorem Hv.lst (h : Hv G M H) (q : LstAt K G M a xs) : SqL K H a xs := by
  refine of_now ?_
  simp (disch := with_unfolding_all
    rcases q with q | q
    · exact .inl (.inl (h.mu _ q))
    · exact ex_l h.exx q) only [↓now_true]
theorem Hv.tup (h : Hv G M H) (q : SqT K G a xs) : SqT K H a xs := ex_t h.exx q
theorem Hv.dat (h : Hv G M H) {v : V} {d : PyData} (q : DatAt K G M v d) : Dp K H v d := q H h
end

/-! ### judgements -/
abbrev KR := V → Hp → Mem → Prop
abbrev KX := Value → Option Addr → Hp → Mem → Prop
abbrev KK (α : Type) := St → Hp → Mem → (α → Hp → Mem → Prop) → KX → Prop
abbrev KE := KK V
abbrev KA := KK (List V)
abbrev KT := KK Bool
def upG {α : Type} (W : WX) (t : KK α) : St → Hp → (α → Hp → Prop) → Prop := fun σ H Q =>
  ∃ G M R E, Hv G M H ∧ t σ G M R E ∧ (∀ v G' M' H', Hv G' M' H' → R v G' M' → Q v H') ∧ (∀ c d G' M' H', Hv G' M' H' → E c d G' M' → W c d σ H')
def JE (X : Cx) (W : WX) (e : Expr) (t : KE) : Prop := PE X e (upG W t)
def JT (X : Cx) (W : WX) (e : Expr) (t : KT) : Prop := PT X e (upG W t)
def JW (X : Cx) (W : WX) (e : Expr) (t : KT) : Prop := PW X e (upG W t)
def JA (X : Cx) (W : WX) (es : List Expr) (t : KA) : Prop := PA X es (upG W t)
theorem pe_mono {X : Cx} {e : Expr} {t t' : TE} (h : PE X e t) (i : ∀ σ H Q, t' σ H Q → t σ H Q) : PE X e t' := ⟨fun pins s σ H Q I q => h.run pins s σ H Q I (i σ H Q q)⟩
theorem pt_mono {X : Cx} {e : Expr} {t t' : TT} (h : PT X e t) (i : ∀ σ H Q, t' σ H Q → t σ H Q) : PT X e t' := ⟨fun pins s σ H Q I q => h.run pins s σ H Q I (i σ H Q q)⟩
theorem pw_mono {X : Cx} {e : Expr} {t t' : TT} (h : PW X e t) (i : ∀ σ H Q, t' σ H Q → t σ H Q) : PW X e t' := ⟨fun wh pins s σ H Q I q => h.run wh pins s σ H Q I (i σ H Q q)⟩
theorem pa_mono {X : Cx} {e : List Expr} {t t' : TA} (h : PA X e t) (i : ∀ σ H Q, t' σ H Q → t σ H Q) : PA X e t' := ⟨fun pos pins s σ H Q I q => h.run pos pins s σ H Q I (i σ H Q q)⟩

section
variable {X : Cx} {W : WX} {pos : Pos}
/-- names, constants -/
def kVar (i : Nat) : KE := fun σ G M R _ => match σ[i]? with
  | some (some v) => R v G M
  | _ => False
def kC (v : V) : KE := fun _ G M R _ => R v G M
theorem je_var (i : Nat) {x : Str} (hN : X.N[i]? = some x := by rfl) (hv : Vis X.env.scope x := by first | exact Or.inl rfl | exact Or.inr (Or.inl rfl) | exact Or.inr (Or.inr rfl)) (hd : (x == ("__debug__" : Str)) = false := by decide)
    (hcd : (x == ("__classdict__" : Str)) = false := by decide) : JE X W (.Name x pos) (kVar i) := pe_mono (pe_var hN hv hd hcd) fun σ H Q ⟨G, M, R, E, hv, h, hR, _⟩ => by
  unfold kVar at h
  split at h
  · rename_i v e
    exact ⟨v, e, hR v G M H hv h⟩
  · exact h.elim
theorem je_c {e : Expr} {v : V} (h : PE X e (tC v)) : JE X W e (kC v) := pe_mono h fun σ H Q ⟨G, M, R, E, hv, h, hR, _⟩ => hR v G M H hv h
theorem je_int {i : Int} {j pos} : JE X W (.Constant (.int i) j pos) (kC (.int i)) := je_c pe_int
theorem je_bl {i : Bool} {j pos} : JE X W (.Constant (.bool i) j pos) (kC (.bl i)) := je_c pe_bl
theorem je_non {j pos} : JE X W (.Constant .none j pos) (kC .non) := je_c pe_non
theorem je_str {i : Str} {j pos} : JE X W (.Constant (.str i) j pos) (kC (.str i)) := je_c pe_str
/-- two in a row -/
def kBin {β : Type} (k : V → V → Hp → Mem → (β → Hp → Mem → Prop) → Prop) (ta tb : KE) : KK β := fun σ G M R E => ta σ G M (fun x G M => tb σ G M (fun y G M => k x y G M R) E) E
abbrev KR2 := V → V → Hp → Mem → KR → Prop
def KOp (X : Cx) (f : Value → Value → Sem Value) (k : KR2) : Prop :=
  ∀ (pins : List (Addr × Obj)) (s : Shared) (σ : St) (H : Hp) (x y : V) (v u : Value) (Q : VK) (G : Hp) (M : Mem) (R : KR), Inv X pins σ H s → RelV x v → RelV y u → Hv G M H → k x y G M R →
    (∀ v G' M' H', Hv G' M' H' → R v G' M' → Q v H') → wpAny (model X.prog X.w) X.A (f v u) (EP X pins σ Q) X.xe s
theorem kop_of {f : Value → Value → Sem Value} {r : R2} {k : KR2} (ho : OpR X f r)
    (s : ∀ x y G M R H Q, Hv G M H → k x y G M R → (∀ v G' M' H', Hv G' M' H' → R v G' M' → Q v H') → r x y H Q) : KOp X f k :=
  fun pins st σ H x y v u Q G M R I rx ry hv h hR => ho pins st σ H x y v u Q I rx ry (s x y G M R H Q hv h hR)
/-- an OpR whose reading is: it holds of k in some knowledge -/
def rUp (k : KR2) : R2 := fun x y H Q => ∃ G M R, Hv G M H ∧ k x y G M R ∧ ∀ v G' M' H', Hv G' M' H' → R v G' M' → Q v H'
theorem KOp.opr {f : Value → Value → Sem Value} {k : KR2} (h : KOp X f k) : OpR X f (rUp k) := fun pins s σ H x y v u Q I rx ry ⟨G, M, R, hv, hk, hR⟩ => h pins s σ H x y v u Q G M R I rx ry hv hk hR
theorem bin_sim {ta tb : KE} {k : KR2} {σ : St} {H : Hp} {Q : VK} (h : upG W (kBin k ta tb) σ H Q) : tOp (rUp k) (upG W ta) (upG W tb) σ H Q := by
  refine of_now ?_
  simp (disch := with_unfolding_all
    obtain ⟨G, M, R, E, hv, h, hR, hE⟩ := h
    exact ⟨G, M, _, E, hv, h, fun x G1 M1 H1 hv1 h1 => ⟨G1, M1, _, E, hv1, h1, fun y G2 M2 H2 hv2 h2 => ⟨G2, M2, R, hv2, h2, hR⟩, hE⟩, hE⟩) only [↓now_true]
theorem je_op {a b : Expr} {op : Operator} {k : KR2} {ta tb : KE} (ho : KOp X (binaryOp op) k) (ha : JE X W a ta) (hb : JE X W b tb) : JE X W (.BinOp a op b pos) (kBin k ta tb) :=
  pe_mono (pe_op ho.opr ha hb) fun _ _ _ h => bin_sim h
theorem je_cmp {a b : Expr} {op : CmpOp} {k : KR2} {ta tb : KE} (ho : KOp X (compareOp op) k) (ha : JE X W a ta) (hb : JE X W b tb) (hm : behindInMarks op b = false) : JE X W (.Compare a [op] [b] pos) (kBin k ta tb) :=
  pe_mono (pe_cmpR ho.opr ha hb hm) fun _ _ _ h => bin_sim h
/-- a value as a test -/
def asB (R : Bool → Hp → Mem → Prop) : KR := fun v G M => match v with
  | .bl b => R b G M
  | _ => False
def kT (t : KE) : KT := fun σ G M R E => t σ G M (asB R) E
theorem asB_of {R : Bool → Hp → Mem → Prop} {v : V} {G : Hp} {M : Mem} (h : asB R v G M) : ∃ c, v = .bl c ∧ R c G M := by
  cases v <;> first | exact ⟨_, rfl, h⟩ | exact h.elim
theorem t_sim {t : KE} {σ : St} {H : Hp} {Q : Bool → Hp → Prop} (h : upG W (kT t) σ H Q) : tTest (upG W t) σ H Q := by
  refine of_now ?_
  simp (disch := with_unfolding_all
    obtain ⟨G, M, R, E, hv, h, hR, hE⟩ := h
    refine ⟨G, M, _, E, hv, h, fun v G1 M1 H1 hv1 h1 => ?_, hE⟩
    obtain ⟨c, rfl, h2⟩ := asB_of h1
    exact ⟨c, rfl, hR c G1 M1 H1 hv1 h2⟩) only [↓now_true]
theorem jt_cmp {a b : Expr} {op : CmpOp} {k : KR2} {ta tb : KE} (ho : KOp X (compareOp op) k) (ha : JE X W a ta) (hb : JE X W b tb) (hm : behindInMarks op b = false) : JT X W (.Compare a [op] [b] pos) (kT (kBin k ta tb)) :=
  pt_mono (pt_cmpR ho.opr ha hb hm) fun σ H Q h => by
    have h2 := t_sim h
    exact bin_sim h2
theorem jt_val {e : Expr} {t : KE} (h : JE X W e t) (he : ∀ whole, isTrue e X.env whole = (do let v ← whole; standAt e.pos; holding [v] (truthy v)) := by intro _; rfl) : JT X W e (kT t) :=
  pt_mono (pt_val h he) fun σ H Q h => t_sim h
/-- chains -/
def kChain (k k' : KR2) (ta tb tc : KE) : KE := fun σ G M R E => ta σ G M (fun x G M => tb σ G M (fun y G M => k x y G M (asB fun c G M => if c = true then tc σ G M (fun z G M => k' y z G M R) E else R (.bl false) G M)) E) E
theorem chain_sim {ta tb tc : KE} {k k' : KR2} {σ : St} {H : Hp} {Q : VK} (h : upG W (kChain k k' ta tb tc) σ H Q) : tChain (rUp k) (rUp k') (upG W ta) (upG W tb) (upG W tc) σ H Q := by
  refine of_now ?_
  simp (disch := with_unfolding_all
    obtain ⟨G, M, R, E, hv, h, hR, hE⟩ := h
    refine ⟨G, M, _, E, hv, h, fun x G1 M1 H1 hv1 h1 => ⟨G1, M1, _, E, hv1, h1, fun y G2 M2 H2 hv2 h2 => ⟨G2, M2, _, hv2, h2, fun v G3 M3 H3 hv3 h3 => ?_⟩, hE⟩, hE⟩
    obtain ⟨c, rfl, h4⟩ := asB_of h3
    refine ⟨c, rfl, ?_⟩
    cases c with
    | true =>
      rw [if_pos rfl] at h4 ⊢
      exact ⟨G3, M3, _, E, hv3, h4, fun z G4 M4 H4 hv4 h5 => ⟨G4, M4, R, hv4, h5, hR⟩, hE⟩
    | false =>
      rw [if_neg Bool.false_ne_true] at h4 ⊢
      exact hR _ G3 M3 H3 hv3 h4) only [↓now_true]
theorem je_chain {a b c : Expr} {op op' : CmpOp} {k k' : KR2} {ta tb tc : KE} (ho : KOp X (compareOp op) k) (ho' : KOp X (compareOp op') k') (ha : JE X W a ta) (hb : JE X W b tb) (hc : JE X W c tc)
    (hm : lastMarks [op, op'] [b, c] = false := by with_unfolding_all rfl) : JE X W (.Compare a [op, op'] [b, c] pos) (kChain k k' ta tb tc) := pe_mono (pe_chain ho.opr ho'.opr ha hb hc hm) fun _ _ _ h => chain_sim h
theorem jt_chain {a b c : Expr} {op op' : CmpOp} {k k' : KR2} {ta tb tc : KE} (ho : KOp X (compareOp op) k) (ho' : KOp X (compareOp op') k') (ha : JE X W a ta) (hb : JE X W b tb) (hc : JE X W c tc)
    (hm : lastMarks [op, op'] [b, c] = false := by with_unfolding_all rfl) : JT X W (.Compare a [op, op'] [b, c] pos) (kT (kChain k k' ta tb tc)) := pt_mono (pt_chain ho.opr ho'.opr ha hb hc hm) fun _ _ _ h => chain_sim (t_sim h)
/-- and, or, not -/
def kAnd (t u : KT) : KT := fun σ G M R E => t σ G M (fun c G M => if c = true then u σ G M R E else R false G M) E
def kOr (t u : KT) : KT := fun σ G M R E => t σ G M (fun c G M => if c = true then R true G M else u σ G M R E) E
def kNot (t : KT) : KT := fun σ G M R E => t σ G M (fun c G M => R (!c) G M) E
def kAndV (t u : KE) : KE := fun σ G M R E => t σ G M (asB fun c G M => if c = true then u σ G M R E else R (.bl false) G M) E
def kNotV (t : KE) : KE := fun σ G M R E => t σ G M (asB fun c G M => R (.bl (!c)) G M) E
variable {a b : Expr} {rest : List Expr}
theorem jw_and1 {t : KT} (h : JT X W a t) : JW X W (.BoolOp .And [a] pos) t := pw_and1 h
theorem jw_or1 {t : KT} (h : JT X W a t) : JW X W (.BoolOp .Or [a] pos) t := pw_or1 h
theorem jw_and {t u : KT} (ha : JT X W a t) (hb : JW X W (.BoolOp .And (b :: rest) pos) u) : JW X W (.BoolOp .And (a :: b :: rest) pos) (kAnd t u) :=
  pw_mono (pw_and ha hb) fun σ H Q ⟨G, M, R, E, hv, h, hR, hE⟩ => ⟨G, M, _, E, hv, h, fun c G1 M1 H1 hv1 h1 => by
    cases c with
    | true => rw [if_pos rfl] at h1 ⊢; exact ⟨G1, M1, R, E, hv1, h1, hR, hE⟩
    | false => rw [if_neg Bool.false_ne_true] at h1 ⊢; exact hR _ G1 M1 H1 hv1 h1, hE⟩
theorem jw_or {t u : KT} (ha : JT X W a t) (hb : JW X W (.BoolOp .Or (b :: rest) pos) u) : JW X W (.BoolOp .Or (a :: b :: rest) pos) (kOr t u) :=
  pw_mono (pw_or ha hb) fun σ H Q ⟨G, M, R, E, hv, h, hR, hE⟩ => ⟨G, M, _, E, hv, h, fun c G1 M1 H1 hv1 h1 => by
    cases c with
    | true => rw [if_pos rfl] at h1 ⊢; exact hR _ G1 M1 H1 hv1 h1
    | false => rw [if_neg Bool.false_ne_true] at h1 ⊢; exact ⟨G1, M1, R, E, hv1, h1, hR, hE⟩, hE⟩
theorem JW.jt {e : Expr} {t : KT} (h : JW X W e t) : JT X W e t := PW.pt h
theorem jt_not {t : KT} (h : JT X W a t) : JT X W (.UnaryOp .Not a pos) (kNot t) :=
  pt_mono (pt_not h) fun σ H Q ⟨G, M, R, E, hv, h, hR, hE⟩ => ⟨G, M, _, E, hv, h, fun c G1 M1 H1 hv1 h1 => hR _ G1 M1 H1 hv1 h1, hE⟩
theorem je_one {op} {t : KE} (h : JE X W a t) : JE X W (.BoolOp op [a] pos) t := pe_one h
theorem je_and {t u : KE} (ha : JE X W a t) (hb : JE X W (.BoolOp .And (b :: rest) pos) u) : JE X W (.BoolOp .And (a :: b :: rest) pos) (kAndV t u) :=
  pe_mono (pe_and ha hb) fun σ H Q ⟨G, M, R, E, hv, h, hR, hE⟩ => ⟨G, M, _, E, hv, h, fun v G1 M1 H1 hv1 h1 => by
    obtain ⟨c, rfl, h2⟩ := asB_of h1
    refine ⟨c, rfl, ?_⟩
    cases c with
    | true => rw [if_pos rfl] at h2 ⊢; exact ⟨G1, M1, R, E, hv1, h2, hR, hE⟩
    | false => rw [if_neg Bool.false_ne_true] at h2 ⊢; exact hR _ G1 M1 H1 hv1 h2, hE⟩
theorem je_not {t : KE} (h : JE X W a t) : JE X W (.UnaryOp .Not a pos) (kNotV t) :=
  pe_mono (pe_not h) fun σ H Q ⟨G, M, R, E, hv, h, hR, hE⟩ => ⟨G, M, _, E, hv, h, fun v G1 M1 H1 hv1 h1 => by
    obtain ⟨c, rfl, h2⟩ := asB_of h1
    exact ⟨c, rfl, hR _ G1 M1 H1 hv1 h2⟩, hE⟩
/-- a if c else b -/
def kIte (t : KT) (ta tb : KE) : KE := fun σ G M R E => t σ G M (fun c G M => if c = true then ta σ G M R E else tb σ G M R E) E
end
end BT
set_option Elab.async false
set_option linter.all false
set_option maxRecDepth 100000
set_option maxHeartbeats 4000000
namespace BT
open PySem PySem.Spec L2
open PyProof.Rows hiding St
section
variable {X : Cx} {W : WX} {pos : Pos} {a b c e : Expr} {es : List Expr}
theorem je_ite {t : KT} {ta tb : KE} (hc : JT X W c t) (ha : JE X W a ta) (hb : JE X W b tb) : JE X W (.IfExp c a b pos) (kIte t ta tb) :=
  pe_mono (pe_ifExp hc ha hb) fun σ H Q ⟨G, M, R, E, hv, h, hR, hE⟩ => ⟨G, M, _, E, hv, h, fun c G1 M1 H1 hv1 h1 => by
    cases c with
    | true => rw [if_pos rfl] at h1 ⊢; exact ⟨G1, M1, R, E, hv1, h1, hR, hE⟩
    | false => rw [if_neg Bool.false_ne_true] at h1 ⊢; exact ⟨G1, M1, R, E, hv1, h1, hR, hE⟩, hE⟩
/-! ### arguments, displays -/
def kNil : KA := fun _ G M R _ => R [] G M
def kCons (t : KE) (u : KA) : KA := fun σ G M R E => t σ G M (fun x G M => u σ G M (fun xs G M => R (x :: xs) G M) E) E
theorem ja_nil : JA X W [] kNil := pa_mono pa_nil fun σ H Q ⟨G, M, R, E, hv, h, hR, _⟩ => hR _ G M H hv h
theorem ja_cons {t : KE} {u : KA} (ha : JE X W e t) (hr : JA X W es u) (hs : starEach (e :: es) X.env = (false, eval e X.env) :: starEach es X.env := by rfl) : JA X W (e :: es) (kCons t u) :=
  pa_mono (pa_cons ha hr hs) fun σ H Q ⟨G, M, R, E, hv, h, hR, hE⟩ => ⟨G, M, _, E, hv, h, fun x G1 M1 H1 hv1 h1 => ⟨G1, M1, _, E, hv1, h1, fun xs G2 M2 H2 hv2 h2 => hR _ G2 M2 H2 hv2 h2, hE⟩, hE⟩
def kLst (t : KA) : KE := fun σ G M R E => t σ G M (fun xs G M => xs.length ≤ sizeLine ∧ ∀ p, Fr G M p → R (.ref p) G ((p, .lst xs) :: M)) E
def kTup (t : KA) : KE := fun σ G M R E => t σ G M (fun xs G M => xs.length ≤ sizeLine ∧ ∀ p, Fr G M p → R (.ref p) (upd G p (.tup xs)) M) E
theorem je_lst {t : KA} (h : JA X W es t) : JE X W (.List es pos) (kLst t) :=
  pe_mono (pe_lst h) fun σ H Q ⟨G, M, R, E, hv, h, hR, hE⟩ => ⟨G, M, _, E, hv, h, fun xs G1 M1 H1 hv1 h1 => ⟨h1.1, fun p hp => hR _ G1 _ _ (hv1.newM hp) (h1.2 p (hv1.fr hp))⟩, hE⟩
theorem je_tup {t : KA} {k : Nat} (h : JA X W es t) : JE X W (.Tuple es k pos) (kTup t) :=
  pe_mono (pe_tup h) fun σ H Q ⟨G, M, R, E, hv, h, hR, hE⟩ => ⟨G, M, _, E, hv, h, fun xs G1 M1 H1 hv1 h1 => ⟨h1.1, fun p hp => hR _ _ M1 _ (hv1.newG hp) (h1.2 p (hv1.fr hp))⟩, hE⟩
/-! ### operators -/
def kAdd : KR2 := fun x y G M R => match x, y with
  | .int i, .int j => R (.int (i + j)) G M
  | .str i, .str j => i.length + j.length ≤ sizeLine ∧ R (.str (i ++ j)) G M
  | .ref a, .ref b => ∃ xs ys, At G M a (.lst xs) ∧ At G M b (.lst ys) ∧ xs.length + ys.length ≤ sizeLine ∧ ∀ p, Fr G M p → R (.ref p) G ((p, .lst (xs ++ ys)) :: M)
  | _, _ => False
theorem kop_add : KOp X (binaryOp .Add) kAdd := fun pins s σ H x y v u Q G M R I rx ry hv h hR => by
  cases x <;> cases y <;> first
    | exact op_add pins s σ H _ _ v u Q I rx ry ⟨_, _, rfl, rfl, hR _ G M H hv h⟩
    | exact op_add_str pins s σ H _ _ v u Q I rx ry ⟨_, _, rfl, rfl, h.1, hR _ G M H hv h.2⟩
    | (obtain ⟨xs, ys, h1, h2, h3, h4⟩ := h
       exact op_cat pins s σ H _ _ v u Q I rx ry ⟨_, _, xs, ys, rfl, rfl, hv.at h1, hv.at h2, h3, fun p hp => hR _ G _ _ (hv.newM hp) (h4 p (hv.fr hp))⟩)
    | exact h.elim
def kI (C : Int → Int → Prop) (g : Int → Int → V) : KR2 := fun x y G M R => match x, y with
  | .int i, .int j => C i j ∧ R (g i j) G M
  | _, _ => False
def kI0 (g : Int → Int → V) : KR2 := fun x y G M R => match x, y with
  | .int i, .int j => R (g i j) G M
  | _, _ => False
theorem kop_I {f : Value → Value → Sem Value} {C : Int → Int → Prop} {g : Int → Int → V} (h : OpR X f (rI C g)) : KOp X f (kI C g) := kop_of h fun x y G M R H Q hv h hR => by
  cases x <;> cases y <;> first
    | exact ⟨_, _, rfl, rfl, h.1, hR _ G M H hv h.2⟩
    | exact h.elim
theorem kop_I0 {f : Value → Value → Sem Value} {g : Int → Int → V} (h : OpR X f (rI0 g)) : KOp X f (kI0 g) := kop_of h fun x y G M R H Q hv h hR => by
  cases x <;> cases y <;> first
    | exact ⟨_, _, rfl, rfl, hR _ G M H hv h⟩
    | exact h.elim
/-- sizes of products, quotients -/
def MulOk (i j : Int) : Prop := CMul i j ∨ CMulW i j
theorem kop_sub : KOp X (binaryOp .Sub) (kI0 fun i j => .int (i - j)) := kop_I0 op_sub
/-- a product of ints, a list repeated -/
def kMul : KR2 := fun x y G M R => match x, y with
  | .int i, .int j => MulOk i j ∧ R (.int (i * j)) G M
  | .ref a, .int k => ∃ xs, At G M a (.lst xs) ∧ -(2 ^ 63) ≤ k ∧ k < 2 ^ 63 ∧ xs.length * k.toNat ≤ sizeLine ∧ ∀ p, Fr G M p → R (.ref p) G ((p, .lst (List.replicate k.toNat xs).flatten) :: M)
  | _, _ => False
theorem kop_mul : KOp X (binaryOp .Mult) kMul := fun pins s σ H x y v u Q G M R I rx ry hv h hR => by
  cases x <;> cases y <;> first
    | (obtain ⟨hc, h⟩ := h
       rcases hc with hc | hc
       · exact op_mul pins s σ H _ _ v u Q I rx ry ⟨_, _, rfl, rfl, hc, hR _ G M H hv h⟩
       · exact op_mulW pins s σ H _ _ v u Q I rx ry ⟨_, _, rfl, rfl, hc, hR _ G M H hv h⟩)
    | (obtain ⟨xs, h1, h2, h3, h4, h5⟩ := h
       exact op_rep pins s σ H _ _ v u Q I rx ry ⟨_, _, xs, rfl, rfl, hv.at h1, h2, h3, h4, fun p hp => hR _ G _ _ (hv.newM hp) (h5 p (hv.fr hp))⟩)
    | exact h.elim
theorem kop_mod : KOp X (binaryOp .Mod) (kI (fun _ j => 0 < j) fun i j => .int (i % j)) := kop_I op_mod
theorem kop_fdiv : KOp X (binaryOp .FloorDiv) (kI CDivW fun i j => .int (i / j)) := kop_I op_fdivW
theorem kop_pow : KOp X (binaryOp .Pow) (kI CPow fun i j => .int (i ^ j.toNat)) := kop_I op_pow
theorem kop_lt : KOp X (compareOp .Lt) (kI0 fun i j => .bl (decide (i < j))) := kop_I0 op_lt
theorem kop_le : KOp X (compareOp .LtE) (kI0 fun i j => .bl (decide (i ≤ j))) := kop_I0 op_le
theorem kop_gt : KOp X (compareOp .Gt) (kI0 fun i j => .bl (decide (j < i))) := kop_I0 op_gt
/-- equality: of plain values at once, of data by what they hold -/
def kEqv (neg : Bool) (K : PySem.W.Frag) : KR2 := fun x y G M R =>
  match scal x y with
  | true => R (.bl (if neg then !decide (x = y) else decide (x = y))) G M
  | false => ∃ d e, DatAt K G M x d ∧ DatAt K G M y e ∧ SeqAt.shaped d = true ∧ SeqAt.shaped e = true ∧ R (.bl (if neg then !PyData.eqv d e else PyData.eqv d e)) G M
theorem kop_eq (hu : X.A.units + 64 < cLine) : KOp X (compareOp .Eq) (kEqv false X.K) := fun pins s σ H x y v u Q G M R I rx ry hv h hR => by
  unfold kEqv at h
  split at h
  · rename_i e
    exact op_eq pins s σ H _ _ v u Q I rx ry ⟨e, hR _ G M H hv h⟩
  · obtain ⟨d, e, h1, h2, h3, h4, h5⟩ := h
    exact op_eqD hu pins s σ H _ _ v u Q I rx ry ⟨d, e, hv.dat h1, hv.dat h2, h3, h4, hR _ G M H hv h5⟩
theorem kop_ne (hu : X.A.units + 64 < cLine) : KOp X (compareOp .NotEq) (kEqv true X.K) := fun pins s σ H x y v u Q G M R I rx ry hv h hR => by
  unfold kEqv at h
  split at h
  · rename_i e
    exact op_ne pins s σ H _ _ v u Q I rx ry ⟨e, hR _ G M H hv h⟩
  · obtain ⟨d, e, h1, h2, h3, h4, h5⟩ := h
    exact op_neD hu pins s σ H _ _ v u Q I rx ry ⟨d, e, hv.dat h1, hv.dat h2, h3, h4, hR _ G M H hv h5⟩
def kUn (k : V → Hp → Mem → KR → Prop) (t : KE) : KE := fun σ G M R E => t σ G M (fun x G M => k x G M R) E
def kNeg : V → Hp → Mem → KR → Prop := fun x G M R => match x with
  | .int i => R (.int (-i)) G M
  | _ => False
theorem je_neg {t : KE} (h : JE X W a t) : JE X W (.UnaryOp .USub a pos) (kUn kNeg t) :=
  pe_mono (pe_un un_neg h) fun σ H Q ⟨G, M, R, E, hv, h, hR, hE⟩ => ⟨G, M, _, E, hv, h, fun x G1 M1 H1 hv1 h1 => by
    cases x <;> first
      | exact ⟨_, rfl, hR _ G1 M1 H1 hv1 h1⟩
      | exact h1.elim, hE⟩
/-! ### subscripts, slices -/
def kIx (K : PySem.W.Frag) : KR2 := fun x y G M R => match x, y with
  | .ref a, .int i => ∃ xs v, SeqAt' K G M a xs ∧ atI xs i = some v ∧ R v G M
  | .str z, .int i => ∃ c, z.length ≤ sizeLine ∧ atI z.cps.toList i = some c ∧ R (.str ⟨#[c]⟩) G M
  | _, _ => False
theorem ix_k : IxR X (rUp (kIx X.K)) := fun value slice pins s σ H x y v u Q I rx ry ⟨G, M, R, hv, h, hR⟩ hs => by
  cases x <;> cases y <;> first
    | (obtain ⟨xs, w, h1, h2, h3⟩ := h
       rcases h1 with h1 | h1
       · exact ix_list value slice pins s σ H _ _ v u Q I rx ry ⟨_, xs, _, w, rfl, rfl, hv.lst h1, h2, hR _ G M H hv h3⟩ hs
       · exact ix_tup value slice pins s σ H _ _ v u Q I rx ry ⟨_, xs, _, w, rfl, rfl, hv.tup h1, h2, hR _ G M H hv h3⟩ hs)
    | (obtain ⟨c, h1, h2, h3⟩ := h
       exact ix_str value slice pins s σ H _ _ v u Q I rx ry ⟨_, _, c, rfl, rfl, h1, h2, hR _ G M H hv h3⟩ hs)
    | exact h.elim
theorem je_ix {ta tb : KE} (ha : JE X W a ta) (hb : JE X W b tb) (hs : PlainIx b := by exact fun _ _ => rfl) : JE X W (.Subscript a b pos) (kBin (kIx X.K) ta tb) :=
  pe_mono (pe_ix ix_k ha hb hs) fun _ _ _ h => bin_sim h
abbrev KO := KK (Option Int)
def JO (X : Cx) (W : WX) (e : Option Expr) (t : KO) : Prop := PO X e (upG W t)
theorem po_mono {X : Cx} {e : Option Expr} {t t' : TO} (h : PO X e t) (i : ∀ σ H Q, t' σ H Q → t σ H Q) : PO X e t' := ⟨fun pins s σ H Q I q => h.run pins s σ H Q I (i σ H Q q)⟩
def kNoP : KO := fun _ G M R _ => R none G M
def asI (R : Option Int → Hp → Mem → Prop) : KR := fun v G M => match v with
  | .int i => R (some i) G M
  | _ => False
def kPart (t : KE) : KO := fun σ G M R E => t σ G M (asI R) E
theorem jo_none : JO X W none kNoP := po_mono po_none fun σ H Q ⟨G, M, R, E, hv, h, hR, _⟩ => hR _ G M H hv h
theorem jo_some {t : KE} (h : JE X W e t) : JO X W (some e) (kPart t) := po_mono (po_some h) fun σ H Q ⟨G, M, R, E, hv, h, hR, hE⟩ => ⟨G, M, _, E, hv, h, fun v G1 M1 H1 hv1 h1 => by
    cases v <;> first
      | exact ⟨_, rfl, hR _ G1 M1 H1 hv1 h1⟩
      | exact h1.elim, hE⟩
/-- xs[lo:hi] of a list -/
def kSl (K : PySem.W.Frag) (t : KE) (tl th : KO) : KE := fun σ G M R E => t σ G M (fun x G M => tl σ G M (fun l G M => th σ G M (fun u G M => match x with
  | .ref a => ∃ xs, LstAt K G M a xs ∧ ∀ p, Fr G M p → R (.ref p) G ((p, .lst (cutV xs l u)) :: M)
  | _ => False) E) E) E
theorem je_slice {t : KE} {lo hi : Option Expr} {tl th : KO} {p2 : Pos} (he : JE X W e t) (hl : JO X W lo tl) (hu : JO X W hi th) : JE X W (.Subscript e (.Slice lo hi none p2) pos) (kSl X.K t tl th) :=
  pe_mono (pe_slice sl_list he hl hu) fun σ H Q ⟨G, M, R, E, hv, h, hR, hE⟩ => ⟨G, M, _, E, hv, h, fun x G1 M1 H1 hv1 h1 => ⟨G1, M1, _, E, hv1, h1, fun l G2 M2 H2 hv2 h2 => ⟨G2, M2, _, E, hv2, h2, fun u G3 M3 H3 hv3 h3 => by
    cases x <;> first
      | (obtain ⟨xs, q1, q2⟩ := h3
         exact ⟨_, xs, rfl, hv3.lst q1, fun p hp => hR _ G3 _ _ (hv3.newM hp) (q2 p (hv3.fr hp))⟩)
      | exact h3.elim, hE⟩, hE⟩, hE⟩
/-! ### calls of built-ins -/
abbrev KC := List V → Hp → Mem → KR → Prop
def rUpC (k : KC) : List V → Hp → VK → Prop := fun vs H Q => ∃ G M R, Hv G M H ∧ k vs G M R ∧ ∀ v G' M' H', Hv G' M' H' → R v G' M' → Q v H'
def kCB (k : KC) (t : KA) : KE := fun σ G M R E => t σ G M (fun vs G M => k vs G M R) E
def KCall (X : Cx) (f : Value) (k : KC) : Prop := CallR X f (rUpC k)
theorem kcall_of {f : Value} {r : List V → Hp → VK → Prop} {k : KC} (h : CallR X f r)
    (s : ∀ vs G M R H Q, Hv G M H → k vs G M R → (∀ v G' M' H', Hv G' M' H' → R v G' M' → Q v H') → r vs H Q) : KCall X f k :=
  fun pins st σ H xs us Q I rv ⟨G, M, R, hv, hk, hR⟩ => h pins st σ H xs us Q I rv (s xs G M R H Q hv hk hR)
theorem cb_sim {t : KA} {k : KC} {σ : St} {H : Hp} {Q : VK} (h : upG W (kCB k t) σ H Q) : tCB (rUpC k) (upG W t) σ H Q := by
  refine of_now ?_
  simp (disch := with_unfolding_all
    obtain ⟨G, M, R, E, hv, h, hR, hE⟩ := h
    exact ⟨G, M, _, E, hv, h, fun vs G1 M1 H1 hv1 h1 => ⟨G1, M1, R, hv1, h1, hR⟩, hE⟩) only [↓now_true]
variable {x : Str} {p : Pos} {id T : String}
theorem je_callB {k : KC} {t : KA} (hc : KCall X (.builtin id) k) (hm : X.mg x = none) (ha : JA X W (e :: es) t) (hv : bootBuiltins x = some (.builtin id) := by decide +kernel) (hg : Gl X x := by rfl) (hn : x ≠ "__name__" := by decide) (hdb : (x == ("__debug__" : Str)) = false := by decide)
    (he : starEach (e :: es) X.env = (false, eval e X.env) :: starEach es X.env := by rfl) (hpl : (backTo pos (starEach es X.env)).any (·.1) = false := by rfl) : JE X W (.Call (.Name x p) (e :: es) [] pos) (kCB k t) :=
  pe_mono (pe_callB hc hg hm hv ha hn hdb he hpl) fun _ _ _ h => cb_sim h
theorem je_callTy {k : KC} {t : KA} (hc : KCall X (.type T) k) (hm : X.mg x = none) (ha : JA X W (e :: es) t) (hv : bootBuiltins x = some (.type T) := by decide +kernel) (hg : Gl X x := by rfl) (hn : x ≠ "__name__" := by decide) (hdb : (x == ("__debug__" : Str)) = false := by decide)
    (he : starEach (e :: es) X.env = (false, eval e X.env) :: starEach es X.env := by rfl) (hpl : (backTo pos (starEach es X.env)).any (·.1) = false := by rfl) : JE X W (.Call (.Name x p) (e :: es) [] pos) (kCB k t) :=
  pe_mono (pe_callTy hc hg hm hv ha hn hdb he hpl) fun _ _ _ h => cb_sim h
/-- a built-in type's name as a value -/
theorem je_ty {T : String} {x : Str} {pos : Pos} (hm : X.mg x = none) (hv : bootBuiltins x = some (.type T) := by decide +kernel) (hg : Gl X x := by rfl) (hn : x ≠ "__name__" := by decide) (hd : (x == ("__debug__" : Str)) = false := by decide) : JE X W (.Name x pos) (kC (.ty T)) :=
  je_c (pe_bltn hg hm hv rfl hn hd)
/-- a module's constant -/
theorem je_glob {x : Str} {v : V} {u : Value} {pos : Pos} (hm : X.mg x = some u) (r : RelV v u) (hg : Gl X x := by rfl) (hd : (x == ("__debug__" : Str)) = false := by decide) : JE X W (.Name x pos) (kC v) := je_c (pe_glob hg hm r hd)
def kLen (K : PySem.W.Frag) : KC := fun vs G M R => match vs with
  | [.ref a] => ∃ xs, SeqAt' K G M a xs ∧ R (.int xs.length) G M
  | _ => False
theorem kc_len : KCall X (.builtin "len") (kLen X.K) := kcall_of call_len_seq fun vs G M R H Q hv h hR => by
  match vs, h with
  | [.ref a], ⟨xs, h1, h2⟩ => exact ⟨a, xs, rfl, h1.elim (fun q => .inl (hv.lst q)) (fun q => .inr (hv.tup q)), hR _ G M H hv h2⟩
def kList (K : PySem.W.Frag) : KC := fun vs G M R => match vs with
  | [.ref a] => ∃ xs, SeqAt' K G M a xs ∧ ∀ p, Fr G M p → R (.ref p) G ((p, .lst xs) :: M)
  | _ => False
theorem kc_list : KCall X (.type "list") (kList X.K) := kcall_of call_list_of fun vs G M R H Q hv h hR => by
  match vs, h with
  | [.ref a], ⟨xs, h1, h2⟩ => exact ⟨a, xs, rfl, h1.elim (fun q => .inl (hv.lst q)) (fun q => .inr (hv.tup q)), fun p hp => hR _ G _ _ (hv.newM hp) (h2 p (hv.fr hp))⟩
def kMin2 : KC := fun vs G M R => match vs with
  | [.int i, .int j] => R (.int (min i j)) G M
  | _ => False
def kMax2 : KC := fun vs G M R => match vs with
  | [.int i, .int j] => R (.int (max i j)) G M
  | _ => False
theorem kc_min2 (hc : X.calm = true := by rfl) : KCall X (.builtin "min") kMin2 := kcall_of (call_min2 hc) fun vs G M R H Q hv h hR => by
  match vs, h with
  | [.int i, .int j], h =>
    refine ⟨i, j, rfl, ?_⟩
    have e : (if j < i then j else i) = min i j := by split <;> omega
    rw [e]
    exact hR _ G M H hv h
theorem kc_max2 (hc : X.calm = true := by rfl) : KCall X (.builtin "max") kMax2 := kcall_of (call_max2 hc) fun vs G M R H Q hv h hR => by
  match vs, h with
  | [.int i, .int j], h =>
    refine ⟨i, j, rfl, ?_⟩
    have e : (if j > i then j else i) = max i j := by split <;> omega
    rw [e]
    exact hR _ G M H hv h
def kInt : KC := fun vs G M R => match vs with
  | [.int i] => R (.int i) G M
  | [.bl k] => R (.int (if k then 1 else 0)) G M
  | _ => False
theorem kc_int : KCall X (.type "int") kInt := kcall_of call_int1 fun vs G M R H Q hv h hR => by
  match vs, h with
  | [.int i], h => exact .inl ⟨i, rfl, hR _ G M H hv h⟩
  | [.bl i], h => exact .inr ⟨i, rfl, hR _ G M H hv h⟩
def kAll (K : PySem.W.Frag) : KC := fun vs G M R => match vs with
  | [.ref a] => ∃ bs : List Bool, LstAt K G M a (bs.map V.bl) ∧ R (.bl (bs.all _root_.id)) G M
  | _ => False
theorem kc_all (hc : X.calm = true := by rfl) : KCall X (.builtin "all") (kAll X.K) := kcall_of (cr_all hc) fun vs G M R H Q hv h hR => by
  match vs, h with
  | [.ref a], ⟨ns, h1, h2⟩ => exact ⟨a, ns, rfl, hv.lst h1, hR _ G M H hv h2⟩
/-- isinstance(x, c) -/
def kIsi (K : PySem.W.Frag) : KC := fun vs G M R => match vs with
  | [x, c] => ∃ (t u : Value) (b : Bool), ClsV c u ∧ (∀ H, Hv G M H → TyX K H x t) ∧ PySem.W.kitOne K t u = some b ∧ R (.bl b) G M
  | _ => False
theorem kc_isi : KCall X (.builtin "isinstance") (kIsi X.K) := kcall_of call_isi fun vs G M R H Q hv h hR => by
  match vs, h with
  | [x, c], ⟨t, u, b, h1, h2, h3, h4⟩ => exact ⟨x, c, t, u, b, rfl, h1, h2 H hv, h3, hR _ G M H hv h4⟩
/-! ### methods of built-in types -/
abbrev KM := V → List V → Hp → Mem → KR → Prop
def rUpM (k : KM) : V → List V → Hp → VK → Prop := fun x vs H Q => ∃ G M R, Hv G M H ∧ k x vs G M R ∧ ∀ v G' M' H', Hv G' M' H' → R v G' M' → Q v H'
def KMt (X : Cx) (id : String) (k : KM) : Prop := MtR X id (rUpM k)
theorem kmt_of {r : V → List V → Hp → VK → Prop} {k : KM} (h : MtR X id r)
    (s : ∀ x vs G M R H Q, Hv G M H → k x vs G M R → (∀ v G' M' H', Hv G' M' H' → R v G' M' → Q v H') → r x vs H Q) : KMt X id k :=
  fun pins st σ H x xs v us Q I rx rv ⟨G, M, R, hv, hk, hR⟩ => h pins st σ H x xs v us Q I rx rv (s x xs G M R H Q hv hk hR)
def kBM (K : PySem.W.Frag) (T : String) (k : KM) (to : KE) (t : KA) : KE := fun σ G M R E => to σ G M (fun x G M => (∀ H, Hv G M H → tyV K T x H) ∧ t σ G M (fun vs G M => k x vs G M R) E) E
variable {o : Expr} {name : Str} {apos cpos : Pos}
theorem je_bm {k : KM} {to : KE} {t : KA} (pa : PlainAttrs T) (slot : Slot T name id) (hty : typeOf (.builtin id) = pure (.type "method_descriptor")) (hm : KMt X id k) (ho : JE X W o to) (ha : JA X W (e :: es) t)
    (hbase : attributeBase o name X.env (eval o X.env) = eval o X.env := by rfl)
    (hfew : ((backTo cpos (starEach (e :: es) X.env)).all (fun x => !x.1) && (backToKw cpos (keywordEach [] X.env)).all (fun x => x.1.isSome)
      && decide ((e :: es).length + ([] : List Keyword).length + (if ([] : List Keyword).isEmpty then 0 else 1) < 30)) = true := by rfl)
    (hline : (apos.endLine == cpos.line) = true := by rfl) (hs : starEach (e :: es) X.env = (false, eval e X.env) :: starEach es X.env := by rfl) (hplain : (backTo cpos (starEach es X.env)).any (·.1) = false := by rfl) :
    JE X W (.Call (.Attribute o name apos) (e :: es) [] cpos) (kBM X.K T k to t) :=
  pe_mono (pe_bm pa slot hty hm ho ha hbase hfew hline hs hplain) fun σ H Q ⟨G, M, R, E, hv, h, hR, hE⟩ => ⟨G, M, _, E, hv, h, fun x G1 M1 H1 hv1 h1 => ⟨h1.1 H1 hv1, G1, M1, _, E, hv1, h1.2, fun vs G2 M2 H2 hv2 h2 => ⟨G2, M2, R, hv2, h2, hR⟩, hE⟩, hE⟩
def kAppend : KM := fun x vs G M R => match x, vs with
  | .ref a, [y] => ∃ n xs, M[n]? = some (a, .lst xs) ∧ xs.length < sizeLine ∧ R .non G (M.set n (a, .lst (xs ++ [y])))
  | _, _ => False
theorem km_append : KMt X "list.append" kAppend := kmt_of mt_append fun x vs G M R H Q hv h hR => by
  match x, vs, h with
  | .ref a, [y], ⟨n, xs, h1, h2, h3⟩ => exact ⟨a, xs, y, rfl, rfl, hv.get h1, h2, hR _ G _ _ (hv.set h1) h3⟩
end
/-! ### defs -/
abbrev KSp := List V → Hp → Mem → KR → KX → Prop
def lift (S : KSp) : Sp := fun vs H Q E => ∃ G M R X, Hv G M H ∧ S vs G M R X ∧ (∀ v G' M' H', Hv G' M' H' → R v G' M' → Q v H') ∧ (∀ c d G' M' H', Hv G' M' H' → X c d G' M' → E c d H')
def kCall (S : KSp) (t : KA) : KE := fun σ G M R E => t σ G M (fun vs G M => S vs G M R E) E
section
variable {X : Cx} {W : WX} {pos p : Pos} {e : Expr} {es : List Expr} {x : Str} {k : Nat} {f : Addr} {fd : FuncData} {ps : List Str} {S : KSp} {t : KA}
theorem je_call (F : FnOk X.prog X.w X.K X.mg X.base (L2.CX X.prog X.w) k f fd ps (lift S)) (hr : Room k X.A) (tk : Takes X W) (hm : X.mg x = some (.ref f)) (hk : PySem.W.keepIn X.K (.ref f) = true) (hb : Binds X.K fd ps []) (ha : JA X W (e :: es) t) (hg : Gl X x := by rfl)
    (hdb : (x == ("__debug__" : Str)) = false := by decide) (he : starEach (e :: es) X.env = (false, eval e X.env) :: starEach es X.env := by rfl) (hpl : (backTo pos (starEach es X.env)).any (·.1) = false := by rfl) :
    JE X W (.Call (.Name x p) (e :: es) [] pos) (kCall S t) :=
  pe_mono (pe_callS F hr hg hm hk hb (passAt tk) ha hdb he hpl) fun σ H Q ⟨G, M, R, E, hv, h, hR, hE⟩ =>
    ⟨G, M, _, E, hv, h, fun vs G1 M1 H1 hv1 h1 => ⟨G1, M1, R, E, hv1, h1, hR, hE⟩, hE⟩
end
end BT
set_option Elab.async false
set_option linter.all false
set_option maxRecDepth 100000
set_option maxHeartbeats 4000000
namespace BT
open PySem PySem.Spec L2
open PyProof.Rows hiding St
/-! ### statements -/
structure Kd where
  nx : St → Hp → Mem → Prop
  rt : KR
  bk : St → Hp → Mem → Prop := fun _ _ _ => False
  ct : St → Hp → Mem → Prop := fun _ _ _ => False
  xc : Value → Option Addr → St → Hp → Mem → Prop := fun _ _ _ _ _ => False
abbrev KS := Kd → St → Hp → Mem → Prop
structure EndsTo (W : WX) (d : Kd) (D : Ends) : Prop where
  nx : ∀ σ G M H, Hv G M H → d.nx σ G M → D.nx σ H
  rt : ∀ v G M H, Hv G M H → d.rt v G M → D.rt v H
  bk : ∀ σ G M H, Hv G M H → d.bk σ G M → D.bk σ H
  ct : ∀ σ G M H, Hv G M H → d.ct σ G M → D.ct σ H
  xc : ∀ c a σ G M H, Hv G M H → d.xc c a σ G M → W c a σ H
def upS (W : WX) (t : KS) : TS := fun D σ H => ∃ G M d, Hv G M H ∧ t d σ G M ∧ EndsTo W d D
def JS (X : Cx) (W : WX) (s : Stmt) (t : KS) : Prop := PS X s (upS W t)
def JSs (X : Cx) (W : WX) (s : List Stmt) (t : KS) : Prop := PSs X s (upS W t)
theorem ps_mono {X : Cx} {s : Stmt} {t t' : TS} (h : PS X s t) (i : ∀ D σ H, t' D σ H → t D σ H) : PS X s t' := ⟨fun pins st σ H D I q => h.run pins st σ H D I (i D σ H q)⟩
theorem pss_mono {X : Cx} {s : List Stmt} {t t' : TS} (h : PSs X s t) (i : ∀ D σ H, t' D σ H → t D σ H) : PSs X s t' := ⟨fun pins st σ H D I q => h.run pins st σ H D I (i D σ H q)⟩
def Kd.x (d : Kd) (σ : St) : KX := fun c a G M => d.xc c a σ G M
section
variable {X : Cx} {W : WX} {pos : Pos} {s : Stmt} {ss : List Stmt} {e : Expr} {t u : KS}
def kNext : KS := fun D σ G M => D.nx σ G M
def kSeq (t u : KS) : KS := fun D σ G M => ∃ G' M', Wk G M G' M' ∧ t { D with nx := u D } σ G' M'
theorem jss_nil : JSs X W [] kNext := pss_mono pss_nil fun D σ H ⟨G, M, d, hv, h, en⟩ => en.nx σ G M H hv h
theorem jss_cons (h1 : JS X W s t) (h2 : JSs X W ss u) : JSs X W (s :: ss) (kSeq t u) := pss_mono (pss_cons h1 h2) fun D σ H ⟨G, M, d, hv, ⟨G', M', wk, h⟩, en⟩ =>
  ⟨G', M', _, wk H hv, h, ⟨fun σ' G2 M2 H2 hv2 q => ⟨G2, M2, d, hv2, q, en⟩, en.rt, en.bk, en.ct, en.xc⟩⟩
def kSet (i : Nat) (t : KE) : KS := fun D σ G M => t σ G M (fun v G M => D.nx (σ.set i (some v)) G M) (D.x σ)
theorem js_set {i : Nat} {x : Str} {t : KE} {pos' : Pos} (he : JE X W e t) (hN : X.N.Nodup) (hi : X.N[i]? = some x := by rfl) (hx : Loc X.env.scope x := by first | exact Or.inl rfl | exact Or.inr rfl)
    (hs : swapsWith e (some (.Name x pos')) pos.line X.env = pure false := by rfl) (hf : X.fn x = true ∨ X.env.scope.names.lookup x = some .local := by first | exact .inl rfl | exact .inr rfl | assumption) :
    JS X W (.Assign [.Name x pos'] e pos) (kSet i t) := ps_mono (ps_set hN hi hx he hs hf) fun D σ H ⟨G, M, d, hv, h, en⟩ =>
  ⟨G, M, _, _, hv, h, fun v G' M' H' hv' q => en.nx _ G' M' H' hv' q, fun c a G' M' H' hv' q => en.xc c a σ G' M' H' hv' q⟩
def kExpr (t : KE) : KS := fun D σ G M => t σ G M (fun _ G M => D.nx σ G M) (D.x σ)
theorem js_expr {t : KE} (he : JE X W e t) (hs : swapsWith e none pos.line X.env = pure false := by rfl) : JS X W (.Expr e pos) (kExpr t) := ps_mono (ps_expr he hs) fun D σ H ⟨G, M, d, hv, h, en⟩ =>
  ⟨G, M, _, _, hv, h, fun v G' M' H' hv' q => en.nx _ G' M' H' hv' q, fun c a G' M' H' hv' q => en.xc c a σ G' M' H' hv' q⟩
def kRet (t : KE) : KS := fun D σ G M => t σ G M D.rt (D.x σ)
theorem js_ret {t : KE} (he : JE X W e t) : JS X W (.Return (some e) pos) (kRet t) := ps_mono (ps_ret he) fun D σ H ⟨G, M, d, hv, h, en⟩ =>
  ⟨G, M, _, _, hv, h, fun v G' M' H' hv' q => en.rt _ G' M' H' hv' q, fun c a G' M' H' hv' q => en.xc c a σ G' M' H' hv' q⟩
def kIf (c : KT) (t u : KS) : KS := fun D σ G M => c σ G M (fun b G M => if b = true then t D σ G M else u D σ G M) (D.x σ)
theorem js_if {c : Expr} {a b : List Stmt} {tc : KT} (hc : JT X W c tc) (ha : JSs X W a t) (hb : JSs X W b u) : JS X W (.If c a b pos) (kIf tc t u) := ps_mono (ps_if hc ha hb) fun D σ H ⟨G, M, d, hv, h, en⟩ =>
  ⟨G, M, _, _, hv, h, fun v G' M' H' hv' q => by
    cases v with
    | true => rw [if_pos rfl] at q ⊢; exact ⟨G', M', d, hv', q, en⟩
    | false => rw [if_neg Bool.false_ne_true] at q ⊢; exact ⟨G', M', d, hv', q, en⟩, fun c a G' M' H' hv' q => en.xc c a σ G' M' H' hv' q⟩
/-! ### targets -/
structure KG where
  val : V → St → Hp → Mem → (St → Hp → Mem → Prop) → Prop
  tup : List V → St → Hp → Mem → (St → Hp → Mem → Prop) → Prop
structure JG (X : Cx) (tg : Expr) (g : KG) (gr : TG) : Prop where
  pg : PG X tg gr
  val : ∀ v σ G M R H Q, Hv G M H → g.val v σ G M R → (∀ σ' G' M' H', Hv G' M' H' → R σ' G' M' → Q σ' H') → gr v σ H Q
  tup : ∀ T vs σ G M R H Q, Hv G M H → H T = none → g.tup vs σ G M R → (∀ σ' G' M' H', Hv G' M' H' → R σ' G' M' → Q σ' H') → gr (.ref T) σ (upd H T (.tup vs)) Q
def kgName (i : Nat) : KG := ⟨fun v σ G M R => R (σ.set i (some v)) G M, fun vs σ G M R => ∀ T, Fr G M T → R (σ.set i (some (.ref T))) (upd G T (.tup vs)) M⟩
theorem jg_name {i : Nat} {x : Str} (hN : X.N.Nodup) (hi : X.N[i]? = some x := by rfl) (hx : Loc X.env.scope x := by first | exact Or.inl rfl | exact Or.inr rfl) (hf : X.fn x = true ∨ X.env.scope.names.lookup x = some .local := by first | exact .inl rfl | exact .inr rfl | assumption) : JG X (.Name x pos) (kgName i) (gName i) :=
  ⟨pg_name hN hi hx hf, fun v σ G M R H Q hv h hR => hR _ G M H hv h, fun T vs σ G M R H Q hv hT h hR => hR _ _ M _ (hv.newG hT) (h T (hv.fr hT))⟩
/-- several targets at once -/
abbrev KGs := List V → St → Hp → Mem → (St → Hp → Mem → Prop) → Prop
def kgsNil : KGs := fun vs σ G M R => match vs with
  | [] => R σ G M
  | _ => False
def kgsCons (g : KG) (r : KGs) : KGs := fun vs σ G M R => match vs with
  | v :: vs => g.val v σ G M (fun σ G M => r vs σ G M R)
  | [] => False
structure JGs (X : Cx) (ts : List Expr) (g : KGs) (gr : TGs) : Prop where
  pgs : PGs X ts gr
  sim : ∀ vs σ G M R H Q, Hv G M H → g vs σ G M R → (∀ σ' G' M' H', Hv G' M' H' → R σ' G' M' → Q σ' H') → gr vs σ H Q
theorem jgs_nil : JGs X [] kgsNil gNil := ⟨pgs_nil, fun vs σ G M R H Q hv h hR => by
  match vs, h with
  | [], h => exact ⟨rfl, hR _ G M H hv h⟩⟩
theorem jgs_cons {tg : Expr} {ts : List Expr} {g : KG} {r : KGs} {gr : TG} {gs : TGs} (h1 : JG X tg g gr) (hr : JGs X ts r gs)
    (hs : (assignEach (tg :: ts) X.env).map (·.2) = assign tg X.env :: (assignEach ts X.env).map (·.2) := by rfl) : JGs X (tg :: ts) (kgsCons g r) (gCons gr gs) :=
  ⟨pgs_cons h1.pg hr.pgs hs, fun vs σ G M R H Q hv h hR => by
    match vs, h with
    | v :: vs, h => exact ⟨v, vs, rfl, h1.val v σ G M _ H _ hv h fun σ' G' M' H' hv' q => hr.sim vs σ' G' M' R H' Q hv' q hR⟩⟩
def onLen (n : Nat) (g : KGs) : KGs := fun vs σ G M R => match vs.length == n with
  | true => g vs σ G M R
  | false => False
theorem onLen_of {n : Nat} {g : KGs} {vs : List V} {σ : St} {G : Hp} {M : Mem} {R : St → Hp → Mem → Prop} (h : onLen n g vs σ G M R) : vs.length = n ∧ g vs σ G M R := by
  refine of_now ?_
  simp (disch := with_unfolding_all
    unfold onLen at h
    split at h
    · rename_i e; exact ⟨beq_iff_eq.mp e, h⟩
    · exact h.elim) only [↓now_true]
def kgTup (K : PySem.W.Frag) (n : Nat) (g : KGs) : KG := ⟨fun v σ G M R => match v with
    | .ref a => ∃ xs, SqT K G a xs ∧ onLen n g xs σ G M R
    | _ => False, onLen n g⟩
theorem jg_tup {K : PySem.W.Frag} {ts : List Expr} {g : KGs} {gs : TGs} {n k : Nat} (hc : X.calm = true) (h : JGs X ts g gs) (hK : X.K = K := by rfl) (hn : (assignEach ts X.env).length = n := by rfl) (hst : (assignEach ts X.env).findIdx? (·.1) = none := by rfl) :
    JG X (.Tuple ts k pos) (kgTup K n g) (gTup K n gs) := by
  refine of_now ?_
  simp (disch := with_unfolding_all
    subst hK
    exact ⟨pg_tup hc h.pgs hn hst, fun v σ G M R H Q hv q hR => by
      match v, q with
      | .ref a, ⟨xs, q1, q2⟩ =>
        obtain ⟨e, q3⟩ := onLen_of q2
        exact ⟨a, xs, rfl, hv.tup q1, e, h.sim xs σ G M R H Q hv q3 hR⟩,
     fun T vs σ G M R H Q hv hT q hR => by
      obtain ⟨e, q3⟩ := onLen_of q
      exact ⟨T, vs, rfl, .inl (.inl upd_same), e, h.sim vs σ G M R _ Q (hv.junk hT) q3 hR⟩⟩) only [↓now_true]
/-- nothing is raised -/
def W0 : WX := fun _ _ _ _ => False
/-- a place of a list as a target -/
def setL (o i v : V) (G : Hp) (M : Mem) (R : Hp → Mem → Prop) : Prop := match o, i with
  | .ref a, .int k => ∃ n xs j, M[n]? = some (a, .lst xs) ∧ ixN xs.length k = some j ∧ R G (M.set n (a, .lst (xs.set j v)))
  | _, _ => False
def kgIx (to ti : KE) : KG := ⟨fun v σ G M R => to σ G M (fun o G M => ti σ G M (fun i G M => setL o i v G M (fun G M => R σ G M)) (fun _ _ _ _ => False)) (fun _ _ _ _ => False), fun _ _ _ _ _ => False⟩
theorem jg_ix {o i : Expr} {to ti : KE} (ho : JE X W0 o to) (hi : JE X W0 i ti)
    (ha : ∀ v, assign (.Subscript o i pos) X.env v = (do
      let ov ← holding [v] (eval o X.env)
      let iv ← holding [v, ov] (eval i X.env)
      standAt pos
      holding [v, ov, iv] (setItem ov iv v)
      release [v, ov, iv] []) := by intro _; rfl) : JG X (.Subscript o i pos) (kgIx to ti) (gSub (upG W0 to) (upG W0 ti) rSetL) :=
  ⟨pg_sub ho hi set_list ha, fun v σ G M R H Q hv q hR => ⟨G, M, _, _, hv, q, fun ov G2 M2 H2 hv2 q2 => ⟨G2, M2, _, _, hv2, q2, fun iv G3 M3 H3 hv3 q3 => by
    match ov, iv, q3 with
    | .ref a, .int k, ⟨n, xs, j, e1, e2, q⟩ => exact ⟨a, xs, k, j, rfl, rfl, hv3.get e1, e2, hR σ G3 _ _ (hv3.set e1) q⟩, fun _ _ _ _ _ _ z => z.elim⟩, fun _ _ _ _ _ _ z => z.elim⟩,
   fun _ _ _ _ _ _ _ _ _ _ z => z.elim⟩
/-- a target of an assignment -/
def kAsg (t : KE) (g : KG) : KS := fun D σ G M => t σ G M (fun v G M => g.val v σ G M D.nx) (D.x σ)
theorem js_asg {tg : Expr} {t : KE} {g : KG} {gr : TG} (he : JE X W e t) (hg : JG X tg g gr) (hs : swapsWithSole [tg] e pos.line X.env = pure false := by rfl) (hw : swappedStores [tg] e X.env = pure none := by rfl)
    (h1 : (assignEach [tg] X.env).map (·.2) = [assign tg X.env] := by rfl) : JS X W (.Assign [tg] e pos) (kAsg t g) := ps_mono (ps_asg he hg.pg hs hw h1) fun D σ H ⟨G, M, d, hv, h, en⟩ =>
  ⟨G, M, _, _, hv, h, fun v G' M' H' hv' q => hg.val v σ G' M' _ H' _ hv' q fun σ' G2 M2 H2 hv2 q2 => en.nx _ G2 M2 H2 hv2 q2, fun c a G' M' H' hv' q => en.xc c a σ G' M' H' hv' q⟩
end
end BT
set_option Elab.async false
set_option linter.all false
set_option maxRecDepth 100000
set_option maxHeartbeats 4000000
namespace BT
open PySem PySem.Spec L2
open PyProof.Rows hiding St
/-! ### what is walked -/
structure Src where
  n : Nat
  get : Nat → V ⊕ List V
  ok : Hp → Mem → Prop
abbrev KI := KK Src
/-- an iterator that gives what the source says -/
structure Goes (src : Src) (J : It) : Prop where
  go : ∀ i G M H, Hv G M H → src.ok G M → i < src.n → J.go i H
  stop : ∀ i G M H, Hv G M H → src.ok G M → src.n ≤ i → J.stop i H
  yld : ∀ i G M H x H', Hv G M H → src.ok G M → i < src.n → J.yld i H x H' → match src.get i with
    | .inl v => x = v ∧ H' = H
    | .inr vs => ∃ T, x = .ref T ∧ H T = none ∧ H' = upd H T (.tup vs)
def upI (W : WX) (t : KI) : TI := fun σ H Q => ∃ G M R E, Hv G M H ∧ t σ G M R E ∧ (∀ src G' M' H', Hv G' M' H' → R src G' M' → ∀ J, Goes src J → Q J H') ∧ (∀ c d G' M' H', Hv G' M' H' → E c d G' M' → W c d σ H')
def JI (X : Cx) (W : WX) (tg it : Expr) (t : KI) : Prop := PI X tg it (upI W t)
theorem pi_mono {X : Cx} {tg it : Expr} {t t' : TI} (h : PI X tg it t) (i : ∀ σ H Q, t' σ H Q → t σ H Q) : PI X tg it t' := ⟨fun pins s σ H Q I q => h.run pins s σ H Q I (i σ H Q q)⟩
def srcL (K : PySem.W.Frag) (a : Addr) (xs : List V) : Src := ⟨xs.length, fun i => .inl (xs.getD i .non), fun G M => LstAt K G M a xs⟩
def srcR (lo : Int) (n : Nat) : Src := ⟨n, fun i => .inl (.int (lo + i)), fun _ _ => True⟩
def srcZ (K : PySem.W.Frag) (a b : Addr) (xs ys : List V) : Src := ⟨min xs.length ys.length, fun i => .inr [xs.getD i .non, ys.getD i .non], fun G M => LstAt K G M a xs ∧ LstAt K G M b ys⟩
theorem getD_of {xs : List V} {i : Nat} {x : V} (h : xs[i]? = some x) : xs.getD i .non = x := by
  rw [List.getD_eq_getElem?_getD, h]; rfl
theorem get_lt {xs : List V} {i : Nat} (h : i < xs.length) : xs[i]? = some (xs.getD i .non) := by
  rw [List.getD_eq_getElem?_getD, List.getElem?_eq_getElem h]; rfl
theorem goes_L {K : PySem.W.Frag} {a : Addr} {xs : List V} : Goes (srcL K a xs) (Itl K a) where
  go := fun i G M H hv ok hi => ⟨xs, _, hv.lst ok, get_lt hi⟩
  stop := fun i G M H hv ok hi => ⟨xs, hv.lst ok, hi⟩
  yld := fun i G M H x H' hv ok hi y => ⟨(getD_of (y.2 xs (hv.lst ok))).symm, y.1⟩
theorem goes_R {lo : Int} {n : Nat} : Goes (srcR lo n) (Itr lo n) where
  go := fun i G M H hv ok hi => hi
  stop := fun i G M H hv ok hi => hi
  yld := fun i G M H x H' hv ok hi y => ⟨y.2, y.1⟩
theorem goes_Z {K : PySem.W.Frag} {a b : Addr} {xs ys : List V} : Goes (srcZ K a b xs ys) (Itz K a b) where
  go := fun i G M H hv ok hi => ⟨xs, ys, _, _, hv.lst ok.1, hv.lst ok.2, get_lt (Nat.lt_of_lt_of_le hi (Nat.min_le_left _ _)), get_lt (Nat.lt_of_lt_of_le hi (Nat.min_le_right _ _))⟩
  stop := fun i G M H hv ok hi => ⟨xs, ys, hv.lst ok.1, hv.lst ok.2, by
    have hi : min xs.length ys.length ≤ i := hi
    omega⟩
  yld := fun i G M H x H' hv ok hi y => by
    obtain ⟨T, z, w, e1, e2, e3, e4, e5⟩ := y
    have e6 := getD_of (e4 xs (hv.lst ok.1))
    have e7 := getD_of (e5 ys (hv.lst ok.2))
    exact ⟨T, e1, e2, by rw [e3, ← e6, ← e7]⟩
section
variable {X : Cx} {W : WX} {pos p tpos : Pos} {e e2 a b c : Expr} {es : List Expr} {tg : Expr}
def kiSeq (K : PySem.W.Frag) (t : KE) : KI := fun σ G M R E => t σ G M (fun x G M => match x with
  | .ref a => ∃ xs, LstAt K G M a xs ∧ R (srcL K a xs) G M
  | _ => False) E
theorem ji_list {t : KE} (h : JE X W e t) : JI X W tg e (kiSeq X.K t) := pi_mono (pi_list h) fun σ H Q ⟨G, M, R, E, hv, h, hR, hE⟩ => ⟨G, M, _, E, hv, h, fun x G1 M1 H1 hv1 q => by
    match x, q with
    | .ref a, ⟨xs, q1, q2⟩ => exact ⟨a, rfl, ⟨xs, hv1.lst q1⟩, hR _ G1 M1 H1 hv1 q2 _ goes_L⟩, hE⟩
/-- range(n), range(a, b), range(a, b, c) -/
def kiR1 (t : KA) : KI := fun σ G M R E => t σ G M (fun vs G M => match vs with
  | [.int j] => (-(2 ^ 62) ≤ j ∧ j < 2 ^ 62) ∧ R (srcR 0 j.toNat) G M
  | _ => False) E
theorem ji_range1 {t : KA} (hm : X.mg "range" = none) (ha : JA X W [a] t) (hg : Gl X "range" := by rfl) (hs : starEach [a] X.env = [(false, eval a X.env)] := by rfl) : JI X W tg (.Call (.Name "range" p) [a] [] pos) (kiR1 t) :=
  pi_mono (pi_range1 hg hm ha hs) fun σ H Q ⟨G, M, R, E, hv, h, hR, hE⟩ => ⟨G, M, _, E, hv, h, fun vs G1 M1 H1 hv1 q => by
    match vs, q with
    | [.int j], ⟨⟨q1, q2⟩, q3⟩ => exact ⟨j, rfl, q1, q2, hR _ G1 M1 H1 hv1 q3 _ goes_R⟩, hE⟩
def kiZip (K : PySem.W.Frag) (t : KA) : KI := fun σ G M R E => t σ G M (fun vs G M => match vs with
  | [.ref a, .ref b] => ∃ xs ys, LstAt K G M a xs ∧ LstAt K G M b ys ∧ R (srcZ K a b xs ys) G M
  | _ => False) E
variable {elts : List Expr} {kk : Nat}
theorem ji_zip {t : KA} (hm : X.mg "zip" = none) (ha : JA X W [e, e2] t) (hg : Gl X "zip" := by rfl) (hs : starEach [e, e2] X.env = (false, eval e X.env) :: starEach [e2] X.env := by rfl) (hpl : (backTo pos (starEach [e2] X.env)).any (·.1) = false := by rfl) :
    JI X W (.Tuple elts kk tpos) (.Call (.Name "zip" p) [e, e2] [] pos) (kiZip X.K t) :=
  pi_mono (pi_zip hg hm ha hs hpl) fun σ H Q ⟨G, M, R, E, hv, h, hR, hE⟩ => ⟨G, M, _, E, hv, h, fun vs G1 M1 H1 hv1 q => by
    match vs, q with
    | [.ref a, .ref b], ⟨xs, ys, q1, q2, q3⟩ => exact ⟨a, b, xs, ys, rfl, hv1.lst q1, hv1.lst q2, hR _ G1 M1 H1 hv1 q3 _ goes_Z⟩, hE⟩
/-! ### for -/
def asg (g : KG) (w : V ⊕ List V) : St → Hp → Mem → (St → Hp → Mem → Prop) → Prop := match w with
  | .inl v => g.val v
  | .inr vs => g.tup vs
def wk1 (Pv : St → Hp → Mem → Prop) : St → Hp → Mem → Prop := fun σ G M => ∃ G' M', Wk G M G' M' ∧ Pv σ G' M'
def kFor (ti : KI) (g : KG) (tb : KS) : KS := fun D σ G M => ti σ G M (fun src G M => ∃ Pv : Nat → St → Hp → Mem → Prop, Pv 0 σ G M ∧ (∀ i σ G M, i ≤ src.n → Pv i σ G M → src.ok G M) ∧
  (∀ i σ G M, i < src.n → Pv i σ G M → asg g (src.get i) σ G M (fun σ G M => tb { D with nx := wk1 (Pv (i + 1)), ct := wk1 (Pv (i + 1)), bk := D.nx } σ G M)) ∧ (∀ σ G M, Pv src.n σ G M → D.nx σ G M)) (D.x σ)
theorem asg_sim {g : KG} {gr : TG} (hg : JG X tg g gr) {w : V ⊕ List V} {σ : St} {G : Hp} {M : Mem} {R : St → Hp → Mem → Prop} {H H' : Hp} {x : V} {Q : St → Hp → Prop} (hv : Hv G M H)
    (y : match w with | .inl v => x = v ∧ H' = H | .inr vs => ∃ T, x = .ref T ∧ H T = none ∧ H' = upd H T (.tup vs)) (h : asg g w σ G M R) (hR : ∀ σ' G' M' H', Hv G' M' H' → R σ' G' M' → Q σ' H') : gr x σ H' Q := by
  refine of_now ?_
  simp (disch := with_unfolding_all
    cases w with
    | inl v =>
      obtain ⟨rfl, rfl⟩ := y
      exact hg.val _ σ G M R _ Q hv h hR
    | inr vs =>
      obtain ⟨T, rfl, hT, rfl⟩ := y
      exact hg.tup T vs σ G M R H Q hv hT h hR) only [↓now_true]
theorem js_for {it : Expr} {body : List Stmt} {ti : KI} {g : KG} {gr : TG} {tb : KS} (hp : PassesOwn (model X.prog X.w) X.A X.env X.xe) (hc : X.calm = true) (hi : JI X W tg it ti) (hg : JG X tg g gr) (hb : JSs X W body tb)
    (hs : ∀ x, foldedSetIterable it X.env x = pure x := by intro _; rfl) : JS X W (.For tg it body [] pos) (kFor ti g tb) := ps_mono (ps_for hp hc hi hg.pg hb hs) fun D σ H ⟨G, M, d, hv, h, en⟩ => by
  refine ⟨G, M, _, _, hv, h, fun src G1 M1 H1 hv1 q J go => ?_, fun c a G' M' H' hv' q => en.xc c a σ G' M' H' hv' q⟩
  obtain ⟨Pv, p0, pok, pst, pend⟩ := q
  refine ⟨fun i m σ H => m = src.n - i ∧ i ≤ src.n ∧ ∃ G M, Hv G M H ∧ Pv i σ G M, ⟨src.n, by simp, Nat.zero_le _, G1, M1, hv1, p0⟩, ?_⟩
  rintro i m σ2 H2 ⟨rfl, hi2, G2, M2, hv2, p2⟩
  have ok := pok i σ2 G2 M2 hi2 p2
  by_cases hlt : i < src.n
  · refine .inr ⟨go.go i G2 M2 H2 hv2 ok hlt, fun σ' H' => ∃ G M, Hv G M H' ∧ Pv (i + 1) σ' G M, fun σ' H' ⟨G3, M3, hv3, p3⟩ => ⟨src.n - (i + 1), by omega, rfl, hlt, G3, M3, hv3, p3⟩, fun x H' y => ?_⟩
    refine asg_sim hg hv2 (go.yld i G2 M2 H2 x H' hv2 ok hlt y) (pst i σ2 G2 M2 hlt p2) fun σ3 G3 M3 H3 hv3 q3 => ?_
    have e1 : ∀ σ G M H, Hv G M H → wk1 (Pv (i + 1)) σ G M → ∃ G M, Hv G M H ∧ Pv (i + 1) σ G M := fun σ G M H hv ⟨G', M', wk, q⟩ => ⟨G', M', wk H hv, q⟩
    exact ⟨G3, M3, _, hv3, q3, ⟨e1, en.rt, en.nx, e1, en.xc⟩⟩
  · have e : i = src.n := by omega
    subst e
    exact .inl ⟨go.stop _ G2 M2 H2 hv2 ok (Nat.le_refl _), en.nx _ G2 M2 H2 hv2 (pend σ2 G2 M2 p2)⟩
/-! ### while -/
/-! ### list comprehensions -/
def E0 : KX := fun _ _ _ _ => False
def kYes : KT := fun _ G M R _ => R true G M
def JTs (X : Cx) (W : WX) (es : List Expr) (t : KT) : Prop := PTs X es (upG W t)
theorem jts_nil : JTs X W [] kYes := ⟨fun pins s σ H Q I ⟨G, M, R, E, hv, h, hR, _⟩ => pts_nil.run pins s σ H Q I (hR _ G M H hv h)⟩
theorem jts_one {t : KT} (h : JT X W c t) : JTs X W [c] t := pts_one h
def kComp (ti : KI) (g : KG) (tt : KT) (te : KE) (own : List Nat) : KE := fun σ G M R E => ti σ G M (fun src G M => src.n ≤ sizeLine ∧ ∃ Pv : Nat → List V → Hp → Mem → Prop, Pv 0 [] G M ∧ (∀ i acc G M, i ≤ src.n → Pv i acc G M → src.ok G M) ∧
  (∀ i acc G M D, i < src.n → acc.length ≤ i → Pv i acc G M → Fr G M D → asg g (src.get i) (wipe σ own) G ((D, .lst acc) :: M) (fun σ2 G M => wipe σ2 own = wipe σ own ∧ tt σ2 G M (fun b G M =>
    if b = true then te σ2 G M (fun y G M => ∃ G' M', Wk G M G' ((D, .lst acc) :: M') ∧ Pv (i + 1) (acc ++ [y]) G' M') E0 else ∃ G' M', Wk G M G' ((D, .lst acc) :: M') ∧ Pv (i + 1) acc G' M') E0)) ∧
  (∀ acc G M p, Pv src.n acc G M → acc.length ≤ src.n → Fr G M p → R (.ref p) G ((p, .lst acc) :: M))) E
theorem comp_sim {K : PySem.W.Frag} {ti : KI} {g : KG} {gr : TG} {tt : KT} {te : KE} {own : List Nat} {σ : St} {H : Hp} {Q : VK}
    (hgv : ∀ v σ G M R H Q, Hv G M H → g.val v σ G M R → (∀ σ' G' M' H', Hv G' M' H' → R σ' G' M' → Q σ' H') → gr v σ H Q)
    (hgt : ∀ T vs σ G M R H Q, Hv G M H → H T = none → g.tup vs σ G M R → (∀ σ' G' M' H', Hv G' M' H' → R σ' G' M' → Q σ' H') → gr (.ref T) σ (upd H T (.tup vs)) Q)
    (h : upG W (kComp ti g tt te own) σ H Q) : tLc (upI W ti) gr (upG W0 tt) (upG W0 te) own σ H Q := by
  refine of_now ?_
  simp (disch := with_unfolding_all
    obtain ⟨G, M, R, E, hv, h, hR, hE⟩ := h
    refine ⟨G, M, _, E, hv, h, fun src G1 M1 H1 hv1 q J go => ?_, hE⟩
    obtain ⟨hn, Pv, p0, pok, pst, pend⟩ := q
    intro D hD
    refine ⟨fun i m H => m = src.n - i ∧ i ≤ src.n ∧ ∃ acc G M, acc.length ≤ i ∧ Hv G ((D, .lst acc) :: M) H ∧ Pv i acc G M, ⟨src.n, by simp, Nat.zero_le _, [], G1, M1, Nat.le_refl _, hv1.newM hD, p0⟩, ?_⟩
    rintro i m H2 ⟨rfl, hi2, acc, G2, M2, hacc, hv2, p2⟩
    have hv2' : Hv G2 M2 H2 := Wk.drop0 H2 hv2
    have ok := pok i acc G2 M2 hi2 p2
    have fD : Fr G2 M2 D := by
      refine ⟨hv2.dj (D, .lst acc) List.mem_cons_self, fun x hx e => ?_⟩
      have nd := hv2.nd
      rw [List.map_cons, List.nodup_cons] at nd
      exact nd.1 (by rw [← e]; exact List.mem_map.mpr ⟨x, hx, rfl⟩)
    by_cases hlt : i < src.n
    · refine .inr ⟨go.go i G2 M2 H2 hv2' ok hlt, fun H' => ∃ acc G M, acc.length ≤ i + 1 ∧ Hv G ((D, .lst acc) :: M) H' ∧ Pv (i + 1) acc G M, fun H' ⟨acc', G3, M3, l3, hv3, p3⟩ => ⟨src.n - (i + 1), by omega, rfl, hlt, acc', G3, M3, l3, hv3, p3⟩, fun x H' y => ?_⟩
      have step := pst i acc G2 M2 D hlt hacc p2 fD
      have yy := go.yld i G2 M2 H2 x H' hv2' ok hlt y
      have fin : ∀ σ3 G3 M3 H3, Hv G3 M3 H3 → (wipe σ3 own = wipe σ own ∧ tt σ3 G3 M3 (fun b G M =>
          if b = true then te σ3 G M (fun y G M => ∃ G' M', Wk G M G' ((D, .lst acc) :: M') ∧ Pv (i + 1) (acc ++ [y]) G' M') E0 else ∃ G' M', Wk G M G' ((D, .lst acc) :: M') ∧ Pv (i + 1) acc G' M') E0) →
          (wipe σ3 own = wipe σ own ∧ upG W0 tt σ3 H3 fun b H3 => if b = true then upG W0 te σ3 H3 fun y H4 => ∃ acc, H4 D = some (.lst acc) ∧ acc.length < sizeLine ∧ (∃ acc' G M, acc'.length ≤ i + 1 ∧ Hv G ((D, .lst acc') :: M) (upd H4 D (.lst (acc ++ [y]))) ∧ Pv (i + 1) acc' G M) else ∃ acc' G M, acc'.length ≤ i + 1 ∧ Hv G ((D, .lst acc') :: M) H3 ∧ Pv (i + 1) acc' G M) := by
        rintro σ3 G3 M3 H3 hv3 ⟨ew, q3⟩
        refine ⟨ew, G3, M3, _, _, hv3, q3, fun b G4 M4 H4 hv4 q4 => ?_, fun _ _ _ _ _ _ z => z.elim⟩
        cases b with
        | true =>
          rw [if_pos rfl] at q4 ⊢
          refine ⟨G4, M4, _, _, hv4, q4, fun y G5 M5 H5 hv5 ⟨G6, M6, wk, p6⟩ => ?_, fun _ _ _ _ _ _ z => z.elim⟩
          have hv6 := wk H5 hv5
          refine ⟨acc, hv6.mu (D, .lst acc) List.mem_cons_self, by omega, acc ++ [y], G6, M6, by rw [List.length_append]; exact Nat.succ_le_succ hacc, ?_, p6⟩
          exact hv6.set (n := 0) (o' := .lst (acc ++ [y])) rfl
        | false =>
          rw [if_neg Bool.false_ne_true] at q4 ⊢
          obtain ⟨G6, M6, wk, p6⟩ := q4
          exact ⟨acc, G6, M6, by omega, wk H4 hv4, p6⟩
      revert yy step
      cases src.get i with
      | inl v =>
        rintro step ⟨rfl, rfl⟩
        exact hgv _ _ G2 _ _ _ _ hv2 step fin
      | inr vs =>
        rintro step ⟨T, rfl, hT, rfl⟩
        exact hgt T vs _ G2 _ _ _ _ hv2 hT step fin
    · have e : i = src.n := by omega
      subst e
      exact .inl ⟨go.stop _ G2 M2 H2 hv2' ok (Nat.le_refl _), hR _ _ _ _ hv2 (pend acc G2 M2 D p2 hacc fD)⟩) only [↓now_true]
variable {elt it : Expr} {ifs : List Expr} {scope : Scope} {own : List (Str × Nat)} {spos py : Pos}
theorem je_comp {ti : KI} {g : KG} {gr : TG} {tt : KT} {te : KE} (hc : X.calm = true) (hN : X.N.Nodup) (hi : JI X W tg it ti) (ok : BlkOk X.N X.env.scope scope own)
    (hg : ∀ (s : Shared) (H : Hp) (C : Addr) (cl : List (Str × Addr)) (fp : List Addr), JG (X.blk s H scope (compEnvC scope cl C X.env) fp) tg g gr) (ht : ∀ (s : Shared) (H : Hp) (C : Addr) (cl : List (Str × Addr)) (fp : List Addr), JTs (X.blk s H scope (compEnvC scope cl C X.env) fp) W0 ifs tt)
    (he : ∀ (s : Shared) (H : Hp) (C : Addr) (cl : List (Str × Addr)) (fp : List Addr), JE (X.blk s H scope (compEnvC scope cl C X.env) fp) W0 elt te) (hs : ∀ x, foldedSetIterable it X.env x = pure x := by intro _; rfl) :
    JE X W (.ListComp elt [⟨tg, it, ifs, 0⟩] scope pos) (kComp ti g tt te (own.map (·.2))) :=
  pe_mono (pe_lc hc hN hi ok (fun s H C cl fp => (hg s H C cl fp).pg) ht he hs) fun σ H Q h =>
    comp_sim (K := X.K) (fun v σ G M R H Q hv => ((hg X.s_0 H 0 [] []).val v σ G M R H Q hv)) (fun T vs σ G M R H Q hv => ((hg X.s_0 H 0 [] []).tup T vs σ G M R H Q hv)) h
theorem js_setComp {i : Nat} {y : Str} {ti : KI} {g : KG} {gr : TG} {tt : KT} {te : KE} (hc : X.calm = true) (hN : X.N.Nodup) (hsw : swapsWith (.ListComp elt [⟨tg, it, ifs, 0⟩] scope pos) (some (.Name y py)) spos.line X.env = pure true) (hi : JI X W tg it ti) (ok : BlkOk X.N X.env.scope scope own)
    (hg : ∀ (s : Shared) (H : Hp) (C : Addr) (cl : List (Str × Addr)) (fp : List Addr), JG (X.blk s H scope (compEnvC scope cl C X.env) fp) tg g gr) (ht : ∀ (s : Shared) (H : Hp) (C : Addr) (cl : List (Str × Addr)) (fp : List Addr), JTs (X.blk s H scope (compEnvC scope cl C X.env) fp) W0 ifs tt)
    (he : ∀ (s : Shared) (H : Hp) (C : Addr) (cl : List (Str × Addr)) (fp : List Addr), JE (X.blk s H scope (compEnvC scope cl C X.env) fp) W0 elt te) (hy : X.N[i]? = some y := by rfl) (hyl : X.env.scope.names.lookup y = some .local := by rfl) (hs : ∀ x, foldedSetIterable it X.env x = pure x := by intro _; rfl) :
    JS X W (.Assign [.Name y py] (.ListComp elt [⟨tg, it, ifs, 0⟩] scope pos) spos) (kSet i (kComp ti g tt te (own.map (·.2)))) :=
  ps_mono (ps_setLc hc hN hy hyl hsw hi ok (fun s H C cl fp => (hg s H C cl fp).pg) ht he hs) fun D σ H ⟨G, M, d, hv, h, en⟩ =>
    comp_sim (K := X.K) (fun v σ G M R H Q hv => ((hg X.s_0 H 0 [] []).val v σ G M R H Q hv)) (fun T vs σ G M R H Q hv => ((hg X.s_0 H 0 [] []).tup T vs σ G M R H Q hv))
      ⟨G, M, _, _, hv, h, fun v G' M' H' hv' q => en.nx _ G' M' H' hv' q, fun c a G' M' H' hv' q => en.xc c a σ G' M' H' hv' q⟩
end
/-! ### a def -/
/-- what is known may be weakened at the end -/
def wkR (R : KR) : KR := fun v G M => ∀ H, Hv G M H → ∃ G' M', Hv G' M' H ∧ R v G' M'
def wkX (Z : KX) : KX := fun c d G M => ∃ G' M', Wk G M G' M' ∧ Z c d G' M'
theorem ret0 {R : KR} {v : V} {G : Hp} {M : Mem} (h : R v G M) : wkR R v G M := fun _ hv => ⟨G, M, hv, h⟩
theorem retW {R : KR} {v : V} {G G' : Hp} {M M' : Mem} (w : Wk G M G' M') (h : R v G' M') : wkR R v G M := fun H hv => ⟨G', M', w H hv, h⟩
theorem wkR_wk {R : KR} {v : V} {G G' : Hp} {M M' : Mem} (w : Wk G M G' M') (h : wkR R v G' M') : wkR R v G M := fun H hv => h H (w H hv)
section
variable {P : Program} {w : World} {K : PySem.W.Frag} {mg : Str → Option Value} {base : Heap}
theorem fn_ok {x qual : Str} {st : Stmt} {f : Addr} {fd : FuncData} {N ps : List Str} {k : Nat} {S : KSp} (F : Fun K x qual st f fd) (sc : FnScope N ps (defScope st)) (len : ∀ vs G M R X, S vs G M R X → vs.length = ps.length)
    (hbody : ∀ (cdv : Value) (A : Around) (outer : List Env) (s : Shared) (H : Hp) (E : XK), Room k (A.deeper (envOfC qual (defScope st) s.heap.objs.size f cdv)) →
      ∃ t, JSs (cxOf (L2.CX P w) P w K mg base N qual (defScope st) f cdv A outer s H E) (fun c d _ H => E c d H) (defBody st) t ∧
        ∀ vs G M R Z, S vs G M R Z → t { nx := fun _ G M => wkR R .non G M, rt := wkR R, xc := fun c d _ G M => wkX Z c d G M } (start N vs) G M) : FnOk P w K mg base (L2.CX P w) (k + 1) f fd ps (lift S) := by
  refine of_now ?_
  simp (disch := with_unfolding_all
    refine F.okX sc (fun vs H Q E ⟨G, M, R, Z, _, h, _⟩ => len vs G M R Z h) fun cdv A outer s H vs Q E hr ⟨G, M, R, Z, hv, h, hR, hZ⟩ => ?_
    obtain ⟨t, j, q⟩ := hbody cdv A outer s H E hr
    exact ⟨_, j, G, M, _, hv, q vs G M R Z h, ⟨fun σ G M H hv h => (h H hv).elim fun G' h => h.elim fun M' h => hR _ G' M' H h.1 h.2, fun v G M H hv h => (h H hv).elim fun G' h => h.elim fun M' h => hR _ G' M' H h.1 h.2, fun _ _ _ _ _ z => z.elim, fun _ _ _ _ _ z => z.elim, fun c a σ G M H hv ⟨G', M', w, q⟩ => hZ c a G' M' H (w H hv) q⟩⟩) only [↓now_true]
/-- a def that keeps its promise -/
structure Def (P : Program) (w : World) (K : PySem.W.Frag) (mg : Str → Option Value) (base : Heap) (lev : Nat) (x : Str) (ps : List Str) (S : KSp) : Prop where
  ex : ∃ f fd, FnOk P w K mg base (L2.CX P w) lev f fd ps (lift S) ∧ mg x = some (.ref f) ∧ PySem.W.keepIn K (.ref f) = true ∧ Binds K fd ps []
end
section
variable {X : Cx} {W : WX} {pos p : Pos} {e : Expr} {es : List Expr} {x : Str} {k lev : Nat} {ps : List Str} {S : KSp} {t : KA}
theorem je_callD (D : Def X.prog X.w X.K X.mg X.base lev x ps S) (hr : Room k X.A) (tk : Takes X W) (ha : JA X W (e :: es) t) (hl : lev ≤ k := by decide) (hg : Gl X x := by rfl)
    (hdb : (x == ("__debug__" : Str)) = false := by decide) (he : starEach (e :: es) X.env = (false, eval e X.env) :: starEach es X.env := by rfl) (hpl : (backTo pos (starEach es X.env)).any (·.1) = false := by rfl) :
    JE X W (.Call (.Name x p) (e :: es) [] pos) (kCall S t) := by
  refine of_now ?_
  simp (disch := with_unfolding_all
    obtain ⟨f, fd, F, hm, hk, hb⟩ := D.ex
    exact je_call (F.mono hl) hr tk hm hk hb ha hg hdb he hpl) only [↓now_true]
end
end BT
set_option Elab.async false
set_option linter.all false
set_option maxRecDepth 100000
set_option maxHeartbeats 4000000
namespace BT
open PySem PySem.Spec L2
open PyProof.Rows hiding St
/-! ### promises by the number of arguments -/
def sp1 (f : V → Hp → Mem → KR → KX → Prop) : KSp := fun vs G M R Z => match vs with
  | [x] => f x G M R Z
  | _ => False
def sp2 (f : V → V → Hp → Mem → KR → KX → Prop) : KSp := fun vs G M R Z => match vs with
  | [x, y] => f x y G M R Z
  | _ => False
def sp3 (f : V → V → V → Hp → Mem → KR → KX → Prop) : KSp := fun vs G M R Z => match vs with
  | [x, y, z] => f x y z G M R Z
  | _ => False
def sp4 (f : V → V → V → V → Hp → Mem → KR → KX → Prop) : KSp := fun vs G M R Z => match vs with
  | [x, y, z, u] => f x y z u G M R Z
  | _ => False
section
variable {vs : List V} {G : Hp} {M : Mem} {R : KR} {Z : KX}
theorem sp1_of {f} (h : sp1 f vs G M R Z) : ∃ x, vs = [x] ∧ f x G M R Z := by
  refine of_now ?_
  simp (disch := with_unfolding_all
    match vs, h with
    | [x], h => exact ⟨x, rfl, h⟩) only [↓now_true]
theorem sp2_of {f} (h : sp2 f vs G M R Z) : ∃ x y, vs = [x, y] ∧ f x y G M R Z := by
  refine of_now ?_
  simp (disch := with_unfolding_all
    match vs, h with
    | [x, y], h => exact ⟨x, y, rfl, h⟩) only [↓now_true]
theorem sp3_of {f} (h : sp3 f vs G M R Z) : ∃ x y z, vs = [x, y, z] ∧ f x y z G M R Z := by
  refine of_now ?_
  simp (disch := with_unfolding_all
    match vs, h with
    | [x, y, z], h => exact ⟨x, y, z, rfl, h⟩) only [↓now_true]
theorem sp4_of {f} (h : sp4 f vs G M R Z) : ∃ x y z u, vs = [x, y, z, u] ∧ f x y z u G M R Z := by
  refine of_now ?_
  simp (disch := with_unfolding_all
    match vs, h with
    | [x, y, z, u], h => exact ⟨x, y, z, u, rfl, h⟩) only [↓now_true]
theorem sp_len1 {f} (h : sp1 f vs G M R Z) : vs.length = 1 := by obtain ⟨_, rfl, _⟩ := sp1_of h; rfl
theorem sp_len2 {f} (h : sp2 f vs G M R Z) : vs.length = 2 := by obtain ⟨_, _, rfl, _⟩ := sp2_of h; rfl
theorem sp_len3 {f} (h : sp3 f vs G M R Z) : vs.length = 3 := by obtain ⟨_, _, _, rfl, _⟩ := sp3_of h; rfl
theorem sp_len4 {f} (h : sp4 f vs G M R Z) : vs.length = 4 := by obtain ⟨_, _, _, _, rfl, _⟩ := sp4_of h; rfl
end
/-- what a body has at its ends -/
abbrev ends (R : KR) (Z : KX) : Kd := { nx := fun _ G M => wkR R .non G M, rt := wkR R, xc := fun c d _ G M => wkX Z c d G M }
/-! ### small helps -/
section
variable {K : PySem.W.Frag} {G : Hp} {M : Mem} {a p : Addr} {xs : List V} {o : HO} {n : Nat}
theorem lst_n (h : M[n]? = some (a, .lst xs)) : SeqAt' K G M a xs := .inl (.inl (List.mem_of_getElem? h))
theorem lat_n (h : M[n]? = some (a, .lst xs)) : LstAt K G M a xs := .inl (List.mem_of_getElem? h)
theorem lst_g (h : SqL K G a xs) : SeqAt' K G M a xs := .inl (.inr h)
theorem tup_g (h : SqT K G a xs) : SeqAt' K G M a xs := .inr h
theorem at_n (h : M[n]? = some (a, o)) : At G M a o := .inl (List.mem_of_getElem? h)
theorem set_n {x : Addr × HO} (h : M[n]? = some (p, o)) : (M.set n x)[n]? = some x := List.getElem?_set_self (List.getElem?_eq_some_iff.mp h).1
theorem sqt_new {xs : List V} : SqT K (upd G p (.tup xs)) p xs := .inl (.inl upd_same)
theorem sql_new {xs : List V} : SqL K (upd G p (.lst xs)) p xs := .inl (.inl upd_same)
theorem ite2' {c : Bool} {A B : Prop} (h1 : c = true → A) (h2 : c = false → B) : if c = true then A else B := by
  refine of_now ?_
  simp (disch := with_unfolding_all
    cases c with
    | true => rw [if_pos rfl]; exact h1 rfl
    | false => rw [if_neg Bool.false_ne_true]; exact h2 rfl) only [↓now_true]
theorem sz {n : Nat} (h : n ≤ 16777216) : n ≤ sizeLine := h
theorem tyl_n (h : M[n]? = some (a, .lst xs)) : ∀ H, Hv G M H → tyV K "list" (.ref a) H := fun H hv => .inl ⟨rfl, xs, .inl (.inl (hv.get h))⟩
end
/-! ### the law's pool of numbers -/
def pool (c s : Int) : HO := .lst [.int c, .int s]
def PoolOk (s : Int) : Prop := 0 ≤ s ∧ s < 2147483647
def S_law_take (K : PySem.W.Frag) : KSp := sp2 fun x y G M R Z => ∃ (p : Addr) (m : Int) (n : Nat) (c s : Int), x = .ref p ∧ y = .int m ∧ M[n]? = some (p, pool c s) ∧ PoolOk s ∧ 0 < m ∧ m < 2 ^ 200 ∧
  ∀ r c' s', 0 ≤ r → r < m → PoolOk s' → R (.int r) G (M.set n (p, pool c' s'))
def S_law_pool (K : PySem.W.Frag) : KSp := sp2 fun x y G M R Z => ∃ (a : Addr) (ns : List Int) (k : Int), x = .ref a ∧ y = .int k ∧ SqL K G a (ns.map V.int) ∧ 0 ≤ k ∧ k ≤ 100 ∧ ns.length ≤ 63 ∧
  ∀ p c s, Fr G M p → PoolOk s → R (.ref p) G ((p, pool c s) :: M)
end BT
set_option Elab.async false
set_option linter.all false
set_option maxRecDepth 100000
set_option maxHeartbeats 4000000
namespace BT
open PySem PySem.Spec L2
open PyProof.Rows hiding St
/-! ### shapes of data -/
inductive Shp : Nat → PyData → Prop
  | non {n} : Shp n .none
  | bl {n b} : Shp n (.bool b)
  | int {n i} : Shp n (.int i)
  | str {n x} : PyData.strOk x = true → Shp n (.str x)
  | list {n ds} : (∀ d, d ∈ ds → Shp n d) → Shp (n + 1) (.list ds)
  | tuple {n ds} : (∀ d, d ∈ ds → Shp n d) → Shp (n + 1) (.tuple ds)
theorem shp_all {n : Nat} (ih : ∀ d, Shp n d → d.canLay0 = true ∧ d.depth ≤ n) : ∀ ds : List PyData, (∀ d, d ∈ ds → Shp n d) → PyData.canLayAll0 ds = true ∧ PyData.depthAll ds ≤ n
  | [], _ => by
    refine ⟨by simp [PyData.canLayAll0], by simp [PyData.depthAll]⟩
  | d :: ds, h => by
    obtain ⟨a, b⟩ := ih d (h d List.mem_cons_self)
    obtain ⟨c, e⟩ := shp_all ih ds fun x hx => h x (List.mem_cons_of_mem _ hx)
    refine ⟨by simp [PyData.canLayAll0, a, c], ?_⟩
    show max d.depth (PyData.depthAll ds) ≤ n
    omega
theorem shp_of : ∀ (n : Nat) (d : PyData), Shp n d → d.canLay0 = true ∧ d.depth ≤ n
  | n, _, .non => by refine ⟨by simp [PyData.canLay0], by simp [PyData.depth]⟩
  | n, _, .bl => by refine ⟨by simp [PyData.canLay0], by simp [PyData.depth]⟩
  | n, _, .int => by refine ⟨by simp [PyData.canLay0], by simp [PyData.depth]⟩
  | n, _, .str h => by refine ⟨by simp [PyData.canLay0, h], by simp [PyData.depth]⟩
  | n + 1, .list ds, .list h => by
    obtain ⟨a, b⟩ := shp_all (shp_of n) ds h
    refine ⟨by simp [PyData.canLay0, a], ?_⟩
    show PyData.depthAll ds + 1 ≤ n + 1
    omega
  | n + 1, .tuple ds, .tuple h => by
    obtain ⟨a, b⟩ := shp_all (shp_of n) ds h
    refine ⟨by simp [PyData.canLay0, a], ?_⟩
    show PyData.depthAll ds + 1 ≤ n + 1
    omega
theorem Shp.shaped {n : Nat} {d : PyData} (h : Shp n d) (hn : n ≤ 64) : SeqAt.shaped d = true := by
  refine of_now ?_
  simp (disch := with_unfolding_all
    obtain ⟨a, b⟩ := shp_of n d h
    unfold SeqAt.shaped
    rw [a, decide_eq_true (Nat.le_trans b hn)]; rfl) only [↓now_true]
theorem Shp.refl {n : Nat} {d : PyData} (h : Shp n d) : PyData.eqv d d = true := by
  refine of_now ?_
  simp (disch := with_unfolding_all
    obtain ⟨a, b⟩ := shp_of n d h
    exact SeqAt.eqv_refl d a) only [↓now_true]
theorem shp_ints {n : Nat} (ns : List Int) : Shp (n + 1) (.list (ns.map .int)) := .list fun d hd => by
  obtain ⟨i, _, rfl⟩ := List.mem_map.mp hd
  exact .int
/-! ### data known -/
section
variable {K : PySem.W.Frag} {G G' : Hp} {M : Mem} {a : Addr} {v : V} {d : PyData} {vs : List V} {ds : List PyData}
def DatAll (K : PySem.W.Frag) (G : Hp) (M : Mem) (vs : List V) (ds : List PyData) : Prop := ∀ H, Hv G M H → DpAll K H vs ds
theorem dat_g (h : Dp K G v d) : DatAt K G M v d := fun H hv => ex_d hv.exx d h
theorem dats_g (h : DpAll K G vs ds) : DatAll K G M vs ds := fun H hv => ex_ds hv.exx ds h
theorem dat_list (h : LstAt K G M a vs) (hs : DatAll K G M vs ds) : DatAt K G M (.ref a) (.list ds) := fun H hv => .lst (hv.lst h) (hs H hv)
theorem dat_tup (h : SqT K G a vs) (hs : DatAll K G M vs ds) : DatAt K G M (.ref a) (.tuple ds) := fun H hv => .tup (hv.tup h) (hs H hv)
theorem dat_int {i : Int} : DatAt K G M (.int i) (.int i) := fun H hv => .int i
theorem dat_bl {i : Bool} : DatAt K G M (.bl i) (.bool i) := fun H hv => .bl i
theorem dat_non : DatAt K G M .non .none := fun H hv => .non
theorem dat_str {i : Str} : DatAt K G M (.str i) (.str i) := fun H hv => .str i
theorem dats_nil : DatAll K G M [] [] := fun H hv => .nil
theorem dats_cons (h : DatAt K G M v d) (hs : DatAll K G M vs ds) : DatAll K G M (v :: vs) (d :: ds) := fun H hv => .cons (h H hv) (hs H hv)
theorem dpall_ints : ∀ ns : List Int, DpAll K G (ns.map V.int) (ns.map PyData.int)
  | [] => .nil
  | n :: ns => .cons (.int n) (dpall_ints ns)
theorem dats_ints {ns : List Int} : DatAll K G M (ns.map V.int) (ns.map PyData.int) := fun H hv => dpall_ints ns
theorem dat_ints {ns : List Int} (h : LstAt K G M a (ns.map V.int)) : DatAt K G M (.ref a) (.list (ns.map .int)) := dat_list h dats_ints
theorem dpall_snoc : ∀ {vs : List V} {ds : List PyData}, DpAll K G vs ds → Dp K G v d → DpAll K G (vs ++ [v]) (ds ++ [d])
  | _, _, .nil, h => .cons h .nil
  | _, _, .cons a b, h => .cons a (dpall_snoc b h)
theorem dpall_len : ∀ {vs : List V} {ds : List PyData}, DpAll K G vs ds → vs.length = ds.length
  | _, _, .nil => rfl
  | _, _, .cons _ b => by simp [dpall_len b]
theorem dpall_get : ∀ {vs : List V} {ds : List PyData} {i : Nat} {d : PyData}, DpAll K G vs ds → ds[i]? = some d → ∃ v, vs[i]? = some v ∧ Dp K G v d
  | _, _, _, _, .nil, e => by simp at e
  | _, _, 0, _, .cons a _, e => by
    rw [List.getElem?_cons_zero] at e
    cases e; exact ⟨_, rfl, a⟩
  | _, _, i + 1, d, .cons _ b, e => by
    obtain ⟨v, h1, h2⟩ := dpall_get (i := i) (d := d) b (by simpa using e)
    exact ⟨v, by simpa using h1, h2⟩
theorem dp_tup_inv (h : Dp K G v (.tuple ds)) : ∃ t xs, v = .ref t ∧ SqT K G t xs ∧ DpAll K G xs ds := by
  refine of_now ?_
  simp (disch := with_unfolding_all
    cases h with
    | tup s a => exact ⟨_, _, rfl, s, a⟩) only [↓now_true]
end
/-! ### pairs of ints -/
/-! ### lists of ints by place -/
section
theorem atI_int {ns : List Int} {k : Int} (h0 : 0 ≤ k) (h1 : k < ns.length) : atI (ns.map V.int) k = some (.int (ns.getD k.toNat 0)) := by
  refine of_now ?_
  simp (disch := with_unfolding_all
    obtain ⟨j, rfl⟩ : ∃ j : Nat, k = j := ⟨k.toNat, by omega⟩
    have hj : j < ns.length := by omega
    refine atI_nat ?_
    rw [List.getElem?_map, List.getElem?_eq_getElem hj, Int.toNat_natCast, List.getD_eq_getElem?_getD, List.getElem?_eq_getElem hj]; rfl) only [↓now_true]
theorem ixN_int {n : Nat} {k : Int} (h0 : 0 ≤ k) (h1 : k < n) : ixN n k = some k.toNat := by
  refine of_now ?_
  simp (disch := with_unfolding_all
    unfold ixN
    rw [if_pos h0, if_pos h1]) only [↓now_true]
theorem lat_cons {K : PySem.W.Frag} {G : Hp} {M : Mem} {a : Addr} {xs : List V} {x : Addr × HO} (h : LstAt K G M a xs) : LstAt K G (x :: M) a xs := by
  refine of_now ?_
  simp (disch := with_unfolding_all
    rcases h with h | h
    · exact .inl (List.mem_cons_of_mem _ h)
    · exact .inr h) only [↓now_true]
theorem lat_ex {K : PySem.W.Frag} {G G' : Hp} {M : Mem} {a : Addr} {xs : List V} (e : Ex G G') (h : LstAt K G M a xs) : LstAt K G' M a xs := by
  refine of_now ?_
  simp (disch := with_unfolding_all
    rcases h with h | h
    · exact .inl h
    · exact .inr (ex_l e h)) only [↓now_true]
theorem lat_0 {K : PySem.W.Frag} {G : Hp} {M : Mem} {a : Addr} {xs : List V} : LstAt K G ((a, .lst xs) :: M) a xs := .inl List.mem_cons_self
theorem mul_l {i j : Int} (h0 : -(2 ^ 64) < i) (h1 : i < 2 ^ 64) : MulOk i j := .inl (.inl ⟨h0, h1⟩)
theorem mul_r {i j : Int} (h0 : -(2 ^ 64) < j) (h1 : j < 2 ^ 64) : MulOk i j := .inl (.inr ⟨h0, h1⟩)
theorem divW {m : Int} (h0 : 0 < m) (h1 : m < 2 ^ 200) (c : Int) : CDivW c m := wide_div (b := 200) h0 (by omega) (by decide) (by decide)
theorem sz0 : (0 : Nat) ≤ sizeLine := by decide
theorem sz1 : (1 : Nat) ≤ sizeLine := by decide
theorem sz2 : (2 : Nat) ≤ sizeLine := by decide
theorem sz3 : (3 : Nat) ≤ sizeLine := by decide
theorem sz4 : (4 : Nat) ≤ sizeLine := by decide
theorem sz5 : (5 : Nat) ≤ sizeLine := by decide
theorem sz6 : (6 : Nat) ≤ sizeLine := by decide
theorem pow10_18 : CPow 10 18 := ⟨by decide, by decide, by decide⟩
end
end BT
namespace BT
open PySem PySem.Spec L2
section
variable {K : PySem.W.Frag} {G : Hp} {M : Mem} {a b : Addr} {vs ws : List V} {i : Nat} {v u : V} {g : KG} {σ : St} {R : St → Hp → Mem → Prop}
theorem asg_L (h : vs[i]? = some v) (q : g.val v σ G M R) : asg g ((srcL K a vs).get i) σ G M R := by
  refine of_now ?_
  simp (disch := with_unfolding_all
    show g.val (vs.getD i .non) σ G M R
    rw [getD_of h]; exact q) only [↓now_true]
theorem asg_Z (h : vs[i]? = some v) (h2 : ws[i]? = some u) (q : g.tup [v, u] σ G M R) : asg g ((srcZ K a b vs ws).get i) σ G M R := by
  refine of_now ?_
  simp (disch := with_unfolding_all
    show g.tup [vs.getD i .non, ws.getD i .non] σ G M R
    rw [getD_of h, getD_of h2]; exact q) only [↓now_true]
theorem dpall_at {ds : List PyData} {d : PyData} (h : DpAll K G vs ds) (e : ds[i]? = some d) : ∃ v, vs[i]? = some v ∧ Dp K G v d := dpall_get h e
end
end BT
namespace BT
open PySem PySem.Spec L2
/-- a cell becomes frozen -/
theorem frz {G : Hp} {M : Mem} {p : Addr} (o : HO) (h : Fr G M p) : ∃ G', Ex G G' ∧ G' p = some o ∧ Wk G ((p, o) :: M) G' M ∧ ∀ q M0, Fr G M0 q → q ≠ p → Fr G' M0 q :=
  ⟨upd G p o, Ex.new h, upd_same, Wk.frz0, fun q M0 f hq => ⟨by rw [upd_ne hq]; exact f.1, f.2⟩⟩
theorem Wk.nil' {G : Hp} {M : Mem} : Wk G M G [] := fun H h => ⟨h.ex, fun _ z => (nomatch z), List.nodup_nil, fun _ z => (nomatch z)⟩
theorem sql_of {K : PySem.W.Frag} {G : Hp} {a : Addr} {xs : List V} (h : G a = some (.lst xs)) : SqL K G a xs := .inl (.inl h)
theorem sqt_of {K : PySem.W.Frag} {G : Hp} {a : Addr} {xs : List V} (h : G a = some (.tup xs)) : SqT K G a xs := .inl (.inl h)
theorem Fr.cons {G : Hp} {M : Mem} {p : Addr} {x : Addr × HO} (h : Fr G (x :: M) p) : Fr G M p := ⟨h.1, fun y hy => h.2 y (List.mem_cons_of_mem _ hy)⟩
end BT
set_option Elab.async false
set_option linter.all false
set_option maxRecDepth 100000
set_option maxHeartbeats 4000000
namespace BT
open PySem PySem.Spec L2
open PyProof.Rows hiding St
/-- the slots at a body's start -/
def sta (n : Nat) (vs : List V) : St := vs.map some ++ List.replicate (n - vs.length) none
/-! ### ranges with a step -/
section
variable {X : Cx} {W : WX} {pos : Pos} {a b c e : Expr} {es : List Expr}
/-! ### sorted, xs[::-1] -/
def kSorted (K : PySem.W.Frag) : KC := fun vs G M R => match vs with
  | [.ref a] => ∃ ns : List Int, LstAt K G M a (ns.map V.int) ∧ ∀ (ns' : List Int) (p : Addr), ns'.Perm ns → ns'.Pairwise (· ≤ ·) → Fr G M p → R (.ref p) G ((p, .lst (ns'.map V.int)) :: M)
  | _ => False
theorem kc_sorted : KCall X (.builtin "sorted") (kSorted X.K) := kcall_of cr_sortedI fun vs G M R H Q hv h hR => by
  match vs, h with
  | [.ref a], ⟨ns, h1, h2⟩ => exact ⟨a, ns, rfl, hv.lst h1, fun ns' p q1 q2 q3 => hR _ G _ _ (hv.newM q3) (h2 ns' p q1 q2 (hv.fr q3))⟩
/-! ### in, not in: flat things in a list or a tuple -/
def kIn (neg : Bool) (K : PySem.W.Frag) : KR2 := fun x y G M R => match y with
  | .ref a => ∃ xs, SeqAt' K G M a xs ∧ flatV x = true ∧ xs.all flatV = true ∧ R (.bl (if neg then !inV x xs else inV x xs)) G M
  | _ => False
/-! ### list.index, list.insert, tuple(xs), bool(x), list(range) -/
def kIndex (K : PySem.W.Frag) : KM := fun x vs G M R => match x, vs with
  | .ref a, [y] => ∃ ys j z, LstAt K G M a ys ∧ flatV y = true ∧ ys.all flatV = true ∧ ys[j]? = some z ∧ eqV z y = true ∧ (∀ m z', m < j → ys[m]? = some z' → eqV z' y = false) ∧ R (.int (j : Nat)) G M
  | _, _ => False
end
end BT
namespace BT
open PySem PySem.Spec L2
open PyProof.Rows hiding St
theorem cx_none {P : Program} {w : World} {l : List Env} {H : Hp} {s : Shared} {e : Value} {s' : Shared} (h : L2.CX P w l H s (fun _ _ _ => False) e s') : False := by
  refine of_now ?_
  simp (disch := with_unfolding_all
    obtain ⟨_, _, _, _, _, _, _, _, _, _, _, _, z⟩ := h
    exact z.elim) only [↓now_true]
/-- a law's promise -/
def S_law (K : PySem.W.Frag) : KSp := sp1 fun x G M R Z => ∃ (a : Addr) (ns : List Int), x = .ref a ∧ SqL K G a (ns.map V.int) ∧ ns.length ≤ 63 ∧ ∀ G' M', R (.bl true) G' M'
theorem law_start {K : PySem.W.Frag} {H : Hp} {a : Addr} {ns : List Int} (hl : ns.length ≤ 63) (hS : SqL K H a (ns.map V.int)) : lift (S_law K) [.ref a] H (fun v _ => v = .bl true) fun _ _ _ => False :=
  ⟨H, [], fun v _ _ => v = .bl true, fun _ _ _ _ => False, Hv.self H, ⟨a, ns, rfl, hS, hl, fun _ _ => rfl⟩, fun _ _ _ _ _ h => h, fun _ _ _ _ _ _ z => z⟩
end BT
namespace BT
open PySem PySem.Spec L2
open PyProof.Rows hiding St
/-! ### is of None and of truths -/
def kIs2 (neg : Bool) : KR2 := fun x y G M R => match x, y with
  | .bl a, .bl b => R (.bl (if neg then !decide (a = b) else decide (a = b))) G M
  | x, .non => R (.bl (if neg then !decide (x = .non) else decide (x = .non))) G M
  | _, _ => False
theorem kop_is2 {X : Cx} : KOp X (compareOp .Is) (kIs2 false) := fun pins s σ H x y v u Q G M R I rx ry hv h hR => by
  cases y <;> cases x <;> first
    | exact op_isBl pins s σ H _ _ v u Q I rx ry ⟨_, _, rfl, rfl, hR _ G M H hv h⟩
    | exact op_isN pins s σ H _ _ v u Q I rx ry ⟨rfl, hR _ G M H hv h⟩
    | exact h.elim
/-! ### types of values -/
inductive PT | int | bool | non | str | list | tuple | dict
  deriving DecidableEq
def PT.name : PT → String
  | .int => "int" | .bool => "bool" | .non => "NoneType" | .str => "str" | .list => "list" | .tuple => "tuple" | .dict => "dict"
def TyK (K : PySem.W.Frag) (G : Hp) (M : Mem) (x : V) (T : PT) : Prop := ∀ H, Hv G M H → TyX K H x (.type T.name)
section
variable {K : PySem.W.Frag} {G : Hp} {M : Mem} {a : Addr} {xs : List V} {n : Nat}
theorem ty_int {i : Int} : TyK K G M (.int i) .int := fun H hv => .base (.int i)
theorem ty_bl {i : Bool} : TyK K G M (.bl i) .bool := fun H hv => .base (.bl i)
theorem ty_non : TyK K G M .non .non := fun H hv => .base .non
theorem ty_str {i : Str} : TyK K G M (.str i) .str := fun H hv => .base (.str i)
theorem ty_lst (h : LstAt K G M a xs) : TyK K G M (.ref a) .list := fun H hv => by
  rcases hv.lst h with (z | ⟨o, z⟩) | ⟨o, its, m, z1, z2, _⟩
  · exact .base (.lst z)
  · exact .base (.frz z)
  · exact .kList z1 z2
theorem ty_tup (h : SqT K G a xs) : TyK K G M (.ref a) .tuple := fun H hv => by
  rcases hv.tup h with (z | ⟨o, z⟩) | ⟨o, its, m, z1, z2, _⟩
  · exact .base (.tup z)
  · exact .fTuple z
  · exact .kTuple z1 z2
theorem ty_dict {kvs : List (Key × V)} (h : At G M a (.dK kvs)) : TyK K G M (.ref a) .dict := fun H hv => .base (.dK (hv.at h))
/-- isinstance(x, T): both answers -/
def isaB (T U : PT) : Bool := T == U || (T == .bool && U == .int)
theorem kit_pt (T U : PT) : PySem.W.kitOne K (.type T.name) (.type U.name) = some (isaB T U) := by
  cases T <;> cases U <;> exact kit_ty (by decide +kernel)
theorem isi_pt {x : V} {T : PT} {R : KR} (U : PT) (h : TyK K G M x T) (q : R (.bl (isaB T U)) G M) : kIsi K [x, .ty U.name] G M R :=
  ⟨.type T.name, .type U.name, _, .ty U.name, h, kit_pt T U, q⟩
end
end BT
namespace BT
open PySem PySem.Spec L2
/-! ### steps by name -/
section
variable {D : Kd} {σ : St} {G : Hp} {M : Mem} {i : Nat} {te ta tb : KE}
theorem kret_of (h : te σ G M D.rt (D.x σ)) : kRet te D σ G M := h
theorem kbin_of {β : Type} {k : V → V → Hp → Mem → (β → Hp → Mem → Prop) → Prop} {R : β → Hp → Mem → Prop} {E : KX} (h : ta σ G M (fun x G M => tb σ G M (fun y G M => k x y G M R) E) E) : kBin k ta tb σ G M R E := h
end
end BT
set_option Elab.async false
set_option linter.all false
set_option maxRecDepth 100000
set_option maxHeartbeats 4000000
namespace BT
open PySem PySem.Spec L2
open PyProof.Rows hiding St
/-! ### own errors: raised, caught, held -/
/-- the address of a class, by its name -/
def cl (K : PySem.W.Frag) (x : Str) : Addr := match PySem.W.nsIn K mainGlobals x with
  | some (some (.ref a)) => a
  | _ => 0
/-- a class that is known -/
structure XG (K : PySem.W.Frag) (mg : Str → Option Value) (x : Str) : Prop where
  g : mg x = some (.ref (cl K x))
  k : PySem.W.keepIn K (.ref (cl K x)) = true
/-- a class without own __init__ under ValueError, to be raised -/
structure XR (K : PySem.W.Frag) (x : Str) : Prop where
  n : PySem.W.excIn K (cl K x) [.type "ValueError", .type "Exception", .type "BaseException", .type "object"] "ValueError.__new__" = true
  b : PySem.W.subIn K (.ref (cl K x)) (.type "BaseException") = some true
  t : PySem.W.typeIn K (.ref (cl K x)) = some (.type "type")
section
variable {X : Cx} {W : WX} {pos : Pos}
end

section
variable {X : Cx} {x n y : Str} {c : Value} {i j : Nat} {body : List Stmt} {np pos pos' q1 q2 q3 : Pos} {tb : WX → TS} {Wout : WX}
end
/-! ### the readings -/
section
variable {X : Cx} {W : WX} {pos : Pos}
end
end BT
set_option Elab.async false
set_option linter.all false
set_option maxRecDepth 100000
set_option maxHeartbeats 4000000
namespace BT
open PySem PySem.Spec L2
open PyProof.Rows hiding St
section
variable {X : Cx} {W : WX} {pos p : Pos} {a b : Expr}
/-! ### list(range(..)) -/
def rgL (i j : Int) (G : Hp) (M : Mem) (R : KR) : Prop := RgOk i j ∧ ∀ q, Fr G M q → R (.ref q) G ((q, .lst (rgV i j)) :: M)
def kListR1 (t : KE) : KE := fun σ G M R E => t σ G M (fun x G M => match x with
  | .int n => rgL 0 n G M R
  | _ => False) E
theorem je_listR1 {t : KE} {p2 pos2 : Pos} (hl : X.mg "list" = none) (hr : X.mg "range" = none) (ha : JE X W a t) (hc : X.calm = true := by rfl) (h1 : Gl X "list" := by rfl) (h2 : Gl X "range" := by rfl)
    (na : starEach [a] X.env = (false, eval a X.env) :: starEach [] X.env := by rfl) (nb : starEach [.Call (.Name "range" p2) [a] [] pos2] X.env = (false, eval (.Call (.Name "range" p2) [a] [] pos2) X.env) :: starEach [] X.env := by rfl) :
    JE X W (.Call (.Name "list" p) [.Call (.Name "range" p2) [a] [] pos2] [] pos) (kListR1 t) :=
  pe_mono (pe_listRg hc h1 hl (prg_1 h2 hr ha na) nb) fun σ H Q ⟨G, M, R, E, hv, h, hR, hE⟩ => ⟨G, M, _, E, hv, h, fun x G1 M1 H1 hv1 q => by
    match x, q with
    | .int n, ⟨q1, q2⟩ => exact ⟨n, rfl, q1, fun w hw => hR _ G1 _ _ (hv1.newM hw) (q2 w (hv1.fr hw))⟩, hE⟩
/-! ### an empty dict -/
def kDNew : KE := fun _ G M R _ => ∀ q, Fr G M q → R (.ref q) G ((q, .dK []) :: M)
theorem je_dnew : JE X W (.Dict [] [] pos) kDNew := pe_mono pe_dnewK fun σ H Q ⟨G, M, R, E, hv, h, hR, hE⟩ => fun w hw => hR _ G _ _ (hv.newM hw) (h w (hv.fr hw))
/-! ### constants of the module -/
theorem je_const {x : Str} {v : V} (h : ∃ u, X.mg x = some u ∧ RelV v u) (hg : Gl X x := by rfl) (hd : (x == ("__debug__" : Str)) = false := by decide) : JE X W (.Name x pos) (kC v) := by
  refine of_now ?_
  simp (disch := with_unfolding_all
    obtain ⟨u, hm, r⟩ := h
    exact je_glob hm r hg hd) only [↓now_true]
structure XT (K : PySem.W.Frag) (mg : Str → Option Value) (x : Str) (xs : List V) : Prop where
  g : mg x = some (.ref (cl K x))
  s : ∀ H, SqT K H (cl K x) xs
end
/-! ### sum of a tuple -/
section
variable {prog : Program} {w : World} {A : Around} {E : Value → Shared → Prop} {s : Shared} {l : Addr} {its : List Value} {ns : List Int} {Q : Value → Shared → Prop}
end
section
variable {X : Cx}
end
end BT
set_option Elab.async false
set_option linter.all false
set_option maxRecDepth 100000
set_option maxHeartbeats 4000000
namespace BT
open PySem PySem.Spec L2
open PyProof.Rows hiding St
/-! ### len(set(xs)) of ints -/
theorem dedup_len : ∀ (l acc : List Int), (l.foldl step_dedup acc).length ≤ acc.length + l.length
  | [], acc => Nat.le_refl _
  | x :: l, acc => by
    have h := dedup_len l (step_dedup acc x)
    rw [step_length] at h
    rw [List.foldl_cons, List.length_cons]
    split at h <;> omega
theorem dedup_eq : ∀ (l acc : List Int), (l.foldl step_dedup acc).length = acc.length + l.length ↔ (l.Nodup ∧ ∀ x, x ∈ l → x ∉ acc)
  | [], acc => by simp
  | x :: l, acc => by
    rw [List.foldl_cons, List.length_cons]
    by_cases hx : acc.any (· == x) = true
    · have hm : x ∈ acc := by simpa using hx
      have h := dedup_len l (step_dedup acc x)
      rw [step_length, if_pos hx] at h
      constructor
      · intro e; omega
      · intro e; exact absurd hm (e.2 x List.mem_cons_self)
    · have hm : x ∉ acc := by simpa using hx
      have e1 : step_dedup acc x = acc ++ [x] := by unfold step_dedup; rw [if_neg hx]
      have ih := dedup_eq l (acc ++ [x])
      rw [List.length_append, List.length_singleton] at ih
      rw [e1, show acc.length + (l.length + 1) = acc.length + 1 + l.length by omega, ih, List.nodup_cons]
      constructor
      · rintro ⟨a, b⟩
        refine ⟨⟨fun z => b x z (by simp), a⟩, fun y hy => ?_⟩
        rcases List.mem_cons.mp hy with rfl | hy
        · exact hm
        · exact fun z => b y hy (List.mem_append.mpr (.inl z))
      · rintro ⟨⟨a, b⟩, c⟩
        refine ⟨b, fun y hy z => ?_⟩
        rcases List.mem_append.mp z with z | z
        · exact c y (List.mem_cons_of_mem _ hy) z
        · have : y = x := by simpa using z
          subst this; exact a hy
theorem range_getD (ns : List Int) : (List.range ns.length).map (fun i => ns.getD i 0) = ns := by
  refine of_now ?_
  simp (disch := with_unfolding_all
    apply List.ext_getElem (by simp)
    intro i h1 h2
    simp [List.getD_eq_getElem?_getD, List.getElem?_eq_getElem h2]) only [↓now_true]
section
variable {X : Cx} {W : WX}
def kLenSet (K : PySem.W.Frag) (t : KE) : KE := fun σ G M R E => t σ G M (fun x G M => match x with
  | .ref a => ∃ ns : List Int, LstAt K G M a (ns.map V.int) ∧ ns.length ≤ 4000 ∧ ∀ m : Nat, m ≤ ns.length → (m = ns.length ↔ ns.Nodup) → R (.int m) G M
  | _ => False) E
theorem je_lenSet {a : Expr} {ta : KE} {p p2 q pos : Pos} (hm : X.mg "len" = none) (hm2 : X.mg "set" = none) (ha : JE X W a ta) (hc : X.calm = true := by rfl) (hg : Gl X "len" := by rfl) (hg2 : Gl X "set" := by rfl)
    (na : starEach [a] X.env = (false, eval a X.env) :: starEach [] X.env := by rfl) : JE X W (.Call (.Name "len" p) [.Call (.Name "set" p2) [a] [] q] [] pos) (kLenSet X.K ta) := by
  refine ⟨fun pins s σ H Q I ⟨G, M, R, E, hv, h, hR, hE⟩ => ?_⟩
  refine Call_ (ld_blt I hg hm PySem.boot_len ?_)
  refine PyProof.Rows.callWith_builtin1 (PyProof.Rows.args_cons ?_ rfl) rfl rfl
  refine Call_ (ld_blt I hg2 hm2 PyProof.Rows.boot_set ?_)
  refine PyProof.Rows.callWith_type1 (PyProof.Rows.args_cons (thn (ha.run pins s σ H (fun x H1 => ∃ (l : Addr) (ns : List Int), x = V.ref l ∧ SqL X.K H1 l (ns.map V.int) ∧ ns.length ≤ 4000 ∧ ∀ m : Nat, m ≤ ns.length → (m = ns.length ↔ ns.Nodup) → Q (.int m) H1) I ?_) fun v s1 ⟨x, H1, I1, r1, q1⟩ => PyProof.Rows.args_nil ?_) na) na rfl
  · refine ⟨G, M, _, E, hv, h, fun x G1 M1 H1 hv1 q => ?_, hE⟩
    match x, q with
    | .ref a, ⟨ns, q1, q2, q3⟩ => exact ⟨a, ns, rfl, hv1.lst q1, q2, fun m e1 e2 => hR _ G1 M1 H1 hv1 (q3 m e1 e2)⟩
  obtain ⟨l, ns, rfl, hq, h1, q1⟩ := q1
  cases r1
  obtain ⟨its, r, pl, hz⟩ := I1.list hq
  have hl : its.toArray.size = ns.length := by rw [List.size_toArray, ← r.length, List.length_map]
  refine call_set_list (I1.ok.hd hc) pl.isList (ns := ns) (by simpa using r.ints) (by unfold scanBound; omega) fun h' tk hS hk => ?_
  rw [hl] at hS
  have em : firstMet (fun i => ns.getD i 0) ns.length = ns.foldl step_dedup [] := by
    unfold firstMet; rw [range_getD]
  rw [em] at hS
  have hle := dedup_len ns []
  have heq := dedup_eq ns []
  rw [List.length_nil, Nat.zero_add] at hle heq
  refine PyProof.Rows.args_nil ?_
  obtain ⟨o, es, ep, t, ho, hex, hd, _, _, _, hf, hn⟩ := hS
  have I2 : Inv X pins σ H1 { s1 with heap := h', toks := tk } := I1.kept fun b o e => hk b o (Heap.lt_size e) e
  refine call_len_set ho hex hd hf (by rw [hn] <;> omega) ⟨.int _, H1, I2.tok _, ⟨_, by rw [hn]⟩, q1 _ hle (heq.trans ⟨fun z => z.1, fun z => ⟨z, fun x _ => by simp⟩⟩)⟩
/-! ### reversed(range(..)) -/
/-! ### index, insert, pop, clear, tuple(), bool() -/
theorem km_index : KMt X "list.index" (kIndex X.K) := kmt_of mt_index fun x vs G M R H Q hv h hR => by
  match x, vs, h with
  | .ref a, [y], ⟨ys, j, z, h1, h2, h3, h4, h5, h6, h7⟩ => exact ⟨a, ys, y, j, z, rfl, rfl, hv.lst h1, h2, h3, h4, h5, h6, hR _ G M H hv h7⟩
def kInsert : KM := fun x vs G M R => match x, vs with
  | .ref a, [.int i, y] => ∃ n xs, M[n]? = some (a, .lst xs) ∧ xs.length < sizeLine ∧ 0 ≤ i ∧ i < 2 ^ 63 ∧ R .non G (M.set n (a, .lst (xs.take i.toNat ++ [y] ++ xs.drop i.toNat)))
  | _, _ => False
theorem km_insert : KMt X "list.insert" kInsert := kmt_of mt_insert fun x vs G M R H Q hv h hR => by
  match x, vs, h with
  | .ref a, [.int i, y], ⟨n, xs, h1, h2, h3, h4, h5⟩ => exact ⟨a, xs, i, y, rfl, rfl, hv.get h1, h2, h3, h4, hR _ G _ _ (hv.set h1) h5⟩
def kTuple (K : PySem.W.Frag) : KC := fun vs G M R => match vs with
  | [.ref a] => (∃ xs, LstAt K G M a xs ∧ ∀ p, Fr G M p → R (.ref p) (upd G p (.tup xs)) M) ∨ ∃ xs, SqT K G a xs ∧ R (.ref a) G M
  | _ => False
theorem kc_tuple : KCall X (.type "tuple") (kTuple X.K) := kcall_of call_tuple_of fun vs G M R H Q hv h hR => by
  match vs, h with
  | [.ref a], .inl ⟨xs, h1, h2⟩ => exact ⟨a, xs, rfl, .inl ⟨hv.lst h1, fun p hp => hR _ _ M _ (hv.newG hp) (h2 p (hv.fr hp))⟩⟩
  | [.ref a], .inr ⟨xs, h1, h2⟩ => exact ⟨a, xs, rfl, .inr ⟨hv.tup h1, hR _ G M H hv h2⟩⟩
def kBool : KC := fun vs G M R => match vs with
  | [.int i] => R (.bl (i != 0)) G M
  | [.bl k] => R (.bl k) G M
  | _ => False
theorem kc_bool : KCall X (.type "bool") kBool := kcall_of call_bool1 fun vs G M R H Q hv h hR => by
  match vs, h with
  | [.int i], h => exact .inl ⟨i, rfl, hR _ G M H hv h⟩
  | [.bl i], h => exact .inr ⟨i, rfl, hR _ G M H hv h⟩
def kPopAt : KM := fun x vs G M R => match x, vs with
  | .ref a, [.int i] => ∃ n xs k y, M[n]? = some (a, .lst xs) ∧ -(2 ^ 63) ≤ i ∧ i < 2 ^ 63 ∧ seqIndex? i xs.length = some k ∧ xs[k]? = some y ∧ R y G (M.set n (a, .lst (xs.eraseIdx k)))
  | _, _ => False
theorem km_popAt : KMt X "list.pop" kPopAt := kmt_of mt_popAt fun x vs G M R H Q hv h hR => by
  match x, vs, h with
  | .ref a, [.int i], ⟨n, xs, k, y, h1, h2, h3, h4, h5, h6⟩ => exact ⟨a, xs, i, k, y, rfl, rfl, hv.get h1, h2, h3, h4, h5, hR _ G _ _ (hv.set h1) h6⟩
/-! ### {k: v, ..} -/
end
end BT
namespace BT
open PySem PySem.Spec L2
end BT
set_option Elab.async false
set_option linter.all false
set_option maxRecDepth 100000
set_option maxHeartbeats 4000000
namespace BT
open PySem PySem.Spec L2
open PyProof.Rows hiding St
/-! ### objects: the program's classes by number, their attributes by place -/
def clsN : Nat → Str × List Str
  | 0 => ("Plain", ["words"])
  | 1 => ("Keeper", ["log"])
  | 2 => ("Shelf", ["keeper", "number", "things"])
  | 3 => ("Scan", ["cells", "limit", "draws", "keeper", "made", "shelf"])
  | 4 => ("Spare", ["cells", "limit", "draws", "keeper", "made", "side", "order", "shelf", "hand"])
  | 5 => ("Stairs", ["cells", "limit", "draws", "keeper", "made", "climb", "hand", "shelves", "orders"])
  | 6 => ("Tree", ["cells", "limit", "draws", "keeper", "made", "body", "table"])
  | 7 => ("Grove", ["cells", "limit", "draws", "keeper", "made", "highs", "bodies", "start", "table"])
  | 8 => ("Body", ["shelf", "high", "firsts", "hand"])
  | 9 => ("Climb", ["cells", "last", "full", "drawn", "home", "held"])
  | 10 => ("Runner", ["program", "slates", "place"])
  | _ => ("Desk", ["stores"])
def Ob (K : PySem.W.Frag) (k : Nat) (dx : Addr) (vs : List V) : HO := .ins (cl K (clsN k).1) dx ((clsN k).2.zip vs)
/-- what of the text a class must have -/
structure CK (K : PySem.W.Frag) (k : Nat) : Prop where
  cls : Cls K (cl K (clsN k).1)
  na : ∀ f ∈ (clsN k).2, NoAttr K (cl K (clsN k).1) f
section
variable {X : Cx} {W : WX} {pos : Pos}
/-- a method that keeps its promise, of the class k -/
structure MDef (P : Program) (w : World) (K : PySem.W.Frag) (mg : Str → Option Value) (base : Heap) (lev : Nat) (k : Nat) (m : Str) (S : KSp) : Prop where
  ex : ∃ f fd ps, FnOk P w K mg base (L2.CX P w) lev f fd ps (lift S) ∧ Meth K (cl K (clsN k).1) m f ∧ Binds K fd ps []
  ck : CK K k
  no : m ∉ (clsN k).2
theorem MDef.mono {P : Program} {w : World} {K : PySem.W.Frag} {mg : Str → Option Value} {base : Heap} {lev lev' k : Nat} {m : Str} {S : KSp} (D : MDef P w K mg base lev k m S) (h : lev ≤ lev') : MDef P w K mg base lev' k m S := by
  refine of_now ?_
  simp (disch := with_unfolding_all
    obtain ⟨⟨f, fd, ps, F, a, b⟩, c, d⟩ := D
    exact ⟨⟨f, fd, ps, F.mono h, a, b⟩, c, d⟩) only [↓now_true]
/-! C(..) -/
structure CDef (P : Program) (w : World) (K : PySem.W.Frag) (mg : Str → Option Value) (base : Heap) (lev : Nat) (k : Nat) (x : Str) (S : KSp) : Prop where
  ex : ∃ f fd ps, FnOk P w K mg base (L2.CX P w) lev f fd ps (lift S) ∧ Mk K (cl K (clsN k).1) f ∧ Binds K fd ps []
  g : mg x = some (.ref (cl K (clsN k).1))
/-! C.m(self, ..), m a def of the class C -/
structure FDef (P : Program) (w : World) (K : PySem.W.Frag) (mg : Str → Option Value) (base : Heap) (lev : Nat) (x m : Str) (S : KSp) : Prop where
  ex : ∃ f fd ps, FnOk P w K mg base (L2.CX P w) lev f fd ps (lift S) ∧ PySem.W.findCls K (.ref (cl K x)) (.type "type") m = some (.val (.ref f)) ∧ Binds K fd ps [] ∧ PySem.W.keepIn K (.ref f) = true
  g : mg x = some (.ref (cl K x))
  rd : PySem.W.readsIn K (cl K x) (.type "type") = true
  ga : PySem.W.specialIn K (.ref (cl K x)) "__getattribute__" = some (some (.builtin "type.__getattribute__"))
end
end BT
namespace BT
open PySem PySem.Spec L2
open PyProof.Rows hiding St
section
variable {P : Program} {w : World} {K : PySem.W.Frag} {mg : Str → Option Value} {base : Heap} {k lev : Nat} {C f : Addr} {fd : FuncData} {ps : List Str} {S : KSp} {x m : Str}
end
end BT
set_option Elab.async false
set_option linter.all false
set_option maxRecDepth 100000
set_option maxHeartbeats 4000000
namespace BT
open PySem PySem.Spec L2
open PyProof.Rows hiding St
/-! ### dicts whose keys are ints and texts -/
section
variable {X : Cx} {W : WX} {pos : Pos} {o i e f : Expr}
end
end BT
set_option Elab.async false
set_option linter.all false
set_option maxRecDepth 100000
set_option maxHeartbeats 4000000
namespace BT
open PySem PySem.Spec L2
open PyProof.Rows hiding St
/-! ### slices and sums of tuples, unpacked lists -/
section
variable {X : Cx} {W : WX} {pos : Pos} {o i e f : Expr}
/-- a tuple's slice; the whole of it is the tuple itself -/
def cutT (K : PySem.W.Frag) (x : V) (lo hi : Option Int) (G : Hp) (M : Mem) (R : KR) : Prop := match x with
  | .ref a => ∃ xs, SqT K G a xs ∧ (HT.sIx xs.length 0 lo = 0 ∧ HT.sIx xs.length xs.length hi = xs.length → R (.ref a) G M) ∧ (¬ (HT.sIx xs.length 0 lo = 0 ∧ HT.sIx xs.length xs.length hi = xs.length) → ∀ p, Fr G M p → R (.ref p) (upd G p (.tup (cutV xs lo hi))) M)
  | _ => False
def kSlT (K : PySem.W.Frag) (t : KE) (tl th : KO) : KE := fun σ G M R E => t σ G M (fun x G M => tl σ G M (fun l G M => th σ G M (fun u G M => cutT K x l u G M R) E) E) E
theorem je_slT {t : KE} {lo hi : Option Expr} {tl th : KO} {p2 : Pos} (he : JE X W e t) (hl : JO X W lo tl) (hu : JO X W hi th) : JE X W (.Subscript e (.Slice lo hi none p2) pos) (kSlT X.K t tl th) :=
  pe_mono (pe_slice sl_tupA he hl hu) fun σ H Q ⟨G, M, R, E, hv, h, hR, hE⟩ => ⟨G, M, _, E, hv, h, fun x G1 M1 H1 hv1 h1 => ⟨G1, M1, _, E, hv1, h1, fun l G2 M2 H2 hv2 h2 => ⟨G2, M2, _, E, hv2, h2, fun u G3 M3 H3 hv3 h3 => by
    match x, h3 with
    | .ref a, ⟨xs, q1, q2, q3⟩ => exact ⟨_, xs, rfl, hv3.tup q1, fun z => hR _ G3 M3 H3 hv3 (q2 z), fun z p hp => hR _ _ _ _ (hv3.newG hp) (q3 z p (hv3.fr hp))⟩, hE⟩, hE⟩, hE⟩
/-- the sum of two tuples -/
def kCat (K : PySem.W.Frag) : KR2 := fun x y G M R => match x, y with
  | .ref a, .ref b => ∃ xs ys, SqT K G a xs ∧ SqT K G b ys ∧ xs.length + ys.length ≤ sizeLine ∧ (xs = [] → R (.ref b) G M) ∧ (xs ≠ [] → ys = [] → R (.ref a) G M) ∧ (xs ≠ [] → ys ≠ [] → ∀ p, Fr G M p → R (.ref p) (upd G p (.tup (xs ++ ys))) M)
  | _, _ => False
theorem kop_cat : KOp X (binaryOp .Add) (kCat X.K) := kop_of op_catA fun x y G M R H Q hv h hR => by
  match x, y, h with
  | .ref a, .ref b, ⟨xs, ys, h1, h2, h3, h4, h5, h6⟩ => exact ⟨a, b, xs, ys, rfl, rfl, hv.tup h1, hv.tup h2, h3, fun z => hR _ G M H hv (h4 z), fun z w => hR _ G M H hv (h5 z w), fun z w p hp => hR _ _ _ _ (hv.newG hp) (h6 z w p (hv.fr hp))⟩
end
end BT
set_option Elab.async false
set_option linter.all false
set_option maxRecDepth 100000
set_option maxHeartbeats 4000000
namespace BT
open PySem PySem.Spec L2
open PyProof.Rows hiding St
/-! ### isinstance(err, (C, D, ..)); except C without a name -/
def orTab (a b : List (Str × Bool)) : List (Str × Bool) := a.zipWith (fun p q => (p.1, p.2 || q.2)) b
theorem orTab_mem : ∀ {a b : List (Str × Bool)}, a.map (·.1) = b.map (·.1) → ∀ p, p ∈ orTab a b → ∃ x y, (p.1, x) ∈ a ∧ (p.1, y) ∈ b ∧ p.2 = (x || y)
  | [], _, _, p, h => by simp [orTab] at h
  | _ :: _, [], _, p, h => by simp [orTab] at h
  | u :: a, v :: b, e, p, h => by
    have e1 : u.1 = v.1 := by simpa using (List.cons.inj e).1
    rcases List.mem_cons.mp (show p ∈ (u.1, u.2 || v.2) :: orTab a b from h) with rfl | h
    · exact ⟨u.2, v.2, List.mem_cons_self, by rw [e1]; exact List.mem_cons_self, rfl⟩
    · obtain ⟨x, y, h1, h2, h3⟩ := orTab_mem (List.cons.inj e).2 p h
      exact ⟨x, y, List.mem_cons_of_mem _ h1, List.mem_cons_of_mem _ h2, h3⟩
structure IsT (K : PySem.W.Frag) (cs : List V) (us : List Value) (tab : List (Str × Bool)) : Prop where
  p : Paired ClsV cs us
  n : PySem.W.kitAny K (.type "NoneType") us = some false
  t : ∀ p ∈ tab, ExcC K (cl K p.1) ∧ PySem.W.kitAny K (.ref (cl K p.1)) us = some p.2
theorem IsT.cons {K : PySem.W.Frag} {c : V} {u : Value} {cs : List V} {us : List Value} {tab tab1 : List (Str × Bool)} (hc : ClsV c u) (hn : PySem.W.kitOne K (.type "NoneType") u = some false)
    (ht : ∀ p ∈ tab1, ExcC K (cl K p.1) ∧ PySem.W.kitOne K (.ref (cl K p.1)) u = some p.2) (h : IsT K cs us tab) (e : tab1.map (·.1) = tab.map (·.1) := by rfl) : IsT K (c :: cs) (u :: us) (orTab tab1 tab) :=
  ⟨.cons hc h.p, kitAny_cons hn (fun _ => h.n) (fun z => nomatch z), fun p hp => by
    obtain ⟨x, y, h1, h2, h3⟩ := orTab_mem e p hp
    obtain ⟨q1, q2⟩ := ht _ h1
    refine ⟨q1, kitAny_cons q2 (fun z => ?_) (fun z => ?_)⟩
    · rw [h3, show x = false from z]
      exact (h.t _ h2).2
    · rw [h3, show x = true from z]; rfl⟩
theorem IsT.one {K : PySem.W.Frag} {c : V} {u : Value} {tab1 : List (Str × Bool)} (hc : ClsV c u) (hn : PySem.W.kitOne K (.type "NoneType") u = some false)
    (ht : ∀ p ∈ tab1, ExcC K (cl K p.1) ∧ PySem.W.kitOne K (.ref (cl K p.1)) u = some p.2) : IsT K [c] [u] tab1 :=
  ⟨.cons hc .nil, kitAny_cons hn (fun _ => rfl) (fun z => nomatch z), fun p hp => by
    obtain ⟨q1, q2⟩ := ht p hp
    exact ⟨q1, kitAny_cons q2 (fun z => by rw [z]; rfl) (fun z => z)⟩⟩
section
variable {X : Cx} {W : WX} {pos : Pos}
end
end BT
namespace PySem.SeqAt
open AutoSeq1 (wpAny_loadPart')
open MeetsSeq
end PySem.SeqAt
namespace BT
open PySem PySem.Spec L2
open PyProof.Rows hiding St
end BT
set_option Elab.async false
set_option linter.all false
set_option maxRecDepth 100000
set_option maxHeartbeats 4000000
namespace BT
open PySem PySem.Spec L2
open PyProof.Rows hiding St
/-! ### written data: what a display of constants lays -/
inductive XD where
  | non
  | bl (b : Bool)
  | int (i : Int)
  | str (s : Str)
  | list (l : List XD)
  | tup (l : List XD)
  | dict
mutual
inductive Rp (K : PySem.W.Frag) (G : Hp) (Mx : Mem) : V → XD → Prop where
  | non : Rp K G Mx .non .non
  | bl (b : Bool) : Rp K G Mx (.bl b) (.bl b)
  | int (i : Int) : Rp K G Mx (.int i) (.int i)
  | str (s : Str) : Rp K G Mx (.str s) (.str s)
  | list {a : Addr} {vs : List V} {ds : List XD} : ((a, HO.lst vs) ∈ Mx ∨ G a = some (.lst vs)) → RpA K G Mx vs ds → Rp K G Mx (.ref a) (.list ds)
  | tup {a : Addr} {vs : List V} {ds : List XD} : SqT K G a vs → RpA K G Mx vs ds → Rp K G Mx (.ref a) (.tup ds)
  | dict {a : Addr} : ((a, HO.dK []) ∈ Mx ∨ G a = some (.dK [])) → Rp K G Mx (.ref a) .dict
inductive RpA (K : PySem.W.Frag) (G : Hp) (Mx : Mem) : List V → List XD → Prop where
  | nil : RpA K G Mx [] []
  | cons {v : V} {d : XD} {vs : List V} {ds : List XD} : Rp K G Mx v d → RpA K G Mx vs ds → RpA K G Mx (v :: vs) (d :: ds)
end
section
variable {K : PySem.W.Frag} {G G' : Hp} {Mx My M : Mem}
mutual
theorem Rp.mono (f : ∀ a o, ((a, o) ∈ Mx ∨ G a = some o) → ((a, o) ∈ My ∨ G' a = some o)) (e : Ex G G') : ∀ {v : V} {d : XD}, Rp K G Mx v d → Rp K G' My v d
  | _, _, .non => .non
  | _, _, .bl b => .bl b
  | _, _, .int b => .int b
  | _, _, .str b => .str b
  | _, _, .list h hs => .list (f _ _ h) (RpA.mono f e hs)
  | _, _, .tup h hs => .tup (ex_t e h) (RpA.mono f e hs)
  | _, _, .dict h => .dict (f _ _ h)
theorem RpA.mono (f : ∀ a o, ((a, o) ∈ Mx ∨ G a = some o) → ((a, o) ∈ My ∨ G' a = some o)) (e : Ex G G') : ∀ {vs : List V} {ds : List XD}, RpA K G Mx vs ds → RpA K G' My vs ds
  | _, _, .nil => .nil
  | _, _, .cons h hs => .cons (Rp.mono f e h) (RpA.mono f e hs)
end
theorem Rp.up {v : V} {d : XD} (e : Ex G G') (s : ∀ x, x ∈ Mx → x ∈ My) (h : Rp K G Mx v d) : Rp K G' My v d := h.mono (fun a o q => q.elim (fun z => .inl (s _ z)) (fun z => .inr (e _ _ z))) e
theorem RpA.up {v : List V} {d : List XD} (e : Ex G G') (s : ∀ x, x ∈ Mx → x ∈ My) (h : RpA K G Mx v d) : RpA K G' My v d := h.mono (fun a o q => q.elim (fun z => .inl (s _ z)) (fun z => .inr (e _ _ z))) e
theorem Rp.ex {v : V} {d : XD} (e : Ex G G') (h : Rp K G Mx v d) : Rp K G' Mx v d := h.up e fun _ z => z
theorem RpA.ex {v : List V} {d : List XD} (e : Ex G G') (h : RpA K G Mx v d) : RpA K G' Mx v d := h.up e fun _ z => z
theorem RpA.len : ∀ {vs : List V} {ds : List XD}, RpA K G Mx vs ds → vs.length = ds.length
  | _, _, .nil => rfl
  | _, _, .cons _ hs => by rw [List.length_cons, List.length_cons, hs.len]
theorem RpA.app : ∀ {vs ws : List V} {ds es : List XD}, RpA K G Mx vs ds → RpA K G Mx ws es → RpA K G Mx (vs ++ ws) (ds ++ es)
  | _, _, _, _, .nil, h => h
  | _, _, _, _, .cons a b, h => .cons a (b.app h)
theorem RpA.get : ∀ {vs : List V} {ds : List XD} {i : Nat}, RpA K G Mx vs ds → i < vs.length → ∃ v d, vs[i]? = some v ∧ ds[i]? = some d ∧ Rp K G Mx v d
  | _, _, _, .nil, h => by simp at h
  | _, _, 0, .cons a _, _ => ⟨_, _, rfl, rfl, a⟩
  | _, _, i + 1, .cons _ b, h => by
    obtain ⟨v, d, h1, h2, h3⟩ := RpA.get (i := i) b (by simpa using h)
    exact ⟨v, d, by simpa using h1, by simpa using h2, h3⟩
/-- cells of its own -/
def NewC (G : Hp) (Mx : Mem) : Prop := (∀ x, x ∈ Mx → G x.1 = none) ∧ (Mx.map (·.1)).Nodup
theorem NewC.nil : NewC G [] := ⟨fun _ z => (nomatch z), List.nodup_nil⟩
def frzA (G : Hp) (Mx : Mem) : Hp := Mx.foldr (fun x g => upd g x.1 x.2) G
theorem frzA_wk : ∀ (Mx : Mem) (G : Hp) (M : Mem), Wk G (Mx ++ M) (frzA G Mx) M
  | [], G, M => Wk.refl
  | x :: Mx, G, M => by
    refine Wk.trans (Wk.perm (M' := Mx ++ x :: M) ?_) ((frzA_wk Mx G (x :: M)).trans Wk.frz0)
    exact List.perm_middle
theorem frzA_ne : ∀ {Mx : Mem} {G : Hp} {a : Addr}, (∀ x, x ∈ Mx → x.1 ≠ a) → frzA G Mx a = G a
  | [], _, _, _ => rfl
  | x :: Mx, G, a, h => by
    show upd (frzA G Mx) x.1 x.2 a = _
    rw [upd_ne (Ne.symm (h x List.mem_cons_self))]
    exact frzA_ne fun y hy => h y (List.mem_cons_of_mem _ hy)
theorem frzA_ex (h : NewC G Mx) : Ex G (frzA G Mx) := fun a o e => by
  rw [frzA_ne]
  · exact e
  · intro x hx z
    rw [← z, h.1 x hx] at e
    cases e
theorem frzA_at : ∀ {Mx : Mem} {G : Hp}, (Mx.map (·.1)).Nodup → ∀ x, x ∈ Mx → frzA G Mx x.1 = some x.2
  | [], _, _, _, h => nomatch h
  | y :: Mx, G, hn, x, h => by
    rw [List.map_cons, List.nodup_cons] at hn
    show upd (frzA G Mx) y.1 y.2 x.1 = _
    rcases List.mem_cons.mp h with rfl | h
    · exact upd_same
    · rw [upd_ne (fun z => hn.1 (by rw [← z]; exact List.mem_map.mpr ⟨x, h, rfl⟩))]
      exact frzA_at hn.2 x h
theorem Rp.frz {v : V} {d : XD} (n : NewC G Mx) (h : Rp K G Mx v d) : Rp K (frzA G Mx) [] v d := h.mono (fun a o q => q.elim (fun z => .inr (frzA_at n.2 (a, o) z)) (fun z => .inr (frzA_ex n _ _ z))) (frzA_ex n)
theorem RpA.frz {v : List V} {d : List XD} (n : NewC G Mx) (h : RpA K G Mx v d) : RpA K (frzA G Mx) [] v d := h.mono (fun a o q => q.elim (fun z => .inr (frzA_at n.2 (a, o) z)) (fun z => .inr (frzA_ex n _ _ z))) (frzA_ex n)
/-- a cell more, a tuple more -/
theorem NewC.cell {p : Addr} {o : HO} (h : NewC G Mx) (f : Fr G (Mx ++ M) p) : NewC G ((p, o) :: Mx) := by
  refine ⟨fun x hx => ?_, ?_⟩
  · rcases List.mem_cons.mp hx with rfl | hx
    · exact f.1
    · exact h.1 x hx
  · rw [List.map_cons, List.nodup_cons]
    refine ⟨fun z => ?_, h.2⟩
    obtain ⟨y, hy, e⟩ := List.mem_map.mp z
    exact f.2 y (List.mem_append.mpr (.inl hy)) e
theorem NewC.tup {p : Addr} {o : HO} (h : NewC G Mx) (f : Fr G (Mx ++ M) p) : NewC (upd G p o) Mx :=
  ⟨fun x hx => by rw [upd_ne (f.2 x (List.mem_append.mpr (.inl hx)))]; exact h.1 x hx, h.2⟩
/-- an expression that lays written data -/
def LitOk (K : PySem.W.Frag) (te : KE) (σ : St) (G : Hp) (d : XD) : Prop := ∀ (G0 : Hp) (My M : Mem) (R : KR) (E : KX), Ex G G0 → NewC G0 My → (∀ v G' Mx, Ex G0 G' → NewC G' (Mx ++ My) → Rp K G' Mx v d → R v G' (Mx ++ (My ++ M))) → te σ G0 (My ++ M) R E
def LitsOk (K : PySem.W.Frag) (ta : KA) (σ : St) (G : Hp) (ds : List XD) : Prop := ∀ (G0 : Hp) (My M : Mem) (R : List V → Hp → Mem → Prop) (E : KX), Ex G G0 → NewC G0 My → (∀ vs G' Mx, Ex G0 G' → NewC G' (Mx ++ My) → RpA K G' Mx vs ds → R vs G' (Mx ++ (My ++ M))) → ta σ G0 (My ++ M) R E
end
section
variable {K : PySem.W.Frag} {σ : St} {G : Hp} {te ta tb : KE} {tas : KA} {ds es : List XD} {d : XD}
theorem lit_pure {v : V} (h : ∀ G0 M R E, Ex G G0 → R v G0 M → te σ G0 M R E) (r : Rp K G [] v d) : LitOk K te σ G d := fun G0 My M R E e n q => h G0 _ R E e (q v G0 [] Ex.refl n (r.ex e))
theorem lit_int {i : Int} : LitOk K (kC (.int i)) σ G (.int i) := lit_pure (fun _ _ _ _ _ q => q) (.int i)
theorem lit_bl {i : Bool} : LitOk K (kC (.bl i)) σ G (.bl i) := lit_pure (fun _ _ _ _ _ q => q) (.bl i)
theorem lit_str {i : Str} : LitOk K (kC (.str i)) σ G (.str i) := lit_pure (fun _ _ _ _ _ q => q) (.str i)
theorem lit_non : LitOk K (kC .non) σ G .non := lit_pure (fun _ _ _ _ _ q => q) .non
theorem lit_neg {i : Int} : LitOk K (kUn kNeg (kC (.int i))) σ G (.int (-i)) := lit_pure (fun _ _ _ _ _ q => q) (.int _)
theorem lit_var {i : Nat} {v : V} (h : σ[i]? = some (some v)) (r : Rp K G [] v d) : LitOk K (kVar i) σ G d := lit_pure (v := v) (fun _ _ _ _ _ q => by unfold kVar; rw [h]; exact q) r
theorem lit_dict : LitOk K kDNew σ G .dict := fun G0 My M R E e n q p fp => q _ G0 [(p, .dK [])] Ex.refl (n.cell fp) (.dict (.inl List.mem_cons_self))
theorem lits_nil : LitsOk K kNil σ G [] := fun G0 My M R E e n q => q [] G0 [] Ex.refl n .nil
theorem lits_cons (h : LitOk K te σ G d) (hs : LitsOk K tas σ G ds) : LitsOk K (kCons te tas) σ G (d :: ds) := fun G0 My M R E e n q =>
  h G0 My M _ E e n fun v G1 Mx e1 n1 r1 => by
    rw [← List.append_assoc]
    refine hs G1 (Mx ++ My) M _ E (e.trans e1) n1 fun vs G2 Mz e2 n2 r2 => ?_
    have := q (v :: vs) G2 (Mz ++ Mx) (e1.trans e2) (by rw [List.append_assoc]; exact n2) (.cons (r1.up e2 fun x hx => List.mem_append.mpr (.inr hx)) (r2.up Ex.refl fun x hx => List.mem_append.mpr (.inl hx)))
    simpa [List.append_assoc] using this
theorem lit_tup (h : LitsOk K tas σ G ds) (hl : ds.length ≤ 1000) : LitOk K (kTup tas) σ G (.tup ds) := fun G0 My M R E e n q =>
  h G0 My M _ E e n fun vs G1 Mx e1 n1 r1 => ⟨Nat.le_trans (by rw [r1.len]; exact hl) (by decide), fun p fp => by
    rw [← List.append_assoc] at fp
    exact q _ _ Mx (e1.trans (Ex.new fp)) (n1.tup fp) (.tup sqt_new (r1.ex (Ex.new fp)))⟩
theorem lit_lst (h : LitsOk K tas σ G ds) (hl : ds.length ≤ 1000) : LitOk K (kLst tas) σ G (.list ds) := fun G0 My M R E e n q =>
  h G0 My M _ E e n fun vs G1 Mx e1 n1 r1 => ⟨Nat.le_trans (by rw [r1.len]; exact hl) (by decide), fun p fp => by
    rw [← List.append_assoc] at fp
    exact q _ _ ((p, .lst vs) :: Mx) e1 (n1.cell fp) (.list (.inl List.mem_cons_self) (r1.up Ex.refl fun x hx => List.mem_cons_of_mem _ hx))⟩
theorem lit_pow {i j : Int} (h : CPow i j) : LitOk K (kBin (kI CPow fun i j => .int (i ^ j.toNat)) (kC (.int i)) (kC (.int j))) σ G (.int (i ^ j.toNat)) := lit_pure (v := .int (i ^ j.toNat)) (fun _ _ _ _ _ q => ⟨h, q⟩) (.int _)
/-- one of written things is picked by a draw -/
theorem lit_pick {M : Mem} {R : KR} {E : KX} {i n : Nat} {p : Addr} {c s L : Int} (h : LitOk K te σ G (.list ds)) (hv : σ[i]? = some (some (.ref p))) (hn : M[n]? = some (p, pool c s)) (hs : PoolOk s) (hL : L = ds.length) (h0 : 0 < ds.length) (h1 : ds.length ≤ 1000)
    (q : ∀ v d G' Mx c' s', Ex G G' → NewC G' Mx → d ∈ ds → Rp K G' Mx v d → PoolOk s' → R v G' (Mx ++ M.set n (p, pool c' s'))) : kBin (kIx K) te (kCall (S_law_take K) (kCons (kVar i) (kCons (kC (.int L)) kNil))) σ G M R E := by
  refine h G [] M _ E Ex.refl NewC.nil fun v G1 Mx e1 n1 r1 => ?_
  rw [List.append_nil] at n1
  cases r1 with
  | @list a vs _ ha hs1 =>
    have hl := hs1.len
    rw [List.nil_append]
    simp only [kCall, kCons, kVar, hv]
    have hn2 : (Mx ++ M)[Mx.length + n]? = some (p, pool c s) := by rw [List.getElem?_append_right (by omega), Nat.add_sub_cancel_left]; exact hn
    refine ⟨p, L, Mx.length + n, c, s, rfl, rfl, hn2, hs, by omega, by omega, fun r c' s' r0 r1 hs' => ?_⟩
    obtain ⟨j, rfl⟩ := Int.eq_ofNat_of_zero_le r0
    obtain ⟨y, d, hy, hd, ry⟩ := hs1.get (i := j) (by omega)
    have hne : (a, HO.lst vs) ∈ Mx → (a, HO.lst vs) ∈ (Mx ++ M).set (Mx.length + n) (p, pool c' s') := fun z => by
      rw [List.set_append_right _ _ (by omega)]; exact List.mem_append.mpr (.inl z)
    refine ⟨vs, y, ?_, atI_nat hy, ?_⟩
    · rcases ha with z | z
      · exact .inl (.inl (hne z))
      · exact .inl (.inr (sql_of z))
    · have := q y d G1 Mx c' s' e1 n1 (List.mem_of_getElem? hd) ry hs'
      rw [List.set_append_right _ _ (by omega), Nat.add_sub_cancel_left]; exact this
end
/-! what is known of written things -/
def XD.ty : XD → PT
  | .non => .non | .bl _ => .bool | .int _ => .int | .str _ => .str | .list _ => .list | .tup _ => .tuple | .dict => .dict
theorem rp_ty {K : PySem.W.Frag} {G : Hp} {v : V} {d : XD} (h : Rp K G [] v d) (M : Mem) : TyK K G M v d.ty := by
  cases h with
  | non => exact ty_non
  | bl b => exact ty_bl
  | int i => exact ty_int
  | str s => exact ty_str
  | list h _ =>
    rcases h with z | z
    · cases z
    · exact ty_lst (.inr (sql_of z))
  | tup h _ => exact ty_tup h
  | dict h =>
    rcases h with z | z
    · cases z
    · exact ty_dict (.inr z)
mutual
def XD.toD : XD → Option PyData
  | .non => some .none
  | .bl b => some (.bool b)
  | .int i => some (.int i)
  | .str s => some (.str s)
  | .list l => (XD.toDs l).map .list
  | .tup l => (XD.toDs l).map .tuple
  | .dict => none
def XD.toDs : List XD → Option (List PyData)
  | [] => some []
  | x :: l => match x.toD, XD.toDs l with
    | some d, some ds => some (d :: ds)
    | _, _ => none
end
mutual
theorem rp_dp {K : PySem.W.Frag} {G : Hp} : ∀ {v : V} {d : XD} {e : PyData}, Rp K G [] v d → d.toD = some e → Dp K G v e
  | _, _, _, .non, h => by cases h; exact .non
  | _, _, _, .bl b, h => by cases h; exact .bl b
  | _, _, _, .int b, h => by cases h; exact .int b
  | _, _, _, .str b, h => by cases h; exact .str b
  | _, _, e, .list (ds := ds) ha hs, h => by
    have h : (XD.toDs ds).map PyData.list = some e := h
    obtain ⟨es, h1, rfl⟩ := Option.map_eq_some_iff.mp h
    rcases ha with z | z
    · cases z
    · exact .lst (sql_of z) (rpa_dp hs h1)
  | _, _, e, .tup (ds := ds) ha hs, h => by
    have h : (XD.toDs ds).map PyData.tuple = some e := h
    obtain ⟨es, h1, rfl⟩ := Option.map_eq_some_iff.mp h
    exact .tup ha (rpa_dp hs h1)
  | _, _, _, .dict _, h => by cases h
theorem rpa_dp {K : PySem.W.Frag} {G : Hp} : ∀ {vs : List V} {ds : List XD} {es : List PyData}, RpA K G [] vs ds → XD.toDs ds = some es → DpAll K G vs es
  | _, _, _, .nil, h => by cases h; exact .nil
  | _, _, es, .cons (d := d) (ds := ds) a b, h => by
    have h : (match d.toD, XD.toDs ds with | some d, some ds => some (d :: ds) | _, _ => none) = some es := h
    split at h
    · rename_i d' ds' e1 e2
      cases h
      exact .cons (rp_dp a e1) (rpa_dp b e2)
    · cases h
end
end BT
namespace BT
open PySem PySem.Spec L2
theorem LitOk.use {K : PySem.W.Frag} {te : KE} {σ : St} {G : Hp} {d : XD} {M : Mem} {R : KR} {E : KX} (h : LitOk K te σ G d) (q : ∀ v G' Mx, Ex G G' → NewC G' Mx → Rp K G' Mx v d → R v G' (Mx ++ M)) : te σ G M R E :=
  h G [] M R E Ex.refl NewC.nil fun v G' Mx e n r => by rw [List.append_nil] at n; exact q v G' Mx e n r
theorem Wk.dropP {G : Hp} (Mx : Mem) {M : Mem} : Wk G (Mx ++ M) G M := fun H hv => ⟨hv.ex, fun x hx => hv.mu x (List.mem_append.mpr (.inr hx)), hv.nd.sublist ((List.sublist_append_right Mx M).map _), fun x hx => hv.dj x (List.mem_append.mpr (.inr hx))⟩
end BT
set_option Elab.async false
set_option linter.all false
set_option maxRecDepth 100000
set_option maxHeartbeats 4000000
namespace BT
open PySem PySem.Spec L2
open PyProof.Rows hiding St
/-! ### dicts that are walked: locked while it goes on -/
section
variable {X : Cx} {W : WX} {pos : Pos} {o i e f tg : Expr}
/-! what is walked -/
end
end BT
set_option Elab.async false
set_option linter.all false
set_option maxRecDepth 100000
set_option maxHeartbeats 4000000
namespace BT
open PySem PySem.Spec L2
open PyProof.Rows hiding St
/-! ### a statement at which some heap is known to be as told -/
theorem Hv.no {G : Hp} {M : Mem} {x : Addr × HO} (h : ∃ H, Hv G M H) (hx : x ∈ M) : G x.1 = none := by
  refine of_now ?_
  simp (disch := with_unfolding_all
    obtain ⟨H, hv⟩ := h
    exact hv.dj x hx) only [↓now_true]
theorem Hv.ne {G : Hp} {M : Mem} {x y : Addr × HO} {i j : Nat} (h : ∃ H, Hv G M H) (hx : M[i]? = some x) (hy : M[j]? = some y) (n : i ≠ j) : x.1 ≠ y.1 := fun e => by
  obtain ⟨H, hv⟩ := h
  exact n (nodup_at M j y.1 y.2 x i hv.nd hy hx e)
end BT
namespace BT
open PySem PySem.Spec L2
theorem Hv.newc {G : Hp} {Mx M : Mem} (h : ∃ H, Hv G (Mx ++ M) H) : NewC G Mx := by
  obtain ⟨H, hv⟩ := h
  exact ⟨fun x hx => hv.dj x (List.mem_append.mpr (.inl hx)), hv.nd.sublist ((List.sublist_append_left Mx M).map _)⟩
end BT
set_option Elab.async false
set_option linter.all false
set_option maxRecDepth 100000
set_option maxHeartbeats 4000000
namespace BT
open PySem PySem.Spec L2
open PyProof.Rows hiding St
/-! ### defs that are called where no guard stands; repr -/
structure GFn (P : Program) (w : World) (K : PySem.W.Frag) (mg : Str → Option Value) (base : Heap) (k : Nat) (f : Addr) (fd : FuncData) (ps : List Str) (sp : Sp) : Prop where
  len : ∀ vs H Q E, sp vs H Q E → vs.length = ps.length
  go : ∀ {A : Around} {outer : List Env} {s : Shared} {H : Hp} {args : Args} {us : List Value} {vs : List V} {Q : VK} {E : XK}, A.guards = some [] → Room k A → Env0 P w K mg base A outer s H → BindsTo s fd args (ps.zip us) → Vals vs us → sp vs H Q E →
    codeAny (model P w) A (.call (.ref f) args) (CR (L2.CX P w) outer P w H s Q E) s
section
variable {P : Program} {w : World} {K : PySem.W.Frag} {mg : Str → Option Value} {base : Heap} {k : Nat} {f : Addr} {fd : FuncData} {ps : List Str} {sp : Sp}
theorem GFn.mono {j : Nat} (F : GFn P w K mg base j f fd ps sp) (h : j ≤ k) : GFn P w K mg base k f fd ps sp := ⟨F.len, fun g r => F.go g (r.mono h)⟩
theorem gfn_mk {x qual : Str} {st : Stmt} {N : List Str} (F : Fun K x qual st f fd) (sc : FnScope N ps (defScope st)) (len : ∀ vs H Q E, sp vs H Q E → vs.length = ps.length)
    (hbd : ∀ (cdv : Value) (A : Around) (outer : List Env) (s : Shared) (H : Hp) (vs : List V) (Q : VK) (E : XK), A.guards = some [] → Room k (A.deeper (envOfC qual (defScope st) s.heap.objs.size f cdv)) → sp vs H Q E →
      ∃ t, PSs (cxOf (L2.CX P w) P w K mg base N qual (defScope st) f cdv A outer s H E) (defBody st) t ∧ t { nx := fun _ H' => Q .non H', rt := Q } (start N vs) H) : GFn P w K mg base (k + 1) f fd ps sp := by
  obtain ⟨o1, o2, o3, o4, o5, o6, cdv, o8, o9, rfl, lk, hcd⟩ := F.ex
  refine ⟨len, fun {A outer s H args us vs Q E} gd rm en bd rv hsp => ?_⟩
  have hln := len _ _ _ _ hsp
  have inK : K.In s.heap := en.mod.kin.keeps fun a u z => (en.bs a u z).1
  have nolim : s.heap.NoLimit := en.mod.nolimit.keeps fun a u z => (en.bs a u z).1
  have kinds : ∀ z ∈ ps.zip us, (defScope st).names.lookup z.1 = some .local ∨ ((defScope st).names.lookup z.1 = some .cell ∧ ((cellsFrom (s.heap.objs.size + 1) (defScope st).names []).lookup z.1).isSome = true) := fun z hz => by
    obtain ⟨n, u⟩ := z
    rcases sc.par n (List.of_mem_zip hz).1 with h | h
    · exact .inl h
    · exact .inr ⟨h, PySem.W.cellsFrom_some _ _ _ (.inl h)⟩
  refine codeAny_call_function rm.depth (inK _ _ lk) rfl sc.co sc.gen rfl (PySem.W.codeRec_of inK hcd) (bd _ _ _ _ ?_)
  refine wpAny_newFunctionEnv_cells sc.kind kinds fun env hen s1 x => ?_
  subst hen
  refine ⟨nolim.keeps x.toInCall.keep, codeAny_func ?_⟩
  obtain ⟨t, ht, hq⟩ := hbd cdv A outer s H vs Q E gd (rm.deeper _) hsp
  have I := inv_start (CX := L2.CX P w) (E := E) sc rm.hd en hln rv x
  have fin : ∀ {σ' : St} {H' : Hp} {v : V} {u : Value} {s' : Shared}, Inv (cxOf (L2.CX P w) P w K mg base N qual (defScope st) f cdv A outer s H E) [] σ' H' s' → RelV v u → Q v H' → CE outer P w H s Q u s' := fun J r2 q => ⟨_, _, J.os, J.bare, J.base, J.hok, r2, q⟩
  refine wpAny_mono (ht.run [] s1 (start N vs) H _ I hq) (fun fl s' hs => ?_) fun e s' hs => hs
  match fl, hs with
  | .ret u, ⟨v, σ', H', J, r2, q⟩ => exact fin J r2 q
  | .next, ⟨σ', H', J, q⟩ => exact fin (v := V.non) (u := Value.none) J rfl q
  | .brk, ⟨_, _, _, z⟩ => exact z.elim
  | .cont, ⟨_, _, _, z⟩ => exact z.elim
/-- a def with its promise, of this kind -/
theorem gfn_ok {x qual : Str} {st : Stmt} {N : List Str} {S : KSp} (F : Fun K x qual st f fd) (sc : FnScope N ps (defScope st)) (len : ∀ vs G M R X, S vs G M R X → vs.length = ps.length)
    (hbody : ∀ (cdv : Value) (A : Around) (outer : List Env) (s : Shared) (H : Hp) (E : XK), A.guards = some [] → Room k (A.deeper (envOfC qual (defScope st) s.heap.objs.size f cdv)) →
      ∃ t, JSs (cxOf (L2.CX P w) P w K mg base N qual (defScope st) f cdv A outer s H E) (fun c d _ H => E c d H) (defBody st) t ∧
        ∀ vs G M R Z, S vs G M R Z → t { nx := fun _ G M => wkR R .non G M, rt := wkR R, xc := fun c d _ G M => wkX Z c d G M } (start N vs) G M) : GFn P w K mg base (k + 1) f fd ps (lift S) := by
  refine gfn_mk F sc (fun vs H Q E ⟨G, M, R, Z, _, h, _⟩ => len vs G M R Z h) fun cdv A outer s H vs Q E hg hr ⟨G, M, R, Z, hv, h, hR, hZ⟩ => ?_
  obtain ⟨t, j, q⟩ := hbody cdv A outer s H E hg hr
  exact ⟨_, j, G, M, _, hv, q vs G M R Z h, ⟨fun σ G M H hv h => (h H hv).elim fun G' h => h.elim fun M' h => hR _ G' M' H h.1 h.2, fun v G M H hv h => (h H hv).elim fun G' h => h.elim fun M' h => hR _ G' M' H h.1 h.2, fun _ _ _ _ _ z => z.elim, fun _ _ _ _ _ z => z.elim, fun c a σ G M H hv ⟨G', M', w, q⟩ => hZ c a G' M' H (w H hv) q⟩⟩
structure DefG (P : Program) (w : World) (K : PySem.W.Frag) (mg : Str → Option Value) (base : Heap) (lev : Nat) (x : Str) (ps : List Str) (S : KSp) : Prop where
  ex : ∃ f fd, GFn P w K mg base lev f fd ps (lift S) ∧ mg x = some (.ref f) ∧ PySem.W.keepIn K (.ref f) = true ∧ Binds K fd ps []
end
section
variable {X : Cx} {W : WX} {pos p : Pos} {e : Expr} {es : List Expr} {x : Str} {k lev : Nat} {ps : List Str} {S : KSp} {t : KA}
theorem je_callG (D : DefG X.prog X.w X.K X.mg X.base lev x ps S) (hg0 : X.A.guards = some []) (hr : Room k X.A) (tk : Takes X W) (ha : JA X W (e :: es) t) (hl : lev ≤ k := by decide) (hg : Gl X x := by rfl)
    (hdb : (x == ("__debug__" : Str)) = false := by decide) (he : starEach (e :: es) X.env = (false, eval e X.env) :: starEach es X.env := by rfl) (hpl : (backTo pos (starEach es X.env)).any (·.1) = false := by rfl) :
    JE X W (.Call (.Name x p) (e :: es) [] pos) (kCall S t) := by
  obtain ⟨f, fd, F, hm, hk, hb⟩ := D.ex
  have F := F.mono hl
  refine ⟨fun pins s σ H Q I ⟨G, M, R, E, hv, h, hR, hE⟩ => ?_⟩
  refine wpAny_Call_Name_kw (ld_glob I hg hm ?_ hdb)
  refine PySem.W.callWith_K (h₀ := X.base) I.ok.mod.kin hk (thn (ha.run pos pins s σ H (fun vs H1 => lift S vs H1 Q (WE W σ)) I ?_) fun us s1 ⟨vs, H1, I1, r, q⟩ => ⟨I1.kIn, ?_⟩) he hpl
  · exact ⟨G, M, _, E, hv, h, fun vs G1 M1 H1 hv1 q => ⟨G1, M1, R, E, hv1, q, hR, hE⟩, hE⟩
  have hl : us.length = ps.length := by rw [← r.length]; exact F.len _ _ _ _ q
  have b := hb s1 us I1.kIn (by rw [List.append_nil]; exact hl)
  rw [List.append_nil] at b
  refine wpAny_call (codeAny_mono (F.go (args := ⟨us, []⟩) hg0 hr I1.env0 b r q) fun r s' hq => ?_)
  match r, hq with
  | .error e, hq => exact passAt tk σ pins H1 s1 e s' I1 hq
  | .ok (.ret u), hq => exact I1.after hq
  | .ok .next, hq => exact False.elim hq
  | .ok .brk, hq => exact False.elim hq
  | .ok .cont, hq => exact False.elim hq
end
end BT
namespace BT
open PySem PySem.Spec L2
open PyProof.Rows hiding St
/-- the law's own call, where nothing but the script is known of the heap -/
theorem call_known {P : Program} {w : World} {K : PySem.W.Frag} {mg mb : Str → Option Value} {k : Nat} {fa a : Addr} {fd : FuncData} {x : Str} {sp : Sp} {s : Shared} {us : List Value} {ns : List Int} (inK : K.In s.heap) (gl : s.heap.Ns mainGlobals mg) (bi : s.heap.Ns builtinsNs mb) (boot : ∀ x : Str, x ≠ "__name__" → mb x = bootBuiltins x)
    (nolim : s.heap.NoLimit) (gens : s.gens = #[]) (hobj : s.heap.get? a = some { cls := .type "list", data := .seq us.toArray }) (rm : Room k callerA) (F : ∀ base : Heap, K.In base → base.Ns mainGlobals mg → GFn P w K mg base k fa fd [x] sp) (bd : ∀ (s : Shared) (u : Value), BindsTo s fd ⟨[u], []⟩ [(x, u)])
    (H : Hp) (only : L2.Only H) (hs : sp [.ref a] H (fun v _ => v = .bl true) fun _ _ _ => False) (hok : HOk P w H s.heap) (one : ∀ b, H b ≠ none → b = a) (own : H a ≠ none → K.lookup a = none) :
    codeAny (model P w) callerA (.call (.ref fa) ⟨[.ref a], []⟩) (fun r s' => r = .ok (.ret (.bool true)) ∧ OldK s.heap s'.heap ∧ s'.os = s.os ∧ AllBare s'.gens) s := by
  have seen : ∀ {b : Addr} {o : Obj}, s.heap.get? b = some o → H b = none → (hidT s.heap H).get? b = some o := fun e z => hidT_get e z
  have nodict : ∀ {b : Addr} {o : Obj} {es : Array DictEntry} {ep : Nat}, s.heap.get? b = some o → o.data = .dict es ep → H b = none := fun {b o es ep} e dd => by
    apply Classical.byContradiction
    intro z
    have ba := one b z
    subst ba
    rw [hobj] at e
    cases e
    exact absurd (show Data.seq us.toArray _ = Data.dict es ep from dd) (by intro y; cases y)
  have ns2 : ∀ {b : Addr} {m : Str → Option Value}, s.heap.Ns b m → (hidT s.heap H).Ns b m := fun ⟨o, es, ep, e, dd, r⟩ => ⟨o, es, ep, seen e (nodict e dd), dd, r⟩
  have inB : K.In (hidT s.heap H) := fun b o e => seen (inK b o e) (by
    apply Classical.byContradiction
    intro z
    have ba := one b z
    subst ba
    rw [own z] at e
    cases e)
  obtain ⟨mc, l1, l2⟩ := nolim
  have md : Mod K mg (hidT s.heap H) := ⟨inB, ns2 gl, ⟨mb, ns2 bi, boot⟩, ⟨mc, ns2 l1, l2⟩⟩
  have en : Env0 P w K mg (hidT s.heap H) callerA [] s H := ⟨rfl, md, fun b o e => of_hidT e, Nat.le_of_eq (hidT_size _ _), trivial, (fun b z => nomatch z), hok, .of_eq gens⟩
  refine codeAny_mono ((F _ inB (ns2 gl)).go (args := ⟨[.ref a], []⟩) (us := [.ref a]) (vs := [.ref a]) rfl rm en (bd s (.ref a)) (.cons rfl .nil) hs) fun r s' h => ?_
  match r, h with
  | .error e, h => exact (cx_none h).elim
  | .ok .next, h => exact False.elim h
  | .ok .brk, h => exact False.elim h
  | .ok .cont, h => exact False.elim h
  | .ok (.ret u), ⟨v, H', h1, h2, un, h3, h4, h5⟩ =>
    have e5 : v = .bl true := h5
    subst e5
    obtain rfl : u = Value.bool true := h4
    refine ⟨rfl, OldK.of_keep fun b o e => ?_, h1, h2⟩
    by_cases z : H b = none
    · exact un.keep b o e z (fun y => nomatch y) (by simp)
    · rcases only b with y | ⟨ob, xs, y⟩
      · exact (z y).elim
      · obtain ⟨e1, _⟩ := hok b _ y
        obtain ⟨e2, _⟩ := h3 b _ (un.frzs b ob _ y)
        rw [e] at e1
        cases e1
        exact e2
theorem law_callG {P : Program} {w : World} {K : PySem.W.Frag} {mg mb : Str → Option Value} {k : Nat} {fa a : Addr} {fd : FuncData} {x : Str} {sp : Sp} {s : Shared} {us : List Value} {ns : List Int} (inK : K.In s.heap) (gl : s.heap.Ns mainGlobals mg) (bi : s.heap.Ns builtinsNs mb) (boot : ∀ x : Str, x ≠ "__name__" → mb x = bootBuiltins x)
    (nolim : s.heap.NoLimit) (gens : s.gens = #[]) (hobj : s.heap.get? a = some { cls := .type "list", data := .seq us.toArray }) (hi : IntsAre us ns) (hl : ns.length ≤ sizeLine) (rm : Room k callerA) (F : ∀ base : Heap, K.In base → base.Ns mainGlobals mg → GFn P w K mg base k fa fd [x] sp)
    (bd : ∀ (s : Shared) (u : Value), BindsTo s fd ⟨[u], []⟩ [(x, u)]) (hs : ∀ H : Hp, L2.Only H → SqL K H a (ns.map V.int) → sp [.ref a] H (fun v _ => v = .bl true) fun _ _ _ => False) :
    codeAny (model P w) callerA (.call (.ref fa) ⟨[.ref a], []⟩) (fun r s' => r = .ok (.ret (.bool true)) ∧ OldK s.heap s'.heap ∧ s'.os = s.os ∧ AllBare s'.gens) s := by
  have rv := L2.vals_ints hi
  by_cases own : K.lookup a = none
  · obtain ⟨H, hH⟩ : ∃ H : Hp, H = fun b => if b = a then some (.frz { cls := .type "list", data := .seq us.toArray } (.lst (ns.map V.int))) else none := ⟨_, rfl⟩
    have at_ : ∀ b, (b = a ∧ H b = some (.frz { cls := .type "list", data := .seq us.toArray } (.lst (ns.map V.int)))) ∨ (b ≠ a ∧ H b = none) := fun b => by
      rw [hH]
      by_cases z : b = a
      · exact .inl ⟨z, if_pos z⟩
      · exact .inr ⟨z, if_neg z⟩
    have atA : H a = some (.frz { cls := .type "list", data := .seq us.toArray } (.lst (ns.map V.int))) := by
      rcases at_ a with h | h
      · exact h.2
      · exact (h.1 rfl).elim
    have only : L2.Only H := fun b => (at_ b).elim (fun h => .inr ⟨_, _, h.2⟩) fun h => .inl h.2
    refine call_known (ns := ns) inK gl bi boot nolim gens hobj rm F bd H only (hs H only (.inl (.inr ⟨_, atA⟩))) (fun b u z => ?_) (fun b z => ?_) fun _ => own
    · rcases at_ b with h | h
      · rw [h.2] at z
        cases z
        rw [h.1]
        exact ⟨hobj, by rw [List.length_map]; exact hl, us, _, rv, hobj⟩
      · rw [h.2] at z
        cases z
    · rcases at_ b with h | h
      · exact h.1
      · exact (z h.2).elim
  · obtain ⟨o, ho⟩ : ∃ o, K.lookup a = some o := by
      cases e : K.lookup a with
      | none => exact (own e).elim
      | some o => exact ⟨o, rfl⟩
    have e := inK a o ho
    rw [hobj] at e
    cases e
    refine call_known (ns := ns) inK gl bi boot nolim gens hobj rm F bd (fun _ => none) (fun _ => .inl rfl) (hs _ (fun _ => .inl rfl) (.inr ⟨_, us.toArray, _, ho, rfl, rfl, rfl, ?_, by simpa using rv⟩)) (fun b u z => nomatch (show (none : Option HO) = some u from z)) (fun b z => (z rfl).elim) fun z => (z rfl).elim
    rw [List.size_toArray, hi.length]
    exact hl
theorem walk_ofG {l : PySem.W.OpenLaw} {n k : Nat} {q : Program} {loose : List Str} {XP : (Str → Option Value) → Heap → Prop} {YP : World → Heap → Prop} {d : DefRec} {K : Params → PySem.W.Frag} {sp : World → Sp} {x : Str} (hn : l.most = some n) (hn2 : n ≤ sizeLine) (hdf : d.params.defaults = []) (rm : Room k callerA)
    (hY : ∀ (w : World) (h : Heap), YP w h → (K w.params).In h) (F : ∀ (w : World) (mg : Str → Option Value) (fa : Addr) (h : Heap), (K w.params).In h → h.Ns mainGlobals mg → mg d.name = some (.ref fa) → ∃ fd : FuncData, (∀ (s : Shared) (u : Value), BindsTo s fd ⟨[u], []⟩ [(x, u)]) ∧ ∀ base : Heap, (K w.params).In base → base.Ns mainGlobals mg → GFn l.prog w (K w.params) mg base k fa fd [x] (sp w))
    (hsp : ∀ (w : World) (H : Hp) (a : Addr) (ns : List Int), ns.length ≤ n → L2.Only H → SqL (K w.params) H a (ns.map V.int) → sp w [.ref a] H (fun v _ => v = .bl true) fun _ _ _ => False) : PySem.W.WalkO q loose XP YP l.row.toRowW d [] (fun f vs => PySem.call f vs) := by
  refine Att.attach_call hn hdf fun w s₀ s₁ mg mb fa o pm cd doc a vs ns G Y ho hd hcd hmg hobj hints hlen hg => ?_
  obtain ⟨fd, hb, hF⟩ := F w mg fa _ (hY w _ Y) G.T.g hmg
  exact law_callG (hY w _ Y) G.T.g G.T.b G.T.builtins G.T.nolimit hg hobj hints (Nat.le_trans hlen hn2) rm hF hb fun H hO hS => hsp w H a ns hlen hO hS
end BT
namespace BT
open PySem PySem.Spec L2
/-! ### data that may be shown -/
structure Sho (p w : Nat) (d : PyData) : Prop where
  s : d.showable = true
  n : d.hasDict = false
  l : d.leavesShort 25 = true
  p : d.depth ≤ p
  w : d.weight ≤ w
theorem Sho.up {p p' w w' : Nat} {d : PyData} (h : Sho p w d) (hp : p ≤ p') (hw : w ≤ w') : Sho p' w' d := ⟨h.s, h.n, h.l, Nat.le_trans h.p hp, Nat.le_trans h.w hw⟩
theorem sho_int {i : Int} (h0 : 0 ≤ i) (h : i < 10 ^ 20) : Sho 0 70 (.int i) := by
  have hl : i.natAbs < 2 ^ 67 := by
    have : (10 : Int) ^ 20 < 2 ^ 67 := by decide
    have e : ((i.natAbs : Nat) : Int) = i := by omega
    have : ((i.natAbs : Nat) : Int) < ((2 ^ 67 : Nat) : Int) := by rw [e]; exact Int.lt_trans h this
    exact Int.ofNat_lt.mp this
  have h67 : i.natAbs ≠ 0 → i.natAbs.log2 < 67 := fun z => (Nat.log2_lt z).mpr hl
  have hlog : i.natAbs.log2 < 67 := by
    by_cases z : i.natAbs = 0
    · rw [z]; decide
    · exact h67 z
  refine ⟨?_, rfl, ?_, Nat.le_refl _, ?_⟩
  · show decide (i.natAbs.log2 < 1920) = true
    exact decide_eq_true (by omega)
  · show decide ((PyData.shown (.int i)).length ≤ 25) = true
    have := PyProof.Rows.toString_length_le h0 (k := 20) (by decide) h
    exact decide_eq_true (Nat.le_trans this (by decide))
  · show (if i == 0 then 0 else i.natAbs.log2 + 1) ≤ 70
    split <;> omega
end BT
set_option Elab.async false
set_option linter.all false
set_option maxRecDepth 100000
set_option maxHeartbeats 4000000
/-! sorted(set(xs)), xs a list of ints -/
namespace BT
open PySem PySem.Spec L2
open PyProof.Rows hiding St
section
variable {P : Program} {w : World} {A : Around} {E : Value → Shared → Prop} {s : Shared}
set_option maxHeartbeats 3200000 in
end
section
variable {X : Cx} {W : WX}
end
end BT
set_option Elab.async false
set_option linter.all false
set_option maxRecDepth 100000
set_option maxHeartbeats 4000000
/-! dicts whose keys are tuples -/
namespace BT
open PySem PySem.Spec L2
open PyProof.Rows hiding St
section
variable {X : Cx} {W : WX} {pos : Pos} {o i e f : Expr}
def kDNewT : KE := fun _ G M R _ => ∀ q, Fr G M q → R (.ref q) G ((q, .dT []) :: M)
theorem je_dnewT : JE X W (.Dict [] [] pos) kDNewT := pe_mono pe_dnewT fun σ H Q ⟨G, M, R, E, hv, h, hR, hE⟩ => fun w hw => hR _ G _ _ (hv.newM hw) (h w (hv.fr hw))
/-- d[k] -/
def kDGetT : KR2 := fun x y G M R => match x, y with
  | .ref a, .ref b => ∃ (kvs : List (List Key × V)) (k : List Key) (v : V), At G M a (.dT kvs) ∧ G b = some (.tup (k.map kV)) ∧ valV kvs k = some v ∧ R v G M
  | _, _ => False
theorem je_dgetT {ta tb : KE} (hu : X.A.units + 64 < cLine) (ha : JE X W o ta) (hb : JE X W i tb) (hs : NoSl i := by exact fun _ _ => rfl) : JE X W (.Subscript o i pos) (kBin kDGetT ta tb) :=
  pe_mono (pe_dget (by omega) ha hb hs) fun σ H Q ⟨G, M, R, E, hv, h, hR, hE⟩ => ⟨G, M, _, E, hv, h, fun x G1 M1 H1 hv1 q1 => ⟨G1, M1, _, E, hv1, q1, fun y G2 M2 H2 hv2 q2 => by
    match x, y, q2 with
    | .ref a, .ref b, ⟨kvs, k, v, q3, q4, q5, q6⟩ =>
      refine ⟨a, v, rfl, ?_, hR _ G2 M2 H2 hv2 q6⟩
      rw [← q5]; exact DGet.t (hv2.at q3) (hv2.ex _ _ q4), hE⟩, hE⟩
/-- d[k] = v -/
def kDSetT (td ty tv : KE) : KS := fun D σ G M => tv σ G M (fun v G M => td σ G M (fun x G M => ty σ G M (fun y G M => match x, y with
  | .ref a, .ref b => ∃ (n : Nat) (kvs : List (List Key × V)) (k : List Key), M[n]? = some (a, .dT kvs) ∧ G b = some (.tup (k.map kV)) ∧ kvs.length < sizeLine ∧ D.nx σ G (M.set n (a, .dT (putK kvs k v)))
  | _, _ => False) (D.x σ)) (D.x σ)) (D.x σ)
theorem js_dsetT {td ty tv : KE} {value : Expr} {pos' : Pos} (hu : X.A.units + 64 < cLine) (ho : JE X W o td) (hi : JE X W i ty) (hv : JE X W value tv) (hs : swapsWith value (some (.Subscript o i pos')) pos.line X.env = pure false := by rfl) :
    JS X W (.Assign [.Subscript o i pos'] value pos) (kDSetT td ty tv) := ps_mono (ps_dput (by omega) ho hi hv hs) fun D σ H ⟨G, M, d, hv, h, en⟩ =>
  ⟨G, M, _, _, hv, h, fun v G1 M1 H1 hv1 q => ⟨G1, M1, _, _, hv1, q, fun x G2 M2 H2 hv2 q2 => ⟨G2, M2, _, _, hv2, q2, fun y G3 M3 H3 hv3 q3 => by
    match x, y, q3 with
    | .ref a, .ref b, ⟨n, kvs, k, q4, q5, q6, q7⟩ => exact ⟨a, _, rfl, DPut.t (hv3.get q4) (hv3.ex _ _ q5) q6, en.nx _ G3 _ _ (hv3.set q4) q7⟩, fun c a G' M' H' hv' q => en.xc c a σ G' M' H' hv' q⟩, fun c a G' M' H' hv' q => en.xc c a σ G' M' H' hv' q⟩, fun c a G' M' H' hv' q => en.xc c a σ G' M' H' hv' q⟩
/-- d.get(k, x) -/
def kDGet2T (td ty tx : KE) : KE := fun σ G M R E => td σ G M (fun x G M => match x with
  | .ref a => (∃ kvs, At G M a (.dT kvs)) ∧ ty σ G M (fun y G M => tx σ G M (fun z G M => ∃ (kvs : List (List Key × V)) (k : List Key) (b : Addr), At G M a (.dT kvs) ∧ y = .ref b ∧ G b = some (.tup (k.map kV)) ∧ R ((valV kvs k).getD z) G M) E) E
  | _ => False) E
theorem je_dget2T {td ty tx : KE} {apos cpos : Pos} (hu : X.A.units + 64 < cLine) (ho : JE X W o td) (he : JE X W e ty) (hf : JE X W f tx) (m : M2 X o "get" apos e f cpos := by exact ⟨rfl, rfl, rfl, rfl⟩) : JE X W (.Call (.Attribute o "get" apos) [e, f] [] cpos) (kDGet2T td ty tx) :=
  pe_mono (pe_dget2 (by omega) ho he hf m) fun σ H Q ⟨G, M, R, E, hv, h, hR, hE⟩ => ⟨G, M, _, E, hv, h, fun x G1 M1 H1 hv1 q1 => by
    match x, q1 with
    | .ref a, ⟨⟨kvs, q2⟩, q3⟩ => exact ⟨a, rfl, .inr ⟨kvs, .inl (hv1.at q2)⟩, G1, M1, _, E, hv1, q3, fun y G2 M2 H2 hv2 q4 => ⟨G2, M2, _, E, hv2, q4, fun z G3 M3 H3 hv3 q5 => by
        obtain ⟨kvs, k, b, q6, q7, q8, q9⟩ := q5
        subst q7
        exact ⟨_, DGet.t (hv3.at q6) (hv3.ex _ _ q8), hR _ G3 M3 H3 hv3 q9⟩, hE⟩, hE⟩, hE⟩
end
end BT
set_option Elab.async false
set_option linter.all false
set_option maxRecDepth 100000
set_option maxHeartbeats 4000000
/-! repr of lists in which empty dicts stand -/
namespace BT
open PySem PySem.Spec L2
open PyProof.Rows hiding St
/-! data as Dp, and dicts with nothing in them -/
mutual
inductive Dq (K : PySem.W.Frag) (H : Hp) : V → PyData → Prop
  | non : Dq K H .non .none
  | bl (b : Bool) : Dq K H (.bl b) (.bool b)
  | int (i : Int) : Dq K H (.int i) (.int i)
  | str (x : Str) : Dq K H (.str x) (.str x)
  | lst {a : Addr} {xs : List V} {ds : List PyData} : SqL K H a xs → DqAll K H xs ds → Dq K H (.ref a) (.list ds)
  | tup {a : Addr} {xs : List V} {ds : List PyData} : SqT K H a xs → DqAll K H xs ds → Dq K H (.ref a) (.tuple ds)
  | emp {a : Addr} : H a = some (.dK []) → Dq K H (.ref a) (.dict [])
inductive DqAll (K : PySem.W.Frag) (H : Hp) : List V → List PyData → Prop
  | nil : DqAll K H [] []
  | cons {v : V} {vs : List V} {d : PyData} {ds : List PyData} : Dq K H v d → DqAll K H vs ds → DqAll K H (v :: vs) (d :: ds)
end
mutual
theorem dq_of {K : PySem.W.Frag} {H : Hp} : ∀ (d : PyData) {v : V}, Dp K H v d → Dq K H v d
  | _, _, .non => .non
  | _, _, .bl b => .bl b
  | _, _, .int b => .int b
  | _, _, .str b => .str b
  | .list ds, _, .lst s a => .lst s (dqs_of ds a)
  | .tuple ds, _, .tup s a => .tup s (dqs_of ds a)
theorem dqs_of {K : PySem.W.Frag} {H : Hp} : ∀ (ds : List PyData) {vs : List V}, DpAll K H vs ds → DqAll K H vs ds
  | _, _, .nil => .nil
  | d :: ds, _, .cons a b => .cons (dq_of d a) (dqs_of ds b)
end
/-- what is read, and how it is shown -/
def QShow (P : Program) (w : World) (h : Heap) (u : Value) (d : PyData) : Prop :=
  (∃ as, Reads h u d as) ∧ (d.showable = true → d.shown.length ≤ sizeLine → ∃ bs, ReadAtMost h d.depth bs ∧ ReprK P w bs h d.depth u d.shown)
def QShowAll (P : Program) (w : World) (h : Heap) (us : List Value) (ds : List PyData) : Prop :=
  (∃ as, ReadsAll h us ds as) ∧ (PyData.showableAll ds = true → (∀ t, t ∈ PyData.shownAll ds → t.length ≤ sizeLine) → ∃ bs, ReadAtMost h (PyData.depthAll ds) bs ∧ ReprAllK P w bs h (PyData.depthAll ds) us (PyData.shownAll ds))
theorem qflat {P : Program} {w : World} {h : Heap} {u : Value} {d : PyData} {as : List Addr} (r : Reads h u d as) (n : d.hasDict = false) : QShow P w h u d :=
  ⟨⟨as, r⟩, fun s z => ReprK.of_reads r s (fun e => by rw [n] at e; cases e) z⟩
section
variable {X : Cx} {pins : List (Addr × Obj)} {σ : St} {H : Hp} {s : Shared}
mutual
theorem Dq.shows (I : Inv X pins σ H s) : ∀ (d : PyData) (v : V) (u : Value), Dq X.K H v d → RelV v u → QShow X.prog X.w s.heap u d
  | _, _, _, .non, r => by cases r; exact qflat Reads.none rfl
  | _, _, _, .bl b, r => by cases r; exact qflat (Reads.bool b) rfl
  | _, _, _, .int i, r => by obtain ⟨t, rfl⟩ := r; exact qflat (Reads.int i t) rfl
  | _, _, _, .str x, r => by obtain ⟨t, rfl⟩ := r; exact qflat (Reads.str x t) rfl
  | .list ds, _, _, .lst (a := a) hs ha, r => by
    cases r
    obtain ⟨its, rv, ⟨o, n, ho, hc, _, hd⟩, _⟩ := I.list hs
    obtain ⟨⟨as, hr⟩, sh⟩ := DqAll.shows I ds _ its ha rv
    have rd : Reads s.heap (.ref a) (.list ds) (a :: as) := Reads.list ho hc hd hr
    refine ⟨⟨_, rd⟩, fun e z => ?_⟩
    have z2 : (listText (PyData.shownAll ds)).length ≤ sizeLine := by rw [PyData.shown] at z; exact z
    obtain ⟨bs, h1, h2⟩ := sh (by rw [PyData.showable] at e; exact e) fun t ht => Nat.le_trans (listText_mem_le ht) z2
    have hn : a ∉ bs := not_mem_of_deeper rd (by rw [PyData.depth]; omega) h1
    refine ⟨a :: bs, ReadAtMost.cons rd (by rw [PyData.depth]; omega) h1, ?_⟩
    rw [PyData.depth, PyData.shown]
    cases its with
    | nil =>
      cases rv
      cases ha
      rw [show PyData.shownAll [] = [] by rw [PyData.shownAll], listText_nil]
      exact ReprK.listEmpty ho hc hd
    | cons x l => exact ReprK.list ho hc hd hn (h2.length_eq.trans (by simp)) fun i y e => h2.item i y (by rw [← e]; simp)
  | .tuple ds, _, _, .tup (a := a) hs ha, r => by
    cases r
    obtain ⟨its, rv, ⟨o, ho, hc, n, hd⟩, _⟩ := I.tuple hs
    obtain ⟨⟨as, hr⟩, sh⟩ := DqAll.shows I ds _ its ha rv
    have rd : Reads s.heap (.ref a) (.tuple ds) as := Reads.tuple ho hc hd hr
    refine ⟨⟨_, rd⟩, fun e z => ?_⟩
    have z2 : (tupleText (PyData.shownAll ds)).length ≤ sizeLine := by rw [PyData.shown] at z; exact z
    obtain ⟨bs, h1, h2⟩ := sh (by rw [PyData.showable] at e; exact e) fun t ht => Nat.le_trans (tupleText_mem_le ht) z2
    have hn : a ∉ bs := not_mem_of_deeper rd (by rw [PyData.depth]; omega) h1
    refine ⟨a :: bs, ReadAtMost.cons rd (by rw [PyData.depth]; omega) h1, ?_⟩
    rw [PyData.depth, PyData.shown]
    exact ReprK.tuple ho hc hd hn (by simpa using h2)
  | _, _, _, .emp (a := a) h, r => by
    cases r
    obtain ⟨_, hm, vs, kv, o, es, ep, ho, hx, hd, _, hp, _⟩ := dk_of I.hok h
    cases kv
    have e0 : es = #[] := by
      have := hp.length
      exact Array.eq_empty_of_size_eq_zero (by simpa using this)
    subst e0
    have rd : Reads s.heap (.ref a) (.dict []) (a :: [] ++ []) := Reads.dict ho hx.1 hd (by exact ReadsAll.nil) (by exact ReadsAll.nil)
    refine ⟨⟨_, rd⟩, fun _ _ => ⟨[a], ReadAtMost.cons rd (Nat.zero_le _) (fun _ z => nomatch z), ?_⟩⟩
    rw [PyData.depth, PyData.shown]
    exact ReprK.dict ho hx.1 hd hm (fun z => nomatch z) .nil
theorem DqAll.shows (I : Inv X pins σ H s) : ∀ (ds : List PyData) (vs : List V) (us : List Value), DqAll X.K H vs ds → Vals vs us → QShowAll X.prog X.w s.heap us ds
  | _, _, _, .nil, r => by
    cases r
    refine ⟨⟨_, ReadsAll.nil⟩, fun _ _ => ⟨[], (fun _ z => nomatch z), ?_⟩⟩
    rw [PyData.shownAll]
    exact .nil
  | d :: ds, _, _, .cons h1 h2, r => by
    cases r with
    | cons r1 r2 =>
      obtain ⟨⟨as, a1⟩, s1⟩ := Dq.shows I d _ _ h1 r1
      obtain ⟨⟨bs, b1⟩, s2⟩ := DqAll.shows I ds _ _ h2 r2
      refine ⟨⟨_, ReadsAll.cons a1 b1⟩, fun e z => ?_⟩
      rw [PyData.showableAll, Bool.and_eq_true] at e
      obtain ⟨c1, k1, k2⟩ := s1 e.1 (z _ (by rw [PyData.shownAll]; exact List.mem_cons_self))
      obtain ⟨c2, k3, k4⟩ := s2 e.2 fun t ht => z t (by rw [PyData.shownAll]; exact List.mem_cons_of_mem _ ht)
      rw [PyData.depthAll, PyData.shownAll]
      exact ⟨c1 ++ c2, (k1.mono (Nat.le_max_left _ _)).append (k3.mono (Nat.le_max_right _ _)), .cons ((k2.more fun b hb => List.mem_append_left _ hb).level_le (Nat.le_max_left _ _)) (k4.more_le (fun b hb => List.mem_append_right _ hb) (Nat.le_max_right _ _))⟩
end
end
/-- data that can be read, empty dicts among it -/
def DqAt (K : PySem.W.Frag) (G : Hp) (M : Mem) (v : V) (d : PyData) : Prop := ∀ H, Hv G M H → Dq K H v d
def DqsAt (K : PySem.W.Frag) (G : Hp) (M : Mem) (vs : List V) (ds : List PyData) : Prop := ∀ H, Hv G M H → DqAll K H vs ds
section
variable {K : PySem.W.Frag} {G : Hp} {M : Mem} {v : V} {d : PyData} {vs : List V} {ds : List PyData} {a : Addr}
theorem dqt_of (h : DatAt K G M v d) : DqAt K G M v d := fun H hv => dq_of d (h H hv)
theorem dqt_emp (h : (a, HO.dK []) ∈ M ∨ G a = some (.dK [])) : DqAt K G M (.ref a) (.dict []) := fun H hv => .emp (h.elim (fun z => hv.mu _ z) (fun z => hv.ex _ _ z))
theorem dqs_nil : DqsAt K G M [] [] := fun H hv => .nil
theorem dqs_cons (h : DqAt K G M v d) (hs : DqsAt K G M vs ds) : DqsAt K G M (v :: vs) (d :: ds) := fun H hv => .cons (h H hv) (hs H hv)
theorem dqt_lst (h : LstAt K G M a vs) (hs : DqsAt K G M vs ds) : DqAt K G M (.ref a) (.list ds) := fun H hv => .lst (hv.lst h) (hs H hv)
theorem dqt_tup (h : SqT K G a vs) (hs : DqsAt K G M vs ds) : DqAt K G M (.ref a) (.tuple ds) := fun H hv => .tup (hv.tup h) (hs H hv)
end
/-- repr of a list of such data -/
def kReprQ (K : PySem.W.Frag) : KC := fun vs G M R => match vs with
  | [.ref a] => ∃ (ds : List PyData), DqAt K G M (.ref a) (.list ds) ∧ (PyData.list ds).showable = true ∧ (PyData.list ds).depth ≤ 30 ∧ (PyData.list ds).shown.length ≤ sizeLine ∧ R (.str (PyData.list ds).shown) G M
  | _ => False
theorem kc_reprQ {X : Cx} (hg : X.A.guards = some []) (hu : X.A.units + 64 < cLine) : KCall X (.builtin "repr") (kReprQ X.K) := by
  intro pins s σ H vs us Q I r h
  obtain ⟨G, M, R, hv, h, hR⟩ := h
  match vs, h with
  | [.ref a], ⟨ds, h1, h2, h4, h5, h6⟩ =>
    cases r with
    | @cons _ u _ _ rx rr =>
      cases rr
      obtain rfl : u = Value.ref a := rx
      cases h1 H hv with
      | lst hs ha =>
        obtain ⟨its, rv, ⟨o, n, ho, hc, _, hd⟩, _⟩ := I.list hs
        obtain ⟨⟨as, hr⟩, sh⟩ := DqAll.shows I ds _ its ha rv
        have rd : Reads s.heap (.ref a) (.list ds) (a :: as) := Reads.list ho hc hd hr
        have z2 : (listText (PyData.shownAll ds)).length ≤ sizeLine := by rw [PyData.shown] at h5; exact h5
        obtain ⟨bs, k1, k2⟩ := sh (by rw [PyData.showable] at h2; exact h2) fun t ht => Nat.le_trans (listText_mem_le ht) z2
        have hn : a ∉ bs := not_mem_of_deeper rd (by rw [PyData.depth]; omega) k1
        rw [PyData.depth] at h4
        rw [PyData.shown] at h6
        have fin : ∀ (h' : Heap) (t : Tok) (tk : Tok), (∀ b o, s.heap.get? b = some o → h'.get? b = some o) → EP X pins σ Q (.str (listText (PyData.shownAll ds)) t) { s with heap := h', toks := tk } := fun h' t tk hk => ⟨.str _, H, I.kept hk, ⟨t, rfl⟩, hR _ _ _ _ hv h6⟩
        refine call_repr_slot (by omega) ⟨o, ho, hc⟩ F.slot_list_repr.toG ?_
        cases its with
        | nil =>
          cases rv
          cases ha
          rw [show PyData.shownAll [] = [] by rw [PyData.shownAll], listText_nil] at fin
          exact call_list_repr_empty ⟨o, ho, hc⟩ ho hd ⟨_, _, rfl, fin _ _ _ fun _ _ e => e⟩
        | cons x l =>
          exact call_list_reprK ho hc hd hn (k2.length_eq.trans (by simp)) (fun i y e => k2.item i y (by rw [← e]; simp)) hg (fun b _ => Clear.nil b) (by show X.A.units + 1 + _ < cLine; omega) (fun _ _ e => e) (fun h' u tk hk => ⟨_, _, rfl, fin h' u tk hk⟩) z2
end BT
namespace BT
open PySem PySem.Spec L2
open PyProof.Rows hiding St
/-! ### whole numbers -/
def isIntV : V → Bool
  | .int _ => true
  | _ => false
def withinV (x : V) (lo hi : Int) : Bool := match x with
  | .int i => decide (lo ≤ i) && decide (i ≤ hi)
  | _ => false
def S_is_whole (K : PySem.W.Frag) : KSp := sp1 fun x G M R Z => ∃ T : PT, TyK K G M x T ∧ R (.bl (T == .int)) G M
def S_is_within (K : PySem.W.Frag) : KSp := sp3 fun x y z G M R Z => ∃ (T : PT) (lo hi : Int), y = .int lo ∧ z = .int hi ∧ TyK K G M x T ∧ (T == .int) = isIntV x ∧ R (.bl (withinV x lo hi)) G M
def isStrV : V → Bool
  | .str _ => true
  | _ => false

/-! ### things whose type is known -/
def WOk (K : PySem.W.Frag) (G : Hp) (w : V) : Prop := ∃ S : PT, (∀ M, TyK K G M w S) ∧ (S == .str) = isStrV w
def IOk (K : PySem.W.Frag) (G : Hp) (x : V) : Prop := ∃ T : PT, (∀ M, TyK K G M x T) ∧ (T == .int) = isIntV x

/-! ### kinds and draws -/
structure Kn where
  leaf : Bool
  n : Nat
def Kn.txt (k : Kn) : Str := if k.leaf then "leaf" else "shuffle"
def KnOk (k : Kn) : Prop := k.n ≤ 64 ∧ (k.leaf = true → k.n ≤ 6) ∧ (k.leaf = false → 1 ≤ k.n)
def knD (k : Kn) : PyData := .tuple [.str k.txt, .int k.n]
/-- a draw: a leaf's number, or a row -/
inductive Dr | leaf (n : Nat) | row (l : List Nat)
def natsV (l : List Nat) : List V := l.map fun (n : Nat) => V.int (n : Int)
inductive A2 {α β : Type} (r : α → β → Prop) : List α → List β → Prop
  | nil : A2 r [] []
  | cons {a : α} {b : β} {as : List α} {bs : List β} : r a b → A2 r as bs → A2 r (a :: as) (b :: bs)
def DrV (K : PySem.W.Frag) (G : Hp) (M : Mem) (v : V) (d : Dr) : Prop := match d with
  | .leaf n => v = .int n
  | .row l => ∃ b, v = .ref b ∧ LstAt K G M b (natsV l)
def KnAt (K : PySem.W.Frag) (G : Hp) (M : Mem) (a : Addr) (ks : List Kn) : Prop := ∃ us, LstAt K G M a us ∧ DpAll K G us (ks.map knD) ∧ (∀ k, k ∈ ks → KnOk k) ∧ ks.length ≤ 1000
def DrAt (K : PySem.W.Frag) (G : Hp) (M : Mem) (a : Addr) (ds : List Dr) : Prop := ∃ us, LstAt K G M a us ∧ A2 (DrV K G M) us ds
/-! ### sizes and needs -/
def highN (m : Nat) : Nat := ((List.range 6).filter fun k => decide (2 ^ k < m)).length
def lastN (m : Nat) : Nat := highN m - 1
def stairN (m p : Nat) : Nat := ((List.range 6).filter fun k => decide (k = lastN m) || decide (p % (2 * 2 ^ k) ≠ 0)).headD 0
def slotA (m st : Nat) : Nat := if st = lastN m then m else 2 * 2 ^ st
/-! ### orders and rows: what they are -/
def swapL (l : List Nat) (i j : Nat) : List Nat := (l.set i (l.getD j 0)).set j (l.getD i 0)
def walkO (r : Nat → Nat) : Nat → List Nat → List Nat
  | 0, o => o
  | m + 1, o => walkO r m (swapL o (m + 1) (r (m + 1)))
def orderOf (l : List Nat) : List Nat := walkO (fun i => l.getD i 0) (l.length - 1) (List.range l.length)
/-- a shuffle's row -/
def RowOk (l : List Nat) : Prop := ∀ (i v : Nat), l[i]? = some v → v ≤ i
/-- an order of n -/
structure OrdOk (n : Nat) (o : List Nat) : Prop where
  len : o.length = n
  nd : o.Nodup
  lt : ∀ x, x ∈ o → x < n
/-- the ints of a list of things, where all are -/
def intOf : V → Int
  | .int i => i
  | _ => 0
def orderB (xs : List V) : Bool := decide (1 ≤ xs.length) && decide (xs.length ≤ 64) && xs.all (fun x => withinV x 0 ((xs.length : Int) - 1)) && decide ((xs.map intOf).Nodup)
def ItemsTy (K : PySem.W.Frag) (G : Hp) (M : Mem) (xs : List V) : Prop := ∀ x, x ∈ xs → ∃ T : PT, TyK K G M x T ∧ (T == .int) = isIntV x
/-- a thing that may be an order -/
def ordV (K : PySem.W.Frag) (G : Hp) (M : Mem) (x : V) (b : Bool) : Prop := (∃ T : PT, TyK K G M x T ∧ T ≠ .list ∧ b = false) ∨ ∃ (a : Addr) (xs : List V), x = .ref a ∧ LstAt K G M a xs ∧ xs.length ≤ 1000 ∧ ItemsTy K G M xs ∧ b = orderB xs
def S_is_order (K : PySem.W.Frag) : KSp := sp1 fun x G M R Z => ∃ b, ordV K G M x b ∧ R (.bl b) G M
/-! ### asks -/
inductive Deed | read (c : Nat) | write (c w : Nat)
def Deed.cell : Deed → Nat
  | .read c => c
  | .write c _ => c
def Deed.vs : Deed → List V
  | .read c => [.str "read", .int c]
  | .write c w => [.str "write", .int c, .int w]
def Deed.upd (ws : List Nat) : Deed → List Nat
  | .read _ => ws
  | .write c w => ws.set c w
def Deed.put (told : Nat) : Deed → Nat
  | .read _ => told
  | .write _ w => w
/-! ### looks at draws -/
/-- draws that are frozen -/
def DrsG (K : PySem.W.Frag) (G : Hp) (p : Addr) (ds : List Dr) : Prop := ∃ us, SqL K G p us ∧ A2 (DrV K G []) us ds
/-! ### keepers and shelves -/
structure Tch where
  lay : Bool
  shelf : Nat
  room : Nat
  deriving DecidableEq
def Tch.txt (t : Tch) : Str := if t.lay then "lay" else "look"
def tchD (t : Tch) : PyData := .tuple [.str t.txt, .int t.shelf, .int t.room]
/-- a list of touches, as it lies -/
def LogC (K : PySem.W.Frag) (G : Hp) (ts : List Tch) (o : HO) : Prop := ∃ vs, o = .lst vs ∧ DpAll K G vs (ts.map tchD)
structure KeepAt (K : PySem.W.Frag) (G : Hp) (M : Mem) (kp dk lg : Addr) (j l : Nat) (o : HO) (ts : List Tch) : Prop where
  k : M[j]? = some (kp, Ob K 1 dk [.ref lg])
  l : M[l]? = some (lg, o)
  c : LogC K G ts o
structure ShelfAt (K : PySem.W.Frag) (M : Mem) (a dx kp th : Addr) (num n i : Nat) (xs : List V) : Prop where
  s : M[n]? = some (a, Ob K 2 dx [.ref kp, .int num, .ref th])
  t : M[i]? = some (th, .lst xs)
/-- a list that is another cell than the one at n, or frozen -/
def LstN (K : PySem.W.Frag) (G : Hp) (M : Mem) (n : Nat) (b : Addr) (xs : List V) : Prop := (∃ i, n ≠ i ∧ M[i]? = some (b, .lst xs)) ∨ SqL K G b xs
/-! ### trees of rooms -/
/-- what is in hand: words and leaves by cells -/
abbrev HF := Nat → Option (Nat × Nat)
def HF.put (f : HF) (c : Nat) (p : Nat × Nat) : HF := fun x => if x = c then some p else f x
/-- what lies in the rooms -/
abbrev Th := List (Option (Nat × Nat × Nat))
def entD : Option (Nat × Nat × Nat) → PyData
  | none => .none
  | some e => .tuple [.int e.1, .int e.2.1, .int e.2.2]
structure HandF (K : PySem.W.Frag) (G : Hp) (m : Nat) (hv : List (Key × V)) (f : HF) : Prop where
  nd : (hv.map (·.1)).Nodup
  key : ∀ p, p ∈ hv → ∃ c : Nat, c < m ∧ p.1 = Sum.inl (c : Int)
  non : ∀ c : Nat, f c = none → valV hv (Sum.inl (c : Int)) = none
  val : ∀ (c : Nat) (p : Nat × Nat), f c = some p → ∃ v, valV hv (Sum.inl (c : Int)) = some v ∧ Dp K G v (.tuple [.int p.1, .int p.2])
structure BodyA where
  b : Addr
  db : Addr
  sh : Addr
  dh : Addr
  th : Addr
  fs : Addr
  hd : Addr
structure BodyI (K : PySem.W.Frag) (G : Hp) (A : BodyA) (m high : Nat) (fs : List Nat) (th : Th) (f : HF) (xs : List V) (hv : List (Key × V)) : Prop where
  sf : SqL K G A.fs (natsV fs)
  fl : fs.length = m
  sx : DpAll K G xs (th.map entD)
  sv : HandF K G m hv f
  tl : th.length = 2 * (2 * 2 ^ high - 1)
  tm : ∀ (r : Nat) (e : Nat × Nat × Nat), th[r]? = some (some e) → e.1 < m
  hi : high ≤ 6
  m1 : m ≤ 32
/-! ### all five ways, seen from without -/
inductive Wy | scan | spare | stairs | tree | grove
  deriving DecidableEq
def Wy.str : Wy → Str
  | .scan => "scan" | .spare => "spare" | .stairs => "stairs" | .tree => "tree" | .grove => "grove"
def Wy.num : Wy → Nat
  | .scan => 3 | .spare => 4 | .stairs => 5 | .tree => 6 | .grove => 7
/-! ### climbs: what they are -/
structure ClM where
  fu : Nat → Option Nat
  dr : Nat → Option Nat
  ho : Nat → Option (Nat × Nat)
  he : Nat → Option Unit
structure ClimbA where
  c : Addr
  dc : Addr
  fu : Addr
  dr : Addr
  ho : Addr
  he : Addr
/-! ### stairs: what they are -/
def roomsN (m st : Nat) : Nat := slotA m st + 2 * 2 ^ st
structure StairsA where
  s : Addr
  ds : Addr
  dr : Addr
  kp : Addr
  dk : Addr
  lg : Addr
  hd : Addr
  shs : Addr
  ods : Addr
  cl : ClimbA
  sh : Nat → Addr
  dsh : Nat → Addr
  th : Nat → Addr
abbrev Ths := Nat → List (Option Nat)
structure StV where
  fv : List (Key × V)
  dv : List (Key × V)
  hov : List (Key × V)
  hev : List (Key × V)
  hnv : List (Key × V)
  odv : List (Key × V)
  o : HO
  th : Ths
/-- the draws' sizes -/
structure RowsK (m lim : Nat) (rows : List (List Nat)) : Prop where
  len : rows.length = (lim + 1) / 2
  ok : ∀ (i : Nat) (row : List Nat), rows[i]? = some row → RowOk row ∧ row.length = roomsN m (if i = 0 then lastN m else stairN m i)
def fullN (L q st : Nat) : Option Nat := if st < L then (if (q / 2 ^ st) % 2 = 1 then some (2 * (q / 2 ^ st * 2 ^ st)) else none) else if st = L then some (2 * (q / 2 ^ L * 2 ^ L)) else none
/-- a climb behind q pours, with at most h cells in hand -/
structure ClMI (m q h : Nat) (s : ClM) : Prop where
  fu : ∀ st, s.fu st = fullN (lastN m) q st
  dr : ∀ st k, s.fu st = some k → s.dr st = some (k / 2)
  dk : ∀ st p, s.dr st = some p → p ≤ q ∧ st = (if p = 0 then lastN m else stairN m p)
  ho : ∀ c st sl, s.ho c = some (st, sl) → c < m ∧ (s.fu st).isSome ∧ sl < slotA m st ∧ s.he c = none
  he : ∀ c, c < m → s.ho c = none → (s.he c).isSome
  hl : ∀ c, (s.he c).isSome → c < m
  inj : ∀ c c' x, s.ho c = some x → s.ho c' = some x → c = c'
  hn : ((List.range m).filter fun c => (s.he c).isSome).length ≤ h
/-! ### nets: what they are -/
def lg (n : Int) : Nat := if n ≤ 1 then 0 else if n ≤ 2 then 1 else if n ≤ 4 then 2 else if n ≤ 8 then 3 else if n ≤ 16 then 4 else if n ≤ 32 then 5 else 6
/-! ### a shuffled shelf with spare rooms: what it is -/
structure Tri where
  mark : Nat
  item : Nat
  word : Nat
/-- each item lies, marked, in its room -/
structure Laid (ord W : List Nat) (tr : List Tri) : Prop where
  len : tr.length = ord.length
  at_ : ∀ i, i < ord.length → tr[ord.getD i 0]? = some ⟨ord.getD i 0, i, W.getD i 0⟩
/-- a spare store's orders, words and hand -/
structure SpM where
  ord : List Nat
  W : List Nat
  hnd : List (Nat × Nat)
/-! ### a law's ways and draws -/
/-! ### signs: what they are -/
inductive Sg
  | room (lay : Bool) (sh r : Nat)
  | item (lay : Bool) (sh dr it : Nat)
  | way (lay : Bool) (sh dr dep sd : Nat)
  deriving DecidableEq
def deedS (b : Bool) : Str := if b then "lay" else "look"
def Sg.vs : Sg → List V
  | .room b s r => [.str "room", .str (deedS b), .int s, .int r]
  | .item b s d i => [.str "item", .str (deedS b), .int s, .int d, .int i]
  | .way b s d p e => [.str "way", .str (deedS b), .int s, .int d, .int p, .int e]
def sgD : Sg → PyData
  | .room b s r => .tuple [.str "room", .str (deedS b), .int s, .int r]
  | .item b s d i => .tuple [.str "item", .str (deedS b), .int s, .int d, .int i]
  | .way b s d p e => .tuple [.str "way", .str (deedS b), .int s, .int d, .int p, .int e]
/-- a grove's trees hold an ask's cells -/
structure TreesOk (ts : List Nat) (m : Nat) : Prop where
  len : ts.length ≤ 3
  ok : ∀ t, t ∈ ts → 1 ≤ t ∧ t ≤ 32
  le : ∀ t, t < ts.length → ∀ c, c < m → c / 2 ^ (2 * t) < ts.getD t 0
/-! ### signs of shuffled shelves and stairs, of all ways; touches of signs -/
/-! touches of signs -/
def SgOk (ks : List Kn) : Sg → Prop
  | .room _ _ _ => True
  | .item _ _ d i => ∃ n, ks[d]? = some ⟨false, n⟩ ∧ i < n
  | .way _ _ d p e => ∃ h, ks[d]? = some ⟨true, h⟩ ∧ p ≤ h ∧ e < 2
/-- orders of shuffles, and leaves -/
def ToldV (K : PySem.W.Frag) (G : Hp) (v : V) (d : Dr) : Prop := match d with
  | .leaf n => v = .int n
  | .row l => ∃ b, v = .ref b ∧ SqL K G b (natsV (orderOf l))
/-- a draw in hand: a row is a cell of its own -/
inductive Dc | leaf (n : Nat) | row (b : Addr) (l : List Nat)
def Dc.v : Dc → V
  | .leaf n => .int (n : Int)
  | .row b _ => .ref b
def Dc.dr : Dc → Dr
  | .leaf n => .leaf n
  | .row _ l => .row l
def Dc.cells : Dc → Mem
  | .leaf _ => []
  | .row b l => [(b, .lst (natsV l))]

/-! ### leadings -/
structure Pp where
  src : Nat
  turn : Option (List Nat)
def TurnM (K : PySem.W.Frag) (G : Hp) (M : Mem) (w : V) (t : Option (List Nat)) : Prop := match t with
  | none => w = .non
  | some l => ∃ b, w = .ref b ∧ LstAt K G M b (natsV l)
def PpM (K : PySem.W.Frag) (G : Hp) (M : Mem) (v : V) (pp : Pp) : Prop := ∃ (T : Addr) (w : V), v = .ref T ∧ SqT K G T [.int (pp.src : Nat), w] ∧ TurnM K G M w pp.turn
/-- a paper as it lies -/
def PapM (K : PySem.W.Frag) (G : Hp) (M : Mem) (p : Addr) (ps : List Pp) : Prop := ∃ us, LstAt K G M p us ∧ A2 (PpM K G M) us ps
/-- what a part must be -/
def PpOk (ks : List Kn) (k : Kn) (pp : Pp) : Prop := ks[pp.src]? = some k ∧ (k.leaf = true → pp.turn = none) ∧ (k.leaf = false → ∃ l, pp.turn = some l ∧ OrdOk k.n l)
structure PapOk (ks : List Kn) (ps : List Pp) : Prop where
  ok : A2 (PpOk ks) ks ps
  nd : (ps.map (·.src)).Nodup
def srcOf (ps : List Pp) (d : Nat) : Nat := (ps.getD d ⟨0, none⟩).src
def turnOf (ps : List Pp) (d : Nat) : List Nat := ((ps.getD d ⟨0, none⟩).turn).getD []
def ledB (ps : List Pp) : Sg → Sg → Bool
  | .room b s r, .room b' s' r' => decide (b = b') && (decide (s = s') && decide (r = r'))
  | .item b s d i, .item b' s' d' i' => decide (b = b') && (decide (s = s') && (decide (srcOf ps d' = d) && decide ((turnOf ps d').getD i' 0 = i)))
  | .way b s d p e, .way b' s' d' p' e' => decide (b = b') && (decide (s = s') && (decide (srcOf ps d' = d) && (decide (p = p') && decide (e = e'))))
  | _, _ => false
def leadB (ps : List Pp) (one other : List Sg) : Bool := decide (one.length = other.length) && (List.zipWith (ledB ps) one other).all id
/-- a thing that may be an order of a size -/
def OrdN (K : PySem.W.Frag) (G : Hp) (M : Mem) (n : Nat) (w : V) (b : Bool) : Prop := (∃ T : PT, TyK K G M w T ∧ T ≠ .list ∧ b = false) ∨ ∃ (a : Addr) (xs : List V), w = .ref a ∧ LstAt K G M a xs ∧ xs.length ≤ 1000 ∧ ItemsTy K G M xs ∧ b = (orderB xs && decide (xs.length = n))
/-- a thing that may be a part -/
def PartV (K : PySem.W.Frag) (G : Hp) (M : Mem) (ks : List Kn) (k : Kn) (z : V) (b : Bool) : Prop := (∃ T : PT, TyK K G M z T ∧ T ≠ .tuple ∧ b = false) ∨ ∃ (t : Addr) (xs : List V), z = .ref t ∧ SqT K G t xs ∧ xs.length ≤ 100 ∧ ((xs.length ≠ 2 ∧ b = false) ∨
  ∃ (u w : V), xs = [u, w] ∧ (∃ T : PT, TyK K G M u T ∧ (T == .int) = isIntV u) ∧ ((withinV u 0 ((ks.length : Int) - 1) = false ∧ b = false) ∨
    ∃ (s : Nat) (k' : Kn), u = .int (s : Nat) ∧ ks[s]? = some k' ∧ ((k' ≠ k ∧ b = false) ∨ (k' = k ∧ (k.leaf = true → b = decide (w = .non)) ∧ (k.leaf = false → OrdN K G M k.n w b)))))
def PaperV (K : PySem.W.Frag) (G : Hp) (M : Mem) (ks : List Kn) (z : V) (b : Bool) : Prop := (∃ T : PT, TyK K G M z T ∧ T ≠ .list ∧ b = false) ∨ ∃ (a : Addr) (zs : List V), z = .ref a ∧ LstAt K G M a zs ∧ zs.length ≤ 1000 ∧ ((zs.length ≠ ks.length ∧ b = false) ∨
  ∃ bs : List Bool, zs.length = ks.length ∧ bs.length = ks.length ∧ (∀ (i : Nat) (k : Kn) (v : V) (c : Bool), ks[i]? = some k → zs[i]? = some v → bs[i]? = some c → PartV K G M ks k v c) ∧ ((bs.all id = false ∧ b = false) ∨
    ∃ ss : List Nat, bs.all id = true ∧ A2 (fun v (s : Nat) => ∃ T w, v = V.ref T ∧ SqT K G T [.int (s : Nat), w]) zs ss ∧ b = decide ss.Nodup))
def S_is_part (K : PySem.W.Frag) : KSp := sp3 fun x y z G M R Z => ∃ (a : Addr) (ks : List Kn) (i : Nat) (k : Kn) (b : Bool), x = .ref a ∧ KnAt K G M a ks ∧ y = .int (i : Nat) ∧ ks[i]? = some k ∧ PartV K G M ks k z b ∧ R (.bl b) G M
def S_is_paper (K : PySem.W.Frag) : KSp := sp2 fun x z G M R Z => ∃ (a : Addr) (ks : List Kn) (b : Bool), x = .ref a ∧ KnAt K G M a ks ∧ PaperV K G M ks z b ∧ R (.bl b) G M
def S_is_led (K : PySem.W.Frag) : KSp := sp3 fun x y z G M R Z => ∃ (T1 T2 p : Addr) (s1 s2 : Sg) (ks : List Kn) (ps : List Pp), x = .ref T1 ∧ y = .ref T2 ∧ z = .ref p ∧ SqT K G T1 s1.vs ∧ SqT K G T2 s2.vs ∧ PapM K G M p ps ∧ PapOk ks ps ∧ SgOk ks s1 ∧ SgOk ks s2 ∧ ∀ G', Ex G G' → R (.bl (ledB ps s1 s2)) G' M
def S_is_leading (K : PySem.W.Frag) : KSp := sp4 fun x y z w G M R Z => ∃ (a o1 o2 : Addr) (ks : List Kn) (us1 us2 : List V) (one other : List Sg), x = .ref a ∧ y = .ref o1 ∧ z = .ref o2 ∧ KnAt K G M a ks ∧ LstAt K G M o1 us1 ∧ DpAll K G us1 (one.map sgD) ∧ LstAt K G M o2 us2 ∧ DpAll K G us2 (other.map sgD) ∧
  one.length ≤ 1000000 ∧ other.length ≤ 1000000 ∧ (∀ s, s ∈ one → SgOk ks s) ∧ (∀ s, s ∈ other → SgOk ks s) ∧ ((PaperV K G M ks w false ∧ R (.bl false) G M) ∨ ∃ (p : Addr) (ps : List Pp), w = .ref p ∧ PapM K G M p ps ∧ PapOk ks ps ∧ ∀ G', Ex G G' → R (.bl (leadB ps one other)) G' M)
/-- kinds that are frozen, each a plain tuple -/
def KnF (K : PySem.W.Frag) (G : Hp) (a : Addr) (ks : List Kn) : Prop := ∃ us, SqL K G a us ∧ A2 (fun v k => ∃ T, v = V.ref T ∧ G T = some (.tup [.str k.txt, .int (Kn.n k : Nat)])) us ks
def SgsG (K : PySem.W.Frag) (G : Hp) (a : Addr) (sg : List Sg) : Prop := ∃ us, SqL K G a us ∧ DpAll K G us (sg.map sgD)
/-- a pool, alone among the cells -/
def S_law_kinds (K : PySem.W.Frag) : KSp := sp3 fun x y z G M R Z => ∃ (p : Addr) (n : Nat) (c s : Int), x = .ref p ∧ y = .int 6 ∧ z = .int 64 ∧ M[n]? = some (p, pool c s) ∧ PoolOk s ∧
  ∀ (a : Addr) (ks : List Kn) (c' s' : Int) (G' : Hp), Ex G G' → KnF K G' a ks → (∀ k, k ∈ ks → KnOk k) → ks.length ≤ 6 → PoolOk s' → R (.ref a) G' (M.set n (p, pool c' s'))
def S_law_turn (K : PySem.W.Frag) : KSp := sp2 fun x y G M R Z => ∃ (p : Addr) (n : Nat) (c s : Int) (m : Nat), x = .ref p ∧ y = .int (m : Nat) ∧ m ≤ 64 ∧ M[n]? = some (p, pool c s) ∧ PoolOk s ∧
  ∀ (t : Addr) (l : List Nat) (c' s' : Int), OrdOk m l → PoolOk s' → Fr G M t → R (.ref t) G ((t, .lst (natsV l)) :: M.set n (p, pool c' s'))
/-- where a sign is led -/
def ledS (ps : List Pp) : Sg → Sg
  | .room b s r => .room b s r
  | .item b s d i => .item b s ((ps.map (·.src)).idxOf d) ((turnOf ps ((ps.map (·.src)).idxOf d)).idxOf i)
  | .way b s d p e => .way b s ((ps.map (·.src)).idxOf d) p e
def S_law_led_sign (K : PySem.W.Frag) : KSp := sp2 fun x y G M R Z => ∃ (q T : Addr) (g : Sg) (ks : List Kn) (ps : List Pp), x = .ref q ∧ y = .ref T ∧ PapM K G M q ps ∧ PapOk ks ps ∧ SqT K G T g.vs ∧ SgOk ks g ∧ ks.length ≤ 1000 ∧
  ∀ (T' : Addr) (G' : Hp), Ex G G' → SqT K G' T' (ledS ps g).vs → R (.ref T') G' M

/-! ### papers that may be bent -/
def TurnG (G : Hp) (w : V) (t : Option (List Nat)) : Prop := match t with
  | none => w = .non
  | some l => ∃ b, w = .ref b ∧ G b = some (.lst (natsV l))
def PpG (K : PySem.W.Frag) (G : Hp) (v : V) (pp : Pp) : Prop := ∃ (T : Addr) (w : V), v = .ref T ∧ SqT K G T [.int (pp.src : Nat), w] ∧ TurnG G w pp.turn
def PapG (K : PySem.W.Frag) (G : Hp) (q : Addr) (ps : List Pp) : Prop := ∃ us, G q = some (.lst us) ∧ A2 (PpG K G) us ps
def S_law_paper (K : PySem.W.Frag) : KSp := sp2 fun x y G M R Z => ∃ (p : Addr) (n : Nat) (c s : Int) (a : Addr) (ks : List Kn), x = .ref p ∧ y = .ref a ∧ M[n]? = some (p, pool c s) ∧ PoolOk s ∧ KnF K G a ks ∧ (∀ k, k ∈ ks → KnOk k) ∧ ks.length ≤ 6 ∧
  ∀ (q : Addr) (ps : List Pp) (c' s' : Int) (G' : Hp), Ex G G' → PapG K G' q ps → PapOk ks ps → PoolOk s' → R (.ref q) G' (M.set n (p, pool c' s'))
mutual
def XD.pd : XD → PyData
  | .non => .none
  | .bl b => .bool b
  | .int i => .int i
  | .str s => .str s
  | .list l => .list (XD.pds l)
  | .tup l => .tuple (XD.pds l)
  | .dict => .dict []
def XD.pds : List XD → List PyData
  | [] => []
  | x :: l => x.pd :: XD.pds l
end
structure Shq (p w : Nat) (d : PyData) : Prop where
  s : d.showable = true
  l : d.leavesShort 40 = true
  p : d.depth ≤ p
  w : d.weight ≤ w
def intX : XD → Int
  | .int i => i
  | _ => 0
def isIntX : XD → Bool
  | .int _ => true
  | _ => false
def wiX (x : XD) (lo hi : Int) : Bool := match x with
  | .int i => decide (lo ≤ i) && decide (i ≤ hi)
  | _ => false
def ordX (l : List XD) : Bool := decide (1 ≤ l.length) && decide (l.length ≤ 64) && l.all (fun x => wiX x 0 ((l.length : Int) - 1)) && decide ((l.map intX).Nodup)
def nonX : XD → Bool
  | .non => true
  | _ => false
def ordLX (n : Nat) : XD → Bool
  | .list l => ordX l && decide (l.length = n)
  | _ => false
def turnX (k : Kn) (w : XD) : Bool := if k.leaf then nonX w else ordLX k.n w
def knE (a b : Kn) : Bool := decide (a.leaf = b.leaf) && decide (a.n = b.n)
def partX (ks : List Kn) (k : Kn) : XD → Bool
  | .tup [u, w] => wiX u 0 ((ks.length : Int) - 1) && (match ks[(intX u).toNat]? with
    | some k' => knE k' k && turnX k w
    | none => false)
  | _ => false
def srcX : XD → Int
  | .tup (u :: _) => intX u
  | _ => 0
def paperX (ks : List Kn) : XD → Bool
  | .list zs => decide (zs.length = ks.length) && (List.zipWith (partX ks) ks zs).all id && decide ((zs.map srcX).Nodup)
  | _ => false
def partP : XD → Pp
  | .tup [u, .list l] => ⟨(intX u).toNat, some (l.map fun x => (intX x).toNat)⟩
  | .tup [u, _] => ⟨(intX u).toNat, none⟩
  | _ => ⟨0, none⟩
def papP : XD → List Pp
  | .list zs => zs.map partP
  | _ => []
/-- what stands in a turn -/
def ItX : XD → Prop
  | .int _ => True
  | .bl _ => True
  | .non => True
  | .str s => s = "0"
  | .list l => l = [.int 0]
  | _ => False
def WX2 : XD → Prop
  | .list l => l.length ≤ 1000 ∧ ∀ x, x ∈ l → ItX x
  | _ => True
def PtX : XD → Prop
  | .tup xs => xs.length ≤ 100 ∧ ∀ x, x ∈ xs → WX2 x
  | _ => True
def PaX : XD → Prop
  | .list zs => zs.length ≤ 1000 ∧ ∀ x, x ∈ zs → PtX x
  | _ => True
def dueB (ks : List Kn) (d : XD) (one other : List Sg) : Bool := paperX ks d && (decide (one.length = other.length) && decide (one.map (ledS (papP d)) = other))
def SgB (m : Nat) : Sg → Prop
  | .room _ s r => s ≤ m ∧ r ≤ 100
  | .item _ s _ _ => s ≤ m
  | .way _ s _ _ _ => s ≤ m
def S_law_sign (K : PySem.W.Frag) : KSp := sp2 fun x y G M R Z => ∃ (p : Addr) (n : Nat) (c s : Int) (a : Addr) (ks : List Kn), x = .ref p ∧ y = .ref a ∧ M[n]? = some (p, pool c s) ∧ PoolOk s ∧ KnF K G a ks ∧ (∀ k, k ∈ ks → KnOk k) ∧ ks.length ≤ 6 ∧
  ∀ (T : Addr) (g : Sg) (c' s' : Int) (G' : Hp), Ex G G' → SqT K G' T g.vs → (SgOk ks g ∧ SgB 50 g) → PoolOk s' → R (.ref T) G' (M.set n (p, pool c' s'))
def S_law_whole (K : PySem.W.Frag) : KSp := sp1 fun x G M R Z => ∃ T : PT, TyK K G M x T ∧ R (.bl (T == .int)) G M
def S_law_is_turn (K : PySem.W.Frag) : KSp := sp2 fun x w G M R Z => ∃ (T : Addr) (k : Kn) (d : XD), x = .ref T ∧ SqT K G T [.str k.txt, .int (k.n : Nat)] ∧ KnOk k ∧ Rp K G [] w d ∧ WX2 d ∧ R (.bl (turnX k d)) G M
def S_law_is_paper (K : PySem.W.Frag) : KSp := sp2 fun x z G M R Z => ∃ (a : Addr) (ks : List Kn) (d : XD), x = .ref a ∧ KnF K G a ks ∧ (∀ k, k ∈ ks → KnOk k) ∧ ks.length ≤ 6 ∧ Rp K G [] z d ∧ PaX d ∧ R (.bl (paperX ks d)) G M
def S_law_due (K : PySem.W.Frag) : KSp := sp4 fun x y z w G M R Z => ∃ (a o1 o2 : Addr) (ks : List Kn) (one other : List Sg) (d : XD), x = .ref a ∧ y = .ref o1 ∧ z = .ref o2 ∧ KnF K G a ks ∧ (∀ k, k ∈ ks → KnOk k) ∧ ks.length ≤ 6 ∧ SgsG K G o1 one ∧ SgsG K G o2 other ∧ one.length ≤ 100 ∧ other.length ≤ 100 ∧ (∀ s, s ∈ one → SgOk ks s) ∧ Rp K G [] w d ∧ PaX d ∧
  ∀ G', Ex G G' → R (.bl (dueB ks d one other)) G' M
def S_law_bent_part (K : PySem.W.Frag) : KSp := sp3 fun x y z G M R Z => ∃ (p : Addr) (n : Nat) (c s : Int) (ks : List Kn) (k : Kn) (pp : Pp), x = .ref p ∧ z = .int (ks.length : Nat) ∧ M[n]? = some (p, pool c s) ∧ PoolOk s ∧ PpG K G y pp ∧ PpOk ks k pp ∧ KnOk k ∧ ks.length ≤ 6 ∧
  ∀ (v : V) (d : XD) (c' s' : Int) (G' : Hp), Ex G G' → Rp K G' [] v d → PtX d → Shq 3 9300 d.pd → PoolOk s' → R v G' (M.set n (p, pool c' s'))
def S_law_bent_paper (K : PySem.W.Frag) : KSp := sp2 fun x y G M R Z => ∃ (p : Addr) (n : Nat) (c s : Int) (q : Addr) (ks : List Kn) (ps : List Pp), x = .ref p ∧ y = .ref q ∧ M[n]? = some (p, pool c s) ∧ PoolOk s ∧ PapG K G q ps ∧ PapOk ks ps ∧ (∀ k, k ∈ ks → KnOk k) ∧ ks.length ≤ 6 ∧
  ∀ (v : V) (d : XD) (c' s' : Int) (G' : Hp), Ex G G' → Rp K G' [] v d → PaX d → Shq 4 66000 d.pd → PoolOk s' → R v G' (M.set n (p, pool c' s'))
def S_law_bent_signs (K : PySem.W.Frag) : KSp := sp3 fun x y z G M R Z => ∃ (p : Addr) (n : Nat) (c s : Int) (a o : Addr) (ks : List Kn) (sg : List Sg), x = .ref p ∧ y = .ref a ∧ z = .ref o ∧ M[n]? = some (p, pool c s) ∧ PoolOk s ∧ KnF K G a ks ∧ (∀ k, k ∈ ks → KnOk k) ∧ ks.length ≤ 6 ∧ SgsG K G o sg ∧ sg.length ≤ 20 ∧ (∀ s, s ∈ sg → SgOk ks s ∧ SgB 50 s) ∧
  ∀ (q : Addr) (sg' : List Sg) (c' s' : Int) (G' : Hp), Ex G G' → SgsG K G' q sg' → sg'.length ≤ 20 → (∀ s, s ∈ sg' → SgOk ks s ∧ SgB 60 s) → PoolOk s' → R (.ref q) G' (M.set n (p, pool c' s'))
def S_law_right (K : PySem.W.Frag) : KSp := sp1 fun x G M R Z => ∃ (p : Addr) (c s : Int), x = .ref p ∧ M = [(p, pool c s)] ∧ PoolOk s ∧ ∀ G' M', Ex G G' → R (.bl true) G' M'
/-! readings of the defs, printed by gen.py -/
/-- law_pool(_law_script, _law_k); slots 0 _law_script, 1 _law_k, 2 _law_cell, 3 _law_seed -/
def rd_law_pool_4 (K : PySem.W.Frag) : KS :=
  kSeq (kRet (kLst (kCons (kVar 2) (kCons (kVar 3) (kNil))))) (kNext)
def rd_law_pool_3 (K : PySem.W.Frag) : KS :=
  kSeq (kIf (kT (kBin (kI0 fun i j => .bl (decide (i < j))) (kVar 2) (kBin (kI CPow fun i j => .int (i ^ j.toNat)) (kC (.int 10)) (kC (.int 18))))) (kSeq (kSet 2 (kC (.int 0))) (kNext)) (kNext)) (rd_law_pool_4 K)
def rd_law_pool_2 (K : PySem.W.Frag) : KS :=
  kSeq (kSet 3 (kBin (kI (fun _ j => 0 < j) fun i j => .int (i % j)) (kBin (kMul) (kBin (kAdd) (kBin (kAdd) (kBin (kI (fun _ j => 0 < j) fun i j => .int (i % j)) (kVar 2) (kC (.int 1000000007))) (kBin (kMul) (kBin (kMul) (kC (.int 15485863)) (kVar 1)) (kVar 1))) (kC (.int 3))) (kC (.int 39373))) (kC (.int 2147483647)))) (rd_law_pool_3 K)
def rd_law_pool_1 (K : PySem.W.Frag) : KS :=
  kSeq (kIf (kT (kBin (kI0 fun i j => .bl (decide (i < j))) (kVar 1) (kCB (kLen K) (kCons (kVar 0) (kNil))))) (kSeq (kSet 2 (kBin (kIx K) (kVar 0) (kVar 1))) (kNext)) (kNext)) (rd_law_pool_2 K)
def rd_law_pool (K : PySem.W.Frag) : KS :=
  kSeq (kSet 2 (kC (.int 0))) (rd_law_pool_1 K)
/-- law_take(_law_pool_here, _law_many); slots 0 _law_pool_here, 1 _law_many, 2 _law_found -/
def rd_law_take_2 (K : PySem.W.Frag) : KS :=
  kSeq (kRet (kBin (kI (fun _ j => 0 < j) fun i j => .int (i % j)) (kBin (kI CDivW fun i j => .int (i / j)) (kBin (kI (fun _ j => 0 < j) fun i j => .int (i % j)) (kBin (kMul) (kBin (kIx K) (kVar 0) (kC (.int 1))) (kBin (kIx K) (kVar 0) (kC (.int 1)))) (kC (.int 2147483629))) (kC (.int 64))) (kVar 1))) (kNext)
def rd_law_take_1 (K : PySem.W.Frag) : KS :=
  kSeq (kAsg (kBin (kI (fun _ j => 0 < j) fun i j => .int (i % j)) (kBin (kAdd) (kBin (kMul) (kBin (kIx K) (kVar 0) (kC (.int 1))) (kC (.int 48271))) (kC (.int 11))) (kC (.int 2147483647))) (kgIx (kVar 0) (kC (.int 1)))) (rd_law_take_2 K)
def rd_law_take (K : PySem.W.Frag) : KS :=
  kSeq (kIf (kT (kBin (kI0 fun i j => .bl (decide (j < i))) (kBin (kIx K) (kVar 0) (kC (.int 0))) (kC (.int 0)))) (kSeq (kSet 2 (kBin (kI (fun _ j => 0 < j) fun i j => .int (i % j)) (kBin (kIx K) (kVar 0) (kC (.int 0))) (kVar 1))) (kSeq (kAsg (kBin (kI CDivW fun i j => .int (i / j)) (kBin (kIx K) (kVar 0) (kC (.int 0))) (kVar 1)) (kgIx (kVar 0) (kC (.int 0)))) (kSeq (kRet (kVar 2)) (kNext)))) (kNext)) (rd_law_take_1 K)
/-- law_kinds(_law_pool_here, _law_most, _law_far); slots 0 _law_pool_here, 1 _law_most, 2 _law_far, 3 _law_kinds_here, 4 _law_k -/
def rd_law_kinds_b0 (K : PySem.W.Frag) : KS :=
  kSeq (kIf (kT (kBin (kEqv false K) (kCall (S_law_take K) (kCons (kVar 0) (kCons (kC (.int 2)) (kNil)))) (kC (.int 0)))) (kSeq (kExpr (kBM K "list" (kAppend) (kVar 3) (kCons (kTup (kCons (kC (.str "leaf")) (kCons (kCall (S_law_take K) (kCons (kVar 0) (kCons (kC (.int 7)) (kNil)))) (kNil)))) (kNil)))) (kNext)) (kSeq (kExpr (kBM K "list" (kAppend) (kVar 3) (kCons (kTup (kCons (kC (.str "shuffle")) (kCons (kBin (kAdd) (kC (.int 1)) (kCall (S_law_take K) (kCons (kVar 0) (kCons (kBin (kIx K) (kLst (kCons (kC (.int 6)) (kCons (kVar 2) (kNil)))) (kCall (S_law_take K) (kCons (kVar 0) (kCons (kC (.int 2)) (kNil))))) (kNil))))) (kNil)))) (kNil)))) (kNext))) (kNext)
def rd_law_kinds_2 (K : PySem.W.Frag) : KS :=
  kSeq (kRet (kVar 3)) (kNext)
def rd_law_kinds_1 (K : PySem.W.Frag) : KS :=
  kSeq (kFor (kiR1 (kCons (kCall (S_law_take K) (kCons (kVar 0) (kCons (kBin (kAdd) (kVar 1) (kC (.int 1))) (kNil)))) (kNil))) (kgName 4) (rd_law_kinds_b0 K)) (rd_law_kinds_2 K)
def rd_law_kinds (K : PySem.W.Frag) : KS :=
  kSeq (kSet 3 (kLst (kNil))) (rd_law_kinds_1 K)
/-- law_turn(_law_pool_here, _law_size); slots 0 _law_pool_here, 1 _law_size, 2 _law_order, 3 _law_k -/
def rd_law_turn_b0 (K : PySem.W.Frag) : KS :=
  kSeq (kExpr (kBM K "list" (kInsert) (kVar 2) (kCons (kCall (S_law_take K) (kCons (kVar 0) (kCons (kBin (kAdd) (kVar 3) (kC (.int 1))) (kNil)))) (kCons (kVar 3) (kNil))))) (kNext)
def rd_law_turn_2 (K : PySem.W.Frag) : KS :=
  kSeq (kRet (kVar 2)) (kNext)
def rd_law_turn_1 (K : PySem.W.Frag) : KS :=
  kSeq (kFor (kiR1 (kCons (kVar 1) (kNil))) (kgName 3) (rd_law_turn_b0 K)) (rd_law_turn_2 K)
def rd_law_turn (K : PySem.W.Frag) : KS :=
  kSeq (kSet 2 (kLst (kNil))) (rd_law_turn_1 K)
/-- law_paper(_law_pool_here, _law_kinds_here); slots 0 _law_pool_here, 1 _law_kinds_here, 2 _law_places, 3 _law_k, 4 _law_paper_here, 5 _law_kind, 6 _law_source -/
def rd_law_paper_b0 (K : PySem.W.Frag) : KS :=
  kSeq (kDSetT (kVar 2) (kBin (kIx K) (kVar 1) (kVar 3)) (kBin (kAdd) (kDGet2T (kVar 2) (kBin (kIx K) (kVar 1) (kVar 3)) (kLst (kNil))) (kLst (kCons (kVar 3) (kNil))))) (kNext)
def rd_law_paper_b1_2 (K : PySem.W.Frag) : KS :=
  kSeq (kIf (kT (kBin (kEqv false K) (kBin (kIx K) (kVar 5) (kC (.int 0))) (kC (.str "shuffle")))) (kSeq (kAsg (kTup (kCons (kVar 6) (kCons (kCall (S_law_turn K) (kCons (kVar 0) (kCons (kBin (kIx K) (kVar 5) (kC (.int 1))) (kNil)))) (kNil)))) (kgIx (kVar 4) (kUn kNeg (kC (.int 1))))) (kNext)) (kNext)) (kNext)
def rd_law_paper_b1_1 (K : PySem.W.Frag) : KS :=
  kSeq (kExpr (kBM K "list" (kAppend) (kVar 4) (kCons (kTup (kCons (kVar 6) (kCons (kBin (kIx K) (kLst (kCons (kC .non) (kCons (kC (.int 0)) (kNil)))) (kCB (kInt) (kCons (kBin (kEqv false K) (kBin (kIx K) (kVar 5) (kC (.int 0))) (kC (.str "shuffle"))) (kNil)))) (kNil)))) (kNil)))) (rd_law_paper_b1_2 K)
def rd_law_paper_b1 (K : PySem.W.Frag) : KS :=
  kSeq (kSet 6 (kBM K "list" (kPopAt) (kBin kDGetT (kVar 2) (kVar 5)) (kCons (kCall (S_law_take K) (kCons (kVar 0) (kCons (kCB (kLen K) (kCons (kBin kDGetT (kVar 2) (kVar 5)) (kNil))) (kNil)))) (kNil)))) (rd_law_paper_b1_1 K)
def rd_law_paper_4 (K : PySem.W.Frag) : KS :=
  kSeq (kRet (kVar 4)) (kNext)
def rd_law_paper_3 (K : PySem.W.Frag) : KS :=
  kSeq (kFor (kiSeq K (kVar 1)) (kgName 5) (rd_law_paper_b1 K)) (rd_law_paper_4 K)
def rd_law_paper_2 (K : PySem.W.Frag) : KS :=
  kSeq (kSet 4 (kLst (kNil))) (rd_law_paper_3 K)
def rd_law_paper_1 (K : PySem.W.Frag) : KS :=
  kSeq (kFor (kiR1 (kCons (kCB (kLen K) (kCons (kVar 1) (kNil))) (kNil))) (kgName 3) (rd_law_paper_b0 K)) (rd_law_paper_2 K)
def rd_law_paper (K : PySem.W.Frag) : KS :=
  kSeq (kSet 2 (kDNewT)) (rd_law_paper_1 K)
/-- law_sign(_law_pool_here, _law_kinds_here); slots 0 _law_pool_here, 1 _law_kinds_here, 2 _law_way, 3 _law_deed, 4 _law_shelf, 5 _law_draw_here -/
def rd_law_sign_6 (K : PySem.W.Frag) : KS :=
  kSeq (kRet (kTup (kCons (kC (.str "way")) (kCons (kVar 3) (kCons (kVar 4) (kCons (kVar 5) (kCons (kCall (S_law_take K) (kCons (kVar 0) (kCons (kBin (kAdd) (kBin (kIx K) (kBin (kIx K) (kVar 1) (kVar 5)) (kC (.int 1))) (kC (.int 1))) (kNil)))) (kCons (kCall (S_law_take K) (kCons (kVar 0) (kCons (kC (.int 2)) (kNil)))) (kNil))))))))) (kNext)
def rd_law_sign_5 (K : PySem.W.Frag) : KS :=
  kSeq (kIf (kT (kBin (kEqv false K) (kBin (kIx K) (kBin (kIx K) (kVar 1) (kVar 5)) (kC (.int 0))) (kC (.str "shuffle")))) (kSeq (kRet (kTup (kCons (kC (.str "item")) (kCons (kVar 3) (kCons (kVar 4) (kCons (kVar 5) (kCons (kCall (S_law_take K) (kCons (kVar 0) (kCons (kBin (kIx K) (kBin (kIx K) (kVar 1) (kVar 5)) (kC (.int 1))) (kNil)))) (kNil)))))))) (kNext)) (kNext)) (rd_law_sign_6 K)
def rd_law_sign_4 (K : PySem.W.Frag) : KS :=
  kSeq (kSet 5 (kCall (S_law_take K) (kCons (kVar 0) (kCons (kCB (kLen K) (kCons (kVar 1) (kNil))) (kNil))))) (rd_law_sign_5 K)
def rd_law_sign_3 (K : PySem.W.Frag) : KS :=
  kSeq (kIf (kOr (kT (kBin (kEqv false K) (kVar 2) (kC (.int 0)))) (kT (kBin (kEqv false K) (kVar 1) (kLst (kNil))))) (kSeq (kRet (kTup (kCons (kC (.str "room")) (kCons (kVar 3) (kCons (kVar 4) (kCons (kCall (S_law_take K) (kCons (kVar 0) (kCons (kC (.int 9)) (kNil)))) (kNil))))))) (kNext)) (kNext)) (rd_law_sign_4 K)
def rd_law_sign_2 (K : PySem.W.Frag) : KS :=
  kSeq (kSet 4 (kCall (S_law_take K) (kCons (kVar 0) (kCons (kC (.int 3)) (kNil))))) (rd_law_sign_3 K)
def rd_law_sign_1 (K : PySem.W.Frag) : KS :=
  kSeq (kSet 3 (kBin (kIx K) (kLst (kCons (kC (.str "look")) (kCons (kC (.str "lay")) (kNil)))) (kCall (S_law_take K) (kCons (kVar 0) (kCons (kC (.int 2)) (kNil)))))) (rd_law_sign_2 K)
def rd_law_sign (K : PySem.W.Frag) : KS :=
  kSeq (kSet 2 (kCall (S_law_take K) (kCons (kVar 0) (kCons (kC (.int 5)) (kNil))))) (rd_law_sign_1 K)
/-- law_led_sign(_law_paper_here, _law_sign_here); slots 0 _law_paper_here, 1 _law_sign_here, 2 _law_draw_here, 3 _law_k -/
def rd_law_led_sign_3 (K : PySem.W.Frag) : KS :=
  kSeq (kRet (kBin (kCat K) (kSlT K (kVar 1) (kNoP) (kPart (kC (.int 3)))) (kTup (kCons (kVar 2) (kCons (kBM K "list" (kIndex K) (kBin (kIx K) (kBin (kIx K) (kVar 0) (kVar 2)) (kC (.int 1))) (kCons (kBin (kIx K) (kVar 1) (kC (.int 4))) (kNil))) (kNil)))))) (kNext)
def rd_law_led_sign_2 (K : PySem.W.Frag) : KS :=
  kSeq (kIf (kT (kBin (kEqv false K) (kBin (kIx K) (kVar 1) (kC (.int 0))) (kC (.str "way")))) (kSeq (kRet (kBin (kCat K) (kBin (kCat K) (kSlT K (kVar 1) (kNoP) (kPart (kC (.int 3)))) (kTup (kCons (kVar 2) (kNil)))) (kSlT K (kVar 1) (kPart (kC (.int 4))) (kNoP)))) (kNext)) (kNext)) (rd_law_led_sign_3 K)
def rd_law_led_sign_1 (K : PySem.W.Frag) : KS :=
  kSeq (kSet 2 (kBin (kIx K) (kComp (kiR1 (kCons (kCB (kLen K) (kCons (kVar 0) (kNil))) (kNil))) (kgName 3) (kT (kBin (kEqv false K) (kBin (kIx K) (kBin (kIx K) (kVar 0) (kVar 3)) (kC (.int 0))) (kBin (kIx K) (kVar 1) (kC (.int 3))))) (kVar 3) [3]) (kC (.int 0)))) (rd_law_led_sign_2 K)
def rd_law_led_sign (K : PySem.W.Frag) : KS :=
  kSeq (kIf (kT (kBin (kEqv false K) (kBin (kIx K) (kVar 1) (kC (.int 0))) (kC (.str "room")))) (kSeq (kRet (kVar 1)) (kNext)) (kNext)) (rd_law_led_sign_1 K)
/-- law_bent_part(_law_pool_here, _law_part, _law_many); slots 0 _law_pool_here, 1 _law_part, 2 _law_many, 3 _law_source, 4 _law_turn_here, 5 _law_way, 6 _law_at, 7 _law_to, 8 _law_other, 9 _law_exchanged, 10 _law_longer, 11 _law_one -/
def rd_law_bent_part_4 (K : PySem.W.Frag) : KS :=
  kSeq (kRet (kBin (kIx K) (kLst (kCons (kTup (kCons (kVar 3) (kCons (kLst (kCons (kC (.int 0)) (kNil))) (kNil)))) (kCons (kTup (kCons (kVar 3) (kCons (kC (.int 0)) (kNil)))) (kCons (kTup (kCons (kVar 3) (kNil))) (kCons (kTup (kCons (kVar 3) (kCons (kVar 4) (kCons (kVar 4) (kNil))))) (kCons (kLst (kCons (kVar 3) (kCons (kVar 4) (kNil)))) (kCons (kTup (kCons (kBin (kAdd) (kVar 3) (kC (.int 1))) (kCons (kVar 4) (kNil)))) (kCons (kTup (kCons (kC (.bl true)) (kCons (kVar 4) (kNil)))) (kCons (kC .non) (kNil)))))))))) (kVar 5))) (kNext)
def rd_law_bent_part_3 (K : PySem.W.Frag) : KS :=
  kSeq (kIf (kT (kCB (kIsi K) (kCons (kVar 4) (kCons (kC (.ty "list")) (kNil))))) (kSeq (kSet 6 (kCall (S_law_take K) (kCons (kVar 0) (kCons (kCB (kLen K) (kCons (kVar 4) (kNil))) (kNil))))) (kSeq (kSet 7 (kCall (S_law_take K) (kCons (kVar 0) (kCons (kCB (kLen K) (kCons (kVar 4) (kNil))) (kNil))))) (kSeq (kSet 8 (kCB (kList K) (kCons (kVar 4) (kNil)))) (kSeq (kAsg (kBin (kIx K) (kVar 4) (kVar 7)) (kgIx (kVar 8) (kVar 6))) (kSeq (kSet 9 (kCB (kList K) (kCons (kVar 8) (kNil)))) (kSeq (kAsg (kBin (kIx K) (kVar 4) (kVar 6)) (kgIx (kVar 9) (kVar 7))) (kSeq (kSet 10 (kBin (kIx K) (kLst (kCons (kSl K (kVar 4) (kNoP) (kPart (kUn kNeg (kC (.int 1))))) (kCons (kBin (kAdd) (kVar 4) (kLst (kCons (kCB (kLen K) (kCons (kVar 4) (kNil))) (kNil)))) (kNil)))) (kCall (S_law_take K) (kCons (kVar 0) (kCons (kC (.int 2)) (kNil)))))) (kSeq (kIf (kAnd (kT (kBin (kI0 fun i j => .bl (decide (i < j))) (kVar 5) (kC (.int 3)))) (kT (kBin (kEqv false K) (kCall (S_law_take K) (kCons (kVar 0) (kCons (kC (.int 2)) (kNil)))) (kC (.int 1))))) (kSeq (kAsg (kBin (kIx K) (kLst (kCons (kCB (kLen K) (kCons (kVar 4) (kNil))) (kCons (kBin (kI0 fun i j => .int (i - j)) (kBin (kIx K) (kVar 4) (kVar 6)) (kCB (kLen K) (kCons (kVar 4) (kNil)))) (kCons (kBin (kI CPow fun i j => .int (i ^ j.toNat)) (kC (.int 10)) (kC (.int 9))) (kCons (kC .non) (kCons (kC (.str "0")) (kCons (kLst (kCons (kC (.int 0)) (kNil))) (kNil)))))))) (kBin (kAdd) (kVar 5) (kBin (kMul) (kC (.int 3)) (kCall (S_law_take K) (kCons (kVar 0) (kCons (kC (.int 2)) (kNil))))))) (kgIx (kVar 8) (kVar 6))) (kSeq (kRet (kTup (kCons (kVar 3) (kCons (kVar 8) (kNil))))) (kNext))) (kNext)) (kSeq (kRet (kBin (kIx K) (kLst (kCons (kTup (kCons (kVar 3) (kCons (kVar 9) (kNil)))) (kCons (kTup (kCons (kVar 3) (kCons (kVar 8) (kNil)))) (kCons (kTup (kCons (kVar 3) (kCons (kC .non) (kNil)))) (kCons (kTup (kCons (kVar 3) (kCons (kCB (kTuple K) (kCons (kVar 4) (kNil))) (kNil)))) (kCons (kLst (kCons (kVar 3) (kCons (kVar 4) (kNil)))) (kCons (kTup (kCons (kVar 3) (kCons (kVar 10) (kNil)))) (kCons (kTup (kCons (kBin (kAdd) (kVar 3) (kC (.int 1))) (kCons (kVar 4) (kNil)))) (kCons (kTup (kCons (kVar 3) (kCons (kComp (kiSeq K (kVar 4)) (kgName 11) (kYes) (kIte (kT (kBin (kI0 fun i j => .bl (decide (i < j))) (kVar 11) (kC (.int 2)))) (kCB (kBool) (kCons (kVar 11) (kNil))) (kVar 11)) [11]) (kNil)))) (kNil)))))))))) (kVar 5))) (kNext)))))))))) (kNext)) (rd_law_bent_part_4 K)
def rd_law_bent_part_2 (K : PySem.W.Frag) : KS :=
  kSeq (kIf (kAnd (kT (kBin (kI0 fun i j => .bl (decide (j < i))) (kVar 5) (kC (.int 5)))) (kT (kBin (kEqv false K) (kCall (S_law_take K) (kCons (kVar 0) (kCons (kC (.int 2)) (kNil)))) (kC (.int 1))))) (kSeq (kRet (kTup (kCons (kBin (kIx K) (kLst (kCons (kBin (kI0 fun i j => .int (i - j)) (kVar 3) (kVar 2)) (kCons (kUn kNeg (kC (.int 1))) (kCons (kC .non) (kCons (kC (.str "0")) (kCons (kLst (kCons (kC (.int 0)) (kNil))) (kCons (kTup (kCons (kC (.int 0)) (kNil))) (kCons (kDNew) (kNil))))))))) (kCall (S_law_take K) (kCons (kVar 0) (kCons (kC (.int 7)) (kNil))))) (kCons (kVar 4) (kNil))))) (kNext)) (kNext)) (rd_law_bent_part_3 K)
def rd_law_bent_part_1 (K : PySem.W.Frag) : KS :=
  kSeq (kSet 5 (kCall (S_law_take K) (kCons (kVar 0) (kCons (kC (.int 8)) (kNil))))) (rd_law_bent_part_2 K)
def rd_law_bent_part (K : PySem.W.Frag) : KS :=
  kSeq (kAsg (kVar 1) (kgTup K 2 (kgsCons (kgName 3) (kgsCons (kgName 4) (kgsNil))))) (rd_law_bent_part_1 K)
/-- law_bent_paper(_law_pool_here, _law_paper_here); slots 0 _law_pool_here, 1 _law_paper_here, 2 _law_at, 3 _law_way, 4 _law_other, 5 _law_bent -/
def rd_law_bent_paper_8 (K : PySem.W.Frag) : KS :=
  kSeq (kRet (kBin (kAdd) (kBin (kAdd) (kSl K (kVar 1) (kNoP) (kPart (kVar 2))) (kLst (kCons (kCall (S_law_bent_part K) (kCons (kVar 0) (kCons (kBin (kIx K) (kVar 1) (kVar 2)) (kCons (kCB (kLen K) (kCons (kVar 1) (kNil))) (kNil))))) (kNil)))) (kSl K (kVar 1) (kPart (kBin (kAdd) (kVar 2) (kC (.int 1)))) (kNoP)))) (kNext)
def rd_law_bent_paper_7 (K : PySem.W.Frag) : KS :=
  kSeq (kIf (kT (kBin (kEqv false K) (kVar 3) (kC (.int 3)))) (kSeq (kSet 4 (kCall (S_law_take K) (kCons (kVar 0) (kCons (kCB (kLen K) (kCons (kVar 1) (kNil))) (kNil))))) (kSeq (kSet 5 (kCB (kList K) (kCons (kVar 1) (kNil)))) (kSeq (kAsg (kBin (kIx K) (kVar 1) (kVar 4)) (kgIx (kVar 5) (kVar 2))) (kSeq (kAsg (kBin (kIx K) (kVar 1) (kVar 2)) (kgIx (kVar 5) (kVar 4))) (kSeq (kRet (kVar 5)) (kNext)))))) (kNext)) (rd_law_bent_paper_8 K)
def rd_law_bent_paper_6 (K : PySem.W.Frag) : KS :=
  kSeq (kSet 2 (kBin (kI (fun _ j => 0 < j) fun i j => .int (i % j)) (kVar 2) (kCB (kLen K) (kCons (kVar 1) (kNil))))) (rd_law_bent_paper_7 K)
def rd_law_bent_paper_5 (K : PySem.W.Frag) : KS :=
  kSeq (kIf (kT (kBin (kEqv false K) (kVar 1) (kLst (kNil)))) (kSeq (kRet (kLst (kNil))) (kNext)) (kNext)) (rd_law_bent_paper_6 K)
def rd_law_bent_paper_4 (K : PySem.W.Frag) : KS :=
  kSeq (kIf (kT (kBin (kEqv false K) (kVar 3) (kC (.int 2)))) (kSeq (kRet (kBin (kIx K) (kLst (kCons (kCB (kTuple K) (kCons (kVar 1) (kNil))) (kCons (kC .non) (kCons (kC (.str "leading")) (kCons (kC (.int 0)) (kNil)))))) (kCall (S_law_take K) (kCons (kVar 0) (kCons (kC (.int 4)) (kNil)))))) (kNext)) (kNext)) (rd_law_bent_paper_5 K)
def rd_law_bent_paper_3 (K : PySem.W.Frag) : KS :=
  kSeq (kIf (kT (kBin (kEqv false K) (kVar 3) (kC (.int 1)))) (kSeq (kRet (kBin (kAdd) (kVar 1) (kSl K (kVar 1) (kNoP) (kPart (kC (.int 1)))))) (kNext)) (kNext)) (rd_law_bent_paper_4 K)
def rd_law_bent_paper_2 (K : PySem.W.Frag) : KS :=
  kSeq (kIf (kT (kBin (kEqv false K) (kVar 3) (kC (.int 0)))) (kSeq (kRet (kBin (kAdd) (kSl K (kVar 1) (kNoP) (kPart (kVar 2))) (kSl K (kVar 1) (kPart (kBin (kAdd) (kVar 2) (kC (.int 1)))) (kNoP)))) (kNext)) (kNext)) (rd_law_bent_paper_3 K)
def rd_law_bent_paper_1 (K : PySem.W.Frag) : KS :=
  kSeq (kSet 3 (kCall (S_law_take K) (kCons (kVar 0) (kCons (kC (.int 8)) (kNil))))) (rd_law_bent_paper_2 K)
def rd_law_bent_paper (K : PySem.W.Frag) : KS :=
  kSeq (kSet 2 (kCall (S_law_take K) (kCons (kVar 0) (kCons (kBin (kAdd) (kCB (kLen K) (kCons (kVar 1) (kNil))) (kC (.int 1))) (kNil))))) (rd_law_bent_paper_1 K)
/-- law_bent_signs(_law_pool_here, _law_kinds_here, _law_signs); slots 0 _law_pool_here, 1 _law_kinds_here, 2 _law_signs, 3 _law_at, 4 _law_way, 5 _law_sign_here -/
def rd_law_bent_signs_7 (K : PySem.W.Frag) : KS :=
  kSeq (kRet (kBin (kAdd) (kBin (kAdd) (kSl K (kVar 2) (kNoP) (kPart (kVar 3))) (kLst (kCons (kCall (S_law_sign K) (kCons (kVar 0) (kCons (kVar 1) (kNil)))) (kNil)))) (kSl K (kVar 2) (kPart (kBin (kAdd) (kVar 3) (kC (.int 1)))) (kNoP)))) (kNext)
def rd_law_bent_signs_6 (K : PySem.W.Frag) : KS :=
  kSeq (kIf (kT (kBin (kEqv false K) (kVar 4) (kC (.int 2)))) (kSeq (kRet (kBin (kAdd) (kBin (kAdd) (kSl K (kVar 2) (kNoP) (kPart (kVar 3))) (kLst (kCons (kBin (kCat K) (kBin (kCat K) (kSlT K (kVar 5) (kNoP) (kPart (kC (.int 2)))) (kTup (kCons (kBin (kAdd) (kBin (kIx K) (kVar 5) (kC (.int 2))) (kC (.int 1))) (kNil)))) (kSlT K (kVar 5) (kPart (kC (.int 3))) (kNoP))) (kNil)))) (kSl K (kVar 2) (kPart (kBin (kAdd) (kVar 3) (kC (.int 1)))) (kNoP)))) (kNext)) (kNext)) (rd_law_bent_signs_7 K)
def rd_law_bent_signs_5 (K : PySem.W.Frag) : KS :=
  kSeq (kIf (kT (kBin (kEqv false K) (kVar 4) (kC (.int 1)))) (kSeq (kRet (kBin (kAdd) (kBin (kAdd) (kSl K (kVar 2) (kNoP) (kPart (kVar 3))) (kLst (kCons (kBin (kCat K) (kBin (kCat K) (kSlT K (kVar 5) (kNoP) (kPart (kC (.int 1)))) (kTup (kCons (kBin (kIx K) (kLst (kCons (kC (.str "lay")) (kCons (kC (.str "look")) (kNil)))) (kCB (kInt) (kCons (kBin (kEqv false K) (kBin (kIx K) (kVar 5) (kC (.int 1))) (kC (.str "lay"))) (kNil)))) (kNil)))) (kSlT K (kVar 5) (kPart (kC (.int 2))) (kNoP))) (kNil)))) (kSl K (kVar 2) (kPart (kBin (kAdd) (kVar 3) (kC (.int 1)))) (kNoP)))) (kNext)) (kNext)) (rd_law_bent_signs_6 K)
def rd_law_bent_signs_4 (K : PySem.W.Frag) : KS :=
  kSeq (kSet 5 (kBin (kIx K) (kVar 2) (kVar 3))) (rd_law_bent_signs_5 K)
def rd_law_bent_signs_3 (K : PySem.W.Frag) : KS :=
  kSeq (kSet 3 (kBin (kI (fun _ j => 0 < j) fun i j => .int (i % j)) (kVar 3) (kCB (kLen K) (kCons (kVar 2) (kNil))))) (rd_law_bent_signs_4 K)
def rd_law_bent_signs_2 (K : PySem.W.Frag) : KS :=
  kSeq (kIf (kOr (kT (kBin (kEqv false K) (kVar 4) (kC (.int 0)))) (kT (kBin (kEqv false K) (kVar 2) (kLst (kNil))))) (kSeq (kRet (kBin (kAdd) (kSl K (kVar 2) (kNoP) (kPart (kVar 3))) (kSl K (kVar 2) (kPart (kBin (kAdd) (kVar 3) (kC (.int 1)))) (kNoP)))) (kNext)) (kNext)) (rd_law_bent_signs_3 K)
def rd_law_bent_signs_1 (K : PySem.W.Frag) : KS :=
  kSeq (kSet 4 (kCall (S_law_take K) (kCons (kVar 0) (kCons (kC (.int 4)) (kNil))))) (rd_law_bent_signs_2 K)
def rd_law_bent_signs (K : PySem.W.Frag) : KS :=
  kSeq (kSet 3 (kCall (S_law_take K) (kCons (kVar 0) (kCons (kBin (kAdd) (kCB (kLen K) (kCons (kVar 2) (kNil))) (kC (.int 1))) (kNil))))) (rd_law_bent_signs_1 K)
/-- is_whole(thing); slots 0 thing -/
def rd_is_whole (K : PySem.W.Frag) : KS :=
  kSeq (kRet (kAndV (kCB (kIsi K) (kCons (kVar 0) (kCons (kC (.ty "int")) (kNil)))) (kNotV (kCB (kIsi K) (kCons (kVar 0) (kCons (kC (.ty "bool")) (kNil))))))) (kNext)
/-- is_within(thing, least, most); slots 0 thing, 1 least, 2 most -/
def rd_is_within (K : PySem.W.Frag) : KS :=
  kSeq (kRet (kAndV (kCall (S_is_whole K) (kCons (kVar 0) (kNil))) (kChain (kI0 fun i j => .bl (decide (i ≤ j))) (kI0 fun i j => .bl (decide (i ≤ j))) (kVar 1) (kVar 0) (kVar 2)))) (kNext)
/-- is_order(thing); slots 0 thing, 1 number -/
def rd_is_order_2 (K : PySem.W.Frag) : KS :=
  kSeq (kRet (kBin (kEqv false K) (kLenSet K (kVar 0)) (kCB (kLen K) (kCons (kVar 0) (kNil))))) (kNext)
def rd_is_order_1 (K : PySem.W.Frag) : KS :=
  kSeq (kIf (kNot (kT (kCB (kAll K) (kCons (kComp (kiSeq K (kVar 0)) (kgName 1) (kYes) (kCall (S_is_within K) (kCons (kVar 1) (kCons (kC (.int 0)) (kCons (kBin (kI0 fun i j => .int (i - j)) (kCB (kLen K) (kCons (kVar 0) (kNil))) (kC (.int 1))) (kNil))))) [1]) (kNil))))) (kSeq (kRet (kC (.bl false))) (kNext)) (kNext)) (rd_is_order_2 K)
def rd_is_order (K : PySem.W.Frag) : KS :=
  kSeq (kIf (kOr (kNot (kT (kCB (kIsi K) (kCons (kVar 0) (kCons (kC (.ty "list")) (kNil)))))) (kOr (kT (kBin (kI0 fun i j => .bl (decide (i < j))) (kCB (kLen K) (kCons (kVar 0) (kNil))) (kC (.int 1)))) (kT (kBin (kI0 fun i j => .bl (decide (j < i))) (kCB (kLen K) (kCons (kVar 0) (kNil))) (kC (.int 64)))))) (kSeq (kRet (kC (.bl false))) (kNext)) (kNext)) (rd_is_order_1 K)
/-- is_part(kinds, place, thing); slots 0 kinds, 1 place, 2 thing, 3 kind -/
def rd_is_part_4 (K : PySem.W.Frag) : KS :=
  kSeq (kRet (kAndV (kCall (S_is_order K) (kCons (kBin (kIx K) (kVar 2) (kC (.int 1))) (kNil))) (kBin (kEqv false K) (kCB (kLen K) (kCons (kBin (kIx K) (kVar 2) (kC (.int 1))) (kNil))) (kBin (kIx K) (kVar 3) (kC (.int 1)))))) (kNext)
def rd_is_part_3 (K : PySem.W.Frag) : KS :=
  kSeq (kIf (kT (kBin (kEqv false K) (kBin (kIx K) (kVar 3) (kC (.int 0))) (kC (.str "leaf")))) (kSeq (kRet (kBin (kIs2 false) (kBin (kIx K) (kVar 2) (kC (.int 1))) (kC .non))) (kNext)) (kNext)) (rd_is_part_4 K)
def rd_is_part_2 (K : PySem.W.Frag) : KS :=
  kSeq (kIf (kT (kBin (kEqv true K) (kBin (kIx K) (kVar 0) (kBin (kIx K) (kVar 2) (kC (.int 0)))) (kVar 3))) (kSeq (kRet (kC (.bl false))) (kNext)) (kNext)) (rd_is_part_3 K)
def rd_is_part_1 (K : PySem.W.Frag) : KS :=
  kSeq (kSet 3 (kBin (kIx K) (kVar 0) (kVar 1))) (rd_is_part_2 K)
def rd_is_part (K : PySem.W.Frag) : KS :=
  kSeq (kIf (kOr (kNot (kT (kCB (kIsi K) (kCons (kVar 2) (kCons (kC (.ty "tuple")) (kNil)))))) (kOr (kT (kBin (kEqv true K) (kCB (kLen K) (kCons (kVar 2) (kNil))) (kC (.int 2)))) (kNot (kT (kCall (S_is_within K) (kCons (kBin (kIx K) (kVar 2) (kC (.int 0))) (kCons (kC (.int 0)) (kCons (kBin (kI0 fun i j => .int (i - j)) (kCB (kLen K) (kCons (kVar 0) (kNil))) (kC (.int 1))) (kNil))))))))) (kSeq (kRet (kC (.bl false))) (kNext)) (kNext)) (rd_is_part_1 K)
/-- is_paper(kinds, thing); slots 0 kinds, 1 thing, 2 place, 3 part -/
def rd_is_paper_b0 (K : PySem.W.Frag) : KS :=
  kSeq (kIf (kNot (kT (kCall (S_is_part K) (kCons (kVar 0) (kCons (kVar 2) (kCons (kBin (kIx K) (kVar 1) (kVar 2)) (kNil))))))) (kSeq (kRet (kC (.bl false))) (kNext)) (kNext)) (kNext)
def rd_is_paper_2 (K : PySem.W.Frag) : KS :=
  kSeq (kRet (kBin (kEqv false K) (kLenSet K (kComp (kiSeq K (kVar 1)) (kgName 3) (kYes) (kBin (kIx K) (kVar 3) (kC (.int 0))) [3])) (kCB (kLen K) (kCons (kVar 1) (kNil))))) (kNext)
def rd_is_paper_1 (K : PySem.W.Frag) : KS :=
  kSeq (kFor (kiR1 (kCons (kCB (kLen K) (kCons (kVar 0) (kNil))) (kNil))) (kgName 2) (rd_is_paper_b0 K)) (rd_is_paper_2 K)
def rd_is_paper (K : PySem.W.Frag) : KS :=
  kSeq (kIf (kOr (kNot (kT (kCB (kIsi K) (kCons (kVar 1) (kCons (kC (.ty "list")) (kNil)))))) (kT (kBin (kEqv true K) (kCB (kLen K) (kCons (kVar 1) (kNil))) (kCB (kLen K) (kCons (kVar 0) (kNil)))))) (kSeq (kRet (kC (.bl false))) (kNext)) (kNext)) (rd_is_paper_1 K)
/-- is_led(one, other, paper); slots 0 one, 1 other, 2 paper, 3 source, 4 turn -/
def rd_is_led_5 (K : PySem.W.Frag) : KS :=
  kSeq (kRet (kBin (kEqv false K) (kSlT K (kVar 0) (kPart (kC (.int 4))) (kNoP)) (kSlT K (kVar 1) (kPart (kC (.int 4))) (kNoP)))) (kNext)
def rd_is_led_4 (K : PySem.W.Frag) : KS :=
  kSeq (kIf (kT (kBin (kEqv false K) (kBin (kIx K) (kVar 0) (kC (.int 0))) (kC (.str "item")))) (kSeq (kRet (kBin (kEqv false K) (kBin (kIx K) (kVar 4) (kBin (kIx K) (kVar 1) (kC (.int 4)))) (kBin (kIx K) (kVar 0) (kC (.int 4))))) (kNext)) (kNext)) (rd_is_led_5 K)
def rd_is_led_3 (K : PySem.W.Frag) : KS :=
  kSeq (kIf (kT (kBin (kEqv true K) (kVar 3) (kBin (kIx K) (kVar 0) (kC (.int 3))))) (kSeq (kRet (kC (.bl false))) (kNext)) (kNext)) (rd_is_led_4 K)
def rd_is_led_2 (K : PySem.W.Frag) : KS :=
  kSeq (kAsg (kBin (kIx K) (kVar 2) (kBin (kIx K) (kVar 1) (kC (.int 3)))) (kgTup K 2 (kgsCons (kgName 3) (kgsCons (kgName 4) (kgsNil))))) (rd_is_led_3 K)
def rd_is_led_1 (K : PySem.W.Frag) : KS :=
  kSeq (kIf (kT (kBin (kEqv false K) (kBin (kIx K) (kVar 0) (kC (.int 0))) (kC (.str "room")))) (kSeq (kRet (kBin (kEqv false K) (kBin (kIx K) (kVar 0) (kC (.int 3))) (kBin (kIx K) (kVar 1) (kC (.int 3))))) (kNext)) (kNext)) (rd_is_led_2 K)
def rd_is_led (K : PySem.W.Frag) : KS :=
  kSeq (kIf (kOr (kT (kBin (kEqv true K) (kBin (kIx K) (kVar 0) (kC (.int 0))) (kBin (kIx K) (kVar 1) (kC (.int 0))))) (kT (kBin (kEqv true K) (kSlT K (kVar 0) (kPart (kC (.int 1))) (kPart (kC (.int 3)))) (kSlT K (kVar 1) (kPart (kC (.int 1))) (kPart (kC (.int 3))))))) (kSeq (kRet (kC (.bl false))) (kNext)) (kNext)) (rd_is_led_1 K)
/-- is_leading(kinds, one, other, thing); slots 0 kinds, 1 one, 2 other, 3 thing, 4 here, 5 there -/
def rd_is_leading_1 (K : PySem.W.Frag) : KS :=
  kSeq (kRet (kCB (kAll K) (kCons (kComp (kiZip K (kCons (kVar 1) (kCons (kVar 2) (kNil)))) (kgTup K 2 (kgsCons (kgName 4) (kgsCons (kgName 5) (kgsNil)))) (kYes) (kCall (S_is_led K) (kCons (kVar 4) (kCons (kVar 5) (kCons (kVar 3) (kNil))))) [4, 5]) (kNil)))) (kNext)
def rd_is_leading (K : PySem.W.Frag) : KS :=
  kSeq (kIf (kOr (kNot (kT (kCall (S_is_paper K) (kCons (kVar 0) (kCons (kVar 3) (kNil)))))) (kT (kBin (kEqv true K) (kCB (kLen K) (kCons (kVar 1) (kNil))) (kCB (kLen K) (kCons (kVar 2) (kNil)))))) (kSeq (kRet (kC (.bl false))) (kNext)) (kNext)) (rd_is_leading_1 K)
/-- law_whole(_law_found); slots 0 _law_found -/
def rd_law_whole (K : PySem.W.Frag) : KS :=
  kSeq (kRet (kAndV (kCB (kIsi K) (kCons (kVar 0) (kCons (kC (.ty "int")) (kNil)))) (kNotV (kCB (kIsi K) (kCons (kVar 0) (kCons (kC (.ty "bool")) (kNil))))))) (kNext)
/-- law_is_turn(_law_kind, _law_turn_here); slots 0 _law_kind, 1 _law_turn_here, 2 _law_one -/
def rd_law_is_turn_2 (K : PySem.W.Frag) : KS :=
  kSeq (kRet (kAndV (kBin (kEqv false K) (kComp (kiSeq K (kVar 1)) (kgName 2) (kNot (kT (kCall (S_law_whole K) (kCons (kVar 2) (kNil))))) (kVar 2) [2]) (kLst (kNil))) (kBin (kEqv false K) (kCB (kSorted K) (kCons (kVar 1) (kNil))) (kListR1 (kBin (kIx K) (kVar 0) (kC (.int 1))))))) (kNext)
def rd_law_is_turn_1 (K : PySem.W.Frag) : KS :=
  kSeq (kIf (kOr (kNot (kT (kCB (kIsi K) (kCons (kVar 1) (kCons (kC (.ty "list")) (kNil)))))) (kT (kBin (kEqv true K) (kCB (kLen K) (kCons (kVar 1) (kNil))) (kBin (kIx K) (kVar 0) (kC (.int 1)))))) (kSeq (kRet (kC (.bl false))) (kNext)) (kNext)) (rd_law_is_turn_2 K)
def rd_law_is_turn (K : PySem.W.Frag) : KS :=
  kSeq (kIf (kT (kBin (kEqv false K) (kBin (kIx K) (kVar 0) (kC (.int 0))) (kC (.str "leaf")))) (kSeq (kRet (kBin (kIs2 false) (kVar 1) (kC .non))) (kNext)) (kNext)) (rd_law_is_turn_1 K)
/-- law_is_paper(_law_kinds_here, _law_thing); slots 0 _law_kinds_here, 1 _law_thing, 2 _law_sources, 3 _law_kind, 4 _law_part -/
def rd_law_is_paper_b0_2 (K : PySem.W.Frag) : KS :=
  kSeq (kExpr (kBM K "list" (kAppend) (kVar 2) (kCons (kBin (kIx K) (kVar 4) (kC (.int 0))) (kNil)))) (kNext)
def rd_law_is_paper_b0_1 (K : PySem.W.Frag) : KS :=
  kSeq (kIf (kOr (kNot (kT (kChain (kI0 fun i j => .bl (decide (i ≤ j))) (kI0 fun i j => .bl (decide (i < j))) (kC (.int 0)) (kBin (kIx K) (kVar 4) (kC (.int 0))) (kCB (kLen K) (kCons (kVar 0) (kNil)))))) (kOr (kT (kBin (kEqv true K) (kBin (kIx K) (kVar 0) (kBin (kIx K) (kVar 4) (kC (.int 0)))) (kVar 3))) (kNot (kT (kCall (S_law_is_turn K) (kCons (kVar 3) (kCons (kBin (kIx K) (kVar 4) (kC (.int 1))) (kNil)))))))) (kSeq (kRet (kC (.bl false))) (kNext)) (kNext)) (rd_law_is_paper_b0_2 K)
def rd_law_is_paper_b0 (K : PySem.W.Frag) : KS :=
  kSeq (kIf (kOr (kNot (kT (kCB (kIsi K) (kCons (kVar 4) (kCons (kC (.ty "tuple")) (kNil)))))) (kOr (kT (kBin (kEqv true K) (kCB (kLen K) (kCons (kVar 4) (kNil))) (kC (.int 2)))) (kNot (kT (kCall (S_law_whole K) (kCons (kBin (kIx K) (kVar 4) (kC (.int 0))) (kNil))))))) (kSeq (kRet (kC (.bl false))) (kNext)) (kNext)) (rd_law_is_paper_b0_1 K)
def rd_law_is_paper_3 (K : PySem.W.Frag) : KS :=
  kSeq (kRet (kBin (kEqv false K) (kLenSet K (kVar 2)) (kCB (kLen K) (kCons (kVar 2) (kNil))))) (kNext)
def rd_law_is_paper_2 (K : PySem.W.Frag) : KS :=
  kSeq (kFor (kiZip K (kCons (kVar 0) (kCons (kVar 1) (kNil)))) (kgTup K 2 (kgsCons (kgName 3) (kgsCons (kgName 4) (kgsNil)))) (rd_law_is_paper_b0 K)) (rd_law_is_paper_3 K)
def rd_law_is_paper_1 (K : PySem.W.Frag) : KS :=
  kSeq (kSet 2 (kLst (kNil))) (rd_law_is_paper_2 K)
def rd_law_is_paper (K : PySem.W.Frag) : KS :=
  kSeq (kIf (kOr (kNot (kT (kCB (kIsi K) (kCons (kVar 1) (kCons (kC (.ty "list")) (kNil)))))) (kT (kBin (kEqv true K) (kCB (kLen K) (kCons (kVar 1) (kNil))) (kCB (kLen K) (kCons (kVar 0) (kNil)))))) (kSeq (kRet (kC (.bl false))) (kNext)) (kNext)) (rd_law_is_paper_1 K)
/-- law_due(_law_kinds_here, _law_one, _law_other, _law_thing); slots 0 _law_kinds_here, 1 _law_one, 2 _law_other, 3 _law_thing, 4 _law_sign_here -/
def rd_law_due_1 (K : PySem.W.Frag) : KS :=
  kSeq (kRet (kBin (kEqv false K) (kComp (kiSeq K (kVar 1)) (kgName 4) (kYes) (kCall (S_law_led_sign K) (kCons (kVar 3) (kCons (kVar 4) (kNil)))) [4]) (kVar 2))) (kNext)
def rd_law_due (K : PySem.W.Frag) : KS :=
  kSeq (kIf (kOr (kNot (kT (kCall (S_law_is_paper K) (kCons (kVar 0) (kCons (kVar 3) (kNil)))))) (kT (kBin (kEqv true K) (kCB (kLen K) (kCons (kVar 1) (kNil))) (kCB (kLen K) (kCons (kVar 2) (kNil)))))) (kSeq (kRet (kC (.bl false))) (kNext)) (kNext)) (rd_law_due_1 K)
/-- law_right(_law_pool_here); slots 0 _law_pool_here, 1 _law_kinds_here, 2 _law_paper_here, 3 _law_one, 4 _law_k, 5 _law_other, 6 _law_sign_here, 7 _law_trials, 8 _law_here, 9 _law_there, 10 _law_thing, 11 _law_kept, 12 _law_found -/
def rd_law_right_b0_3 (K : PySem.W.Frag) : KS :=
  kSeq (kIf (kT (kBin (kEqv true K) (kCB (kReprQ K) (kCons (kLst (kCons (kVar 1) (kCons (kVar 8) (kCons (kVar 9) (kCons (kVar 10) (kNil)))))) (kNil))) (kVar 11))) (kSeq (kRet (kC (.bl false))) (kNext)) (kNext)) (kNext)
def rd_law_right_b0_2 (K : PySem.W.Frag) : KS :=
  kSeq (kIf (kOr (kNot (kT (kCB (kIsi K) (kCons (kVar 12) (kCons (kC (.ty "bool")) (kNil)))))) (kT (kBin (kEqv true K) (kVar 12) (kCall (S_law_due K) (kCons (kVar 1) (kCons (kVar 8) (kCons (kVar 9) (kCons (kVar 10) (kNil))))))))) (kSeq (kRet (kC (.bl false))) (kNext)) (kNext)) (rd_law_right_b0_3 K)
def rd_law_right_b0_1 (K : PySem.W.Frag) : KS :=
  kSeq (kSet 12 (kCall (S_is_leading K) (kCons (kVar 1) (kCons (kVar 8) (kCons (kVar 9) (kCons (kVar 10) (kNil))))))) (rd_law_right_b0_2 K)
def rd_law_right_b0 (K : PySem.W.Frag) : KS :=
  kSeq (kSet 11 (kCB (kReprQ K) (kCons (kLst (kCons (kVar 1) (kCons (kVar 8) (kCons (kVar 9) (kCons (kVar 10) (kNil)))))) (kNil)))) (rd_law_right_b0_1 K)
def rd_law_right_7 (K : PySem.W.Frag) : KS :=
  kSeq (kRet (kCall (S_is_leading K) (kCons (kVar 1) (kCons (kVar 3) (kCons (kVar 5) (kCons (kVar 2) (kNil))))))) (kNext)
def rd_law_right_6 (K : PySem.W.Frag) : KS :=
  kSeq (kFor (kiSeq K (kVar 7)) (kgTup K 3 (kgsCons (kgName 8) (kgsCons (kgName 9) (kgsCons (kgName 10) (kgsNil))))) (rd_law_right_b0 K)) (rd_law_right_7 K)
def rd_law_right_5 (K : PySem.W.Frag) : KS :=
  kSeq (kSet 7 (kBin (kAdd) (kVar 7) (kLst (kCons (kTup (kCons (kVar 3) (kCons (kCall (S_law_bent_signs K) (kCons (kVar 0) (kCons (kVar 1) (kCons (kVar 5) (kNil))))) (kCons (kVar 2) (kNil))))) (kCons (kTup (kCons (kVar 5) (kCons (kVar 3) (kCons (kVar 2) (kNil))))) (kNil)))))) (rd_law_right_6 K)
def rd_law_right_4 (K : PySem.W.Frag) : KS :=
  kSeq (kSet 7 (kLst (kCons (kTup (kCons (kVar 3) (kCons (kVar 5) (kCons (kVar 2) (kNil))))) (kCons (kTup (kCons (kVar 3) (kCons (kVar 5) (kCons (kCall (S_law_bent_paper K) (kCons (kVar 0) (kCons (kVar 2) (kNil)))) (kNil))))) (kNil))))) (rd_law_right_5 K)
def rd_law_right_3 (K : PySem.W.Frag) : KS :=
  kSeq (kSet 5 (kComp (kiSeq K (kVar 3)) (kgName 6) (kYes) (kCall (S_law_led_sign K) (kCons (kVar 2) (kCons (kVar 6) (kNil)))) [6])) (rd_law_right_4 K)
def rd_law_right_2 (K : PySem.W.Frag) : KS :=
  kSeq (kSet 3 (kComp (kiR1 (kCons (kCall (S_law_take K) (kCons (kVar 0) (kCons (kC (.int 13)) (kNil)))) (kNil))) (kgName 4) (kYes) (kCall (S_law_sign K) (kCons (kVar 0) (kCons (kVar 1) (kNil)))) [4])) (rd_law_right_3 K)
def rd_law_right_1 (K : PySem.W.Frag) : KS :=
  kSeq (kSet 2 (kCall (S_law_paper K) (kCons (kVar 0) (kCons (kVar 1) (kNil))))) (rd_law_right_2 K)
def rd_law_right (K : PySem.W.Frag) : KS :=
  kSeq (kSet 1 (kCall (S_law_kinds K) (kCons (kVar 0) (kCons (kC (.int 6)) (kCons (kC (.int 64)) (kNil)))))) (rd_law_right_1 K)
/-- law(_law_script); slots 0 _law_script, 1 _law_k -/
def rd_law_b0 (K : PySem.W.Frag) : KS :=
  kSeq (kIf (kNot (kT (kCall (S_law_right K) (kCons (kCall (S_law_pool K) (kCons (kVar 0) (kCons (kVar 1) (kNil)))) (kNil))))) (kSeq (kRet (kC (.bl false))) (kNext)) (kNext)) (kNext)
def rd_law_1 (K : PySem.W.Frag) : KS :=
  kSeq (kRet (kC (.bl true))) (kNext)
def rd_law (K : PySem.W.Frag) : KS :=
  kSeq (kFor (kiR1 (kCons (kCB (kMax2) (kCons (kC (.int 1)) (kCons (kCB (kMin2) (kCons (kCB (kLen K) (kCons (kVar 0) (kNil))) (kCons (kC (.int 63)) (kNil)))) (kNil)))) (kNil))) (kgName 1) (rd_law_b0 K)) (rd_law_1 K)
section
variable {K : PySem.W.Frag} {vs : List V} {G : Hp} {M : Mem} {R : KR} {Z : KX}
theorem pf_law_take (h : S_law_take K vs G M R Z) : rd_law_take K (ends R Z) (sta 3 vs) G M := by
  refine of_now ?_
  simp (disch := with_unfolding_all
    obtain ⟨_, _, rfl, p, m, n, c, s, rfl, rfl, hn, hs, hm0, hm1, q⟩ := sp2_of h
    have hS : SeqAt' K G M p [.int c, .int s] := lst_n hn
    refine ⟨G, M, Wk.refl, _, _, hS, rfl, ite2' (fun e => ?_) (fun e => ?_)⟩
    · refine ⟨G, M, Wk.refl, _, _, hS, rfl, hm0, ?_⟩
      refine ⟨G, M, Wk.refl, _, _, hS, rfl, divW hm0 hm1 c, n, _, 0, hn, rfl, ?_⟩
      refine ⟨G, _, Wk.refl, ?_⟩
      exact ret0 (q _ _ _ (Int.emod_nonneg _ (by omega)) (Int.emod_lt_of_pos _ hm0) hs)
    · obtain ⟨s0, s1⟩ := hs
      have hs' : PoolOk ((s * 48271 + 11) % 2147483647) := ⟨Int.emod_nonneg _ (by decide), Int.emod_lt_of_pos _ (by decide)⟩
      refine ⟨G, M, Wk.refl, _, _, hS, rfl, mul_r (by decide) (by decide), (by show (0 : Int) < _; decide), n, _, 1, hn, rfl, ?_⟩
      have hn' : (M.set n (p, pool c ((s * 48271 + 11) % 2147483647)))[n]? = some (p, pool c ((s * 48271 + 11) % 2147483647)) := set_n hn
      have hS' : SeqAt' K G (M.set n (p, pool c ((s * 48271 + 11) % 2147483647))) p [.int c, .int ((s * 48271 + 11) % 2147483647)] := lst_n hn'
      refine ⟨G, _, Wk.refl, _, _, hS', rfl, _, _, hS', rfl, mul_l (by have := hs'.1; omega) (by have := hs'.2; omega), (by show (0 : Int) < _; decide), divW (by decide) (by decide) _, hm0, ?_⟩
      exact ret0 (q _ _ _ (Int.emod_nonneg _ (by omega)) (Int.emod_lt_of_pos _ hm0) hs')) only [↓now_true]
end

section
variable {K : PySem.W.Frag} {vs : List V} {G : Hp} {M : Mem} {R : KR} {Z : KX}
theorem set_self {α : Type} {l : List α} {n : Nat} {x : α} (h : l[n]? = some x) : l.set n x = l := by
  refine of_now ?_
  simp (disch := with_unfolding_all
    apply List.ext_getElem? 
    intro i
    rw [List.getElem?_set]
    by_cases e : n = i
    · subst e
      rw [if_pos rfl, if_pos (List.getElem?_eq_some_iff.mp h).1, h]
    · rw [if_neg e]) only [↓now_true]
end

section
variable {K : PySem.W.Frag} {vs : List V} {G : Hp} {M : Mem} {R : KR} {Z : KX}
theorem pf_is_whole (h : S_is_whole K vs G M R Z) : rd_is_whole K (ends R Z) (sta 1 vs) G M := by
  refine of_now ?_
  simp (disch := with_unfolding_all
    obtain ⟨x, rfl, T, hT, q⟩ := sp1_of h
    refine ⟨G, M, Wk.refl, .type T.name, .type "int", _, .ty "int", hT, kit_pt T .int, ite2' (fun e => ?_) (fun e => ?_)⟩
    · refine ⟨.type T.name, .type "bool", _, .ty "bool", hT, kit_pt T .bool, ret0 ?_⟩
      have e2 : (!isaB T .bool) = (T == .int) := by revert e; cases T <;> decide
      rw [e2]; exact q
    · have e2 : false = (T == .int) := by revert e; cases T <;> decide
      refine ret0 ?_
      rw [e2]; exact q) only [↓now_true]
theorem pf_is_within (h : S_is_within K vs G M R Z) : rd_is_within K (ends R Z) (sta 3 vs) G M := by
  refine of_now ?_
  simp (disch := with_unfolding_all
    obtain ⟨x, _, _, rfl, T, lo, hi, rfl, rfl, hT, hx, q⟩ := sp3_of h
    refine ⟨G, M, Wk.refl, T, hT, ite2' (fun e => ?_) (fun e => ?_)⟩
    · rw [e] at hx
      cases x with
      | int i =>
        have q : R (.bl (decide (lo ≤ i) && decide (i ≤ hi))) G M := q
        refine ite2' (fun e1 => ?_) (fun e1 => ?_)
        · rw [e1, Bool.true_and] at q; exact ret0 q
        · rw [e1, Bool.false_and] at q; exact ret0 q
      | _ => cases hx
    · rw [e] at hx
      have e2 : withinV x lo hi = false := by cases x <;> first | rfl | cases hx
      rw [e2] at q
      exact ret0 q) only [↓now_true]
end

section
variable {K : PySem.W.Frag} {vs : List V} {G : Hp} {M : Mem} {R : KR} {Z : KX}
section
variable {α β : Type} {r : α → β → Prop}
theorem A2.len {as : List α} {bs : List β} (h : A2 r as bs) : as.length = bs.length := by
  refine of_now ?_
  simp (disch := with_unfolding_all
    induction h with
    | nil => rfl
    | cons _ _ ih => simp [ih]) only [↓now_true]
theorem A2.app {as as' : List α} {bs bs' : List β} (h : A2 r as bs) (h' : A2 r as' bs') : A2 r (as ++ as') (bs ++ bs') := by
  refine of_now ?_
  simp (disch := with_unfolding_all
    induction h with
    | nil => exact h'
    | cons a _ ih => exact .cons a ih) only [↓now_true]
theorem A2.get {as : List α} {bs : List β} (h : A2 r as bs) : ∀ {i : Nat} {b : β}, bs[i]? = some b → ∃ a, as[i]? = some a ∧ r a b := by
  induction h with
  | nil => intro i b e; simp at e
  | cons a _ ih =>
    intro i b e
    cases i with
    | zero => cases e; exact ⟨_, rfl, a⟩
    | succ i => exact ih e
theorem A2.get' {as : List α} {bs : List β} (h : A2 r as bs) : ∀ {i : Nat} {a : α}, as[i]? = some a → ∃ b, bs[i]? = some b ∧ r a b := by
  induction h with
  | nil => intro i b e; simp at e
  | cons a _ ih =>
    intro i b e
    cases i with
    | zero => cases e; exact ⟨_, rfl, a⟩
    | succ i => exact ih e
theorem A2.mono {r' : α → β → Prop} (m : ∀ a b, r a b → r' a b) {as : List α} {bs : List β} (h : A2 r as bs) : A2 r' as bs := by
  refine of_now ?_
  simp (disch := with_unfolding_all
    induction h with
    | nil => exact .nil
    | cons a _ ih => exact .cons (m _ _ a) ih) only [↓now_true]
end
theorem dp_kn_inv {v : V} {k : Kn} (h : Dp K G v (knD k)) : ∃ t, v = .ref t ∧ SqT K G t [.str k.txt, .int k.n] := by
  refine of_now ?_
  simp (disch := with_unfolding_all
    obtain ⟨t, xs, rfl, s, a⟩ := dp_tup_inv h
    refine ⟨t, rfl, ?_⟩
    cases a with
    | cons a b =>
      cases b with
      | cons b c =>
        cases c
        cases a
        cases b
        exact s) only [↓now_true]
theorem dp_kn {t : Addr} {k : Kn} (h : SqT K G t [.str k.txt, .int k.n]) : Dp K G (.ref t) (knD k) := .tup h (.cons (.str _) (.cons (.int _) .nil))
theorem shp_kns {n : Nat} (ks : List Kn) : Shp (n + 2) (.list (ks.map knD)) := .list fun d hd => by
  obtain ⟨p, _, rfl⟩ := List.mem_map.mp hd
  refine .tuple fun d hd => ?_
  rcases List.mem_cons.mp hd with rfl | hd
  · exact .str (by obtain ⟨b, n⟩ := p; cases b <;> (show PyData.strOk _ = true; first | exact (by decide +kernel : PyData.strOk ("leaf" : Str) = true) | exact (by decide +kernel : PyData.strOk ("shuffle" : Str) = true)))
  · rcases List.mem_cons.mp hd with rfl | hd
    · exact .int
    · cases hd
theorem txt_leaf (k : Kn) : decide ((V.str k.txt) = (.str "leaf")) = k.leaf := by
  refine of_now ?_
  simp (disch := with_unfolding_all
    obtain ⟨b, n⟩ := k
    cases b
    · exact decide_eq_false (by intro h; injection h with h; exact absurd (show ("shuffle" : Str) = "leaf" from h) (by decide))
    · exact decide_eq_true rfl) only [↓now_true]
/-! sizes -/
theorem take_succ' {α : Type} {l : List α} {i : Nat} {x : α} (h : l[i]? = some x) : l.take (i + 1) = l.take i ++ [x] := by
  rw [List.take_succ, h]; rfl
end

section
variable {K : PySem.W.Frag} {vs : List V} {G : Hp} {M : Mem} {R : KR} {Z : KX}
end

section
variable {K : PySem.W.Frag} {vs : List V} {G : Hp} {M : Mem} {R : KR} {Z : KX}
theorem natsV_get {l : List Nat} {i v : Nat} (h : l[i]? = some v) : (natsV l)[i]? = some (.int (v : Int)) := by
  unfold natsV; rw [List.getElem?_map, h]; rfl
theorem natsV_len (l : List Nat) : (natsV l).length = l.length := by unfold natsV; rw [List.length_map]
theorem atI_nats {l : List Nat} {i v : Nat} (h : l[i]? = some v) : atI (natsV l) (i : Int) = some (.int (v : Int)) := atI_nat (natsV_get h)
theorem at_mem {l : List V} {r : Int} (h0 : 0 ≤ r) (h1 : r < l.length) : ∃ v, atI l r = some v ∧ v ∈ l := by
  refine of_now ?_
  simp (disch := with_unfolding_all
    obtain ⟨j, rfl⟩ := Int.eq_ofNat_of_zero_le h0
    have hj : l[j]? = some l[j] := List.getElem?_eq_getElem (by omega)
    exact ⟨_, atI_nat hj, List.mem_of_getElem? hj⟩) only [↓now_true]
theorem dpall_app2 : ∀ {vs ws : List V} {ds es : List PyData}, DpAll K G vs ds → DpAll K G ws es → DpAll K G (vs ++ ws) (ds ++ es)
  | _, _, _, _, .nil, h => h
  | _, _, _, _, .cons a b, h => .cons a (dpall_app2 b h)
theorem wi_in {i lo hi : Int} (h : lo ≤ i) (h2 : i ≤ hi) : withinV (.int i) lo hi = true := by
  refine of_now ?_
  simp (disch := with_unfolding_all
    show (decide (lo ≤ i) && decide (i ≤ hi)) = true
    rw [decide_eq_true h, decide_eq_true h2]; rfl) only [↓now_true]
end

section
theorem getD_lt {l : List Nat} {i : Nat} (h : i < l.length) : l.getD i 0 = l[i] := by rw [List.getD_eq_getElem?_getD, List.getElem?_eq_getElem h]; rfl
theorem nodup_getD {l : List Nat} : l.Nodup ↔ ∀ i j, i < l.length → j < l.length → l.getD i 0 = l.getD j 0 → i = j := by
  refine of_now ?_
  simp (disch := with_unfolding_all
    constructor
    · intro h i j hi hj e
      rw [getD_lt hi, getD_lt hj] at e
      exact (List.getElem_inj h).mp e
    · intro h
      rw [List.nodup_iff_pairwise_ne, List.pairwise_iff_getElem]
      intro i j hi hj hij e
      have := h i j hi hj (by rw [getD_lt hi, getD_lt hj]; exact e)
      omega) only [↓now_true]
theorem mem_getD {l : List Nat} {x : Nat} : x ∈ l ↔ ∃ i, i < l.length ∧ l.getD i 0 = x := by
  refine of_now ?_
  simp (disch := with_unfolding_all
    constructor
    · intro h
      obtain ⟨i, hi, e⟩ := List.getElem_of_mem h
      exact ⟨i, hi, by rw [getD_lt hi]; exact e⟩
    · rintro ⟨i, hi, e⟩
      rw [getD_lt hi] at e
      rw [← e]; exact List.getElem_mem hi) only [↓now_true]
theorem nodup_lt_len : ∀ (m : Nat) (l : List Nat), l.Nodup → (∀ x, x ∈ l → x < m) → l.length ≤ m
  | 0, l, _, h => by
    cases l with
    | nil => exact Nat.le_refl _
    | cons x l => exact absurd (h x List.mem_cons_self) (Nat.not_lt_zero _)
  | m + 1, l, hn, h => by
    by_cases hm : m ∈ l
    · have e := List.length_erase_of_mem hm
      have ih := nodup_lt_len m (l.erase m) (hn.erase m) fun x hx => by
        have q := hn.mem_erase_iff.mp hx
        have := h x q.2
        have := q.1
        omega
      omega
    · have ih := nodup_lt_len m l hn fun x hx => by
        have := h x hx
        have : x ≠ m := fun z => hm (z ▸ hx)
        omega
      omega
/-- a list of different numbers below n, n long, has them all -/
theorem ord_has {n : Nat} {o : List Nat} (h : OrdOk n o) (x : Nat) (hx : x < n) : x ∈ o := by
  refine of_now ?_
  simp (disch := with_unfolding_all
    apply Classical.byContradiction
    intro hm
    have := nodup_lt_len n (x :: o) (List.nodup_cons.mpr ⟨hm, h.nd⟩) fun y hy => by
      rcases List.mem_cons.mp hy with rfl | hy
      · exact hx
      · exact h.lt y hy
    rw [List.length_cons, h.len] at this
    omega) only [↓now_true]
theorem idx_of_nodup {l : List Nat} {i : Nat} (h : l.Nodup) (hi : i < l.length) : l.idxOf (l.getD i 0) = i := by
  refine of_now ?_
  simp (disch := with_unfolding_all
    have hm : l.getD i 0 ∈ l := mem_getD.mpr ⟨i, hi, rfl⟩
    have hlt : l.idxOf (l.getD i 0) < l.length := List.idxOf_lt_length_iff.mpr hm
    have e : l[l.idxOf (l.getD i 0)] = l.getD i 0 := List.getElem_idxOf hlt
    exact nodup_getD.mp h _ _ hlt hi (by rw [getD_lt hlt]; exact e)) only [↓now_true]
theorem getD_idx {l : List Nat} {x : Nat} (h : x ∈ l) : l.idxOf x < l.length ∧ l.getD (l.idxOf x) 0 = x := by
  refine of_now ?_
  simp (disch := with_unfolding_all
    have hlt : l.idxOf x < l.length := List.idxOf_lt_length_iff.mpr h
    exact ⟨hlt, by rw [getD_lt hlt]; exact List.getElem_idxOf hlt⟩) only [↓now_true]
end

section
variable {K : PySem.W.Frag} {vs : List V} {G : Hp} {M : Mem} {R : KR} {Z : KX}
theorem asg_R {lo v : Int} {n i : Nat} {g : KG} {σ : St} {R : St → Hp → Mem → Prop} (e : lo + (i : Nat) = v) (q : g.val (.int v) σ G M R) : asg g ((srcR lo n).get i) σ G M R := by subst e; exact q
theorem rgV_nats (n : Nat) : rgV 0 (n : Int) = natsV (List.range n) := by
  refine of_now ?_
  simp (disch := with_unfolding_all
    unfold rgV natsV
    rw [show ((n : Int) - 0).toNat = n by omega]
    refine List.map_congr_left fun i _ => ?_
    rw [Int.zero_add]) only [↓now_true]
theorem atI_natD {l : List Nat} {i : Nat} (h : i < l.length) : atI (natsV l) (i : Int) = some (.int (l.getD i 0 : Nat)) := atI_nats (by rw [getD_lt h, List.getElem?_eq_getElem h])
theorem ixN_nat {n i : Nat} (h : i < n) : ixN n (i : Int) = some i := by rw [ixN_int (by omega) (by omega)]; rfl
theorem natsV_set {l : List Nat} {i v : Nat} : (natsV l).set i (.int (v : Int)) = natsV (l.set i v) := by unfold natsV; rw [List.map_set]
theorem tyk_cons {x : V} {T : PT} {y : Addr × HO} (h : TyK K G M x T) : TyK K G (y :: M) x T := fun H hv => h H (Wk.drop0 H hv)
theorem within_int {x : V} {lo hi : Int} (h : withinV x lo hi = true) : ∃ i, x = .int i ∧ lo ≤ i ∧ i ≤ hi := by
  refine of_now ?_
  simp (disch := with_unfolding_all
    cases x with
    | int i =>
      have h : (decide (lo ≤ i) && decide (i ≤ hi)) = true := h
      rw [Bool.and_eq_true] at h
      exact ⟨i, rfl, of_decide_eq_true h.1, of_decide_eq_true h.2⟩
    | _ => cases h) only [↓now_true]
theorem map_intOf {xs : List V} {hi : Int} (h : xs.all (fun x => withinV x 0 hi) = true) : xs = (xs.map intOf).map V.int := by
  refine of_now ?_
  simp (disch := with_unfolding_all
    rw [List.map_map]
    have : ∀ x, x ∈ xs → x = (V.int ∘ intOf) x := fun x hx => by
      obtain ⟨i, rfl, _⟩ := within_int (List.all_eq_true.mp h x hx)
      rfl
    exact (List.map_id xs).symm.trans (List.map_congr_left this)) only [↓now_true]
theorem pf_is_order (h : S_is_order K vs G M R Z) : rd_is_order K (ends R Z) (sta 2 vs) G M := by
  refine of_now ?_
  simp (disch := with_unfolding_all
    obtain ⟨x, rfl, b, hx, q⟩ := sp1_of h
    rcases hx with ⟨T, hT, hne, rfl⟩ | ⟨a, xs, rfl, ha, hl, hi, rfl⟩
    · refine ⟨G, M, Wk.refl, .type T.name, .type "list", _, .ty "list", hT, kit_pt T .list, ite2' (c := !isaB T .list) (fun _ => ⟨G, M, Wk.refl, ret0 q⟩) (fun e => ?_)⟩
      exfalso; revert e hne; cases T <;> decide
    refine ⟨G, M, Wk.refl, .type PT.list.name, .type "list", _, .ty "list", ty_lst ha, kit_pt .list .list, ?_⟩
    refine ⟨xs, .inl ha, ite2' (c := decide ((xs.length : Int) < 1)) (fun e => ?_) (fun e => ?_)⟩
    · have e := of_decide_eq_true e
      have e2 : orderB xs = false := by unfold orderB; rw [decide_eq_false (p := 1 ≤ xs.length) (by omega)]; rfl
      rw [e2] at q
      exact ⟨G, M, Wk.refl, ret0 q⟩
    have e := of_decide_eq_false e
    refine ⟨xs, .inl ha, ite2' (c := decide ((64 : Int) < (xs.length : Int))) (fun f => ?_) (fun f => ?_)⟩
    · have f := of_decide_eq_true f
      have e2 : orderB xs = false := by unfold orderB; rw [decide_eq_false (p := xs.length ≤ 64) (by omega), Bool.and_false]; rfl
      rw [e2] at q
      exact ⟨G, M, Wk.refl, ret0 q⟩
    have f := of_decide_eq_false f
    refine ⟨G, M, Wk.refl, xs, ha, sz (by show xs.length ≤ _; omega), fun i acc G' M' => acc = ((xs.take i).map fun x => withinV x 0 ((xs.length : Int) - 1)).map V.bl ∧ G' = G ∧ M' = M, ⟨rfl, rfl, rfl⟩, ?_, ?_, ?_⟩
    · rintro i acc G' M' _ ⟨rfl, rfl, rfl⟩; exact ha
    · rintro i acc G' M' D hi2 _ ⟨rfl, rfl, rfl⟩ fD
      obtain ⟨v, hv⟩ : ∃ v, xs[i]? = some v := ⟨_, List.getElem?_eq_getElem hi2⟩
      obtain ⟨T, hT, ht⟩ := hi v (List.mem_of_getElem? hv)
      refine asg_L hv ⟨rfl, xs, .inl (lat_cons ha), T, 0, (xs.length : Int) - 1, rfl, rfl, tyk_cons hT, ht, _, _, Wk.refl, ?_, rfl, rfl⟩
      rw [take_succ' hv, List.map_append, List.map_append]; rfl
    rintro acc G' M' p ⟨rfl, rfl, rfl⟩ _ fp
    have hta : (xs.take xs.length) = xs := List.take_length
    obtain ⟨B, hB⟩ : ∃ B, B = ((xs.take xs.length).map fun x => withinV x 0 ((xs.length : Int) - 1)).all id := ⟨_, rfl⟩
    have hB2 : B = xs.all fun x => withinV x 0 ((xs.length : Int) - 1) := by rw [hB, hta, List.all_map]; rfl
    refine ⟨_, lat_0, ?_⟩
    show if (!(((xs.take xs.length).map fun x => withinV x 0 ((xs.length : Int) - 1)).all id)) = true then _ else _
    rw [← hB]
    refine ite2' (c := !B) (fun g => ?_) (fun g => ?_)
    · have e2 : orderB xs = false := by
        have : B = false := by simpa using g
        unfold orderB; rw [← hB2, this, Bool.and_false, Bool.false_and]
      rw [e2] at q
      exact ⟨_, _, Wk.refl, retW Wk.drop0 q⟩
    have g : B = true := by simpa using g
    rw [hB2] at g
    have hm := map_intOf g
    have hlen : (xs.map intOf).length = xs.length := List.length_map _
    refine ⟨G', M', Wk.drop0, xs.map intOf, by rw [← hm]; exact ha, by omega, fun m h1 h2 => ?_⟩
    refine ⟨xs, .inl ha, ret0 ?_⟩
    have e3 : orderB xs = decide (V.int (m : Int) = .int (xs.length : Int)) := by
      unfold orderB
      rw [g, decide_eq_true (p := 1 ≤ xs.length) (by omega), decide_eq_true (p := xs.length ≤ 64) (by omega)]
      rw [hlen] at h2
      by_cases z : (xs.map intOf).Nodup
      · rw [decide_eq_true z, decide_eq_true (by rw [h2.mpr z])]; rfl
      · rw [decide_eq_false z, decide_eq_false (fun y => z (h2.mp (by have := V.int.inj y; omega)))]; rfl
    show R (.bl (decide (V.int (m : Int) = .int (xs.length : Int)))) G' M'
    rw [← e3]; exact q) only [↓now_true]
theorem ints_ty {l : List Nat} : ItemsTy K G M (natsV l) := fun x hx => by
  obtain ⟨n, _, rfl⟩ := List.mem_map.mp hx
  exact ⟨.int, ty_int, rfl⟩
theorem nodup_natsV {l : List Nat} : ((natsV l).map intOf).Nodup ↔ l.Nodup := by
  refine of_now ?_
  simp (disch := with_unfolding_all
    unfold natsV
    rw [List.map_map]
    constructor
    · intro h
      exact (List.pairwise_map.mp h).imp fun {a b} (z : ((a : Nat) : Int) ≠ (b : Nat)) (e : a = b) => z (by rw [e])
    · intro h
      exact List.pairwise_map.mpr (h.imp fun {a b} z (e : ((a : Nat) : Int) = (b : Nat)) => z (by omega))) only [↓now_true]
theorem orderB_nats {o : List Nat} (h : OrdOk o.length o) (h1 : 1 ≤ o.length) (h2 : o.length ≤ 64) : orderB (natsV o) = true := by
  refine of_now ?_
  simp (disch := with_unfolding_all
    unfold orderB
    rw [natsV_len, decide_eq_true h1, decide_eq_true h2, decide_eq_true (nodup_natsV.mpr h.nd), List.all_eq_true.mpr]
    · rfl
    · intro x hx
      obtain ⟨n, hn, rfl⟩ := List.mem_map.mp hx
      have := h.lt n hn
      exact wi_in (by omega) (by omega)) only [↓now_true]
theorem natsV_flat (l : List Nat) : (natsV l).all flatV = true := List.all_eq_true.mpr fun x hx => by
  obtain ⟨n, _, rfl⟩ := List.mem_map.mp hx
  rfl
theorem idx_before {l : List Nat} {x m : Nat} (h : m < l.idxOf x) (hl : m < l.length) : l.getD m 0 ≠ x := fun e => by
  have := List.not_of_lt_findIdx (p := fun y => y == x) (xs := l) (i := m) h
  rw [getD_lt hl] at e
  rw [e] at this
  simp at this
end

section
variable {K : PySem.W.Frag} {vs : List V} {G : Hp} {M : Mem} {R : KR} {Z : KX}
theorem Fr.keys {M M' : Mem} {p : Addr} (h : Fr G M p) (e : M'.map (·.1) = M.map (·.1) := by rfl) : Fr G M' p := ⟨h.1, fun x hx z => by
  have : x.1 ∈ M'.map (·.1) := List.mem_map.mpr ⟨x, hx, rfl⟩
  rw [e] at this
  obtain ⟨y, hy, ey⟩ := List.mem_map.mp this
  exact h.2 y hy (ey.trans z)⟩
/-! ### cells that were just laid, frozen together -/
inductive Frs (G : Hp) (M : Mem) : Mem → Prop
  | nil : Frs G M []
  | cons {p : Addr} {o : HO} {Mx : Mem} : Fr G (Mx ++ M) p → Frs G M Mx → Frs G M ((p, o) :: Mx)
theorem Frs.key {Mx : Mem} (h : Frs G M Mx) : ∀ x, x ∈ Mx → G x.1 = none ∧ ∀ y, y ∈ M → y.1 ≠ x.1 := by
  refine of_now ?_
  simp (disch := with_unfolding_all
    induction h with
    | nil => intro x hx; cases hx
    | cons f _ ih =>
      intro x hx
      rcases List.mem_cons.mp hx with rfl | hx
      · exact ⟨f.1, fun y hy => f.2 y (List.mem_append.mpr (.inr hy))⟩
      · exact ih x hx) only [↓now_true]
theorem Frs.upd {Mx : Mem} {p : Addr} {o : HO} (h : Frs G M Mx) (f : ∀ x, x ∈ Mx → x.1 ≠ p) : Frs (upd G p o) M Mx := by
  refine of_now ?_
  simp (disch := with_unfolding_all
    induction h with
    | nil => exact .nil
    | cons f1 _ ih => exact .cons ⟨by rw [upd_ne (f _ List.mem_cons_self)]; exact f1.1, f1.2⟩ (ih fun x hx => f x (List.mem_cons_of_mem _ hx))) only [↓now_true]
theorem Frs.more {Mx : Mem} {x : Addr × HO} (h : Frs G M Mx) (f : ∀ y, y ∈ Mx → x.1 ≠ y.1) : Frs G (x :: M) Mx := by
  refine of_now ?_
  simp (disch := with_unfolding_all
    induction h with
    | nil => exact .nil
    | @cons p o Mx f1 _ ih =>
      refine .cons ⟨f1.1, fun y hy => ?_⟩ (ih fun y hy => f y (List.mem_cons_of_mem _ hy))
      rcases List.mem_append.mp hy with hy | hy
      · exact f1.2 y (List.mem_append.mpr (.inl hy))
      · rcases List.mem_cons.mp hy with rfl | hy
        · exact f _ List.mem_cons_self
        · exact f1.2 y (List.mem_append.mpr (.inr hy))) only [↓now_true]
theorem kseq_wk {t u : KS} {D : Kd} {σ : St} {G G' : Hp} {M M' : Mem} (w : Wk G M G' M') (h : kSeq t u D σ G' M') : kSeq t u D σ G M := by
  refine of_now ?_
  simp (disch := with_unfolding_all
    obtain ⟨a, b, c, d⟩ := h
    exact ⟨a, b, w.trans c, d⟩) only [↓now_true]
/-! ### things whose type is known -/
theorem ty_ex {G' : Hp} {x : V} {T : PT} (e : Ex G G') (h : ∀ M, TyK K G M x T) : ∀ M, TyK K G' M x T := fun M H hv => h M H (Wk.less e H hv)
theorem WOk.ex {G' : Hp} {w : V} (e : Ex G G') (h : WOk K G w) : WOk K G' w := by
  refine of_now ?_
  simp (disch := with_unfolding_all
    obtain ⟨S, h1, h2⟩ := h
    exact ⟨S, ty_ex e h1, h2⟩) only [↓now_true]
theorem IOk.ex {G' : Hp} {w : V} (e : Ex G G') (h : IOk K G w) : IOk K G' w := by
  refine of_now ?_
  simp (disch := with_unfolding_all
    obtain ⟨S, h1, h2⟩ := h
    exact ⟨S, ty_ex e h1, h2⟩) only [↓now_true]
/-! ### slices of numbers -/
theorem natsV_take {l : List Nat} {k : Nat} : (natsV l).take k = natsV (l.take k) := by unfold natsV; rw [List.map_take]
theorem natsV_drop {l : List Nat} {k : Nat} : (natsV l).drop k = natsV (l.drop k) := by unfold natsV; rw [List.map_drop]
theorem natsV_app {l m : List Nat} : natsV l ++ natsV m = natsV (l ++ m) := by unfold natsV; rw [List.map_append]
/-- numbers as data -/
def natsD (l : List Nat) : List PyData := l.map fun (n : Nat) => PyData.int (n : Int)
theorem dp_nats : ∀ (l : List Nat), DpAll K G (natsV l) (natsD l)
  | [] => .nil
  | n :: l => .cons (.int _) (dp_nats l)
theorem shp_nats {n : Nat} (l : List Nat) : Shp (n + 1) (.list (natsD l)) := .list fun d hd => by
  obtain ⟨i, _, rfl⟩ := List.mem_map.mp hd
  exact .int
theorem dat_nats {a : Addr} {l : List Nat} (h : LstAt K G M a (natsV l)) : DatAt K G M (.ref a) (.list (natsD l)) := dat_list h (dats_g (dp_nats l))
/-- something drawn from a written list -/
theorem pick {l : List V} {p : Addr} {n : Nat} {c s : Int} (hn : M[n]? = some (p, pool c s)) (hs : PoolOk s) (h0 : 0 < l.length) (h1 : l.length ≤ 1000)
    (q : ∀ y c' s' d, y ∈ l → PoolOk s' → Fr G M d → R y G ((d, .lst l) :: M.set n (p, pool c' s'))) :
    l.length ≤ sizeLine ∧ ∀ d, Fr G M d → S_law_take K [.ref p, .int (l.length : Int)] G ((d, .lst l) :: M) (fun y G M => kIx K (.ref d) y G M R) E0 := by
  refine of_now ?_
  simp (disch := with_unfolding_all
    refine ⟨sz (by omega), fun d fd => ⟨p, l.length, n + 1, c, s, rfl, rfl, hn, hs, by omega, ?_, fun r c' s' r0 r1 hs' => ?_⟩⟩
    · have : (l.length : Int) ≤ 1000 := by omega
      have : (1000 : Int) < 2 ^ 200 := by decide
      omega
    · obtain ⟨y, hy, hm⟩ := at_mem (l := l) r0 r1
      exact ⟨l, y, lst_n (n := 0) rfl, hy, q y c' s' d hm hs' fd⟩) only [↓now_true]
end

section
variable {K : PySem.W.Frag} {vs : List V} {G : Hp} {M : Mem} {R : KR} {Z : KX}
theorem pf_law_whole (h : S_law_whole K vs G M R Z) : rd_law_whole K (ends R Z) (sta 1 vs) G M := by
  obtain ⟨x, rfl, T, hT, q⟩ := sp1_of h
  refine ⟨G, M, Wk.refl, .type T.name, .type "int", _, .ty "int", hT, kit_pt T .int, ite2' (fun e => ?_) (fun e => ?_)⟩
  · refine ⟨.type T.name, .type "bool", _, .ty "bool", hT, kit_pt T .bool, ret0 ?_⟩
    have e2 : (!isaB T .bool) = (T == .int) := by revert e; cases T <;> decide
    rw [e2]; exact q
  · have e2 : false = (T == .int) := by revert e; cases T <;> decide
    refine ret0 ?_
    rw [e2]; exact q
end

section
theorem eqvA_ints : ∀ xs ys : List Int, PyData.eqvAll (xs.map .int) (ys.map .int) = decide (xs = ys)
  | [], [] => by simp [PyData.eqvAll]
  | [], _ :: _ => by simp [PyData.eqvAll]
  | _ :: _, [] => by simp [PyData.eqvAll]
  | x :: xs, y :: ys => by
    show (PyData.eqv (.int x) (.int y) && PyData.eqvAll (xs.map .int) (ys.map .int)) = _
    rw [eqvA_ints xs ys]
    have : PyData.eqv (.int x) (.int y) = decide (x = y) := by
      show (x == y) = _
      by_cases e : x = y <;> simp [e]
    rw [this]
    by_cases e1 : x = y <;> by_cases e2 : xs = ys <;> simp [e1, e2]
theorem eqvL_ints (xs ys : List Int) : PyData.eqv (.list (xs.map .int)) (.list (ys.map .int)) = decide (xs = ys) := eqvA_ints xs ys
theorem eqvL_nil (ds : List PyData) : PyData.eqv (.list ds) (.list []) = ds.isEmpty := by
  cases ds <;> rfl
end

section
variable {K : PySem.W.Frag} {vs : List V} {G : Hp} {M : Mem} {R : KR} {Z : KX}
theorem DrV.ex {G' : Hp} {v : V} {d : Dr} (e : Ex G G') (h : DrV K G M v d) : DrV K G' M v d := by
  refine of_now ?_
  simp (disch := with_unfolding_all
    cases d with
    | leaf n => exact h
    | row l => obtain ⟨b, rfl, hb⟩ := h; exact ⟨b, rfl, lat_ex e hb⟩) only [↓now_true]
theorem DrsG.ex {G' : Hp} {p : Addr} {ds : List Dr} (e : Ex G G') (h : DrsG K G p ds) : DrsG K G' p ds := by
  refine of_now ?_
  simp (disch := with_unfolding_all
    obtain ⟨us, h1, h2⟩ := h
    exact ⟨us, ex_l e h1, h2.mono fun _ _ q => q.ex e⟩) only [↓now_true]
end

section
variable {K : PySem.W.Frag} {vs : List V} {G : Hp} {M : Mem} {R : KR} {Z : KX}
theorem LogC.ex {G' : Hp} {ts : List Tch} {o : HO} (e : Ex G G') (h : LogC K G ts o) : LogC K G' ts o := by
  refine of_now ?_
  simp (disch := with_unfolding_all
    obtain ⟨vs, rfl, h⟩ := h
    exact ⟨vs, rfl, ex_ds e _ h⟩) only [↓now_true]
theorem LstN.at {n : Nat} {b : Addr} {xs : List V} (h : LstN K G M n b xs) : LstAt K G M b xs := by
  refine of_now ?_
  simp (disch := with_unfolding_all
    rcases h with ⟨i, _, h⟩ | h
    · exact lat_n h
    · exact .inr h) only [↓now_true]
theorem LstN.set {n : Nat} {b : Addr} {xs : List V} {x : Addr × HO} (h : LstN K G M n b xs) : LstN K G (M.set n x) n b xs := by
  refine of_now ?_
  simp (disch := with_unfolding_all
    rcases h with ⟨i, e, h⟩ | h
    · exact .inl ⟨i, e, by rw [List.getElem?_set_ne e]; exact h⟩
    · exact .inr h) only [↓now_true]
end

section
variable {K : PySem.W.Frag} {vs : List V} {G : Hp} {M : Mem} {R : KR} {Z : KX}
end

section
variable {K : PySem.W.Frag} {vs : List V} {G : Hp} {M : Mem} {R : KR} {Z : KX}
theorem pf_law_pool (h : S_law_pool K vs G M R Z) : rd_law_pool K (ends R Z) (sta 4 vs) G M := by
  refine of_now ?_
  simp (disch := with_unfolding_all
    obtain ⟨_, _, rfl, a, ns, k, rfl, rfl, hS, k0, k1, hl, q⟩ := sp2_of h
    have rest : ∀ cell : Int, rd_law_pool_2 K (ends R Z) [some (.ref a), some (.int k), some (.int cell), none] G M := fun cell => by
      refine ⟨G, M, Wk.refl, (by show (0 : Int) < _; decide), mul_l (by decide) (by decide), mul_r (by omega) (by omega), mul_r (by decide) (by decide), (by show (0 : Int) < _; decide), ?_⟩
      refine ⟨G, M, Wk.refl, pow10_18, ite2' (fun e => ?_) (fun e => ?_)⟩
      · exact ⟨G, M, Wk.refl, G, M, Wk.refl, sz2, fun p fp => ret0 (q p _ _ fp ⟨Int.emod_nonneg _ (by decide), Int.emod_lt_of_pos _ (by decide)⟩)⟩
      · exact ⟨G, M, Wk.refl, sz2, fun p fp => ret0 (q p _ _ fp ⟨Int.emod_nonneg _ (by decide), Int.emod_lt_of_pos _ (by decide)⟩)⟩
    refine ⟨G, M, Wk.refl, ?_⟩
    refine ⟨G, M, Wk.refl, _, lst_g hS, ite2' (fun e => ?_) (fun e => rest _)⟩
    have e1 : k < ((ns.map V.int).length : Int) := of_decide_eq_true e
    rw [List.length_map] at e1
    exact ⟨G, M, Wk.refl, _, _, lst_g hS, atI_int k0 e1, rest _⟩) only [↓now_true]
end

section
variable {K : PySem.W.Frag} {vs : List V} {G : Hp} {M : Mem} {R : KR} {Z : KX}
theorem Wk.of_eq {N : Mem} (e : M = N) : Wk G M G N := e ▸ Wk.refl
theorem natsV_app2 (a b : List Nat) : natsV (a ++ b) = natsV a ++ natsV b := by unfold natsV; rw [List.map_append]
theorem natsV_ints (l : List Nat) : (l.map fun (i : Nat) => (i : Int)).map V.int = natsV l := by unfold natsV; rw [List.map_map]; rfl
end

section
end

section
variable {K : PySem.W.Frag} {vs : List V} {G : Hp} {M : Mem} {R : KR} {Z : KX}
end

section
theorem PapOk.len {ks : List Kn} {ps : List Pp} (h : PapOk ks ps) : ks.length = ps.length := h.ok.len
theorem PapOk.at {ks : List Kn} {ps : List Pp} (h : PapOk ks ps) {d : Nat} {k : Kn} (e : ks[d]? = some k) : ∃ pp, ps[d]? = some pp ∧ ps.getD d ⟨0, none⟩ = pp ∧ PpOk ks k pp := by
  refine of_now ?_
  simp (disch := with_unfolding_all
    obtain ⟨pp, h1, h2⟩ := h.ok.get' e
    exact ⟨pp, h1, by rw [List.getD_eq_getElem?_getD, h1]; rfl, h2⟩) only [↓now_true]
theorem src_lt {ks : List Kn} {ps : List Pp} (h : PapOk ks ps) : ∀ x, x ∈ ps.map (·.src) → x < ps.length := fun x hx => by
  obtain ⟨pp, hp, rfl⟩ := List.mem_map.mp hx
  obtain ⟨i, hi⟩ := List.getElem?_of_mem hp
  obtain ⟨k, hk, h1, _⟩ := h.ok.get hi
  have := (List.getElem?_eq_some_iff.mp h1).1
  rw [h.len] at this; exact this
theorem srcs_ord {ks : List Kn} {ps : List Pp} (h : PapOk ks ps) : OrdOk ps.length (ps.map (·.src)) := ⟨List.length_map _, h.nd, src_lt h⟩
theorem srcs_getD {ps : List Pp} {d : Nat} (h : d < ps.length) : (ps.map (·.src)).getD d 0 = srcOf ps d := by
  unfold srcOf
  rw [List.getD_eq_getElem?_getD, List.getD_eq_getElem?_getD, List.getElem?_map, List.getElem?_eq_getElem h]; rfl
theorem a2_map {α β γ : Type} {r : α → β → Prop} {q : α → γ → Prop} {f : β → γ} (m : ∀ a b, r a b → q a (f b)) {as : List α} {bs : List β} (h : A2 r as bs) : A2 q as (bs.map f) := by
  refine of_now ?_
  simp (disch := with_unfolding_all
    induction h with
    | nil => exact .nil
    | cons h _ ih => exact .cons (m _ _ h) ih) only [↓now_true]
theorem zip_all {α : Type} {f : α → α → Bool} : ∀ {l m : List α}, l.length = m.length → (List.zipWith f l m).all id = true → A2 (fun a b => f a b = true) l m
  | [], [], _, _ => .nil
  | a :: l, b :: m, h, e => by
    rw [List.zipWith_cons_cons, List.all_cons, Bool.and_eq_true] at e
    exact .cons e.1 (zip_all (by simpa using h) e.2)
  | [], _ :: _, h, _ => by simp at h
  | _ :: _, [], h, _ => by simp at h
theorem all_zip {α : Type} {f : α → α → Bool} {l m : List α} (h : A2 (fun a b => f a b = true) l m) : l.length = m.length ∧ (List.zipWith f l m).all id = true := by
  refine of_now ?_
  simp (disch := with_unfolding_all
    induction h with
    | nil => exact ⟨rfl, rfl⟩
    | cons h _ ih => exact ⟨by simp [ih.1], by rw [List.zipWith_cons_cons, List.all_cons, ih.2]; simp [h]⟩) only [↓now_true]
theorem leadB_iff {ps : List Pp} {one other : List Sg} : leadB ps one other = true ↔ A2 (fun a b => ledB ps a b = true) one other := by
  refine of_now ?_
  simp (disch := with_unfolding_all
    unfold leadB
    constructor
    · intro h
      rw [Bool.and_eq_true, decide_eq_true_eq] at h
      exact zip_all h.1 h.2
    · intro h
      obtain ⟨a, b⟩ := all_zip h
      rw [decide_eq_true a, b]; rfl) only [↓now_true]
/-! back -/
end

section
variable {K : PySem.W.Frag} {vs : List V} {G : Hp} {M : Mem} {R : KR} {Z : KX}
theorem dp_sg {T : Addr} {s : Sg} (h : SqT K G T s.vs) : Dp K G (.ref T) (sgD s) := by
  refine of_now ?_
  simp (disch := with_unfolding_all
    cases s with
    | room b s r => exact .tup h (.cons (.str _) (.cons (.str _) (.cons (.int _) (.cons (.int _) .nil))))
    | item b s d i => exact .tup h (.cons (.str _) (.cons (.str _) (.cons (.int _) (.cons (.int _) (.cons (.int _) .nil)))))
    | way b s d p e => exact .tup h (.cons (.str _) (.cons (.str _) (.cons (.int _) (.cons (.int _) (.cons (.int _) (.cons (.int _) .nil))))))) only [↓now_true]
theorem sg_inv {v : V} {s : Sg} (h : Dp K G v (sgD s)) : ∃ T, v = .ref T ∧ SqT K G T s.vs := by
  refine of_now ?_
  simp (disch := with_unfolding_all
    cases s with
    | room b s r =>
      obtain ⟨T, xs, rfl, q, a⟩ := dp_tup_inv h
      cases a with | cons a1 a => cases a1; cases a with | cons a2 a => cases a2; cases a with | cons a3 a => cases a3; cases a with | cons a4 a => cases a4; cases a; exact ⟨T, rfl, q⟩
    | item b s d i =>
      obtain ⟨T, xs, rfl, q, a⟩ := dp_tup_inv h
      cases a with | cons a1 a => cases a1; cases a with | cons a2 a => cases a2; cases a with | cons a3 a => cases a3; cases a with | cons a4 a => cases a4; cases a with | cons a5 a => cases a5; cases a; exact ⟨T, rfl, q⟩
    | way b s d p e =>
      obtain ⟨T, xs, rfl, q, a⟩ := dp_tup_inv h
      cases a with | cons a1 a => cases a1; cases a with | cons a2 a => cases a2; cases a with | cons a3 a => cases a3; cases a with | cons a4 a => cases a4; cases a with | cons a5 a => cases a5; cases a with | cons a6 a => cases a6; cases a; exact ⟨T, rfl, q⟩) only [↓now_true]
theorem deedS_ok (b : Bool) : PyData.strOk (deedS b) = true := by
  cases b
  · exact (by decide +kernel : PyData.strOk ("look" : Str) = true)
  · exact (by decide +kernel : PyData.strOk ("lay" : Str) = true)
theorem shp_sg (s : Sg) : Shp 1 (sgD s) := by
  cases s with
  | room b s r =>
    refine .tuple fun d hd => ?_
    simp only [List.mem_cons, List.not_mem_nil, or_false] at hd
    rcases hd with rfl | rfl | rfl | rfl
    · exact .str (by decide +kernel : PyData.strOk ("room" : Str) = true)
    · exact .str (deedS_ok b)
    · exact .int
    · exact .int
  | item b s d i =>
    refine .tuple fun d hd => ?_
    simp only [List.mem_cons, List.not_mem_nil, or_false] at hd
    rcases hd with rfl | rfl | rfl | rfl | rfl
    · exact .str (by decide +kernel : PyData.strOk ("item" : Str) = true)
    · exact .str (deedS_ok b)
    · exact .int
    · exact .int
    · exact .int
  | way b s d p e =>
    refine .tuple fun d hd => ?_
    simp only [List.mem_cons, List.not_mem_nil, or_false] at hd
    rcases hd with rfl | rfl | rfl | rfl | rfl | rfl
    · exact .str (by decide +kernel : PyData.strOk ("way" : Str) = true)
    · exact .str (deedS_ok b)
    · exact .int
    · exact .int
    · exact .int
    · exact .int
theorem shp_sgs (l : List Sg) : Shp 2 (.list (l.map sgD)) := .list fun d hd => by
  obtain ⟨s, _, rfl⟩ := List.mem_map.mp hd
  exact shp_sg s
end

section
variable {K : PySem.W.Frag} {vs : List V} {G : Hp} {M : Mem} {R : KR} {Z : KX}
/-! hands -/
theorem HandF.ex {G' : Hp} {m : Nat} {hv : List (Key × V)} {f : HF} (e : Ex G G') (h : HandF K G m hv f) : HandF K G' m hv f :=
  ⟨h.nd, h.key, h.non, fun c p hc => by obtain ⟨v, h1, h2⟩ := h.val c p hc; exact ⟨v, h1, ex_d e _ h2⟩⟩
theorem HandF.nil {m : Nat} : HandF K G m [] (fun _ => none) := ⟨List.nodup_nil, fun _ z => (nomatch z), fun _ _ => rfl, fun _ _ z => nomatch z⟩
theorem inl_ne {a b : Nat} (h : ¬ a = b) : ¬ ((Sum.inl (a : Int) : Key) = Sum.inl (b : Int)) := fun z => h (by have := Sum.inl.inj z; omega)
theorem putK_keys (hv : List (Key × V)) (k : Key) (v : V) : (putK hv k v).map (·.1) = if (valV hv k).isSome = true then hv.map (·.1) else hv.map (·.1) ++ [k] := by
  refine of_now ?_
  simp (disch := with_unfolding_all
    unfold putK
    rw [valV_any]
    by_cases z : (valV hv k).isSome = true
    · rw [if_pos z, if_pos z, List.map_map]
      refine List.map_congr_left fun p _ => ?_
      show (if p.1 = k then (p.1, v) else p).1 = p.1
      split <;> rfl
    · rw [if_neg z, if_neg z, List.map_append]; rfl) only [↓now_true]
theorem HandF.put {m : Nat} {hv : List (Key × V)} {f : HF} {c : Nat} {p : Nat × Nat} {v : V} (h : HandF K G m hv f) (hc : c < m) (hv2 : Dp K G v (.tuple [.int p.1, .int p.2])) : HandF K G m (putK hv (Sum.inl (c : Int)) v) (f.put c p) := by
  refine of_now ?_
  simp (disch := with_unfolding_all
    refine ⟨?_, fun q hq => ?_, fun x hx => ?_, fun x q hx => ?_⟩
    · rw [putK_keys]
      split
      · exact h.nd
      · rename_i z
        rw [List.nodup_append]
        refine ⟨h.nd, (List.nodup_cons.mpr ⟨fun z => (nomatch z), List.nodup_nil⟩), fun a ha b hb e => ?_⟩
        have hb : b = Sum.inl (c : Int) := by simpa using hb
        subst hb
        subst e
        have : valV hv (Sum.inl (c : Int)) = none := by
          cases q : valV hv (Sum.inl (c : Int)) with
          | none => rfl
          | some w => rw [q] at z; exact absurd rfl z
        exact valV_not this ha
    · have : q.1 ∈ (putK hv (Sum.inl (c : Int)) v).map (·.1) := List.mem_map.mpr ⟨q, hq, rfl⟩
      rw [putK_keys] at this
      split at this
      · obtain ⟨r, hr, e⟩ := List.mem_map.mp this
        obtain ⟨d, h1, h2⟩ := h.key r hr
        exact ⟨d, h1, by rw [← e]; exact h2⟩
      · rcases List.mem_append.mp this with this | this
        · obtain ⟨r, hr, e⟩ := List.mem_map.mp this
          obtain ⟨d, h1, h2⟩ := h.key r hr
          exact ⟨d, h1, by rw [← e]; exact h2⟩
        · exact ⟨c, hc, by simpa using this⟩
    · rw [valV_put]
      unfold HF.put at hx
      by_cases e : x = c
      · rw [if_pos e] at hx; cases hx
      · rw [if_neg e] at hx
        rw [if_neg (inl_ne e)]
        exact h.non x hx
    · rw [valV_put]
      unfold HF.put at hx
      by_cases e : x = c
      · rw [if_pos e] at hx
        cases hx
        rw [e, if_pos rfl]
        exact ⟨v, rfl, hv2⟩
      · rw [if_neg e] at hx
        rw [if_neg (inl_ne e)]
        exact h.val x q hx) only [↓now_true]
theorem valV_drop (k j : Key) : ∀ hv : List (Key × V), valV (dropK hv k) j = if j = k then none else valV hv j
  | [] => by unfold dropK; rw [List.filter_nil, valV_nil]; split <;> rfl
  | p :: hv => by
    by_cases e : p.1 = k
    · rw [dropK_pos e, valV_drop k j hv]
      by_cases z : j = k
      · rw [if_pos z, if_pos z]
      · rw [if_neg z, if_neg z, valV_neg (fun y => z (by rw [← y, e]))]
    · rw [dropK_neg e]
      by_cases y : p.1 = j
      · rw [valV_pos y, if_neg (fun z => e (by rw [y, z])), valV_pos y]
      · rw [valV_neg y, valV_neg y, valV_drop k j hv]
theorem HandF.drop {m : Nat} {hv : List (Key × V)} {f : HF} {c : Nat} (h : HandF K G m hv f) : HandF K G m (dropK hv (Sum.inl (c : Int))) (fun x => if x = c then none else f x) := by
  refine of_now ?_
  simp (disch := with_unfolding_all
    refine ⟨?_, fun q hq => h.key q (List.mem_filter.mp hq).1, fun x hx => ?_, fun x q hx => ?_⟩
    · exact h.nd.sublist ((List.filter_sublist).map _)
    · rw [valV_drop]
      by_cases e : x = c
      · rw [e, if_pos rfl]
      · rw [if_neg (inl_ne e)]
        rw [if_neg e] at hx
        exact h.non x hx
    · rw [valV_drop]
      by_cases e : x = c
      · rw [if_pos e] at hx; cases hx
      · rw [if_neg (inl_ne e)]
        rw [if_neg e] at hx
        exact h.val x q hx) only [↓now_true]
theorem HandF.in_ {m : Nat} {hv : List (Key × V)} {f : HF} (h : HandF K G m hv f) (c : Nat) : (valV hv (Sum.inl (c : Int))).isSome = (f c).isSome := by
  refine of_now ?_
  simp (disch := with_unfolding_all
    cases e : f c with
    | none => rw [h.non c e]; rfl
    | some p =>
      obtain ⟨v, h1, _⟩ := h.val c p e
      rw [h1]; rfl) only [↓now_true]
/-- the keys of a hand, sorted -/
theorem HandF.keys {m : Nat} {hv : List (Key × V)} {f : HF} (h : HandF K G m hv f) : ∃ ks : List Nat, hv.map (·.1) = (ks.map fun (c : Nat) => (c : Int)).map Sum.inl ∧ ks.Nodup ∧ (∀ c, c ∈ ks → c < m) ∧ (∀ c, c ∈ ks ↔ (f c).isSome = true) ∧ ks.length ≤ m := by
  refine of_now ?_
  simp (disch := with_unfolding_all
    have hk : ∀ l : List (Key × V), (∀ p, p ∈ l → ∃ c : Nat, c < m ∧ p.1 = Sum.inl (c : Int)) → ∃ ks : List Nat, l.map (·.1) = (ks.map fun (c : Nat) => (c : Int)).map Sum.inl ∧ ∀ c, c ∈ ks → c < m := fun l => by
      induction l with
      | nil => exact fun _ => ⟨[], rfl, fun _ z => nomatch z⟩
      | cons p l ih =>
        intro q
        obtain ⟨ks, h1, h2⟩ := ih fun x hx => q x (List.mem_cons_of_mem _ hx)
        obtain ⟨c, h3, h4⟩ := q p List.mem_cons_self
        exact ⟨c :: ks, by rw [List.map_cons, h1, h4]; rfl, fun x hx => by rcases List.mem_cons.mp hx with rfl | hx; exact h3; exact h2 x hx⟩
    obtain ⟨ks, h1, h2⟩ := hk hv h.key
    have hn : ks.Nodup := by
      have := h.nd
      rw [h1, List.map_map] at this
      exact List.Pairwise.of_map _ (fun a b z e => z (by rw [e])) this
    have hm : ∀ c, c ∈ ks ↔ (f c).isSome = true := fun c => by
      rw [← h.in_ c]
      constructor
      · intro hc
        have : (Sum.inl (c : Int) : Key) ∈ hv.map (·.1) := by rw [h1, List.map_map]; exact List.mem_map.mpr ⟨c, hc, rfl⟩
        cases e : valV hv (Sum.inl (c : Int)) with
        | none => exact absurd this (valV_not e)
        | some v => rfl
      · intro hc
        obtain ⟨v, e⟩ := Option.isSome_iff_exists.mp hc
        have := valV_in e
        rw [h1, List.map_map] at this
        obtain ⟨d, hd, ed⟩ := List.mem_map.mp this
        have : d = c := by have : (d : Int) = (c : Int) := Sum.inl.inj ed; omega
        rw [← this]; exact hd
    exact ⟨ks, h1, hn, h2, hm, nodup_lt_len m ks hn h2⟩) only [↓now_true]
end
section
variable {K : PySem.W.Frag} {vs : List V} {G : Hp} {M : Mem} {R : KR} {Z : KX}
theorem BodyI.ex {G' : Hp} {A : BodyA} {m high : Nat} {fs : List Nat} {th : Th} {f : HF} {xs : List V} {hv : List (Key × V)} (e : Ex G G') (h : BodyI K G A m high fs th f xs hv) : BodyI K G' A m high fs th f xs hv :=
  ⟨ex_l e h.sf, h.fl, ex_ds e _ h.sx, h.sv.ex e, h.tl, h.tm, h.hi, h.m1⟩
theorem HandF.len {m : Nat} {hv : List (Key × V)} {f : HF} (h : HandF K G m hv f) : hv.length ≤ m := by
  refine of_now ?_
  simp (disch := with_unfolding_all
    obtain ⟨ks, h1, _, _, _, h5⟩ := h.keys
    have := congrArg List.length h1
    rw [List.length_map, List.length_map, List.length_map] at this
    omega) only [↓now_true]
theorem dpall_setT : ∀ {vs : List V} {ds : List PyData} {i : Nat} {v : V} {d : PyData}, DpAll K G vs ds → Dp K G v d → DpAll K G (vs.set i v) (ds.set i d)
  | _, _, _, _, _, .nil, _ => .nil
  | _, _, 0, _, _, .cons _ b, h => .cons h b
  | _, _, i + 1, _, _, .cons a b, h => .cons a (dpall_setT b h)
theorem BodyI.lay {A : BodyA} {m high r : Nat} {fs : List Nat} {th : Th} {f f' : HF} {xs : List V} {hv hv' : List (Key × V)} {e : Option (Nat × Nat × Nat)} {v : V} (hi : BodyI K G A m high fs th f xs hv) (hv2 : HandF K G m hv' f') (hd : Dp K G v (entD e)) (he : ∀ x, e = some x → x.1 < m) : BodyI K G A m high fs (th.set r e) f' (xs.set r v) hv' :=
  ⟨hi.sf, hi.fl, by rw [List.map_set]; exact dpall_setT hi.sx hd, hv2, by rw [List.length_set]; exact hi.tl, fun r' x hx => by
    rw [List.getElem?_set] at hx
    split at hx
    · split at hx
      · exact he x (Option.some.inj hx)
      · cases hx
    · exact hi.tm r' x hx, hi.hi, hi.m1⟩
end

section
variable {K : PySem.W.Frag} {vs : List V} {G : Hp} {M : Mem} {R : KR} {Z : KX}
/-! stairs -/
/-! all ways -/
/-! touches of signs -/
theorem ToldV.ex {G' : Hp} {v : V} {d : Dr} (e : Ex G G') (h : ToldV K G v d) : ToldV K G' v d := by
  refine of_now ?_
  simp (disch := with_unfolding_all
    cases d with
    | leaf n => exact h
    | row l =>
      obtain ⟨b, e1, e2⟩ := h
      exact ⟨b, e1, ex_l e e2⟩) only [↓now_true]
end

section
variable {K : PySem.W.Frag} {vs : List V} {G : Hp} {M : Mem} {R : KR} {Z : KX}
theorem eqv_si {s t : Str} {i j : Int} : PyData.eqv (.tuple [.str s, .int i]) (.tuple [.str t, .int j]) = (decide (s = t) && decide (i = j)) := by
  refine of_now ?_
  simp (disch := with_unfolding_all
    show ((s == t) && ((i == j) && true)) = _
    rw [Bool.and_true]
    by_cases e1 : s = t <;> by_cases e2 : i = j <;> simp [e1, e2]) only [↓now_true]
theorem kn_txt_inj {a b : Kn} (h : a.txt = b.txt) : a.leaf = b.leaf := by
  refine of_now ?_
  simp (disch := with_unfolding_all
    have h1 := txt_leaf a
    have h2 := txt_leaf b
    rw [h] at h1
    rw [← h1, ← h2]) only [↓now_true]
theorem kn_ext {a b : Kn} (h1 : a.leaf = b.leaf) (h2 : a.n = b.n) : a = b := by
  refine of_now ?_
  simp (disch := with_unfolding_all
    obtain ⟨x, y⟩ := a
    obtain ⟨z, w⟩ := b
    have h1 : x = z := h1
    have h2 : y = w := h2
    rw [h1, h2]) only [↓now_true]
theorem eqv_kn_ne {a b : Kn} (h : a ≠ b) : PyData.eqv (knD a) (knD b) = false := by
  refine of_now ?_
  simp (disch := with_unfolding_all
    show PyData.eqv (.tuple [.str a.txt, .int a.n]) (.tuple [.str b.txt, .int b.n]) = false
    rw [eqv_si]
    by_cases e1 : a.txt = b.txt
    · have e2 : ¬ (a.n : Int) = b.n := fun e2 => h (kn_ext (kn_txt_inj e1) (by omega))
      rw [decide_eq_false e2, Bool.and_false]
    · rw [decide_eq_false e1, Bool.false_and]) only [↓now_true]
theorem shp_kn (k : Kn) : Shp 1 (knD k) := by
  refine of_now ?_
  simp (disch := with_unfolding_all
    have h := shp_kns (n := 0) [k]
    cases h with
    | list h => exact h _ List.mem_cons_self) only [↓now_true]
theorem eqv_kn_refl (a : Kn) : PyData.eqv (knD a) (knD a) = true := (shp_kn a).refl
theorem kn_get {a : Addr} {ks : List Kn} {i : Nat} {k : Kn} (h : KnAt K G M a ks) (e : ks[i]? = some k) : ∃ us v, LstAt K G M a us ∧ us[i]? = some v ∧ Dp K G v (knD k) ∧ us.length = ks.length := by
  refine of_now ?_
  simp (disch := with_unfolding_all
    obtain ⟨us, h1, h2, _⟩ := h
    obtain ⟨v, hv, hd⟩ := dpall_get h2 (i := i) (d := knD k) (by rw [List.getElem?_map, e]; rfl)
    exact ⟨us, v, h1, hv, hd, by rw [dpall_len h2, List.length_map]⟩) only [↓now_true]
theorem pf_is_part (h : S_is_part K vs G M R Z) : rd_is_part K (ends R Z) (sta 4 vs) G M := by
  refine of_now ?_
  simp (disch := with_unfolding_all
    obtain ⟨_, _, z, rfl, a, ks, i, k, b, rfl, hk, rfl, hi, hz, q⟩ := sp3_of h
    clear h
    rcases hz with ⟨T, hT, hne, rfl⟩ | ⟨t, xs, rfl, ht, hx, hh⟩
    · refine ⟨G, M, Wk.refl, isi_pt PT.tuple hT ?_⟩
      cases T <;> first
        | exact absurd rfl hne
        | exact ⟨G, M, Wk.refl, ret0 q⟩
    obtain ⟨us, vk, hu, hvk, hdk, hul⟩ := kn_get hk hi
    refine ⟨G, M, Wk.refl, isi_pt PT.tuple (ty_tup ht) ?_⟩
    refine ⟨xs, .inr ht, ?_⟩
    show if (!decide (V.int (xs.length : Int) = .int 2)) = true then _ else _
    rcases hh with ⟨h2, rfl⟩ | ⟨u, w, rfl, ⟨T, hT, hTi⟩, hh⟩
    · have e : (!decide (V.int (xs.length : Int) = .int 2)) = true := by
        rw [decide_eq_false]; · rfl
        · intro z; injection z with z; omega
      rw [if_pos e]
      exact ⟨G, M, Wk.refl, ret0 q⟩
    have e : (!decide (V.int (([u, w] : List V).length : Int) = .int 2)) = false := by
      rw [decide_eq_true (show V.int (([u, w] : List V).length : Int) = .int 2 from rfl)]; rfl
    rw [if_neg (by rw [e]; exact Bool.false_ne_true)]
    refine ⟨[u, w], u, .inr ht, atI_nat (j := 0) rfl, us, .inl hu, T, 0, (us.length : Int) - 1, rfl, rfl, hT, hTi, ?_⟩
    show if (!withinV u 0 ((us.length : Int) - 1)) = true then _ else _
    rw [hul]
    rcases hh with ⟨hw, rfl⟩ | ⟨s, k', rfl, hs, hh⟩
    · rw [hw]; exact ⟨G, M, Wk.refl, ret0 q⟩
    have hsl := (List.getElem?_eq_some_iff.mp hs).1
    have hin : withinV (.int (s : Int)) 0 ((ks.length : Int) - 1) = true := wi_in (by omega) (by omega)
    rw [hin]
    obtain ⟨us2, vs2, hu2, hvs2, hds2, _⟩ := kn_get hk hs
    refine ⟨G, M, Wk.refl, us, vk, .inl hu, atI_nat hvk, ?_⟩
    obtain ⟨t1, rfl, ht1⟩ := dp_kn_inv hdk
    obtain ⟨t2, rfl, ht2⟩ := dp_kn_inv hds2
    refine ⟨G, M, Wk.refl, [.int (s : Int), w], .int (s : Int), .inr ht, atI_nat (j := 0) rfl, us2, .ref t2, .inl hu2, atI_nat hvs2, ?_⟩
    refine ⟨knD k', knD k, dat_g hds2, dat_g hdk, (shp_kn k').shaped (by decide), (shp_kn k).shaped (by decide), ?_⟩
    show if (!PyData.eqv (knD k') (knD k)) = true then _ else _
    rcases hh with ⟨hne, rfl⟩ | ⟨rfl, hlf, hrw⟩
    · rw [eqv_kn_ne hne]; exact ⟨G, M, Wk.refl, ret0 q⟩
    rw [eqv_kn_refl]
    refine ⟨G, M, Wk.refl, [.str k'.txt, .int k'.n], .str k'.txt, .inr ht1, atI_nat (j := 0) rfl, ?_⟩
    show if decide (V.str k'.txt = .str "leaf") = true then _ else _
    rw [txt_leaf]
    cases hl : k'.leaf with
    | true =>
      refine ⟨G, M, Wk.refl, [.int (s : Int), w], w, .inr ht, atI_nat (j := 1) rfl, ?_⟩
      have hb := hlf hl
      subst hb
      have hz : kIs2 false w .non G M (fun v G M => wkR R v G M) := by
        cases w <;> exact ret0 q
      exact hz
    | false =>
      have hb := hrw hl
      refine ⟨G, M, Wk.refl, [.int (s : Int), w], w, .inr ht, atI_nat (j := 1) rfl, ?_⟩
      rcases hb with ⟨U, hU, hnU, rfl⟩ | ⟨c, ys, rfl, hc, h1000, hit, rfl⟩
      · exact ⟨false, .inl ⟨U, hU, hnU, rfl⟩, ret0 q⟩
      · refine ⟨orderB ys, .inr ⟨c, ys, rfl, hc, h1000, hit, rfl⟩, ?_⟩
        cases ho : orderB ys with
        | false => rw [ho] at q; exact ret0 q
        | true =>
          rw [ho] at q
          refine ⟨[.int (s : Int), .ref c], .ref c, .inr ht, atI_nat (j := 1) rfl, ys, .inl hc, [.str k'.txt, .int k'.n], .int k'.n, .inr ht1, atI_nat (j := 1) rfl, ?_⟩
          show wkR R (.bl (decide (V.int (ys.length : Int) = .int (k'.n : Int)))) G M
          have e3 : decide (V.int (ys.length : Int) = .int (k'.n : Int)) = decide (ys.length = k'.n) := by
            rw [Bool.eq_iff_iff, decide_eq_true_eq, decide_eq_true_eq]
            constructor
            · intro e; injection e with e; omega
            · intro e; rw [e]
          rw [e3]
          exact ret0 q) only [↓now_true]
theorem nodup_ints (l : List Nat) : (l.map fun (n : Nat) => (n : Int)).Nodup ↔ l.Nodup := by
  refine of_now ?_
  simp (disch := with_unfolding_all
    constructor
    · intro h
      rw [List.Nodup, List.pairwise_map] at h
      exact h.imp fun {a b} ne e => ne (by rw [e])
    · intro h
      rw [List.Nodup, List.pairwise_map]
      exact List.Pairwise.imp (fun {a b} ne e => ne (by omega)) h) only [↓now_true]
theorem a2_pt {α β : Type} {r : α → β → Prop} {as : List α} {bs : List β} (h : A2 r as bs) {i : Nat} {a : α} {b : β} (ha : as[i]? = some a) (hb : bs[i]? = some b) : r a b := by
  refine of_now ?_
  simp (disch := with_unfolding_all
    obtain ⟨a', h1, h2⟩ := h.get hb
    rw [ha] at h1; cases h1; exact h2) only [↓now_true]
theorem pf_is_paper (h : S_is_paper K vs G M R Z) : rd_is_paper K (ends R Z) (sta 4 vs) G M := by
  refine of_now ?_
  simp (disch := with_unfolding_all
    obtain ⟨_, z, rfl, a, ks, b, rfl, hk, hz, q⟩ := sp2_of h
    clear h
    obtain ⟨us, hu, hd, hkn, hkl⟩ := hk
    have hul := dpall_len hd
    rw [List.length_map] at hul
    have hk : KnAt K G M a ks := ⟨us, hu, hd, hkn, hkl⟩
    rcases hz with ⟨T, hT, hne, rfl⟩ | ⟨p, zs, rfl, hp, hzl, hh⟩
    · refine ⟨G, M, Wk.refl, isi_pt PT.list hT ?_⟩
      cases T <;> first
        | exact absurd rfl hne
        | exact ⟨G, M, Wk.refl, ret0 q⟩
    refine ⟨G, M, Wk.refl, isi_pt PT.list (ty_lst hp) ⟨zs, .inl hp, us, .inl hu, ?_⟩⟩
    show if (!decide (V.int (zs.length : Int) = .int (us.length : Int))) = true then _ else _
    have eb : decide (V.int (zs.length : Int) = .int (us.length : Int)) = decide (zs.length = ks.length) := by
      rw [Bool.eq_iff_iff, decide_eq_true_eq, decide_eq_true_eq, hul]
      constructor
      · intro e; injection e with e; omega
      · intro e; rw [e]
    rw [eb]
    rcases hh with ⟨hne, rfl⟩ | ⟨bs, hl, hbl, hparts, hh⟩
    · rw [decide_eq_false hne]; exact ⟨G, M, Wk.refl, ret0 q⟩
    rw [decide_eq_true hl]
    refine ⟨G, M, Wk.refl, us, .inl hu, by omega, fun i σ G' M' => ∃ y2, σ = [some (.ref a), some (.ref p), y2, none] ∧ G' = G ∧ M' = M ∧ ∀ j c, j < i → bs[j]? = some c → c = true, ⟨none, rfl, rfl, rfl, fun _ _ z => nomatch z⟩, fun _ _ _ _ _ _ => trivial, ?_, ?_⟩
    · rintro i σ G' M' hi ⟨y2, rfl, rfl, rfl, hall⟩
      have hi : i < (us.length : Int).toNat := hi
      have h1 : ks[i]? = some ks[i] := List.getElem?_eq_getElem (by omega)
      have h2 : zs[i]? = some zs[i] := List.getElem?_eq_getElem (by omega)
      have h3 : bs[i]? = some bs[i] := List.getElem?_eq_getElem (by omega)
      refine asg_R (v := (i : Int)) (by omega) ⟨G', M', Wk.refl, zs, zs[i], .inl hp, atI_nat h2, a, ks, i, ks[i], bs[i], rfl, hk, rfl, h1, hparts i _ _ _ h1 h2 h3, ?_⟩
      show if (!bs[i]) = true then _ else _
      cases hb : bs[i] with
      | false =>
        have ef : b = false := by
          rcases hh with ⟨_, e⟩ | ⟨ss, e1, _⟩
          · exact e
          · have := List.all_eq_true.mp e1 bs[i] (List.getElem_mem _)
            rw [hb] at this; cases this
        subst ef
        exact ⟨G', M', Wk.refl, ret0 q⟩
      | true =>
        refine ⟨G', M', Wk.refl, _, rfl, rfl, rfl, fun j c hj hc => ?_⟩
        by_cases e : j = i
        · subst e
          rw [h3] at hc; cases hc; exact hb
        · exact hall j c (by omega) hc
    · rintro σ G' M' ⟨y2, rfl, rfl, rfl, hall⟩
      have ball : bs.all id = true := List.all_eq_true.mpr fun c hc => by
        obtain ⟨j, hj⟩ := List.getElem?_of_mem hc
        exact hall j c (by have := (List.getElem?_eq_some_iff.mp hj).1; show j < (us.length : Int).toNat; omega) hj
      rcases hh with ⟨e1, _⟩ | ⟨ss, _, hss, rfl⟩
      · rw [ball] at e1; cases e1
      have hsl := hss.len
      refine ⟨G', M', Wk.refl, zs, hp, sz (by show zs.length ≤ _; omega), fun i acc G2 M2 => G2 = G' ∧ M2 = M' ∧ acc = natsV (ss.take i), ⟨rfl, rfl, rfl⟩, ?_, ?_, ?_⟩
      · rintro i acc G2 M2 _ ⟨rfl, rfl, _⟩; exact hp
      · rintro i acc G2 M2 X hi hac ⟨hG, rfl, rfl⟩ fX
        subst hG
        have hi : i < zs.length := hi
        obtain ⟨s, hs⟩ : ∃ s, ss[i]? = some s := ⟨_, List.getElem?_eq_getElem (by omega)⟩
        obtain ⟨v, hv, T, w, rfl, hT⟩ := hss.get hs
        refine asg_L hv ⟨rfl, _, _, .inr hT, atI_nat (j := 0) rfl, _, _, Wk.refl, rfl, rfl, ?_⟩
        rw [take_succ' hs]
        unfold natsV; rw [List.map_append]; rfl
      · rintro acc G2 M2 y ⟨hG, rfl, rfl⟩ hac fy
        subst hG
        have en : (srcL K p zs).n = ss.length := hsl
        rw [en, List.take_length] at hac ⊢
        refine ⟨ss.map fun (n : Nat) => (n : Int), by rw [show (ss.map fun (n : Nat) => (n : Int)).map V.int = natsV ss by unfold natsV; rw [List.map_map]; rfl]; exact lat_0, by rw [List.length_map]; omega, fun m hm hiff => ?_⟩
        refine ⟨zs, .inl (lat_cons hp), ?_⟩
        show wkR R (.bl (decide (V.int (m : Int) = .int (zs.length : Int)))) _ _
        have e : decide (V.int (m : Int) = .int (zs.length : Int)) = decide ss.Nodup := by
          rw [Bool.eq_iff_iff, decide_eq_true_eq, decide_eq_true_eq]
          rw [List.length_map] at hiff
          constructor
          · intro e
            injection e with e
            have := hiff.mp (by omega)
            exact (nodup_ints ss).mp this
          · intro e
            have := hiff.mpr ((nodup_ints ss).mpr e)
            rw [this, ← hsl]
        rw [e]
        exact retW Wk.drop0 q) only [↓now_true]
theorem TurnM.more {Mx : Mem} {w : V} {t : Option (List Nat)} (h : TurnM K G M w t) : TurnM K G (Mx ++ M) w t := by
  refine of_now ?_
  simp (disch := with_unfolding_all
    cases t with
    | none => exact h
    | some l => obtain ⟨b, e, hb⟩ := h; exact ⟨b, e, hb.elim (fun z => .inl (List.mem_append.mpr (.inr z))) .inr⟩) only [↓now_true]
theorem PpM.more {Mx : Mem} {v : V} {pp : Pp} (h : PpM K G M v pp) : PpM K G (Mx ++ M) v pp := by
  refine of_now ?_
  simp (disch := with_unfolding_all
    obtain ⟨T, w, e, h1, h2⟩ := h
    exact ⟨T, w, e, h1, h2.more⟩) only [↓now_true]
theorem PapM.more {Mx : Mem} {p : Addr} {ps : List Pp} (h : PapM K G M p ps) : PapM K G (Mx ++ M) p ps := by
  refine of_now ?_
  simp (disch := with_unfolding_all
    obtain ⟨us, h1, h2⟩ := h
    exact ⟨us, h1.elim (fun z => .inl (List.mem_append.mpr (.inr z))) .inr, h2.mono fun _ _ z => z.more⟩) only [↓now_true]
theorem TurnM.ex {G' : Hp} {w : V} {t : Option (List Nat)} (e : Ex G G') (h : TurnM K G M w t) : TurnM K G' M w t := by
  refine of_now ?_
  simp (disch := with_unfolding_all
    cases t with
    | none => exact h
    | some l => obtain ⟨b, e1, hb⟩ := h; exact ⟨b, e1, lat_ex e hb⟩) only [↓now_true]
theorem PpM.ex {G' : Hp} {v : V} {pp : Pp} (e : Ex G G') (h : PpM K G M v pp) : PpM K G' M v pp := by
  refine of_now ?_
  simp (disch := with_unfolding_all
    obtain ⟨T, w, e1, h1, h2⟩ := h
    exact ⟨T, w, e1, ex_t e h1, h2.ex e⟩) only [↓now_true]
theorem PapM.ex {G' : Hp} {p : Addr} {ps : List Pp} (e : Ex G G') (h : PapM K G M p ps) : PapM K G' M p ps := by
  refine of_now ?_
  simp (disch := with_unfolding_all
    obtain ⟨us, h1, h2⟩ := h
    exact ⟨us, lat_ex e h1, h2.mono fun _ _ z => z.ex e⟩) only [↓now_true]
theorem PapM.any {p : Addr} {ps : List Pp} (h : PapM K G [] p ps) : PapM K G M p ps := by
  refine of_now ?_
  simp (disch := with_unfolding_all
    have := h.more (Mx := M)
    rwa [List.append_nil] at this) only [↓now_true]
theorem ord_nats {n : Nat} {l : List Nat} (h : OrdOk n l) (h1 : 1 ≤ n) (h2 : n ≤ 64) : orderB (natsV l) = true := orderB_nats (by rw [h.len]; exact h) (by rw [h.len]; exact h1) (by rw [h.len]; exact h2)
/-- a good paper is one -/
theorem pap_paperV {p : Addr} {ks : List Kn} {ps : List Pp} (h : PapM K G M p ps) (ho : PapOk ks ps) (hk : ∀ k, k ∈ ks → KnOk k) (h1 : ks.length ≤ 1000) : PaperV K G M ks (.ref p) true := by
  refine of_now ?_
  simp (disch := with_unfolding_all
    obtain ⟨us, hu, ha⟩ := h
    have hl := ho.len
    have hul := ha.len
    refine .inr ⟨p, us, rfl, hu, by omega, .inr ⟨List.replicate ks.length true, by omega, by rw [List.length_replicate], fun i k v c hi hv hc => ?_, .inr ⟨ps.map (·.src), ?_, ?_, ?_⟩⟩⟩
    · have hc : c = true := by
        rw [List.getElem?_replicate] at hc
        split at hc
        · cases hc; rfl
        · cases hc
      subst hc
      obtain ⟨pp, hp, hpv⟩ := ha.get' hv
      obtain ⟨a1, a2, a3⟩ := a2_pt ho.ok hi hp
      obtain ⟨T, w, rfl, hT, hw⟩ := hpv
      have kk := hk k (List.mem_of_getElem? hi)
      refine .inr ⟨T, _, rfl, hT, (by show (2 : Nat) ≤ 100; decide), .inr ⟨_, w, rfl, ⟨.int, ty_int, rfl⟩, .inr ⟨pp.src, k, rfl, a1, .inr ⟨rfl, fun z => ?_, fun z => ?_⟩⟩⟩⟩
      · rw [a2 z] at hw
        obtain rfl : w = .non := hw
        exact (decide_eq_true rfl).symm
      · obtain ⟨l, e1, e2⟩ := a3 z
        rw [e1] at hw
        obtain ⟨b, rfl, hb⟩ := hw
        refine .inr ⟨b, natsV l, rfl, hb, by rw [natsV_len, e2.len]; have := kk.1; omega, ints_ty, ?_⟩
        rw [ord_nats e2 (kk.2.2 z) kk.1, natsV_len, decide_eq_true e2.len]; rfl
    · rw [List.all_eq_true]
      intro x hx
      rw [(List.mem_replicate.mp hx).2]; rfl
    · have : A2 (fun (v : V) (s : Nat) => ∃ T w, v = V.ref T ∧ SqT K G T [.int (s : Nat), w]) us (ps.map (·.src)) := a2_map (fun _ _ ⟨T, w, e, hT, _⟩ => ⟨T, w, e, hT⟩) ha
      exact this
    · exact (decide_eq_true ho.nd).symm) only [↓now_true]
end

section
variable {K : PySem.W.Frag} {vs : List V} {G : Hp} {M : Mem} {R : KR} {Z : KX}
theorem cut13 {a b c : V} {r : List V} : cutV (a :: b :: c :: r) (some 1) (some 3) = [b, c] := by
  refine of_now ?_
  simp (disch := with_unfolding_all
    unfold cutV
    have e1 : HT.sIx (a :: b :: c :: r).length 0 (some 1) = 1 := by
      rw [show (some (1 : Int)) = some ((1 : Nat) : Int) from rfl, HT.sIx_nat]
      simp only [List.length_cons]; omega
    have e3 : HT.sIx (a :: b :: c :: r).length (a :: b :: c :: r).length (some 3) = 3 := by
      rw [show (some (3 : Int)) = some ((3 : Nat) : Int) from rfl, HT.sIx_nat]
      simp only [List.length_cons]; omega
    rw [e1, e3]; rfl) only [↓now_true]
theorem cut13_not {a b c : V} {r : List V} {A : Prop} (h : HT.sIx (a :: b :: c :: r).length 0 (some 1) = 0 ∧ HT.sIx (a :: b :: c :: r).length (a :: b :: c :: r).length (some 3) = (a :: b :: c :: r).length) : A := by
  refine of_now ?_
  simp (disch := with_unfolding_all
    have e1 : HT.sIx (a :: b :: c :: r).length 0 (some 1) = 1 := by
      rw [show (some (1 : Int)) = some ((1 : Nat) : Int) from rfl, HT.sIx_nat]
      simp only [List.length_cons]; omega
    rw [e1] at h; exact absurd h.1 (by decide)) only [↓now_true]
theorem deed_inj {a b : Bool} (h : deedS a = deedS b) : a = b := by
  refine of_now ?_
  simp (disch := with_unfolding_all
    cases a <;> cases b <;> first
      | rfl
      | exact absurd h (by decide)) only [↓now_true]
theorem strok_deed (b : Bool) : PyData.strOk (deedS b) = true := by cases b <;> decide +kernel
theorem shp_si {s : Str} {i : Int} (h : PyData.strOk s = true) : Shp 1 (.tuple [.str s, .int i]) := .tuple fun d hd => by
  rcases List.mem_cons.mp hd with rfl | hd
  · exact .str h
  · rw [List.mem_singleton.mp hd]; exact .int
/-- two signs of one sort, ahead of what is their own -/
theorem led_pre {D : Kd} {T1 T2 : Addr} {p : V} {t1 t2 : Str} {b1 b2 : Bool} {n1 n2 : Nat} {r1 r2 : List V} (h1 : SqT K G T1 (.str t1 :: .str (deedS b1) :: .int (n1 : Nat) :: r1)) (h2 : SqT K G T2 (.str t2 :: .str (deedS b2) :: .int (n2 : Nat) :: r2))
    (qf : ¬ (t1 = t2 ∧ b1 = b2 ∧ n1 = n2) → ∀ G', Ex G G' → D.rt (.bl false) G' M) (qt : t1 = t2 → b1 = b2 → n1 = n2 → ∀ G', Ex G G' → rd_is_led_1 K D [some (.ref T1), some (.ref T2), some p, none, none] G' M) :
    rd_is_led K D [some (.ref T1), some (.ref T2), some p, none, none] G M := by
  refine ⟨G, M, Wk.refl, _, _, .inr h1, atI_nat (j := 0) rfl, _, _, .inr h2, atI_nat (j := 0) rfl, ?_⟩
  show if (!decide (V.str t1 = .str t2)) = true then _ else _
  refine ite2' (fun e => ⟨G, M, Wk.refl, qf (fun z => ?_) G Ex.refl⟩) (fun e => ?_)
  · rw [z.1, decide_eq_true rfl] at e; cases e
  have et : t1 = t2 := by
    cases z : decide (V.str t1 = .str t2) with
    | false => rw [z] at e; cases e
    | true => have := of_decide_eq_true z; injection this
  refine ⟨_, h1, fun z => cut13_not z, fun _ c1 f1 => ?_⟩
  have ex1 := Ex.new (o := .tup (cutV (.str t1 :: .str (deedS b1) :: .int (n1 : Nat) :: r1) (some 1) (some 3))) f1
  refine ⟨_, ex_t ex1 h2, fun z => cut13_not z, fun _ c2 f2 => ?_⟩
  have ex2 := Ex.new (o := .tup (cutV (.str t2 :: .str (deedS b2) :: .int (n2 : Nat) :: r2) (some 1) (some 3))) f2
  obtain ⟨G', hG'⟩ : ∃ G', G' = upd (upd G c1 (.tup (cutV (.str t1 :: .str (deedS b1) :: .int (n1 : Nat) :: r1) (some 1) (some 3)))) c2 (.tup (cutV (.str t2 :: .str (deedS b2) :: .int (n2 : Nat) :: r2) (some 1) (some 3))) := ⟨_, rfl⟩
  have exG : Ex G G' := by rw [hG']; exact ex1.trans ex2
  have s1 : SqT K G' c1 [.str (deedS b1), .int (n1 : Nat)] := by
    have : SqT K (upd G c1 (.tup (cutV (.str t1 :: .str (deedS b1) :: .int (n1 : Nat) :: r1) (some 1) (some 3)))) c1 _ := sqt_new
    rw [cut13] at this
    rw [hG']
    refine ex_t ex2 ?_
    rw [cut13]; exact this
  have s2 : SqT K G' c2 [.str (deedS b2), .int (n2 : Nat)] := by
    have : SqT K G' c2 (cutV (.str t2 :: .str (deedS b2) :: .int (n2 : Nat) :: r2) (some 1) (some 3)) := by rw [hG']; exact sqt_new
    rwa [cut13] at this
  rw [← hG']
  clear hG'
  refine ⟨.tuple [.str (deedS b1), .int (n1 : Nat)], .tuple [.str (deedS b2), .int (n2 : Nat)], dat_tup s1 (dats_cons dat_str (dats_cons dat_int dats_nil)), dat_tup s2 (dats_cons dat_str (dats_cons dat_int dats_nil)), (shp_si (strok_deed b1)).shaped (by decide), (shp_si (strok_deed b2)).shaped (by decide), ?_⟩
  show if (!PyData.eqv (.tuple [.str (deedS b1), .int (n1 : Nat)]) (.tuple [.str (deedS b2), .int (n2 : Nat)])) = true then _ else _
  rw [eqv_si]
  by_cases hb : b1 = b2
  · by_cases hn : n1 = n2
    · rw [decide_eq_true (by rw [hb]), decide_eq_true (by rw [hn])]
      exact qt et hb hn G' exG
    · rw [decide_eq_false (p := (n1 : Int) = (n2 : Int)) (by omega), Bool.and_false]
      exact ⟨G', M, Wk.refl, qf (fun z => hn z.2.2) G' exG⟩
  · rw [decide_eq_false (p := deedS b1 = deedS b2) (fun z => hb (deed_inj z)), Bool.false_and]
    exact ⟨G', M, Wk.refl, qf (fun z => hb z.2.1) G' exG⟩
theorem int_dec {i j : Nat} : decide (V.int (i : Int) = .int (j : Int)) = decide (i = j) := by
  refine of_now ?_
  simp (disch := with_unfolding_all
    rw [Bool.eq_iff_iff, decide_eq_true_eq, decide_eq_true_eq]
    constructor
    · intro e; injection e with e; omega
    · intro e; rw [e]) only [↓now_true]
theorem cut4_4 {a b c d : V} {r : List V} (h : r ≠ []) : cutV (a :: b :: c :: d :: r) (some 4) none = r := by
  refine of_now ?_
  simp (disch := with_unfolding_all
    unfold cutV
    have e1 : HT.sIx (a :: b :: c :: d :: r).length 0 (some 4) = 4 := by
      rw [show (some (4 : Int)) = some ((4 : Nat) : Int) from rfl, HT.sIx_nat]
      simp only [List.length_cons]; omega
    rw [e1, HT.sIx_none]
    show (r.take ((a :: b :: c :: d :: r).length - 4)) = r
    rw [List.take_of_length_le]
    simp only [List.length_cons]; omega) only [↓now_true]
theorem cut4_not {xs : List V} {A : Prop} (h : HT.sIx xs.length 0 (some 4) = 0 ∧ HT.sIx xs.length xs.length none = xs.length) (h6 : xs.length = 6) : A := by
  refine of_now ?_
  simp (disch := with_unfolding_all
    rw [h6] at h
    exact absurd h.1 (by decide)) only [↓now_true]
theorem shp_ii {i j : Int} : Shp 1 (.tuple [.int i, .int j]) := .tuple fun d hd => by
  rcases List.mem_cons.mp hd with rfl | hd
  · exact .int
  · rw [List.mem_singleton.mp hd]; exact .int
theorem eqv_ii {i j k l : Nat} : PyData.eqv (.tuple [.int (i : Nat), .int (j : Nat)]) (.tuple [.int (k : Nat), .int (l : Nat)]) = (decide (i = k) && decide (j = l)) := by
  refine of_now ?_
  simp (disch := with_unfolding_all
    show (((i : Int) == (k : Int)) && (((j : Int) == (l : Int)) && true)) = _
    rw [Bool.and_true]
    have f : ∀ a b : Nat, ((a : Int) == (b : Int)) = decide (a = b) := fun a b => by
      rw [Bool.eq_iff_iff, beq_iff_eq, decide_eq_true_eq]; omega
    rw [f, f]) only [↓now_true]
/-- the part of a paper at a draw -/
theorem pap_at {p : Addr} {ks : List Kn} {ps : List Pp} {d : Nat} {k : Kn} (h : PapM K G M p ps) (ho : PapOk ks ps) (e : ks[d]? = some k) : ∃ us v pp, LstAt K G M p us ∧ us[d]? = some v ∧ PpM K G M v pp ∧ ps[d]? = some pp ∧ ps.getD d ⟨0, none⟩ = pp ∧ PpOk ks k pp := by
  refine of_now ?_
  simp (disch := with_unfolding_all
    obtain ⟨us, h1, h2⟩ := h
    obtain ⟨pp, a1, a2, a3⟩ := ho.at e
    obtain ⟨v, b1, b2⟩ := h2.get a1
    exact ⟨us, v, pp, h1, b1, b2, a1, a2, a3⟩) only [↓now_true]
theorem pf_is_led (h : S_is_led K vs G M R Z) : rd_is_led K (ends R Z) (sta 5 vs) G M := by
  refine of_now ?_
  simp (disch := with_unfolding_all
    obtain ⟨_, _, _, rfl, T1, T2, p, s1, s2, ks, ps, rfl, rfl, rfl, h1, h2, hp, ho, o1, o2, q⟩ := sp3_of h
    clear h
    have ne1 : ("room" : Str) ≠ "item" := by decide
    have ne2 : ("room" : Str) ≠ "way" := by decide
    have ne3 : ("item" : Str) ≠ "way" := by decide
    have fl : ∀ G', Ex G G' → ledB ps s1 s2 = false → wkR R (.bl false) G' M := fun G' ex e => by
      have := q G' ex
      rw [e] at this; exact ret0 this
    cases s1 with
    | room b s r =>
      cases s2 with
      | item b' s' d' i' => exact led_pre h1 h2 (fun _ G' ex => fl G' ex rfl) (fun e => absurd e ne1)
      | way b' s' d' p' e' => exact led_pre h1 h2 (fun _ G' ex => fl G' ex rfl) (fun e => absurd e ne2)
      | room b' s' r' =>
        refine led_pre h1 h2 (fun hn G' ex => fl G' ex ?_) (fun _ eb es G' ex => ?_)
        · cases z : ledB ps (.room b s r) (.room b' s' r') with
          | false => rfl
          | true =>
            simp only [ledB, Bool.and_eq_true, decide_eq_true_eq] at z
            exact absurd ⟨rfl, z.1, z.2.1⟩ hn
        · subst eb es
          refine ⟨G', M, Wk.refl, _, _, .inr (ex_t ex h1), atI_nat (j := 0) rfl, ?_⟩
          refine ⟨G', M, Wk.refl, _, _, .inr (ex_t ex h1), atI_nat (j := 3) rfl, _, _, .inr (ex_t ex h2), atI_nat (j := 3) rfl, ?_⟩
          show wkR R (.bl (decide (V.int (r : Int) = .int (r' : Int)))) G' M
          rw [int_dec]
          have := q G' ex
          simp only [ledB, decide_true, Bool.true_and] at this
          exact ret0 this
    | item b s d i =>
      cases s2 with
      | room b' s' r' => exact led_pre h1 h2 (fun _ G' ex => fl G' ex rfl) (fun e => absurd e.symm ne1)
      | way b' s' d' p' e' => exact led_pre h1 h2 (fun _ G' ex => fl G' ex rfl) (fun e => absurd e ne3)
      | item b' s' d' i' =>
        refine led_pre h1 h2 (fun hn G' ex => fl G' ex ?_) (fun _ eb es G' ex => ?_)
        · cases z : ledB ps (.item b s d i) (.item b' s' d' i') with
          | false => rfl
          | true =>
            simp only [ledB, Bool.and_eq_true, decide_eq_true_eq] at z
            exact absurd ⟨rfl, z.1, z.2.1⟩ hn
        · subst eb es
          obtain ⟨n, hn, hi⟩ := o2
          obtain ⟨us, v, pp, hu, hv, hpp, e1, e2, a1, a2, a3⟩ := pap_at (hp.ex ex) ho hn
          obtain ⟨l, hl, hol⟩ := a3 rfl
          obtain ⟨T, w, rfl, hT, hw⟩ := hpp
          rw [hl] at hw
          obtain ⟨c, rfl, hc⟩ := hw
          have eq0 : ledB ps (.item b s d i) (.item b s d' i') = (decide (pp.src = d) && decide (l.getD i' 0 = i)) := by
            simp only [ledB, decide_true, Bool.true_and]
            unfold srcOf turnOf
            rw [e2, hl]; rfl
          refine ⟨G', M, Wk.refl, _, _, .inr (ex_t ex h1), atI_nat (j := 0) rfl, ?_⟩
          refine ⟨G', M, Wk.refl, _, _, .inr (ex_t ex h2), atI_nat (j := 3) rfl, us, .ref T, .inl hu, atI_nat hv, _, hT, ?_⟩
          refine ⟨G', M, Wk.refl, _, _, .inr (ex_t ex h1), atI_nat (j := 3) rfl, ?_⟩
          show if (!decide (V.int (pp.src : Int) = .int (d : Int))) = true then _ else _
          rw [int_dec]
          refine ite2' (fun e => ⟨G', M, Wk.refl, fl G' ex ?_⟩) (fun e => ?_)
          · rw [eq0]
            cases z : decide (pp.src = d) with
            | false => rfl
            | true => rw [z] at e; cases e
          refine ⟨G', M, Wk.refl, _, _, .inr (ex_t ex h1), atI_nat (j := 0) rfl, ?_⟩
          have hi' : i' < l.length := by rw [hol.len]; exact hi
          refine ⟨G', M, Wk.refl, _, _, .inr (ex_t ex h2), atI_nat (j := 4) rfl, natsV l, _, .inl hc, atI_natD hi', _, _, .inr (ex_t ex h1), atI_nat (j := 4) rfl, ?_⟩
          show wkR R (.bl (decide (V.int ((l.getD i' 0 : Nat) : Int) = .int (i : Int)))) G' M
          rw [int_dec]
          have := q G' ex
          rw [eq0] at this
          have e3 : decide (pp.src = d) = true := by
            cases z : decide (pp.src = d) with
            | true => rfl
            | false => rw [z] at e; cases e
          rw [e3, Bool.true_and] at this
          exact ret0 this
    | way b s d p0 e0 =>
      cases s2 with
      | room b' s' r' => exact led_pre h1 h2 (fun _ G' ex => fl G' ex rfl) (fun e => absurd e.symm ne2)
      | item b' s' d' i' => exact led_pre h1 h2 (fun _ G' ex => fl G' ex rfl) (fun e => absurd e.symm ne3)
      | way b' s' d' p' e' =>
        refine led_pre h1 h2 (fun hn G' ex => fl G' ex ?_) (fun _ eb es G' ex => ?_)
        · cases z : ledB ps (.way b s d p0 e0) (.way b' s' d' p' e') with
          | false => rfl
          | true =>
            simp only [ledB, Bool.and_eq_true, decide_eq_true_eq] at z
            exact absurd ⟨rfl, z.1, z.2.1⟩ hn
        · subst eb es
          obtain ⟨hh, hn, hpq, heq⟩ := o2
          obtain ⟨us, v, pp, hu, hv, hpp, e1, e2, a1, a2, a3⟩ := pap_at (hp.ex ex) ho hn
          obtain ⟨T, w, rfl, hT, hw⟩ := hpp
          have eq0 : ledB ps (.way b s d p0 e0) (.way b s d' p' e') = (decide (pp.src = d) && (decide (p0 = p') && decide (e0 = e'))) := by
            simp only [ledB, decide_true, Bool.true_and]
            unfold srcOf
            rw [e2]
          refine ⟨G', M, Wk.refl, _, _, .inr (ex_t ex h1), atI_nat (j := 0) rfl, ?_⟩
          refine ⟨G', M, Wk.refl, _, _, .inr (ex_t ex h2), atI_nat (j := 3) rfl, us, .ref T, .inl hu, atI_nat hv, _, hT, ?_⟩
          refine ⟨G', M, Wk.refl, _, _, .inr (ex_t ex h1), atI_nat (j := 3) rfl, ?_⟩
          show if (!decide (V.int (pp.src : Int) = .int (d : Int))) = true then _ else _
          rw [int_dec]
          refine ite2' (fun e => ⟨G', M, Wk.refl, fl G' ex ?_⟩) (fun e => ?_)
          · rw [eq0]
            cases z : decide (pp.src = d) with
            | false => rfl
            | true => rw [z] at e; cases e
          refine ⟨G', M, Wk.refl, _, _, .inr (ex_t ex h1), atI_nat (j := 0) rfl, ?_⟩
          refine ⟨G', M, Wk.refl, _, ex_t ex h1, fun z => cut4_not z rfl, fun _ c1 f1 => ?_⟩
          have ex1 := Ex.new (o := .tup (cutV (Sg.way b s d p0 e0).vs (some 4) none)) f1
          refine ⟨_, ex_t ex1 (ex_t ex h2), fun z => cut4_not z rfl, fun _ c2 f2 => ?_⟩
          have ex2 := Ex.new (o := .tup (cutV (Sg.way b s d' p' e').vs (some 4) none)) f2
          have g1 : cutV (Sg.way b s d p0 e0).vs (some 4) none = [.int (p0 : Nat), .int (e0 : Nat)] := cut4_4 (by simp)
          have g2 : cutV (Sg.way b s d' p' e').vs (some 4) none = [.int (p' : Nat), .int (e' : Nat)] := cut4_4 (by simp)
          obtain ⟨G2, hG2⟩ : ∃ G2, G2 = upd (upd G' c1 (.tup (cutV (Sg.way b s d p0 e0).vs (some 4) none))) c2 (.tup (cutV (Sg.way b s d' p' e').vs (some 4) none)) := ⟨_, rfl⟩
          have exG : Ex G' G2 := by rw [hG2]; exact ex1.trans ex2
          have q1 : SqT K G2 c1 [.int (p0 : Nat), .int (e0 : Nat)] := by
            rw [hG2]
            refine ex_t ex2 ?_
            rw [← g1]; exact sqt_new
          have q2 : SqT K G2 c2 [.int (p' : Nat), .int (e' : Nat)] := by
            rw [hG2, ← g2]; exact sqt_new
          show kEqv false K (.ref c1) (.ref c2) (upd (upd G' c1 (.tup (cutV (Sg.way b s d p0 e0).vs (some 4) none))) c2 (.tup (cutV (Sg.way b s d' p' e').vs (some 4) none))) M _
          rw [← hG2]
          refine ⟨.tuple [.int (p0 : Nat), .int (e0 : Nat)], .tuple [.int (p' : Nat), .int (e' : Nat)], dat_tup q1 (dats_cons dat_int (dats_cons dat_int dats_nil)), dat_tup q2 (dats_cons dat_int (dats_cons dat_int dats_nil)), shp_ii.shaped (by decide), shp_ii.shaped (by decide), ?_⟩
          show wkR R (.bl (PyData.eqv (.tuple [.int (p0 : Nat), .int (e0 : Nat)]) (.tuple [.int (p' : Nat), .int (e' : Nat)]))) G2 M
          rw [eqv_ii]
          have := q G2 (ex.trans exG)
          rw [eq0] at this
          have e3 : decide (pp.src = d) = true := by
            cases z : decide (pp.src = d) with
            | true => rfl
            | false => rw [z] at e; cases e
          rw [e3, Bool.true_and] at this
          exact ret0 this) only [↓now_true]
theorem zw_get {ps : List Pp} {one other : List Sg} {i : Nat} {a b : Sg} (h1 : one[i]? = some a) (h2 : other[i]? = some b) : (List.zipWith (ledB ps) one other)[i]? = some (ledB ps a b) := by
  rw [List.getElem?_zipWith, h1, h2]
theorem pf_is_leading (h : S_is_leading K vs G M R Z) : rd_is_leading K (ends R Z) (sta 6 vs) G M := by
  refine of_now ?_
  simp (disch := with_unfolding_all
    obtain ⟨_, _, _, w, rfl, a, o1, o2, ks, us1, us2, one, other, rfl, rfl, rfl, hk, hu1, hd1, hu2, hd2, hl1, hl2, ok1, ok2, hh⟩ := sp4_of h
    clear h
    have e1 := dpall_len hd1
    have e2 := dpall_len hd2
    rw [List.length_map] at e1 e2
    rcases hh with ⟨hw, q⟩ | ⟨p, ps, rfl, hp, hpo, q⟩
    · refine ⟨G, M, Wk.refl, a, ks, false, rfl, hk, hw, ?_⟩
      exact ⟨G, M, Wk.refl, ret0 q⟩
    have hkn : ∀ k, k ∈ ks → KnOk k := hk.choose_spec.2.2.1
    have hkl : ks.length ≤ 1000 := hk.choose_spec.2.2.2
    refine ⟨G, M, Wk.refl, a, ks, true, rfl, hk, pap_paperV hp hpo hkn hkl, ?_⟩
    refine ⟨us1, .inl hu1, us2, .inl hu2, ?_⟩
    show if (!decide (V.int (us1.length : Int) = .int (us2.length : Int))) = true then _ else _
    rw [int_dec, e1, e2]
    refine ite2' (fun e => ⟨G, M, Wk.refl, ret0 ?_⟩) (fun e => ?_)
    · have := q G Ex.refl
      have z : decide (one.length = other.length) = false := by
        cases z : decide (one.length = other.length) with
        | false => rfl
        | true => rw [z] at e; cases e
      unfold leadB at this
      rw [z, Bool.false_and] at this
      exact this
    have hll : one.length = other.length := by
      cases z : decide (one.length = other.length) with
      | true => exact of_decide_eq_true z
      | false => rw [z] at e; cases e
    refine ⟨G, M, Wk.refl, us1, us2, hu1, hu2, sz (by show min us1.length us2.length ≤ _; omega), fun i acc G' M' => Ex G G' ∧ M' = M ∧ acc = ((List.zipWith (ledB ps) one other).take i).map V.bl, ⟨Ex.refl, rfl, rfl⟩, ?_, ?_, ?_⟩
    · rintro i acc G' M' _ ⟨ex, rfl, _⟩
      exact ⟨lat_ex ex hu1, lat_ex ex hu2⟩
    · rintro i acc G' M' X hi hac ⟨ex, rfl, rfl⟩ fX
      have hi : i < min us1.length us2.length := hi
      have g1 : one[i]? = some one[i] := List.getElem?_eq_getElem (by omega)
      have g2 : other[i]? = some other[i] := List.getElem?_eq_getElem (by omega)
      obtain ⟨v1, hv1, dv1⟩ := dpall_get hd1 (i := i) (d := sgD one[i]) (by rw [List.getElem?_map, g1]; rfl)
      obtain ⟨v2, hv2, dv2⟩ := dpall_get hd2 (i := i) (d := sgD other[i]) (by rw [List.getElem?_map, g2]; rfl)
      obtain ⟨T1, rfl, hT1⟩ := sg_inv dv1
      obtain ⟨T2, rfl, hT2⟩ := sg_inv dv2
      refine asg_Z hv1 hv2 ⟨rfl, T1, T2, p, one[i], other[i], ks, ps, rfl, rfl, rfl, ex_t ex hT1, ex_t ex hT2, (hp.ex ex).more (Mx := [_]), hpo, ok1 _ (List.mem_of_getElem? g1), ok2 _ (List.mem_of_getElem? g2), fun G2 ex2 => ?_⟩
      refine ⟨G2, M', Wk.refl, ex.trans ex2, rfl, ?_⟩
      rw [take_succ' (zw_get g1 g2), List.map_append]; rfl
    · rintro acc G' M' y ⟨ex, rfl, rfl⟩ hac fy
      have en : (srcZ K o1 o2 us1 us2).n = (List.zipWith (ledB ps) one other).length := by
        rw [List.length_zipWith]
        show min us1.length us2.length = _
        omega
      rw [en, List.take_length]
      refine ⟨List.zipWith (ledB ps) one other, lat_0, retW Wk.drop0 ?_⟩
      have := q G' ex
      unfold leadB at this
      rw [decide_eq_true hll, Bool.true_and] at this
      exact this) only [↓now_true]
end

section
variable {K : PySem.W.Frag} {vs : List V} {G : Hp} {M : Mem} {R : KR} {Z : KX}
theorem lat_more1 {x : Addr × HO} {a : Addr} {xs : List V} (h : LstAt K G M a xs) : LstAt K G (x :: M) a xs := h.elim (fun z => .inl (List.mem_cons_of_mem _ z)) .inr
theorem DrAt.more {Mx : Mem} {b : Addr} {ds : List Dr} (h : DrAt K G M b ds) : DrAt K G (Mx ++ M) b ds := by
  refine of_now ?_
  simp (disch := with_unfolding_all
    obtain ⟨us, h1, h2⟩ := h
    refine ⟨us, h1.elim (fun z => .inl (List.mem_append.mpr (.inr z))) .inr, h2.mono fun v d z => ?_⟩
    cases d with
    | leaf n => exact z
    | row l => obtain ⟨b, rfl, hb⟩ := z; exact ⟨b, rfl, hb.elim (fun z => .inl (List.mem_append.mpr (.inr z))) .inr⟩) only [↓now_true]
/-! inverse -/
end

section
variable {K : PySem.W.Frag} {vs : List V} {G : Hp} {M : Mem} {R : KR} {Z : KX}
/-! papers as data -/
def turnD : Option (List Nat) → PyData
  | none => .none
  | some l => .list (natsD l)
def ppD (pp : Pp) : PyData := .tuple [.int (pp.src : Nat), turnD pp.turn]
theorem turn_dat {w : V} {t : Option (List Nat)} (h : TurnM K G M w t) : DatAt K G M w (turnD t) := by
  cases t with
  | none => obtain rfl : w = .non := h; exact dat_non
  | some l => obtain ⟨b, rfl, hb⟩ := h; exact dat_nats hb
theorem pp_dat {v : V} {pp : Pp} (h : PpM K G M v pp) : DatAt K G M v (ppD pp) := by
  obtain ⟨T, w, rfl, hT, hw⟩ := h
  exact dat_tup hT (dats_cons dat_int (dats_cons (turn_dat hw) dats_nil))
theorem pps_dat {us : List V} {ps : List Pp} (h : A2 (PpM K G M) us ps) : DatAll K G M us (ps.map ppD) := by
  induction h with
  | nil => exact dats_nil
  | cons h _ ih => exact dats_cons (pp_dat h) ih
theorem shp_turn {n : Nat} (t : Option (List Nat)) : Shp (n + 1) (turnD t) := by
  cases t with
  | none => exact .non
  | some l => exact shp_nats l
theorem shp_pp {n : Nat} (pp : Pp) : Shp (n + 2) (ppD pp) := .tuple fun d hd => by
  rcases List.mem_cons.mp hd with rfl | hd
  · exact .int
  · rw [List.mem_singleton.mp hd]; exact shp_turn pp.turn
theorem shp_pps {n : Nat} (ps : List Pp) : Shp (n + 3) (.list (ps.map ppD)) := .list fun d hd => by
  obtain ⟨x, _, rfl⟩ := List.mem_map.mp hd
  exact shp_pp x
end

section
variable {K : PySem.W.Frag} {vs : List V} {G : Hp} {M : Mem} {R : KR} {Z : KX}
theorem knF_at {a : Addr} {ks : List Kn} (h : KnF K G a ks) (hk : ∀ k, k ∈ ks → KnOk k) (hl : ks.length ≤ 1000) : KnAt K G M a ks := by
  obtain ⟨us, h1, h2⟩ := h
  refine ⟨us, .inr h1, ?_, hk, hl⟩
  clear h1 hk hl
  induction h2 with
  | nil => exact .nil
  | cons h _ ih => obtain ⟨T, rfl, hT⟩ := h; exact .cons (dp_kn (sqt_of hT)) ih
theorem KnF.ex {G' : Hp} {a : Addr} {ks : List Kn} (e : Ex G G') (h : KnF K G a ks) : KnF K G' a ks := by
  obtain ⟨us, h1, h2⟩ := h
  exact ⟨us, ex_l e h1, h2.mono fun _ _ ⟨T, e1, e2⟩ => ⟨T, e1, e _ _ e2⟩⟩
theorem SgsG.ex {G' : Hp} {a : Addr} {sg : List Sg} (e : Ex G G') (h : SgsG K G a sg) : SgsG K G' a sg := by
  obtain ⟨us, h1, h2⟩ := h
  exact ⟨us, ex_l e h1, ex_ds e _ h2⟩
theorem knF_get {a : Addr} {ks : List Kn} {i : Nat} {k : Kn} (h : KnF K G a ks) (e : ks[i]? = some k) : ∃ us T, SqL K G a us ∧ us[i]? = some (.ref T) ∧ G T = some (.tup [.str k.txt, .int (k.n : Nat)]) ∧ us.length = ks.length := by
  obtain ⟨us, h1, h2⟩ := h
  obtain ⟨v, hv, T, rfl, hT⟩ := h2.get e
  exact ⟨us, T, h1, hv, hT, h2.len⟩
theorem at_two2 {x y r : Int} (h0 : 0 ≤ r) (h1 : r < 2) : ∃ v, atI [V.int x, .int y] r = some (.int v) ∧ (v = x ∨ v = y) := by
  obtain ⟨j, rfl⟩ := Int.eq_ofNat_of_zero_le h0
  have : j = 0 ∨ j = 1 := by omega
  rcases this with rfl | rfl
  · exact ⟨x, atI_nat (j := 0) rfl, .inl rfl⟩
  · exact ⟨y, atI_nat (j := 1) rfl, .inr rfl⟩
theorem pf_law_kinds (h : S_law_kinds K vs G M R Z) : rd_law_kinds K (ends R Z) (sta 5 vs) G M := by
  obtain ⟨_, _, _, rfl, p, n, c, s, rfl, rfl, rfl, hn, hs, q⟩ := sp3_of h
  clear h
  have h100 : (100 : Int) < 2 ^ 200 := by decide
  refine ⟨G, M, Wk.refl, sz0, fun t ft => ?_⟩
  refine ⟨G, _, Wk.refl, p, 6 + 1, n + 1, c, s, rfl, rfl, hn, hs, by omega, by omega, fun r c1 s1 r0 r1 hs1 => ⟨⟨by omega, by omega⟩, fun i σ G' M' => ∃ (us : List V) (ks : List Kn) (c' s' : Int) (y4 : Option V), σ = [some (.ref p), some (.int 6), some (.int 64), some (.ref t), y4] ∧ Ex G G' ∧ G' t = none ∧ M' = (t, .lst us) :: M.set n (p, pool c' s') ∧ A2 (fun v k => ∃ T, v = V.ref T ∧ G' T = some (.tup [.str k.txt, .int (Kn.n k : Nat)])) us ks ∧ (∀ k, k ∈ ks → KnOk k) ∧ ks.length = i ∧ PoolOk s',
    ⟨[], [], c1, s1, none, rfl, Ex.refl, ft.1, rfl, .nil, fun _ z => absurd z List.not_mem_nil, rfl, hs1⟩, fun _ _ _ _ _ _ => trivial, ?_, ?_⟩⟩
  · rintro i σ G' M' hi ⟨us, ks, c2, s2, y4, rfl, ex, gt, rfl, hd, hk, hl, hs2⟩
    have hi : i < r.toNat := hi
    have hul : us.length = ks.length := hd.len
    have step : ∀ {T : Addr} {k : Kn} {G2 : Hp}, G2 = upd G' T (.tup [.str k.txt, .int (k.n : Nat)]) → G' T = none → A2 (fun v k => ∃ T, v = V.ref T ∧ G2 T = some (.tup [.str k.txt, .int (Kn.n k : Nat)])) (us ++ [.ref T]) (ks ++ [k]) := fun {T k G2} e g => by
      have ee : Ex G' G2 := by rw [e]; exact Ex.new' g
      exact (hd.mono fun _ _ ⟨T', e1, e2⟩ => ⟨T', e1, ee _ _ e2⟩).app (.cons ⟨T, rfl, by rw [e, upd_same]⟩ .nil)
    refine ⟨G', _, Wk.refl, p, 2, n + 1, c2, s2, rfl, rfl, set_n hn, hs2, by decide, by decide, fun w c3 s3 w0 w1 hs3 => ite2' (fun e => ?_) (fun e => ?_)⟩
    · refine ⟨_, _, Wk.refl, tyl_n (n := 0) rfl, p, 7, n + 1, c3, s3, rfl, rfl, set_n (set_n hn), hs3, by decide, by decide, fun hgt c4 s4 h0 h1 hs4 => ⟨sz2, fun T fT => ⟨0, _, rfl, Nat.lt_of_le_of_lt (show us.length ≤ 100 by omega) (by decide), ?_⟩⟩⟩
      obtain ⟨hh, rfl⟩ := Int.eq_ofNat_of_zero_le h0
      refine ⟨_, _, Wk.refl, us ++ [V.ref T], ks ++ [(⟨true, hh⟩ : Kn)], c4, s4, _, rfl, ex.trans (Ex.new fT), ?_, ?_, (by exact step (T := T) (k := ⟨true, hh⟩) rfl fT.1), ?_, by simp [hl], hs4⟩
      · rw [upd_ne (fun z => fT.2 (t, .lst us) (by simp) z)]; exact gt
      · simp only [List.set_cons_succ, List.set_set, List.set_cons_zero]
      · intro k hkm
        rcases List.mem_append.mp hkm with hkm | hkm
        · exact hk k hkm
        · have e : k = ⟨true, hh⟩ := by simpa using hkm
          subst e
          exact ⟨by show hh ≤ 64; omega, fun _ => by show hh ≤ 6; omega, fun z => by cases z⟩
    · refine ⟨_, _, Wk.refl, tyl_n (n := 0) rfl, sz2, fun w2 fw2 => ⟨p, 2, n + 2, c3, s3, rfl, rfl, set_n (set_n hn), hs3, by decide, by decide, fun w3 c4 s4 h0 h1 hs4 => ?_⟩⟩
      obtain ⟨v, hv, hv2⟩ := at_two2 (x := 6) (y := 64) h0 h1
      have hv3 : 1 ≤ v ∧ v ≤ 64 := by omega
      refine ⟨_, _, lst_n (n := 0) rfl, hv, p, v, n + 2, c4, s4, rfl, rfl, set_n (set_n (set_n hn)), hs4, by omega, by omega, fun sz_ c5 s5 z0 z1 hs5 => ⟨sz2, fun T fT => ⟨1, _, rfl, Nat.lt_of_le_of_lt (show us.length ≤ 100 by omega) (by decide), ?_⟩⟩⟩
      obtain ⟨hh, rfl⟩ := Int.eq_ofNat_of_zero_le z0
      refine ⟨_, _, Wk.drop0, us ++ [V.ref T], ks ++ [(⟨false, 1 + hh⟩ : Kn)], c5, s5, _, rfl, ex.trans (Ex.new fT), ?_, ?_, (by exact step (T := T) (k := ⟨false, 1 + hh⟩) rfl fT.1), ?_, by simp [hl], hs5⟩
      · rw [upd_ne (fun z => fT.2 (t, .lst us) (by simp) z)]; exact gt
      · simp only [List.set_cons_succ, List.set_set, List.set_cons_zero]
      · intro k hkm
        rcases List.mem_append.mp hkm with hkm | hkm
        · exact hk k hkm
        · have e : k = ⟨false, 1 + hh⟩ := by simpa using hkm
          subst e
          exact ⟨by show 1 + hh ≤ 64; omega, fun z => (by cases z), fun _ => by show 1 ≤ 1 + hh; omega⟩
  · rintro σ G' M' ⟨us, ks, c2, s2, y4, rfl, ex, gt, rfl, hd, hk, hl, hs2⟩
    have hl : ks.length = r.toNat := hl
    have e2 := Ex.new' (o := .lst us) gt
    exact ⟨_, _, Wk.refl, retW Wk.frz0 (q t ks c2 s2 _ (ex.trans e2) ⟨us, sql_new, hd.mono fun _ _ ⟨T, e1, e3⟩ => ⟨T, e1, e2 _ _ e3⟩⟩ hk (by omega) hs2)⟩
theorem insert_ok {k : Nat} {o : List Nat} (h : OrdOk k o) (j : Nat) : OrdOk (k + 1) (o.take j ++ [k] ++ o.drop j) := by
  refine ⟨?_, ?_, fun x hx => ?_⟩
  · rw [List.length_append, List.length_append, List.length_take, List.length_drop, List.length_singleton, h.len]; omega
  · have p : (o.take j ++ [k] ++ o.drop j).Perm (k :: o) := by
      rw [List.append_assoc]
      refine List.perm_middle.trans (.cons _ ?_)
      show (o.take j ++ o.drop j).Perm o
      rw [List.take_append_drop]
    rw [p.nodup_iff, List.nodup_cons]
    exact ⟨fun z => by have := h.lt k z; omega, h.nd⟩
  · rw [List.mem_append, List.mem_append] at hx
    rcases hx with (hx | hx) | hx
    · have := h.lt x (List.mem_of_mem_take hx); omega
    · rw [List.mem_singleton.mp hx]; omega
    · have := h.lt x (List.mem_of_mem_drop hx); omega
theorem pf_law_turn (h : S_law_turn K vs G M R Z) : rd_law_turn K (ends R Z) (sta 4 vs) G M := by
  obtain ⟨_, _, rfl, p, n, c, s, m, rfl, rfl, hm, hn, hs, q⟩ := sp2_of h
  clear h
  have h100 : (100 : Int) < 2 ^ 200 := by decide
  refine ⟨G, M, Wk.refl, sz0, fun t ft => ?_⟩
  refine ⟨G, _, Wk.refl, ⟨by omega, by omega⟩, fun i σ G' M' => ∃ (o : List Nat) (y : Option V) (c s : Int), σ = [some (.ref p), some (.int (m : Int)), some (.ref t), y] ∧ G' = G ∧ M' = (t, .lst (natsV o)) :: M.set n (p, pool c s) ∧ OrdOk i o ∧ PoolOk s, ⟨[], none, c, s, rfl, rfl, by rw [set_self hn]; rfl, ⟨rfl, List.nodup_nil, fun _ z => (nomatch z)⟩, hs⟩, fun _ _ _ _ _ _ => trivial, ?_, ?_⟩
  · rintro i σ G' M' hi ⟨o, y, c2, s2, rfl, rfl, rfl, ho, hs2⟩
    have hi : i < (m : Int).toNat := hi
    refine asg_R (v := (i : Int)) (by omega) ?_
    refine ⟨G', _, Wk.refl, tyl_n (n := 0) rfl, p, (i : Int) + 1, n + 1, c2, s2, rfl, rfl, set_n hn, hs2, by omega, by omega, fun r c3 s3 r0 r1 hs3 => ?_⟩
    obtain ⟨j, rfl⟩ := Int.eq_ofNat_of_zero_le r0
    refine ⟨0, natsV o, rfl, by rw [natsV_len, ho.len]; exact Nat.lt_of_lt_of_le (show i < 1000 by omega) (by decide), by omega, by omega, ?_⟩
    refine ⟨G', _, Wk.refl, _, _, c3, s3, rfl, rfl, ?_, insert_ok ho j, hs3⟩
    show (t, HO.lst ((natsV o).take (j : Int).toNat ++ [V.int (i : Int)] ++ (natsV o).drop (j : Int).toNat)) :: (M.set n _).set n _ = _
    rw [List.set_set, Int.toNat_natCast, natsV_take, natsV_drop, show [V.int (i : Int)] = natsV [i] from rfl, natsV_app, natsV_app]
  · rintro σ G' M' ⟨o, y, c2, s2, rfl, rfl, rfl, ho, hs2⟩
    have ho : OrdOk (m : Int).toNat o := ho
    rw [Int.toNat_natCast] at ho
    exact ⟨_, _, Wk.refl, ret0 (q t o c2 s2 ho hs2 ft)⟩
theorem txt_shuf0 (k : Kn) : decide ((V.str k.txt) = (.str "shuffle")) = !k.leaf := by
  obtain ⟨b, n⟩ := k
  cases b
  · exact decide_eq_true rfl
  · exact decide_eq_false (by intro h; injection h with h; exact absurd (show ("leaf" : Str) = "shuffle" from h) (by decide))
theorem kn_etab {k : Kn} {b : Bool} (h : k.leaf = b) : k = ⟨b, k.n⟩ := by
  obtain ⟨x, y⟩ := k
  have h : x = b := h
  rw [h]
theorem deed_pick {y : V} (h : y ∈ [V.str "look", .str "lay"]) : ∃ b : Bool, y = .str (deedS b) := by
  simp only [List.mem_cons, List.not_mem_nil, or_false] at h
  rcases h with rfl | rfl
  · exact ⟨false, rfl⟩
  · exact ⟨true, rfl⟩
end

section
variable {K : PySem.W.Frag} {vs : List V} {G : Hp} {M : Mem} {R : KR} {Z : KX}
/-! where a sign is led -/
theorem filt_one {p : Nat → Bool} {j : Nat} : ∀ n, (∀ k, k < n → (p k = true ↔ k = j)) → (List.range n).filter p = if j < n then [j] else []
  | 0, _ => by simp
  | n + 1, h => by
    rw [List.range_succ, List.filter_append, filt_one n fun k hk => h k (by omega)]
    by_cases e : j = n
    · subst e
      rw [if_neg (Nat.lt_irrefl _), if_pos (Nat.lt_succ_self _), List.filter_cons_of_pos ((h j (Nat.lt_succ_self _)).mpr rfl)]; rfl
    · have hn : ¬ p n = true := fun z => e ((h n (Nat.lt_succ_self _)).mp z).symm
      rw [List.filter_cons_of_neg hn, List.filter_nil, List.append_nil]
      by_cases e2 : j < n
      · rw [if_pos e2, if_pos (by omega)]
      · rw [if_neg e2, if_neg (by omega)]
theorem filt_succ {p : Nat → Bool} {n : Nat} : (List.range (n + 1)).filter p = (List.range n).filter p ++ (if p n = true then [n] else []) := by
  rw [List.range_succ, List.filter_append]
  by_cases e : p n = true
  · rw [if_pos e, List.filter_cons_of_pos e]; rfl
  · rw [if_neg e, List.filter_cons_of_neg e]; rfl
theorem ledS_draw {D : Kd} {q T : Addr} {g : Sg} {ks : List Kn} {ps : List Pp} {d : Nat} {k : Kn} (hp : PapM K G M q ps) (ho : PapOk ks ps) (hT : SqT K G T g.vs) (hd : g.vs[3]? = some (.int (d : Nat))) (hk : ks[d]? = some k) (hl : ks.length ≤ 1000)
    (w : ∀ (M' : Mem) (y3 : Option V) (j : Nat), j = (ps.map (·.src)).idxOf d → Wk G M' G M → rd_law_led_sign_2 K D [some (.ref q), some (.ref T), some (.int (j : Int)), y3] G M') :
    rd_law_led_sign_1 K D [some (.ref q), some (.ref T), none, none] G M := by
  obtain ⟨us, hu, ha⟩ := hp
  have hal := ha.len
  have hpl := ho.len
  have hord := srcs_ord ho
  have hdl : d < ps.length := by have := (List.getElem?_eq_some_iff.mp hk).1; omega
  obtain ⟨i1, i2⟩ := getD_idx (ord_has hord d hdl)
  rw [List.length_map] at i1
  refine ⟨G, M, Wk.refl, us, .inl hu, by omega, sz (by show ((us.length : Int)).toNat ≤ _; omega), fun i acc G' M' => G' = G ∧ M' = M ∧ acc = natsV ((List.range i).filter fun j => decide (srcOf ps j = d)), ⟨rfl, rfl, rfl⟩, fun _ _ _ _ _ _ => trivial, ?_, ?_⟩
  · rintro i acc G' M' X hi hac ⟨rfl, rfl, rfl⟩ fX
    have hi : i < (us.length : Int).toNat := hi
    obtain ⟨pp, hpp⟩ : ∃ pp, ps[i]? = some pp := ⟨_, List.getElem?_eq_getElem (by omega)⟩
    obtain ⟨v, hv, T2, w2, rfl, hT2, _⟩ := ha.get hpp
    have hs : srcOf ps i = pp.src := by unfold srcOf; rw [List.getD_eq_getElem?_getD, hpp]; rfl
    refine asg_R (v := (i : Int)) (by omega) ⟨rfl, us, .ref T2, .inl (lat_more1 hu), atI_nat hv, [.int (pp.src : Nat), w2], .int (pp.src : Nat), .inr hT2, atI_nat (j := 0) rfl, g.vs, .int (d : Nat), .inr hT, atI_nat (j := 3) hd, ?_⟩
    show if decide (V.int (pp.src : Int) = .int (d : Int)) = true then _ else _
    rw [int_dec, ← hs]
    refine ite2' (fun e => ⟨G', M', Wk.refl, rfl, rfl, ?_⟩) (fun e => ⟨G', M', Wk.refl, rfl, rfl, ?_⟩)
    · rw [filt_succ, if_pos e]
      unfold natsV; rw [List.map_append]; rfl
    · rw [filt_succ, if_neg (by rw [e]; exact Bool.false_ne_true), List.append_nil]
  · rintro acc G' M' y ⟨rfl, rfl, rfl⟩ hac fy
    have en : (srcR 0 (us.length : Int).toNat).n = ps.length := by show (us.length : Int).toNat = _; omega
    have ef : ((List.range ps.length).filter fun j => decide (srcOf ps j = d)) = [(ps.map (·.src)).idxOf d] := by
      rw [filt_one (j := (ps.map (·.src)).idxOf d) ps.length fun k hk => ?_, if_pos i1]
      rw [decide_eq_true_eq, ← srcs_getD hk]
      constructor
      · intro e
        have := idx_of_nodup ho.nd (i := k) (by rw [List.length_map]; exact hk)
        rw [e] at this; exact this.symm
      · intro e; rw [e]; exact i2
    rw [en, ef]
    obtain ⟨j, hj⟩ : ∃ j, j = (ps.map (·.src)).idxOf d := ⟨_, rfl⟩
    rw [← hj]
    exact ⟨natsV [j], .int (j : Int), .inl lat_0, atI_nat (j := 0) rfl, w _ none j hj Wk.drop0⟩
theorem pf_law_led_sign (h : S_law_led_sign K vs G M R Z) : rd_law_led_sign K (ends R Z) (sta 4 vs) G M := by
  obtain ⟨_, _, rfl, q, T, g, ks, ps, rfl, rfl, hp, ho, hT, og, hl, k⟩ := sp2_of h
  clear h
  have hpl := ho.len
  cases g with
  | room b s r => exact ⟨G, M, Wk.refl, _, _, .inr hT, atI_nat (j := 0) rfl, G, M, Wk.refl, ret0 (k T G Ex.refl hT)⟩
  | way b s d p e =>
    obtain ⟨hh, hk, hpp, hee⟩ := og
    refine ⟨G, M, Wk.refl, _, _, .inr hT, atI_nat (j := 0) rfl, ledS_draw hp ho hT rfl hk hl fun M' y3 j hj wk => ?_⟩
    refine ⟨G, M', Wk.refl, _, _, .inr hT, atI_nat (j := 0) rfl, ?_⟩
    refine ⟨G, M, wk, _, hT, fun z => absurd z.2 (by show ¬ HT.sIx 6 6 (some 3) = 6; decide), fun _ c1 f1 => ⟨sz1, fun c2 f2 => ?_⟩⟩
    have x1 := Ex.new (o := .tup (cutV (Sg.way b s d p e).vs none (some 3))) f1
    have x2 := Ex.new (o := .tup [.int (j : Int)]) f2
    refine ⟨_, _, ex_t x2 sqt_new, sqt_new, by show 3 + 1 ≤ _; decide, fun z => (by cases z), fun _ z => (by cases z), fun _ _ c3 f3 => ?_⟩
    have x3 := Ex.new (o := .tup (cutV (Sg.way b s d p e).vs none (some 3) ++ [.int (j : Int)])) f3
    refine ⟨_, ex_t x3 (ex_t x2 (ex_t x1 hT)), fun z => absurd z.1 (by show ¬ HT.sIx 6 0 (some 4) = 0; decide), fun _ c4 f4 => ?_⟩
    have x4 := Ex.new (o := .tup (cutV (Sg.way b s d p e).vs (some 4) none)) f4
    refine ⟨_, _, ex_t x4 sqt_new, sqt_new, by show 4 + 2 ≤ _; decide, fun z => (by cases z), fun _ z => (by cases z), fun _ _ c5 f5 => ?_⟩
    have x5 := Ex.new (o := .tup ((cutV (Sg.way b s d p e).vs none (some 3) ++ [.int (j : Int)]) ++ cutV (Sg.way b s d p e).vs (some 4) none)) f5
    refine ret0 (k c5 _ ((((x1.trans x2).trans x3).trans x4).trans x5) ?_)
    have e0 : (ledS ps (.way b s d p e)).vs = (cutV (Sg.way b s d p e).vs none (some 3) ++ [.int (j : Int)]) ++ cutV (Sg.way b s d p e).vs (some 4) none := by
      show Sg.vs (.way b s ((ps.map (·.src)).idxOf d) p e) = _
      rw [← hj]; rfl
    rw [e0]
    exact sqt_new
  | item b s d i =>
    obtain ⟨n, hk, hi⟩ := og
    refine ⟨G, M, Wk.refl, _, _, .inr hT, atI_nat (j := 0) rfl, ledS_draw hp ho hT rfl hk hl fun M' y3 j hj wk => ?_⟩
    refine ⟨G, M', Wk.refl, _, _, .inr hT, atI_nat (j := 0) rfl, ?_⟩
    have hord := srcs_ord ho
    have hdl : d < ps.length := by have := (List.getElem?_eq_some_iff.mp hk).1; omega
    obtain ⟨i1, i2⟩ := getD_idx (ord_has hord d hdl)
    rw [List.length_map] at i1
    rw [← hj] at i1 i2
    -- the part there
    obtain ⟨us, hu, ha⟩ := hp
    obtain ⟨pp, hpp⟩ : ∃ pp, ps[j]? = some pp := ⟨_, List.getElem?_eq_getElem i1⟩
    obtain ⟨kj, hkj⟩ : ∃ kj, ks[j]? = some kj := ⟨_, List.getElem?_eq_getElem (by omega)⟩
    obtain ⟨v, hv, T2, w2, rfl, hT2, hw2⟩ := ha.get hpp
    obtain ⟨a1, a2, a3⟩ := a2_pt ho.ok hkj hpp
    have hgd : ps.getD j ⟨0, none⟩ = pp := by rw [List.getD_eq_getElem?_getD, hpp]; rfl
    have hsrc : pp.src = d := by rw [srcs_getD i1] at i2; unfold srcOf at i2; rw [hgd] at i2; exact i2
    have hkk : kj = ⟨false, n⟩ := by rw [hsrc, hk] at a1; injection a1 with a1; exact a1.symm
    subst hkk
    obtain ⟨l, hl1, hol⟩ := a3 rfl
    rw [hl1] at hw2
    obtain ⟨cb, rfl, hcb⟩ := hw2
    have hil : i ∈ l := ord_has hol i hi
    obtain ⟨g1, g2⟩ := getD_idx hil
    refine ⟨G, M, wk, _, hT, fun z => absurd z.2 (by show ¬ HT.sIx 5 5 (some 3) = 5; decide), fun _ c1 f1 => ?_⟩
    have x1 := Ex.new (o := .tup (cutV (Sg.item b s d i).vs none (some 3))) f1
    have hcb1 : LstAt K (upd G c1 (.tup (cutV (Sg.item b s d i).vs none (some 3)))) M cb (natsV l) := lat_ex x1 hcb
    refine ⟨us, .ref T2, .inl (lat_ex x1 hu), atI_nat hv, [.int (pp.src : Nat), .ref cb], .ref cb, .inr (ex_t x1 hT2), atI_nat (j := 1) rfl, fun H hvv => ?_, (Sg.item b s d i).vs, .int (i : Nat), .inr (ex_t x1 hT), atI_nat (j := 4) rfl, natsV l, l.idxOf i, .int (i : Nat), hcb1, rfl, natsV_flat l, natsV_get (by rw [List.getElem?_eq_getElem g1]; rw [getD_lt g1] at g2; rw [g2]), ?_, fun m z' hm hz => ?_, sz2, fun c2 f2 => ?_⟩
    · exact .inl ⟨rfl, _, hvv.lst hcb1⟩
    · show ((i : Int) == (i : Int)) = true
      exact beq_self_eq_true _
    · unfold natsV at hz
      rw [List.getElem?_map] at hz
      cases hlm : l[m]? with
      | none => rw [hlm] at hz; cases hz
      | some y =>
        rw [hlm] at hz
        cases hz
        have hml : m < l.length := (List.getElem?_eq_some_iff.mp hlm).1
        have := idx_before hm hml
        rw [List.getD_eq_getElem?_getD, hlm] at this
        have this : y ≠ i := this
        show ((y : Int) == (i : Int)) = false
        exact beq_eq_false_iff_ne.mpr (by omega)
    have x2 := Ex.new (o := .tup [.int (j : Int), .int ((l.idxOf i : Nat) : Int)]) f2
    refine ⟨_, _, ex_t x2 sqt_new, sqt_new, by show 3 + 2 ≤ _; decide, fun z => (by cases z), fun _ z => (by cases z), fun _ _ c3 f3 => ?_⟩
    have x3 := Ex.new (o := .tup (cutV (Sg.item b s d i).vs none (some 3) ++ [.int (j : Int), .int ((l.idxOf i : Nat) : Int)])) f3
    refine ret0 (k c3 _ ((x1.trans x2).trans x3) ?_)
    have e : (ledS ps (.item b s d i)).vs = cutV (Sg.item b s d i).vs none (some 3) ++ [.int (j : Int), .int ((l.idxOf i : Nat) : Int)] := by
      show Sg.vs (.item b s ((ps.map (·.src)).idxOf d) ((turnOf ps ((ps.map (·.src)).idxOf d)).idxOf i)) = _
      rw [← hj]
      unfold turnOf
      rw [hgd, hl1]; rfl
    rw [e]
    exact sqt_new
/-! places of kinds -/
structure En where
  k : Kn
  b : Addr
  l : List Nat
def kKey (k : Kn) : List Key := [.inr k.txt, .inl (k.n : Int)]
def kvsE (es : List En) : List (List Key × V) := es.map fun e => (kKey e.k, .ref e.b)
def celE (es : List En) : Mem := es.map fun e => (e.b, .lst (natsV e.l))
theorem kKey_inj {a b : Kn} (h : kKey a = kKey b) : a = b := by
  unfold kKey at h
  injection h with h1 h2
  injection h2 with h2 _
  injection h1 with h1
  injection h2 with h2
  exact kn_ext (kn_txt_inj h1) (by omega)
theorem valE {es : List En} (hn : (es.map (·.k)).Nodup) : ∀ {i : Nat} {e : En}, es[i]? = some e → valV (kvsE es) (kKey e.k) = some (.ref e.b) := by
  induction es with
  | nil => intro i e h; simp at h
  | cons x es ih =>
    intro i e h
    rw [List.map_cons, List.nodup_cons] at hn
    cases i with
    | zero =>
      have : x = e := by simpa using h
      subst this
      exact valV_pos rfl
    | succ i =>
      have h : es[i]? = some e := by simpa using h
      have ne : ¬ (kKey x.k) = kKey e.k := fun z => hn.1 (by rw [kKey_inj z]; exact List.mem_map.mpr ⟨e, List.mem_of_getElem? h, rfl⟩)
      show valV ((kKey x.k, V.ref x.b) :: kvsE es) (kKey e.k) = _
      rw [valV_neg ne]
      exact ih hn.2 h
theorem valE_none {es : List En} {k : Kn} (h : ∀ e, e ∈ es → e.k ≠ k) : valV (kvsE es) (kKey k) = none := by
  induction es with
  | nil => rfl
  | cons x es ih =>
    show valV ((kKey x.k, V.ref x.b) :: kvsE es) (kKey k) = _
    rw [valV_neg (fun z => h x List.mem_cons_self (kKey_inj z)), ih fun e he => h e (List.mem_cons_of_mem _ he)]
theorem putE_new {es : List En} {k : Kn} {b : Addr} {l : List Nat} (h : ∀ e, e ∈ es → e.k ≠ k) : putK (kvsE es) (kKey k) (.ref b) = kvsE (es ++ [⟨k, b, l⟩]) := by
  unfold putK
  rw [if_neg]
  · unfold kvsE; rw [List.map_append]; rfl
  · intro z
    obtain ⟨x, hx, e⟩ := List.any_eq_true.mp z
    obtain ⟨e0, he, rfl⟩ := List.mem_map.mp hx
    exact h e0 he (kKey_inj (of_decide_eq_true e))
theorem putE_set {es : List En} (hn : (es.map (·.k)).Nodup) {i : Nat} {e : En} {b : Addr} {l : List Nat} (h : es[i]? = some e) : putK (kvsE es) (kKey e.k) (.ref b) = kvsE (es.set i ⟨e.k, b, l⟩) := by
  unfold putK
  rw [if_pos]
  · unfold kvsE
    rw [List.map_map]
    refine List.ext_getElem? fun j => ?_
    rw [List.getElem?_map, List.getElem?_map, List.getElem?_set]
    by_cases e1 : i = j
    · subst e1
      have hi := (List.getElem?_eq_some_iff.mp h).1
      rw [if_pos rfl, if_pos hi, h]
      show some (if kKey e.k = kKey e.k then _ else _) = _
      rw [if_pos rfl]; rfl
    · rw [if_neg e1]
      cases hj : es[j]? with
      | none => rfl
      | some x =>
        show some (if kKey x.k = kKey e.k then _ else _) = some (kKey x.k, V.ref x.b)
        rw [if_neg]
        intro z
        have z := kKey_inj z
        have hj2 := (List.getElem?_eq_some_iff.mp hj).1
        have hi2 := (List.getElem?_eq_some_iff.mp h).1
        have m1 : (es.map (·.k))[i]? = some e.k := by rw [List.getElem?_map, h]; rfl
        have m2 : (es.map (·.k))[j]? = some e.k := by rw [List.getElem?_map, hj, ← z]; rfl
        obtain ⟨l1, g1⟩ := List.getElem?_eq_some_iff.mp m1
        obtain ⟨l2, g2⟩ := List.getElem?_eq_some_iff.mp m2
        exact e1 ((List.getElem_inj hn).mp (g1.trans g2.symm))
  · exact List.any_eq_true.mpr ⟨_, List.mem_map.mpr ⟨e, List.mem_of_getElem? h, rfl⟩, decide_eq_true rfl⟩
def kEq (a b : Kn) : Bool := decide (a.leaf = b.leaf) && decide (a.n = b.n)
theorem kEq_iff {a b : Kn} : kEq a b = true ↔ a = b := by
  unfold kEq
  rw [Bool.and_eq_true, decide_eq_true_eq, decide_eq_true_eq]
  constructor
  · intro h; exact kn_ext h.1 h.2
  · intro h; subst h; exact ⟨rfl, rfl⟩
def kAtN (ks : List Kn) (j : Nat) : Kn := ks.getD j ⟨true, 0⟩
theorem kAtN_of {ks : List Kn} {j : Nat} {k : Kn} (h : ks[j]? = some k) : kAtN ks j = k := by unfold kAtN; rw [List.getD_eq_getElem?_getD, h]; rfl
def posE (ks : List Kn) (i : Nat) (k : Kn) : List Nat := (List.range i).filter fun j => kEq (kAtN ks j) k
theorem posE_len {ks : List Kn} {k : Kn} : ∀ i, i ≤ ks.length → (posE ks i k).length = ((ks.take i).filter fun x => kEq x k).length
  | 0, _ => rfl
  | i + 1, h => by
    have hi : ks[i]? = some ks[i] := List.getElem?_eq_getElem (by omega)
    unfold posE
    rw [filt_succ, List.length_append, take_succ' hi, List.filter_append, List.length_append]
    have ih := posE_len (ks := ks) (k := k) i (by omega)
    unfold posE at ih
    rw [ih, kAtN_of hi]
    congr 1
    by_cases e : kEq ks[i] k = true
    · rw [if_pos e, List.filter_cons_of_pos (p := fun x => kEq x k) e]; rfl
    · rw [if_neg e, List.filter_cons_of_neg (p := fun x => kEq x k) e]; rfl
end

section
variable {K : PySem.W.Frag} {vs : List V} {G : Hp} {M : Mem} {R : KR} {Z : KX}
theorem celE_len (es : List En) : (celE es).length = es.length := List.length_map _
theorem kvsE_len (es : List En) : (kvsE es).length = es.length := List.length_map _
theorem celE_get {es : List En} {m : Nat} {e : En} {N : Mem} (h : es[m]? = some e) : (celE es ++ N)[m]? = some (e.b, .lst (natsV e.l)) := by
  have hm := (List.getElem?_eq_some_iff.mp h).1
  rw [List.getElem?_append_left (by rw [celE_len]; exact hm)]
  unfold celE
  rw [List.getElem?_map, h]; rfl
theorem celE_set {es : List En} {m : Nat} {e : En} {N : Mem} {b : Addr} {l : List Nat} {k : Kn} (hm : m < es.length) : (celE es ++ N).set m (b, .lst (natsV l)) = celE (es.set m ⟨k, b, l⟩) ++ N := by
  rw [List.set_append_left _ _ (by rw [celE_len]; exact hm)]
  unfold celE
  rw [List.map_set]
theorem posE_none {ks : List Kn} {i : Nat} {k : Kn} (h : ∀ j, j < i → kAtN ks j ≠ k) : posE ks i k = [] := by
  unfold posE
  refine List.filter_eq_nil_iff.mpr fun j hj e => ?_
  exact h j (List.mem_range.mp hj) (kEq_iff.mp e)
theorem posE_succ {ks : List Kn} {i : Nat} {k : Kn} : posE ks (i + 1) k = posE ks i k ++ (if kEq (kAtN ks i) k = true then [i] else []) := filt_succ
theorem seqIx {r : Int} {n : Nat} (h0 : 0 ≤ r) (h1 : r < n) : seqIndex? r n = some r.toNat := by
  unfold seqIndex?
  simp only [if_neg (show ¬ r < 0 by omega)]
  rw [decide_eq_true h0, decide_eq_true h1]; rfl
theorem natsV_erase (l : List Nat) (r : Nat) : (natsV l).eraseIdx r = natsV (l.eraseIdx r) := by
  unfold natsV
  induction l generalizing r with
  | nil => rfl
  | cons x l ih =>
    cases r with
    | zero => rfl
    | succ r => rw [List.map_cons, List.eraseIdx_cons_succ, List.eraseIdx_cons_succ, List.map_cons, ih]
theorem erase_mem {l : List Nat} (hn : l.Nodup) {r y x : Nat} (h : l[r]? = some y) (hx : x ∈ l.eraseIdx r) : x ∈ l ∧ x ≠ y := by
  obtain ⟨i, hi⟩ := List.getElem?_of_mem hx
  rw [List.getElem?_eraseIdx] at hi
  obtain ⟨hr, e1⟩ := List.getElem?_eq_some_iff.mp h
  split at hi
  · rename_i hlt
    refine ⟨List.mem_of_getElem? hi, fun e => ?_⟩
    subst e
    obtain ⟨h2, e2⟩ := List.getElem?_eq_some_iff.mp hi
    have := (List.getElem_inj hn).mp (e1.trans e2.symm)
    omega
  · rename_i hlt
    refine ⟨List.mem_of_getElem? hi, fun e => ?_⟩
    subst e
    obtain ⟨h2, e2⟩ := List.getElem?_eq_some_iff.mp hi
    have := (List.getElem_inj hn).mp (e1.trans e2.symm)
    omega
/-- what a list of places holds still -/
structure EnOk (ks : List Kn) (i : Nat) (us : List Nat) (e : En) : Prop where
  nd : e.l.Nodup
  at_ : ∀ j, j ∈ e.l → ks[j]? = some e.k ∧ j ∉ us
  len : e.l.length = ((ks.drop i).filter fun x => kEq x e.k).length
end

section
variable {K : PySem.W.Frag} {vs : List V} {G : Hp} {M : Mem} {R : KR} {Z : KX}
theorem pf_law_sign (h : S_law_sign K vs G M R Z) : rd_law_sign K (ends R Z) (sta 6 vs) G M := by
  obtain ⟨_, _, rfl, p, n, c, s, a, ks, rfl, rfl, hn, hs, hk, hkn, hkl, q⟩ := sp2_of h
  clear h
  have h100 : (100 : Int) < 2 ^ 200 := by decide
  refine ⟨G, M, Wk.refl, p, 5, n, c, s, rfl, rfl, hn, hs, by decide, by decide, fun r1 c1 s1 r10 r11 hs1 => ?_⟩
  refine ⟨G, _, Wk.refl, pick (n := n) (l := [V.str "look", .str "lay"]) (set_n hn) hs1 (by decide) (by decide) fun y c2 s2 d hy hs2 fd => ?_⟩
  obtain ⟨b, rfl⟩ := deed_pick hy
  rw [List.set_set]
  refine ⟨G, M.set n (p, pool c2 s2), Wk.drop0, p, 3, n, c2, s2, rfl, rfl, set_n hn, hs2, by decide, by decide, fun r3 c3 s3 r30 r31 hs3 => ?_⟩
  rw [List.set_set]
  obtain ⟨sh, rfl⟩ := Int.eq_ofNat_of_zero_le r30
  have room : ∀ (M2 : Mem) (n2 : Nat), M2[n2]? = some (p, pool c3 s3) → (∀ (G2 : Hp) (c4 s4 : Int), Wk G2 (M2.set n2 (p, pool c4 s4)) G2 (M.set n (p, pool c4 s4))) → (kSeq (kRet (kTup (kCons (kC (.str "room")) (kCons (kVar 3) (kCons (kVar 4) (kCons (kCall (S_law_take K) (kCons (kVar 0) (kCons (kC (.int 9)) (kNil)))) (kNil))))))) (kNext)) { ends R Z with nx := rd_law_sign_4 K (ends R Z) } [some (.ref p), some (.ref a), some (.int r1), some (.str (deedS b)), some (.int (sh : Int)), none] G M2 := fun M2 n2 h2 wk => by
    refine ⟨G, M2, Wk.refl, p, 9, n2, c3, s3, rfl, rfl, h2, hs3, by decide, by decide, fun r4 c4 s4 r40 r41 hs4 => ⟨sz4, fun T fT => ?_⟩⟩
    obtain ⟨x, rfl⟩ := Int.eq_ofNat_of_zero_le r40
    refine retW (wk _ c4 s4) (q T (.room b sh x) c4 s4 _ (Ex.new fT) sqt_new ⟨trivial, by omega, by omega⟩ hs4)
  refine ⟨G, M.set n (p, pool c3 s3), Wk.refl, ?_⟩
  show if decide (V.int r1 = .int 0) = true then _ else _
  refine ite2' (fun e => room _ n (set_n hn) fun _ c4 s4 => by rw [List.set_set]; exact Wk.refl) (fun e => ⟨sz0, fun e0 fe => ?_⟩)
  have hka : ∀ {Mx : Mem}, KnAt K G Mx a ks := fun {Mx} => knF_at hk hkn (by omega)
  have hk' := hk
  obtain ⟨us', hu', hd', _⟩ := hka (Mx := (e0, HO.lst []) :: M.set n (p, pool c3 s3))
  refine ⟨.list (ks.map knD), .list [], dat_list hu' (dats_g hd'), dat_list lat_0 dats_nil, (shp_kns (n := 0) ks).shaped (by decide), (shp_nats (n := 0) []).shaped (by decide), ?_⟩
  show if (PyData.eqv (.list (ks.map knD)) (.list [])) = true then _ else _
  rw [eqvL_nil]
  refine ite2' (fun e2 => room _ (n + 1) (set_n hn) fun _ c4 s4 => by rw [List.set_cons_succ, List.set_set]; exact Wk.drop0) (fun e2 => ?_)
  have hk0 : 0 < ks.length := by
    cases ks with
    | nil => cases e2
    | cons => exact Nat.succ_pos _
  clear hu' hd'
  obtain ⟨us, hu, hul⟩ : ∃ us, SqL K G a us ∧ us.length = ks.length := by obtain ⟨us, h1, h2⟩ := hk'; exact ⟨us, h1, h2.len⟩
  refine ⟨G, M.set n (p, pool c3 s3), Wk.drop0, us, .inl (.inr hu), p, (us.length : Int), n, c3, s3, rfl, rfl, set_n hn, hs3, by omega, by omega, fun r5 c5 s5 r50 r51 hs5 => ?_⟩
  rw [List.set_set]
  obtain ⟨d, rfl⟩ := Int.eq_ofNat_of_zero_le r50
  obtain ⟨k, hkd⟩ : ∃ k, ks[d]? = some k := ⟨_, List.getElem?_eq_getElem (by omega)⟩
  obtain ⟨us2, T2, hu2, hv2, hT2, _⟩ := knF_get hk' hkd
  have kk := hkn k (List.mem_of_getElem? hkd)
  have k64 := kk.1
  refine ⟨G, _, Wk.refl, us2, .ref T2, .inl (.inr hu2), atI_nat hv2, [.str k.txt, .int k.n], .str k.txt, .inr (sqt_of hT2), atI_nat (j := 0) rfl, ?_⟩
  show if decide (V.str k.txt = .str "shuffle") = true then _ else _
  rw [txt_shuf0]
  cases hlf : k.leaf with
  | false =>
    have k1 := kk.2.2 hlf
    refine ⟨G, _, Wk.refl, us2, .ref T2, .inl (.inr hu2), atI_nat hv2, [.str k.txt, .int k.n], .int k.n, .inr (sqt_of hT2), atI_nat (j := 1) rfl, p, _, n, c5, s5, rfl, rfl, set_n hn, hs5, by omega, by omega, fun r6 c6 s6 r60 r61 hs6 => ⟨sz5, fun T fT => ?_⟩⟩
    obtain ⟨x, rfl⟩ := Int.eq_ofNat_of_zero_le r60
    rw [List.set_set] at fT ⊢
    exact ret0 (q T (.item b sh d x) c6 s6 _ (Ex.new fT) sqt_new ⟨⟨k.n, by rw [hkd, ← kn_etab hlf], by omega⟩, (by show sh ≤ 50; omega)⟩ hs6)
  | true =>
    refine ⟨G, _, Wk.refl, us2, .ref T2, .inl (.inr hu2), atI_nat hv2, [.str k.txt, .int k.n], .int k.n, .inr (sqt_of hT2), atI_nat (j := 1) rfl, p, _, n, c5, s5, rfl, rfl, set_n hn, hs5, by omega, by omega, fun r6 c6 s6 r60 r61 hs6 => ?_⟩
    obtain ⟨x, rfl⟩ := Int.eq_ofNat_of_zero_le r60
    refine ⟨p, 2, n, c6, s6, rfl, rfl, set_n (set_n hn), hs6, by decide, by decide, fun r7 c7 s7 r70 r71 hs7 => ⟨sz6, fun T fT => ?_⟩⟩
    obtain ⟨y, rfl⟩ := Int.eq_ofNat_of_zero_le r70
    rw [List.set_set, List.set_set] at fT ⊢
    exact ret0 (q T (.way b sh d x y) c7 s7 _ (Ex.new fT) sqt_new ⟨⟨k.n, by rw [hkd, ← kn_etab hlf], by omega, by omega⟩, (by show sh ≤ 50; omega)⟩ hs7)
end
section
variable {K : PySem.W.Frag} {vs : List V} {G : Hp} {M : Mem} {R : KR} {Z : KX}
theorem paper_1b {D : Kd} {p a pl : Addr} {ks : List Kn} (hk : KnF K G a ks) (hkl : ks.length ≤ 6)
    (q : ∀ (es : List En) (y3 : Option V), (es.map (·.k)).Nodup → (∀ e, e ∈ es → e.l = posE ks ks.length e.k) → (∀ k, k ∈ ks → ∃ e, e ∈ es ∧ e.k = k) → es.length ≤ 6 → D.nx [some (.ref p), some (.ref a), some (.ref pl), y3, none, none, none] G ((pl, .dT (kvsE es)) :: (celE es ++ M))) :
    (kFor (kiR1 (kCons (kCB (kLen K) (kCons (kVar 1) (kNil))) (kNil))) (kgName 3) (rd_law_paper_b0 K)) D [some (.ref p), some (.ref a), some (.ref pl), none, none, none, none] G ((pl, .dT []) :: M) := by
  obtain ⟨us, hu, hul⟩ : ∃ us, SqL K G a us ∧ us.length = ks.length := by obtain ⟨us, h1, h2⟩ := hk; exact ⟨us, h1, h2.len⟩
  refine ⟨us, .inl (.inr hu), ⟨by omega, by omega⟩, fun i σ G' M' => ∃ (es : List En) (y3 : Option V), σ = [some (.ref p), some (.ref a), some (.ref pl), y3, none, none, none] ∧ G' = G ∧ M' = (pl, .dT (kvsE es)) :: (celE es ++ M) ∧ (es.map (·.k)).Nodup ∧ (∀ e, e ∈ es → e.l = posE ks i e.k) ∧ (∀ j, j < i → ∃ e, e ∈ es ∧ e.k = kAtN ks j) ∧ es.length ≤ i, ⟨[], none, rfl, rfl, rfl, List.nodup_nil, (fun _ z => nomatch z), (fun _ z => nomatch z), Nat.le_refl _⟩, fun _ _ _ _ _ _ => trivial, ?_, ?_⟩
  · rintro i σ G' M' hi ⟨es, y3, rfl, rfl, rfl, hnd, hl, hc, hel⟩
    have hi : i < (us.length : Int).toNat := hi
    obtain ⟨k, hki⟩ : ∃ k, ks[i]? = some k := ⟨_, List.getElem?_eq_getElem (by omega)⟩
    obtain ⟨us2, T, hu2, hv, hT, _⟩ := knF_get hk hki
    have hat := kAtN_of hki
    have hT' : G' T = some (.tup ((kKey k).map kV)) := hT
    refine asg_R (v := (i : Int)) (by omega) ⟨G', _, Wk.refl, ⟨kvsE es, at_n (n := 0) rfl⟩, us2, .ref T, .inl (.inr hu2), atI_nat hv, sz0, fun e0 fe => ?_⟩
    refine ⟨kvsE es, kKey k, T, at_n (n := 1) rfl, rfl, hT', sz1, fun f ff => ?_⟩
    by_cases hex : ∃ e, e ∈ es ∧ e.k = k
    · obtain ⟨e, he, hek⟩ := hex
      obtain ⟨m, hm⟩ := List.getElem?_of_mem he
      have hml := (List.getElem?_eq_some_iff.mp hm).1
      have hval : valV (kvsE es) (kKey k) = some (.ref e.b) := by rw [← hek]; exact valE hnd hm
      rw [hval]
      have hcell : ((f, HO.lst [V.int (i : Int)]) :: (e0, HO.lst []) :: (pl, HO.dT (kvsE es)) :: (celE es ++ M))[m + 3]? = some (e.b, .lst (natsV e.l)) := celE_get hm
      refine ⟨natsV e.l, [.int (i : Int)], at_n hcell, at_n (n := 0) rfl, ?_, fun c fc => ?_⟩
      · have : e.l.length ≤ i := by
          rw [hl e he]; unfold posE
          exact Nat.le_trans (List.length_filter_le _ _) (by rw [List.length_range]; exact Nat.le_refl _)
        rw [natsV_len]
        exact sz (by show e.l.length + 1 ≤ _; omega)
      refine ⟨us2, .ref T, .inl (.inr hu2), atI_nat hv, 3, kvsE es, kKey k, rfl, hT', by rw [kvsE_len]; exact Nat.lt_of_le_of_lt (show es.length ≤ 100 by omega) (by decide), ?_⟩
      have hput : putK (kvsE es) (kKey k) (.ref c) = kvsE (es.set m ⟨e.k, c, e.l ++ [i]⟩) := by rw [← hek]; exact putE_set hnd hm
      have hkeys : (es.set m ⟨e.k, c, e.l ++ [i]⟩).map (·.k) = es.map (·.k) := by
        rw [List.map_set]
        refine List.ext_getElem? fun j => ?_
        rw [List.getElem?_set]
        by_cases z : m = j
        · subst z
          rw [if_pos rfl, if_pos (by rw [List.length_map]; exact hml), List.getElem?_map, hm]; rfl
        · rw [if_neg z]
      refine ⟨G', (pl, .dT (kvsE (es.set m ⟨e.k, c, e.l ++ [i]⟩))) :: (celE (es.set m ⟨e.k, c, e.l ++ [i]⟩) ++ M), ?_, _, _, rfl, rfl, rfl, by rw [hkeys]; exact hnd, fun x hx => ?_, fun j hj => ?_, by rw [List.length_set]; omega⟩
      · rw [hput]
        show Wk G' ((c, HO.lst (natsV e.l ++ [.int (i : Int)])) :: (f, HO.lst [V.int (i : Int)]) :: (e0, HO.lst []) :: (pl, HO.dT (kvsE (es.set m ⟨e.k, c, e.l ++ [i]⟩))) :: (celE es ++ M)) _ _
        have h3 : es = es.take m ++ e :: es.drop (m + 1) := by
          have h2 := (List.getElem?_eq_some_iff.mp hm).2
          rw [← h2, List.getElem_cons_drop, List.take_append_drop]
        have e1 : celE es = celE (es.take m) ++ ((e.b, .lst (natsV e.l)) :: celE (es.drop (m + 1))) :=
          (congrArg celE h3).trans (by unfold celE; rw [List.map_append, List.map_cons])
        have e2 : celE (es.set m ⟨e.k, c, e.l ++ [i]⟩) = celE (es.take m) ++ ((c, .lst (natsV e.l ++ [.int (i : Int)])) :: celE (es.drop (m + 1))) := by
          rw [List.set_eq_take_append_cons_drop, if_pos hml]
          unfold celE
          rw [List.map_append, List.map_cons]
          congr 2
          show (c, HO.lst (natsV (e.l ++ [i]))) = _
          rw [natsV_app2]; rfl
        rw [e1, e2]
        refine (Wk.perm (M' := (e.b, HO.lst (natsV e.l)) :: (f, HO.lst [V.int (i : Int)]) :: (e0, HO.lst []) :: (pl, HO.dT (kvsE (es.set m ⟨e.k, c, e.l ++ [i]⟩))) :: ((celE (es.take m) ++ ((c, .lst (natsV e.l ++ [.int (i : Int)])) :: celE (es.drop (m + 1)))) ++ M)) ?_).trans (Wk.dropP [_, _, _])
        (classical (rw [List.perm_iff_count]; intro x; simp only [List.set_cons_zero, List.set_cons_succ, List.cons_append, List.nil_append, List.append_assoc, List.append_eq, List.count_append, List.count_cons, List.count_nil] <;> omega))
      · obtain ⟨j, hj⟩ := List.getElem?_of_mem hx
        rw [List.getElem?_set] at hj
        by_cases z : m = j
        · subst z
          rw [if_pos rfl, if_pos hml] at hj
          cases hj
          show e.l ++ [i] = posE ks (i + 1) e.k
          rw [posE_succ, hl e he, hat, hek, if_pos (kEq_iff.mpr rfl)]
        · rw [if_neg z] at hj
          have hxe := List.mem_of_getElem? hj
          rw [hl x hxe, posE_succ, hat, if_neg, List.append_nil]
          intro z2
          have z2 := kEq_iff.mp z2
          have m1 : (es.map (·.k))[m]? = some k := by rw [List.getElem?_map, hm, ← hek]; rfl
          have m2 : (es.map (·.k))[j]? = some k := by rw [List.getElem?_map, hj, z2]; rfl
          obtain ⟨l1, g1⟩ := List.getElem?_eq_some_iff.mp m1
          obtain ⟨l2, g2⟩ := List.getElem?_eq_some_iff.mp m2
          exact z ((List.getElem_inj hnd).mp (g1.trans g2.symm))
      · have key : ∀ k', k' ∈ es.map (·.k) → ∃ x, x ∈ es.set m ⟨e.k, c, e.l ++ [i]⟩ ∧ x.k = k' := fun k' hk' => by
          rw [← hkeys] at hk'
          obtain ⟨x, hx, e3⟩ := List.mem_map.mp hk'
          exact ⟨x, hx, e3⟩
        by_cases z : j = i
        · subst z
          rw [hat]
          exact key k (List.mem_map.mpr ⟨e, he, hek⟩)
        · obtain ⟨x, hx, e3⟩ := hc j (by omega)
          exact key _ (List.mem_map.mpr ⟨x, hx, e3⟩)
    · have hno : ∀ e, e ∈ es → e.k ≠ k := fun e he z => hex ⟨e, he, z⟩
      rw [valE_none hno]
      refine ⟨[], [.int (i : Int)], at_n (n := 1) rfl, at_n (n := 0) rfl, sz1, fun c fc => ?_⟩
      refine ⟨us2, .ref T, .inl (.inr hu2), atI_nat hv, 3, kvsE es, kKey k, rfl, hT', by rw [kvsE_len]; exact Nat.lt_of_le_of_lt (show es.length ≤ 100 by omega) (by decide), ?_⟩
      have hput : putK (kvsE es) (kKey k) (.ref c) = kvsE (es ++ [⟨k, c, [i]⟩]) := putE_new hno
      refine ⟨G', (pl, .dT (kvsE (es ++ [⟨k, c, [i]⟩]))) :: (celE (es ++ [⟨k, c, [i]⟩]) ++ M), ?_, _, _, rfl, rfl, rfl, ?_, fun x hx => ?_, fun j hj => ?_, by rw [List.length_append]; show es.length + 1 ≤ _; omega⟩
      · rw [hput]
        show Wk G' ((c, HO.lst [V.int (i : Int)]) :: (f, HO.lst [V.int (i : Int)]) :: (e0, HO.lst []) :: (pl, HO.dT (kvsE (es ++ [⟨k, c, [i]⟩]))) :: (celE es ++ M)) _ _
        have e2 : celE (es ++ [⟨k, c, [i]⟩]) = celE es ++ [(c, HO.lst [V.int (i : Int)])] := by unfold celE; rw [List.map_append]; rfl
        rw [e2]
        refine (Wk.perm (M' := (f, HO.lst [V.int (i : Int)]) :: (e0, HO.lst []) :: (pl, HO.dT (kvsE (es ++ [⟨k, c, [i]⟩]))) :: ((celE es ++ [(c, HO.lst [V.int (i : Int)])]) ++ M)) ?_).trans (Wk.dropP [_, _])
        (classical (rw [List.perm_iff_count]; intro x; simp only [List.set_cons_zero, List.set_cons_succ, List.cons_append, List.nil_append, List.append_assoc, List.append_eq, List.count_append, List.count_cons, List.count_nil] <;> omega))
      · rw [List.map_append, List.nodup_append]
        refine ⟨hnd, List.nodup_cons.mpr ⟨fun z => (nomatch z), List.nodup_nil⟩, fun x hx y hy z => ?_⟩
        obtain ⟨e, he, e3⟩ := List.mem_map.mp hx
        rw [List.mem_singleton.mp (show y ∈ [k] from hy)] at z
        exact hno e he (e3.trans z)
      · rcases List.mem_append.mp hx with hx | hx
        · rw [hl x hx, posE_succ, hat, if_neg, List.append_nil]
          intro z
          exact hno x hx (kEq_iff.mp z).symm
        · rw [List.mem_singleton.mp hx]
          show [i] = posE ks (i + 1) k
          rw [posE_succ, hat, if_pos (kEq_iff.mpr rfl), posE_none]; · rfl
          intro j hj z
          obtain ⟨e, he, e3⟩ := hc j hj
          exact hno e he (e3.trans z)
      · by_cases z : j = i
        · subst z
          exact ⟨_, List.mem_append.mpr (.inr List.mem_cons_self), hat.symm⟩
        · obtain ⟨x, hx, e3⟩ := hc j (by omega)
          exact ⟨x, List.mem_append.mpr (.inl hx), e3⟩
  · rintro σ G' M' ⟨es, y3, rfl, rfl, rfl, hnd, hl, hc, hel⟩
    have en : (srcR 0 (us.length : Int).toNat).n = ks.length := by show (us.length : Int).toNat = _; omega
    rw [en] at hl hc hel
    refine q es y3 hnd hl (fun k hk2 => ?_) (by omega)
    obtain ⟨j, hj⟩ := List.getElem?_of_mem hk2
    obtain ⟨e, he, e3⟩ := hc j (List.getElem?_eq_some_iff.mp hj).1
    exact ⟨e, he, by rw [e3, kAtN_of hj]⟩
theorem ixN_m1' {n : Nat} : ixN (n + 1) (-1) = some n := by
  unfold ixN
  rw [if_neg (by omega), if_pos (by omega)]
  congr 1
  omega
theorem PpG.ex {G' : Hp} {v : V} {pp : Pp} (e : Ex G G') (h : PpG K G v pp) : PpG K G' v pp := by
  obtain ⟨T, w, rfl, h1, h2⟩ := h
  refine ⟨T, w, rfl, ex_t e h1, ?_⟩
  cases ht : pp.turn with
  | none => rw [ht] at h2; exact h2
  | some l =>
    rw [ht] at h2
    obtain ⟨b, rfl, hb⟩ := h2
    exact ⟨b, rfl, e _ _ hb⟩
theorem pf_law_paper (h : S_law_paper K vs G M R Z) : rd_law_paper K (ends R Z) (sta 7 vs) G M := by
  obtain ⟨_, _, rfl, p, n, c, s, a, ks, rfl, rfl, hn, hs, hk, hkn, hkl, q⟩ := sp2_of h
  clear h
  have h100 : (100 : Int) < 2 ^ 200 := by decide
  refine ⟨G, M, Wk.refl, fun pl fpl => ?_⟩
  refine ⟨G, _, Wk.refl, paper_1b hk hkl fun es0 y3 hnd0 hl0 hc0 hel0 => ?_⟩
  refine ⟨G, _, Wk.refl, sz0, fun pp fpp => ?_⟩
  have hk0 := hk
  obtain ⟨us, hu, hA⟩ := hk0
  have hul := hA.len
  have start : ∀ e, e ∈ es0 → EnOk ks 0 [] e := fun e he => by
    refine ⟨?_, fun j hj => ?_, ?_⟩
    · rw [hl0 e he]
      unfold posE
      exact List.Nodup.sublist List.filter_sublist List.nodup_range
    · rw [hl0 e he] at hj
      unfold posE at hj
      obtain ⟨h1, h2⟩ := List.mem_filter.mp hj
      have h1 := List.mem_range.mp h1
      have hj2 : ks[j]? = some ks[j] := List.getElem?_eq_getElem h1
      have := kEq_iff.mp h2
      rw [kAtN_of hj2] at this
      rw [hj2, this]
      exact ⟨rfl, fun z => nomatch z⟩
    · rw [hl0 e he, posE_len _ (Nat.le_refl _), List.take_length, List.drop_zero]
  refine ⟨G, _, Wk.refl, us, .inr hu, fun i σ G' M' => ∃ (acc : List V) (ps : List Pp) (es : List En) (c s : Int) (y3 y5 y6 : Option V), σ = [some (.ref p), some (.ref a), some (.ref pl), y3, some (.ref pp), y5, y6] ∧ Ex G G' ∧ G' pp = none ∧ M' = (pp, .lst acc) :: (pl, .dT (kvsE es)) :: (celE es ++ M.set n (p, pool c s)) ∧ PoolOk s ∧ A2 (PpG K G') acc ps ∧ A2 (PpOk ks) (ks.take i) ps ∧ (ps.map (·.src)).Nodup ∧ (es.map (·.k)).Nodup ∧ (∀ e, e ∈ es → EnOk ks i (ps.map (·.src)) e) ∧ (∀ k, k ∈ ks → ∃ e, e ∈ es ∧ e.k = k),
    ⟨[], [], es0, c, s, y3, none, none, rfl, Ex.refl, fpp.1, by rw [set_self hn], hs, .nil, .nil, List.nodup_nil, hnd0, start, hc0⟩, ?_, ?_, ?_⟩
  · rintro i σ G' M' _ ⟨acc, ps, es, c, s, y3, y5, y6, rfl, ex, gp, rfl, _⟩; exact .inr (ex_l ex hu)
  · rintro i σ G' M' hi ⟨acc, ps, es, c1, s1, y3, y5, y6, rfl, ex, gp, rfl, hs1, hacc, hok, hsn, hnd, hen, hc⟩
    have hi : i < us.length := hi
    obtain ⟨k, hki⟩ : ∃ k, ks[i]? = some k := ⟨_, List.getElem?_eq_getElem (by omega)⟩
    have hkm := List.mem_of_getElem? hki
    obtain ⟨v0, hv, T, rfl, hT⟩ := hA.get hki
    have hT' : G' T = some (.tup ((kKey k).map kV)) := ex _ _ hT
    obtain ⟨e, he, hek⟩ := hc k hkm
    obtain ⟨m, hm⟩ := List.getElem?_of_mem he
    have hml := (List.getElem?_eq_some_iff.mp hm).1
    obtain ⟨e1, e2, e3⟩ := hen e he
    have hdrop : ks.drop i = k :: ks.drop (i + 1) := (List.drop_eq_getElem_cons (by omega)).trans (by rw [(List.getElem?_eq_some_iff.mp hki).2])
    have hlen : e.l.length = ((ks.drop (i + 1)).filter fun x => kEq x e.k).length + 1 := by
      rw [e3, hdrop, List.filter_cons_of_pos (p := fun x => kEq x e.k) (kEq_iff.mpr hek.symm), List.length_cons]
    have hpsl : ps.length = i := by have := hok.len; rw [List.length_take] at this; omega
    have hal := hacc.len
    have hlong : e.l.length ≤ 6 := by
      rw [e3]
      refine Nat.le_trans (List.length_filter_le _ _) ?_
      rw [List.length_drop]; omega
    -- a place taken
    have hcell : ∀ N : Mem, ((pp, HO.lst acc) :: (pl, HO.dT (kvsE es)) :: (celE es ++ N))[m + 2]? = some (e.b, .lst (natsV e.l)) := fun N => celE_get hm
    have hpool : ∀ {es' : List En} {A B : Addr × HO} {c' s' : Int}, es'.length = es.length → (A :: B :: (celE es' ++ M.set n (p, pool c' s')))[es.length + n + 2]? = some (p, pool c' s') := fun {es' A B c' s'} h => by
      show (celE es' ++ M.set n (p, pool c' s'))[es.length + n]? = _
      rw [List.getElem?_append_right (by rw [celE_len, h]; omega), celE_len, h, Nat.add_sub_cancel_left]; exact set_n hn
    have hpset : ∀ {es' : List En} {A B : Addr × HO} {c' s' c'' s'' : Int}, es'.length = es.length → (A :: B :: (celE es' ++ M.set n (p, pool c' s'))).set (es.length + n + 2) (p, pool c'' s'') = A :: B :: (celE es' ++ M.set n (p, pool c'' s'')) := fun {es' A B c' s' c'' s''} h => by
      show A :: B :: (celE es' ++ M.set n (p, pool c' s')).set (es.length + n) (p, pool c'' s'') = _
      rw [List.set_append_right _ _ (by rw [celE_len, h]; omega), celE_len, h, Nat.add_sub_cancel_left, List.set_set]
    have hdg : valV (kvsE es) (kKey k) = some (V.ref e.b) := by rw [← hek]; exact valE hnd hm
    refine asg_L hv ⟨G', _, Wk.refl, kvsE es, kKey k, .ref e.b, at_n (n := 1) rfl, hT', hdg, tyl_n (hcell _), kvsE es, kKey k, .ref e.b, at_n (n := 1) rfl, hT', hdg, natsV e.l, .inl (.inl (List.mem_of_getElem? (hcell _))), p, ((natsV e.l).length : Int), es.length + n + 2, c1, s1, rfl, rfl, hpool rfl, hs1, by rw [natsV_len]; omega, by rw [natsV_len]; omega, fun r c2 s2 r0 r1 hs2 => ?_⟩
    rw [hpset rfl]
    rw [natsV_len] at r1
    obtain ⟨rn, rfl⟩ := Int.eq_ofNat_of_zero_le r0
    have hrl : rn < e.l.length := by omega
    obtain ⟨j, hj⟩ : ∃ j, e.l[rn]? = some j := ⟨_, List.getElem?_eq_getElem hrl⟩
    obtain ⟨g1, g2⟩ := e2 j (List.mem_of_getElem? hj)
    refine ⟨m + 2, natsV e.l, rn, .int (j : Nat), hcell _, by omega, by omega, seqIx (by omega) (by rw [natsV_len]; omega), natsV_get hj, ?_⟩
    obtain ⟨es2, hes2⟩ : ∃ es2, es2 = es.set m ⟨e.k, e.b, e.l.eraseIdx rn⟩ := ⟨_, rfl⟩
    have hes2l : es2.length = es.length := by rw [hes2, List.length_set]
    have hkv : kvsE es2 = kvsE es := by
      rw [hes2]
      unfold kvsE
      rw [List.map_set]
      refine List.ext_getElem? fun x => ?_
      rw [List.getElem?_set]
      by_cases z : m = x
      · subst z
        rw [if_pos rfl, if_pos (by rw [List.length_map]; exact hml), List.getElem?_map, hm]; rfl
      · rw [if_neg z]
    have hM2 : ((pp, HO.lst acc) :: (pl, HO.dT (kvsE es)) :: (celE es ++ M.set n (p, pool c2 s2))).set (m + 2) (e.b, .lst ((natsV e.l).eraseIdx rn)) = (pp, HO.lst acc) :: (pl, HO.dT (kvsE es2)) :: (celE es2 ++ M.set n (p, pool c2 s2)) := by
      show (pp, HO.lst acc) :: (pl, HO.dT (kvsE es)) :: (celE es ++ M.set n (p, pool c2 s2)).set m (e.b, .lst ((natsV e.l).eraseIdx rn)) = _
      rw [natsV_erase, celE_set (e := e) (k := e.k) hml, ← hes2, hkv]
    rw [hM2]
    refine ⟨G', _, Wk.refl, ?_⟩
    -- the end of a turn
    have fin : ∀ (G2 : Hp) (u : V) (turn : Option (List Nat)) (c' s' : Int), Ex G' G2 → G2 pp = none → PpG K G2 u ⟨j, turn⟩ → PpOk ks k ⟨j, turn⟩ → PoolOk s' → ∃ G3 M3, Wk G2 ((pp, HO.lst (acc ++ [u])) :: (pl, HO.dT (kvsE es2)) :: (celE es2 ++ M.set n (p, pool c' s'))) G3 M3 ∧ ∃ (acc : List V) (ps : List Pp) (es : List En) (c s : Int) (y3' y5' y6' : Option V), [some (V.ref p), some (.ref a), some (.ref pl), y3, some (.ref pp), some (.ref T), some (.int (j : Nat))] = [some (.ref p), some (.ref a), some (.ref pl), y3', some (.ref pp), y5', y6'] ∧ Ex G G3 ∧ G3 pp = none ∧ M3 = (pp, .lst acc) :: (pl, .dT (kvsE es)) :: (celE es ++ M.set n (p, pool c s)) ∧ PoolOk s ∧ A2 (PpG K G3) acc ps ∧ A2 (PpOk ks) (ks.take (i + 1)) ps ∧ (ps.map (·.src)).Nodup ∧ (es.map (·.k)).Nodup ∧ (∀ e, e ∈ es → EnOk ks (i + 1) (ps.map (·.src)) e) ∧ (∀ k, k ∈ ks → ∃ e, e ∈ es ∧ e.k = k) := fun G2 u turn c' s' ex2 gp2 hu2 hpo hs' => by
      have hkeys : es2.map (·.k) = es.map (·.k) := by
        rw [hes2, List.map_set]
        refine List.ext_getElem? fun x => ?_
        rw [List.getElem?_set]
        by_cases z : m = x
        · subst z
          rw [if_pos rfl, if_pos (by rw [List.length_map]; exact hml), List.getElem?_map, hm]; rfl
        · rw [if_neg z]
      refine ⟨G2, _, Wk.refl, acc ++ [u], ps ++ [⟨j, turn⟩], es2, c', s', _, _, _, rfl, ex.trans ex2, gp2, rfl, hs', (hacc.mono fun _ _ z => z.ex ex2).app (.cons hu2 .nil), ?_, ?_, by rw [hkeys]; exact hnd, fun x hx => ?_, fun k' hk' => ?_⟩
      · rw [take_succ' hki]; exact hok.app (.cons hpo .nil)
      · rw [List.map_append, List.nodup_append]
        refine ⟨hsn, List.nodup_cons.mpr ⟨fun z => (nomatch z), List.nodup_nil⟩, fun x hx y hy z => ?_⟩
        rw [List.mem_singleton.mp (show y ∈ [j] from hy)] at z
        rw [z] at hx; exact g2 hx
      · obtain ⟨x', hx'⟩ := List.getElem?_of_mem hx
        rw [hes2, List.getElem?_set] at hx'
        by_cases z : m = x'
        · subst z
          rw [if_pos rfl, if_pos hml] at hx'
          cases hx'
          refine ⟨List.Nodup.sublist (List.eraseIdx_sublist _ _) e1, fun y hy => ?_, ?_⟩
          · obtain ⟨h1, h2⟩ := erase_mem e1 hj hy
            obtain ⟨h3, h4⟩ := e2 y h1
            refine ⟨h3, fun hz => ?_⟩
            rw [List.map_append] at hz
            rcases List.mem_append.mp hz with hz | hz
            · exact h4 hz
            · exact h2 (List.mem_singleton.mp hz)
          · show (e.l.eraseIdx rn).length = _
            rw [List.length_eraseIdx, if_pos hrl, hlen]; rfl
        · rw [if_neg z] at hx'
          have hxm := List.mem_of_getElem? hx'
          obtain ⟨f1, f2, f3⟩ := hen x hxm
          have hne : x.k ≠ k := fun z2 => by
            have m1 : (es.map (·.k))[m]? = some k := by rw [List.getElem?_map, hm, ← hek]; rfl
            have m2 : (es.map (·.k))[x']? = some k := by rw [List.getElem?_map, hx', ← z2]; rfl
            obtain ⟨l1, q1⟩ := List.getElem?_eq_some_iff.mp m1
            obtain ⟨l2, q2⟩ := List.getElem?_eq_some_iff.mp m2
            exact z ((List.getElem_inj hnd).mp (q1.trans q2.symm))
          refine ⟨f1, fun y hy => ?_, ?_⟩
          · obtain ⟨h3, h4⟩ := f2 y hy
            refine ⟨h3, fun hz => ?_⟩
            rw [List.map_append] at hz
            rcases List.mem_append.mp hz with hz | hz
            · exact h4 hz
            · have : y = j := List.mem_singleton.mp hz
              subst this
              rw [g1] at h3
              injection h3 with h3
              exact hne (h3.symm.trans hek)
          · rw [f3, hdrop, List.filter_cons_of_neg (p := fun y => kEq y x.k) (fun z2 => hne (kEq_iff.mp z2).symm)]
      · have : k' ∈ es2.map (·.k) := by
          rw [hkeys]
          obtain ⟨x, hx, e4⟩ := hc k' hk'
          exact List.mem_map.mpr ⟨x, hx, e4⟩
        obtain ⟨x, hx, e4⟩ := List.mem_map.mp this
        exact ⟨x, hx, e4⟩
    have kk := hkn k hkm
    have hks : ks[j]? = some k := by rw [g1, hek]
    have haccl : acc.length < sizeLine := Nat.lt_of_le_of_lt (show acc.length ≤ 100 by omega) (by decide)
    cases hlf : k.leaf with
    | true =>
      refine ⟨tyl_n (n := 0) rfl, sz2, fun x fx => ⟨[.str k.txt, .int k.n], .str k.txt, .inr (sqt_of hT'), atI_nat (j := 0) rfl, [.non, .int 0], .non, lst_n (n := 0) rfl, by rw [txt_shuf0, hlf]; rfl, sz2, fun P fP => ⟨1, acc, rfl, haccl, ?_⟩⟩⟩
      have ex2 := Ex.new (o := .tup [.int (j : Int), .non]) fP
      have hPp : pp ≠ P := fP.2 (pp, .lst acc) (List.mem_cons_of_mem _ List.mem_cons_self)
      refine ⟨_, _, Wk.drop0, [.str k.txt, .int k.n], .str k.txt, .inr (sqt_of (ex2 _ _ hT')), atI_nat (j := 0) rfl, ?_⟩
      show if decide (V.str k.txt = .str "shuffle") = true then _ else _
      rw [txt_shuf0, hlf]
      obtain ⟨G3, M3, h1, h2⟩ := fin _ (.ref P) none c2 s2 ex2 (by rw [upd_ne hPp]; exact gp) ⟨P, .non, rfl, sqt_new, rfl⟩ ⟨hks, fun _ => rfl, fun z => by rw [hlf] at z; cases z⟩ hs2
      exact ⟨G3, M3, h1, h2⟩
    | false =>
      have k1 := kk.2.2 hlf
      refine ⟨tyl_n (n := 0) rfl, sz2, fun x fx => ⟨[.str k.txt, .int k.n], .str k.txt, .inr (sqt_of hT'), atI_nat (j := 0) rfl, [.non, .int 0], .int 0, lst_n (n := 0) rfl, by rw [txt_shuf0, hlf]; rfl, sz2, fun P0 fP0 => ⟨1, acc, rfl, haccl, ?_⟩⟩⟩
      have ex1 := Ex.new (o := .tup [.int (j : Int), .int 0]) fP0
      have hP0 : pp ≠ P0 := fP0.2 (pp, .lst acc) (List.mem_cons_of_mem _ List.mem_cons_self)
      refine ⟨_, _, Wk.drop0, [.str k.txt, .int k.n], .str k.txt, .inr (sqt_of (ex1 _ _ hT')), atI_nat (j := 0) rfl, ?_⟩
      show if decide (V.str k.txt = .str "shuffle") = true then _ else _
      rw [txt_shuf0, hlf]
      refine ⟨_, (pp, HO.lst (acc ++ [.ref P0])) :: (pl, HO.dT (kvsE es2)) :: (celE es2 ++ M.set n (p, pool c2 s2)), Wk.refl, [.str k.txt, .int k.n], .int k.n, .inr (sqt_of (ex1 _ _ hT')), atI_nat (j := 1) rfl, p, es.length + n + 2, c2, s2, k.n, rfl, rfl, kk.1, hpool hes2l, hs2, fun t lt c3 s3 hlt hs3 ft => ?_⟩
      rw [hpset hes2l]
      refine ⟨sz2, fun P fP => ⟨1, acc ++ [.ref P0], acc.length, rfl, by rw [List.length_append]; exact ixN_m1', ?_⟩⟩
      have ex2 := Ex.new (o := .tup [.int (j : Int), .ref t]) fP
      have hPt : t ≠ P := fP.2 (t, .lst (natsV lt)) List.mem_cons_self
      have hPp : pp ≠ P := fP.2 (pp, .lst (acc ++ [.ref P0])) (List.mem_cons_of_mem _ List.mem_cons_self)
      have htp : pp ≠ t := ft.2 (pp, .lst (acc ++ [.ref P0])) List.mem_cons_self
      have gt : (upd (upd G' P0 (.tup [.int (j : Int), .int 0])) P (.tup [.int (j : Int), .ref t])) t = none := by rw [upd_ne hPt]; exact ft.1
      have ex3 := Ex.new' (o := .lst (natsV lt)) gt
      obtain ⟨G3, M3, h1, h2⟩ := fin (upd (upd (upd G' P0 (.tup [.int (j : Int), .int 0])) P (.tup [.int (j : Int), .ref t])) t (.lst (natsV lt))) (.ref P) (some lt) c3 s3 (ex1.trans (ex2.trans ex3)) (by rw [upd_ne htp, upd_ne hPp, upd_ne hP0]; exact gp) ⟨P, .ref t, rfl, ex_t ex3 sqt_new, t, rfl, upd_same⟩ ⟨hks, fun z => (by rw [hlf] at z; cases z), fun _ => ⟨lt, rfl, hlt⟩⟩ hs3
      refine ⟨G3, M3, ?_, h2⟩
      have e1 : (acc ++ [V.ref P0]).set acc.length (.ref P) = acc ++ [.ref P] := by rw [List.set_append_right _ _ (Nat.le_refl _), Nat.sub_self]; rfl
      show Wk _ ((t, HO.lst (natsV lt)) :: (pp, HO.lst ((acc ++ [V.ref P0]).set acc.length (.ref P))) :: (pl, HO.dT (kvsE es2)) :: (celE es2 ++ M.set n (p, pool c3 s3))) G3 M3
      rw [e1]
      exact Wk.frz0.trans h1
  · rintro σ G' M' ⟨acc, ps, es, c1, s1, y3, y5, y6, rfl, ex, gp, rfl, hs1, hacc, hok, hsn, hnd, hen, hc⟩
    have hok : A2 (PpOk ks) (ks.take us.length) ps := hok
    rw [hul, List.take_length] at hok
    have ex2 := Ex.new' (o := .lst acc) gp
    refine ⟨G', _, Wk.refl, retW (M' := M.set n (p, pool c1 s1)) ?_ (q pp ps c1 s1 _ (ex.trans ex2) ⟨acc, upd_same, hacc.mono fun _ _ z => z.ex ex2⟩ ⟨hok, hsn⟩ hs1)⟩
    exact Wk.frz0.trans (Wk.drop0.trans (Wk.dropP (celE es)))
end
section
variable {K : PySem.W.Frag} {vs : List V} {G : Hp} {M : Mem} {R : KR} {Z : KX}
theorem rp_wi {v : V} {d : XD} {lo hi : Int} (h : Rp K G [] v d) : withinV v lo hi = wiX d lo hi := by cases h <;> rfl
theorem rp_iv {v : V} {d : XD} (h : Rp K G [] v d) : intOf v = intX d := by cases h <;> rfl
theorem rp_ity {v : V} {d : XD} (h : Rp K G [] v d) : (d.ty == .int) = isIntV v := by cases h <;> rfl
theorem rp_items : ∀ {vs : List V} {ds : List XD}, RpA K G [] vs ds → ∀ x, x ∈ vs → ∃ d, d ∈ ds ∧ Rp K G [] x d
  | _, _, .nil, _, hx => nomatch hx
  | _, _, .cons a b, x, hx => by
    rcases List.mem_cons.mp hx with rfl | hx
    · exact ⟨_, List.mem_cons_self, a⟩
    · obtain ⟨d, h1, h2⟩ := rp_items b x hx
      exact ⟨d, List.mem_cons_of_mem _ h1, h2⟩
theorem rpa_iv : ∀ {vs : List V} {ds : List XD}, RpA K G [] vs ds → vs.map intOf = ds.map intX ∧ ∀ lo hi, vs.all (fun x => withinV x lo hi) = ds.all fun x => wiX x lo hi
  | _, _, .nil => ⟨rfl, fun _ _ => rfl⟩
  | _, _, .cons a b => by
    obtain ⟨h1, h2⟩ := rpa_iv b
    refine ⟨by rw [List.map_cons, List.map_cons, h1, rp_iv a], fun lo hi => ?_⟩
    rw [List.all_cons, List.all_cons, h2, rp_wi a]
theorem rpa_ord {vs : List V} {ds : List XD} (h : RpA K G [] vs ds) : orderB vs = ordX ds := by
  obtain ⟨h1, h2⟩ := rpa_iv h
  unfold orderB ordX
  rw [h.len, h1, h2]
theorem wi_true {d : XD} {lo hi : Int} (h : wiX d lo hi = true) : ∃ i, d = .int i ∧ lo ≤ i ∧ i ≤ hi := by
  cases d with
  | int i =>
    have h : (decide (lo ≤ i) && decide (i ≤ hi)) = true := h
    rw [Bool.and_eq_true] at h
    exact ⟨i, rfl, of_decide_eq_true h.1, of_decide_eq_true h.2⟩
  | _ => cases h
theorem knE_iff {a b : Kn} : knE a b = true ↔ a = b := by
  unfold knE
  rw [Bool.and_eq_true, decide_eq_true_eq, decide_eq_true_eq]
  constructor
  · rintro ⟨h1, h2⟩
    cases a; cases b
    cases h1; cases h2; rfl
  · rintro rfl; exact ⟨rfl, rfl⟩
theorem ints_of : ∀ {us : List V} {l : List XD}, RpA K G [] us l → (∀ x, x ∈ l → ∃ i : Int, x = .int i ∧ 0 ≤ i) → us = natsV (l.map fun x => (intX x).toNat)
  | _, _, .nil, _ => rfl
  | _, _, .cons (d := d) (ds := ds) a b, h => by
    obtain ⟨i, rfl, i0⟩ := h d List.mem_cons_self
    cases a
    have e := ints_of b fun x hx => h x (List.mem_cons_of_mem _ hx)
    show V.int i :: _ = .int ((i.toNat : Nat) : Int) :: natsV (ds.map fun x => (intX x).toNat)
    rw [show ((i.toNat : Nat) : Int) = i by omega, ← e]
/-- an order, written -/
theorem ordX_ok {l : List XD} {us : List V} (h : ordX l = true) (r : RpA K G [] us l) : OrdOk l.length (l.map fun x => (intX x).toNat) ∧ us = natsV (l.map fun x => (intX x).toNat) ∧ 1 ≤ l.length ∧ l.length ≤ 64 := by
  unfold ordX at h
  simp only [Bool.and_eq_true, decide_eq_true_eq] at h
  obtain ⟨⟨⟨h1, h2⟩, h3⟩, h4⟩ := h
  rw [List.all_eq_true] at h3
  have hi : ∀ x, x ∈ l → ∃ i : Int, x = .int i ∧ 0 ≤ i ∧ i ≤ (l.length : Int) - 1 := fun x hx => wi_true (h3 x hx)
  refine ⟨⟨List.length_map _, ?_, fun y hy => ?_⟩, ?_, h1, h2⟩
  · have e : l.map intX = (l.map fun x => (intX x).toNat).map fun n : Nat => (n : Int) := by
      rw [List.map_map]
      refine List.map_congr_left fun x hx => ?_
      obtain ⟨i, rfl, i0, _⟩ := hi x hx
      show i = ((i.toNat : Nat) : Int)
      omega
    rw [e] at h4
    exact (List.pairwise_map.mp h4).imp fun {a b} z w => z (by rw [w])
  · obtain ⟨x, hx, rfl⟩ := List.mem_map.mp hy
    obtain ⟨i, rfl, i0, i1⟩ := hi x hx
    show i.toNat < l.length
    omega
  · exact ints_of r fun x hx => by
      obtain ⟨i, h5, h6, _⟩ := hi x hx
      exact ⟨i, h5, h6⟩
theorem nonX_iff {v : V} {d : XD} (r : Rp K G [] v d) : nonX d = decide (v = .non) := by
  cases r with
  | non => rfl
  | bl b => exact (decide_eq_false (fun z => nomatch z)).symm
  | int b => exact (decide_eq_false (fun z => nomatch z)).symm
  | str b => exact (decide_eq_false (fun z => nomatch z)).symm
  | list _ _ => exact (decide_eq_false (fun z => nomatch z)).symm
  | tup _ _ => exact (decide_eq_false (fun z => nomatch z)).symm
  | dict _ => exact (decide_eq_false (fun z => nomatch z)).symm
theorem list_g {a : Addr} {vs : List V} (h : (a, HO.lst vs) ∈ ([] : Mem) ∨ G a = some (.lst vs)) : G a = some (.lst vs) := h.elim (fun z => nomatch z) id
theorem ordN_of {n : Nat} {v : V} {d : XD} (r : Rp K G [] v d) (hw : WX2 d) : OrdN K G M n v (ordLX n d) := by
  have ty := rp_ty r M
  cases r with
  | @list a vs ds ha hs =>
    obtain ⟨hl, _⟩ := hw
    refine .inr ⟨a, vs, rfl, .inr (sql_of (list_g ha)), by rw [hs.len]; exact hl, fun x hx => ?_, ?_⟩
    · obtain ⟨d, _, hd⟩ := rp_items hs x hx
      exact ⟨d.ty, rp_ty hd M, rp_ity hd⟩
    · show (ordX ds && decide (ds.length = n)) = _
      rw [rpa_ord hs, hs.len]
  | non => exact .inl ⟨_, ty, (fun z => nomatch z), rfl⟩
  | bl _ => exact .inl ⟨_, ty, (fun z => nomatch z), rfl⟩
  | int _ => exact .inl ⟨_, ty, (fun z => nomatch z), rfl⟩
  | str _ => exact .inl ⟨_, ty, (fun z => nomatch z), rfl⟩
  | tup _ _ => exact .inl ⟨_, ty, (fun z => nomatch z), rfl⟩
  | dict _ => exact .inl ⟨_, ty, (fun z => nomatch z), rfl⟩
theorem two_of {α : Type} : ∀ {l : List α}, l.length = 2 → ∃ a b, l = [a, b]
  | [a, b], _ => ⟨a, b, rfl⟩
theorem rpa_two {vs : List V} {u w : XD} (h : RpA K G [] vs [u, w]) : ∃ x y, vs = [x, y] ∧ Rp K G [] x u ∧ Rp K G [] y w := by
  cases h with
  | cons a b => cases b with
    | cons c d => cases d; exact ⟨_, _, rfl, a, c⟩
theorem partX_two {ks : List Kn} {k : Kn} {ds : List XD} (h : partX ks k (.tup ds) = true) : ∃ u w, ds = [u, w] := by
  rcases ds with _ | ⟨a, _ | ⟨b, _ | ⟨c, r⟩⟩⟩
  · cases h
  · cases h
  · exact ⟨a, b, rfl⟩
  · cases h
theorem partX_no {ks : List Kn} {k : Kn} {l : List XD} (h : l.length ≠ 2) : partX ks k (.tup l) = false := by
  rcases l with _ | ⟨a, _ | ⟨b, _ | ⟨c, r⟩⟩⟩
  · rfl
  · rfl
  · exact absurd rfl h
  · rfl
theorem partV_of {ks : List Kn} {k : Kn} {v : V} {d : XD} (r : Rp K G [] v d) (hp : PtX d) : PartV K G M ks k v (partX ks k d) := by
  have ty := rp_ty r M
  cases r with
  | @tup a vs ds hs hr =>
    obtain ⟨hl, hw⟩ := hp
    have hlen := hr.len
    refine .inr ⟨a, vs, rfl, hs, by omega, ?_⟩
    by_cases h2 : ds.length = 2
    · refine .inr ?_
      obtain ⟨u, w, rfl⟩ := two_of h2
      obtain ⟨x, y, rfl, hu, hw2⟩ := rpa_two hr
      · refine ⟨x, y, rfl, ⟨u.ty, rp_ty hu M, rp_ity hu⟩, ?_⟩
        rw [rp_wi hu]
        cases hc : wiX u 0 ((ks.length : Int) - 1) with
        | false => exact .inl ⟨rfl, by show (wiX u 0 ((ks.length : Int) - 1) && _) = false; rw [hc]; rfl⟩
        | true =>
          obtain ⟨i, rfl, i0, i1⟩ := wi_true hc
          cases hu
          have hk' : ks[i.toNat]? = some ks[i.toNat] := List.getElem?_eq_getElem (by omega)
          have e1 : partX ks k (.tup [.int i, w]) = (knE ks[i.toNat] k && turnX k w) := by
            show (wiX (.int i) 0 ((ks.length : Int) - 1) && (match ks[i.toNat]? with | some k' => knE k' k && turnX k w | none => false)) = _
            rw [hc, hk']; rfl
          rw [e1]
          refine .inr ⟨i.toNat, ks[i.toNat], by rw [show ((i.toNat : Nat) : Int) = i by omega], hk', ?_⟩
          by_cases hke : ks[i.toNat] = k
          · refine .inr ⟨hke, fun hl => ?_, fun hl => ?_⟩
            · rw [knE_iff.mpr hke, Bool.true_and]
              unfold turnX
              rw [if_pos hl, nonX_iff hw2]
            · rw [knE_iff.mpr hke, Bool.true_and]
              unfold turnX
              rw [if_neg (by rw [hl]; decide)]
              exact ordN_of hw2 (hw w (by simp))
          · refine .inl ⟨hke, ?_⟩
            cases hq : knE ks[i.toNat] k with
            | false => rfl
            | true => exact absurd (knE_iff.mp hq) hke
    · exact .inl ⟨by omega, partX_no h2⟩
  | non => exact .inl ⟨_, ty, (fun z => nomatch z), rfl⟩
  | bl _ => exact .inl ⟨_, ty, (fun z => nomatch z), rfl⟩
  | int _ => exact .inl ⟨_, ty, (fun z => nomatch z), rfl⟩
  | str _ => exact .inl ⟨_, ty, (fun z => nomatch z), rfl⟩
  | list _ _ => exact .inl ⟨_, ty, (fun z => nomatch z), rfl⟩
  | dict _ => exact .inl ⟨_, ty, (fun z => nomatch z), rfl⟩
/-- a part that is one -/
theorem partX_ok {ks : List Kn} {k : Kn} {v : V} {d : XD} (r : Rp K G [] v d) (h : partX ks k d = true) : PpM K G [] v (partP d) ∧ PpOk ks k (partP d) ∧ srcX d = ((partP d).src : Nat) := by
  cases r with
  | @tup a vs ds hs hr =>
    obtain ⟨u, w, rfl⟩ := partX_two h
    obtain ⟨x, y, rfl, hu, hw2⟩ := rpa_two hr
    · have h : (wiX u 0 ((ks.length : Int) - 1) && (match ks[(intX u).toNat]? with | some k' => knE k' k && turnX k w | none => false)) = true := h
      rw [Bool.and_eq_true] at h
      obtain ⟨h1, h2⟩ := h
      obtain ⟨i, rfl, i0, i1⟩ := wi_true h1
      cases hu
      have hk' : ks[i.toNat]? = some ks[i.toNat] := List.getElem?_eq_getElem (by omega)
      have h2 : (match ks[i.toNat]? with | some k' => knE k' k && turnX k w | none => false) = true := h2
      rw [hk'] at h2
      have h2 : (knE ks[i.toNat] k && turnX k w) = true := h2
      rw [Bool.and_eq_true] at h2
      obtain ⟨h2, h3⟩ := h2
      rw [knE_iff.mp h2] at hk'
      have ei : (i : Int) = ((i.toNat : Nat) : Int) := by omega
      unfold turnX at h3
      split at h3
      · rename_i hl
        cases w with
        | non =>
          cases hw2
          refine ⟨⟨a, .non, rfl, (by show SqT K G a [.int ((i.toNat : Nat) : Int), .non]; rw [← ei]; exact hs), rfl⟩, ⟨hk', fun _ => rfl, fun z => by rw [hl] at z; cases z⟩, ei⟩
        | _ => cases h3
      · rename_i hl
        cases w with
        | list l =>
          have h3 : (ordX l && decide (l.length = k.n)) = true := h3
          rw [Bool.and_eq_true, decide_eq_true_eq] at h3
          cases hw2 with
          | @list b us _ hb hr2 =>
            obtain ⟨o1, o2, o3, o4⟩ := ordX_ok h3.1 hr2
            refine ⟨⟨a, .ref b, rfl, (by show SqT K G a [.int ((i.toNat : Nat) : Int), .ref b]; rw [← ei]; exact hs), b, rfl, .inr (sql_of (by rw [← o2]; exact list_g hb))⟩, ⟨hk', fun z => absurd z hl, fun _ => ⟨_, rfl, by rw [← h3.2]; exact o1⟩⟩, ei⟩
        | _ => cases h3
  | _ => cases h
theorem parts_ok {ks : List Kn} : ∀ (ks' : List Kn) {vs : List V} {zs : List XD}, RpA K G [] vs zs → zs.length = ks'.length → (List.zipWith (partX ks) ks' zs).all id = true → A2 (PpM K G []) vs (zs.map partP) ∧ A2 (PpOk ks) ks' (zs.map partP) ∧ zs.map srcX = (zs.map partP).map fun p => ((p.src : Nat) : Int)
  | [], _, _, .nil, _, _ => ⟨.nil, .nil, rfl⟩
  | [], _, _, .cons _ _, hl, _ => nomatch hl
  | _ :: _, _, _, .nil, hl, _ => nomatch hl
  | k :: ks', _, _, .cons (d := d) (ds := ds) a b, hl, hall => by
    rw [List.zipWith_cons_cons, List.all_cons, Bool.and_eq_true] at hall
    obtain ⟨p1, p2, p3⟩ := partX_ok a hall.1
    obtain ⟨q1, q2, q3⟩ := parts_ok ks' b (by simpa using hl) hall.2
    exact ⟨.cons p1 q1, .cons p2 q2, by rw [List.map_cons, List.map_cons, List.map_cons, q3, p3]⟩
theorem ppm_srcs {f : XD → Pp} : ∀ {vs : List V} {zs : List XD}, A2 (PpM K G []) vs (zs.map f) → A2 (fun v (s : Nat) => ∃ T w, v = V.ref T ∧ SqT K G T [.int (s : Nat), w]) vs (zs.map fun z => (f z).src)
  | _, [], .nil => .nil
  | _, _ :: _, .cons ⟨T, w, p1, p2, _⟩ b => .cons ⟨T, w, p1, p2⟩ (ppm_srcs b)
theorem paper_ok {ks : List Kn} {v : V} {d : XD} (r : Rp K G [] v d) (h : paperX ks d = true) : ∃ p, v = .ref p ∧ PapM K G [] p (papP d) ∧ PapOk ks (papP d) := by
  cases r with
  | @list a vs zs ha hr =>
    have h : (decide (zs.length = ks.length) && (List.zipWith (partX ks) ks zs).all id && decide ((zs.map srcX).Nodup)) = true := h
    simp only [Bool.and_eq_true, decide_eq_true_eq] at h
    obtain ⟨⟨h1, h2⟩, h3⟩ := h
    obtain ⟨q1, q2, q3⟩ := parts_ok ks hr h1 h2
    refine ⟨a, rfl, ⟨vs, .inr (sql_of (list_g ha)), q1⟩, q2, ?_⟩
    rw [q3] at h3
    have h3 := List.pairwise_map.mp h3
    exact List.pairwise_map.mpr (h3.imp fun {x y} z w => z (by rw [w]))
  | _ => cases h
theorem zipW_get {α β γ : Type} {f : α → β → γ} : ∀ {as : List α} {bs : List β} {i : Nat} {c : γ}, (List.zipWith f as bs)[i]? = some c → ∃ a b, as[i]? = some a ∧ bs[i]? = some b ∧ c = f a b
  | [], _, _, _, h => by simp at h
  | _ :: _, [], _, _, h => by simp at h
  | a :: as, b :: bs, 0, c, h => by
    have h : f a b = c := by simpa using h
    exact ⟨a, b, rfl, rfl, h.symm⟩
  | a :: as, b :: bs, i + 1, c, h => by
    obtain ⟨x, y, h1, h2, h3⟩ := zipW_get (as := as) (bs := bs) (i := i) (by simpa using h)
    exact ⟨x, y, by simpa using h1, by simpa using h2, h3⟩
theorem rpa_at {vs : List V} {ds : List XD} {i : Nat} {v : V} {d : XD} (h : RpA K G [] vs ds) (h1 : vs[i]? = some v) (h2 : ds[i]? = some d) : Rp K G [] v d := by
  obtain ⟨v', d', e1, e2, e3⟩ := h.get (i := i) (List.getElem?_eq_some_iff.mp h1).1
  rw [h1] at e1; rw [h2] at e2
  cases e1; cases e2; exact e3
theorem paperV_of {ks : List Kn} {v : V} {d : XD} (r : Rp K G [] v d) (hp : PaX d) : PaperV K G M ks v (paperX ks d) := by
  have ty := rp_ty r M
  have r0 := r
  cases r with
  | @list a vs zs ha hr =>
    obtain ⟨hl, hz⟩ := hp
    have hlen := hr.len
    refine .inr ⟨a, vs, rfl, .inr (sql_of (list_g ha)), by omega, ?_⟩
    have e0 : paperX ks (.list zs) = (decide (zs.length = ks.length) && (List.zipWith (partX ks) ks zs).all id && decide ((zs.map srcX).Nodup)) := rfl
    by_cases hk : zs.length = ks.length
    · refine .inr ⟨List.zipWith (partX ks) ks zs, by omega, by rw [List.length_zipWith]; omega, fun i k v c h1 h2 h3 => ?_, ?_⟩
      · obtain ⟨k', d', g1, g2, rfl⟩ := zipW_get h3
        rw [h1] at g1
        cases g1
        exact partV_of (rpa_at hr h2 g2) (hz d' (List.mem_of_getElem? g2))
      · cases hb : (List.zipWith (partX ks) ks zs).all id with
        | false => exact .inl ⟨rfl, by rw [e0, hb, Bool.and_false, Bool.false_and]⟩
        | true =>
          obtain ⟨q1, _, q3⟩ := parts_ok ks hr hk hb
          have q1 := ppm_srcs q1
          have q3 : zs.map srcX = (zs.map fun z => (partP z).src).map fun n : Nat => (n : Int) := by rw [q3, List.map_map, List.map_map]; rfl
          refine .inr ⟨_, rfl, q1, ?_⟩
          rw [e0, hb, decide_eq_true hk, Bool.true_and, Bool.true_and, q3]
          refine decide_eq_decide.mpr ⟨fun h => ?_, fun h => ?_⟩
          · exact (List.pairwise_map.mp h).imp fun {a b} z (w : a = b) => z (by rw [w])
          · exact List.pairwise_map.mpr (h.imp fun {a b} z (w : ((a : Nat) : Int) = (b : Nat)) => z (by omega))
    · exact .inl ⟨by omega, by rw [e0, decide_eq_false hk]; rfl⟩
  | non => exact .inl ⟨_, ty, (fun z => nomatch z), rfl⟩
  | bl _ => exact .inl ⟨_, ty, (fun z => nomatch z), rfl⟩
  | int _ => exact .inl ⟨_, ty, (fun z => nomatch z), rfl⟩
  | str _ => exact .inl ⟨_, ty, (fun z => nomatch z), rfl⟩
  | tup _ _ => exact .inl ⟨_, ty, (fun z => nomatch z), rfl⟩
  | dict _ => exact .inl ⟨_, ty, (fun z => nomatch z), rfl⟩
end
section
variable {K : PySem.W.Frag} {vs : List V} {G : Hp} {M : Mem} {R : KR} {Z : KX}
/-! a law's look at turns and papers -/
mutual
theorem rp_dq : ∀ {v : V} {d : XD}, Rp K G [] v d → DqAt K G M v d.pd
  | _, _, .non => dqt_of dat_non
  | _, _, .bl b => dqt_of dat_bl
  | _, _, .int b => dqt_of dat_int
  | _, _, .str b => dqt_of dat_str
  | _, _, .list ha hs => dqt_lst (.inr (sql_of (ha.elim (fun z => nomatch z) id))) (rpa_dq hs)
  | _, _, .tup ha hs => dqt_tup ha (rpa_dq hs)
  | _, _, .dict ha => dqt_emp (.inr (ha.elim (fun z => nomatch z) id))
theorem rpa_dq : ∀ {vs : List V} {ds : List XD}, RpA K G [] vs ds → DqsAt K G M vs (XD.pds ds)
  | _, _, .nil => dqs_nil
  | _, _, .cons h hs => dqs_cons (rp_dq h) (rpa_dq hs)
end
theorem pds_map : ∀ ds : List XD, XD.pds ds = ds.map XD.pd
  | [] => rfl
  | d :: ds => by show d.pd :: XD.pds ds = _; rw [pds_map ds]; rfl
theorem it_dat {v : V} {d : XD} (r : Rp K G [] v d) (h : ItX d) : Dp K G v d.pd ∧ Shp 1 d.pd := by
  cases d with
  | int i => cases r; exact ⟨.int _, .int⟩
  | bl i => cases r; exact ⟨.bl _, .bl⟩
  | non => cases r; exact ⟨.non, .non⟩
  | str s => cases r; cases (show s = "0" from h); exact ⟨.str _, .str (by decide +kernel)⟩
  | list l =>
    cases (show l = [.int 0] from h)
    cases r with
    | list ha hs =>
      cases hs with
      | cons a b =>
        cases a
        cases b
        refine ⟨.lst (sql_of (list_g ha)) (.cons (.int _) .nil), .list fun d hd => ?_⟩
        rw [List.mem_singleton.mp hd]
        exact .int
  | _ => exact h.elim
theorem its_dat : ∀ {vs : List V} {ds : List XD}, RpA K G [] vs ds → (∀ x, x ∈ ds → ItX x) → DpAll K G vs (ds.map XD.pd)
  | _, _, .nil, _ => .nil
  | _, _, .cons a b, h => .cons (it_dat a (h _ List.mem_cons_self)).1 (its_dat b fun x hx => h x (List.mem_cons_of_mem _ hx))
theorem its_shp {n : Nat} {ds : List XD} (h : ∀ x, x ∈ ds → Shp 1 x.pd) : Shp 2 (.list (ds.map XD.pd)) := .list fun d hd => by
  obtain ⟨x, hx, rfl⟩ := List.mem_map.mp hd
  exact h x hx
theorem isint_ty {d : XD} : (d.ty == .int) = isIntX d := by cases d <;> rfl
theorem sorted_range {l : List Int} {n : Nat} (hl : l.length = n) {s : List Int} (hp : s.Perm l) (hs : s.Pairwise (· ≤ ·)) : (s = (List.range n).map fun i : Nat => (i : Int)) ↔ (l.Nodup ∧ ∀ x, x ∈ l → 0 ≤ x ∧ x ≤ (n : Int) - 1) := by
  constructor
  · rintro rfl
    refine ⟨hp.nodup_iff.mp (List.pairwise_map.mpr ((List.nodup_range (n := n)).imp fun {a b} z w => z (by omega))), fun x hx => ?_⟩
    obtain ⟨i, hi, rfl⟩ := List.mem_map.mp (hp.mem_iff.mpr hx)
    have := List.mem_range.mp hi
    omega
  · rintro ⟨h1, h2⟩
    obtain ⟨m, hm⟩ : ∃ m : List Nat, l = m.map fun i : Nat => (i : Int) := ⟨l.map Int.toNat, by
      rw [List.map_map]
      refine (List.map_id l).symm.trans (List.map_congr_left fun x hx => ?_)
      have := h2 x hx
      show x = ((x.toNat : Nat) : Int)
      omega⟩
    subst hm
    have hmn : m.Nodup := (List.pairwise_map.mp h1).imp fun {a b} z w => z (by rw [w])
    have hml : m.length = n := by rw [List.length_map] at hl; exact hl
    have ho : OrdOk n m := ⟨hml, hmn, fun x hx => by
      have := h2 x (List.mem_map.mpr ⟨x, hx, rfl⟩)
      omega⟩
    have hmp : m.Perm (List.range n) := (List.perm_ext_iff_of_nodup hmn List.nodup_range).mpr fun x => ⟨fun z => List.mem_range.mpr (ho.lt x z), fun z => ord_has ho x (List.mem_range.mp z)⟩
    refine List.Perm.eq_of_pairwise (fun a b _ _ h1 h2 => by omega) hs ?_ (hp.trans (hmp.map _))
    exact List.pairwise_map.mpr ((List.pairwise_lt_range (n := n)).imp fun {a b} z => by omega)
theorem ordLX_ints {l : List XD} {n : Nat} (h1 : 1 ≤ n) (h64 : n ≤ 64) (hl : l.length = n) (hi : ∀ x, x ∈ l → isIntX x = true) : ordLX n (.list l) = decide ((l.map intX).Nodup ∧ ∀ x, x ∈ l.map intX → 0 ≤ x ∧ x ≤ (n : Int) - 1) := by
  show (ordX l && decide (l.length = n)) = _
  unfold ordX
  rw [decide_eq_true hl, Bool.and_true, decide_eq_true (p := 1 ≤ l.length) (by omega), decide_eq_true (p := l.length ≤ 64) (by omega), Bool.true_and, Bool.true_and, hl]
  have ha : l.all (fun x => wiX x 0 ((n : Int) - 1)) = decide (∀ x, x ∈ l.map intX → 0 ≤ x ∧ x ≤ (n : Int) - 1) := by
    rw [Bool.eq_iff_iff, List.all_eq_true, decide_eq_true_eq]
    constructor
    · intro h x hx
      obtain ⟨y, hy, rfl⟩ := List.mem_map.mp hx
      obtain ⟨i, rfl, i0, i1⟩ := wi_true (h y hy)
      exact ⟨i0, i1⟩
    · intro h x hx
      have hxi := hi x hx
      cases x with
      | int i =>
        have := h i (List.mem_map.mpr ⟨_, hx, rfl⟩)
        show (decide (0 ≤ i) && decide (i ≤ (n : Int) - 1)) = true
        rw [decide_eq_true this.1, decide_eq_true this.2]; rfl
      | _ => cases hxi
  rw [ha, Bool.and_comm, Bool.eq_iff_iff, Bool.and_eq_true, decide_eq_true_eq, decide_eq_true_eq, decide_eq_true_eq]
theorem ordLX_odd {l : List XD} {n : Nat} (h : ∃ x, x ∈ l ∧ isIntX x = false) : ordLX n (.list l) = false := by
  obtain ⟨x, hx, hi⟩ := h
  show (ordX l && decide (l.length = n)) = false
  unfold ordX
  have : l.all (fun x => wiX x 0 ((l.length : Int) - 1)) = false := by
    rw [Bool.eq_false_iff]
    intro z
    rw [List.all_eq_true] at z
    obtain ⟨i, rfl, _⟩ := wi_true (z x hx)
    cases hi
  rw [this, Bool.and_false, Bool.false_and, Bool.false_and]
theorem ints_v : ∀ {vs : List V} {ds : List XD}, RpA K G [] vs ds → (∀ x, x ∈ ds → isIntX x = true) → vs = (ds.map intX).map V.int
  | _, _, .nil, _ => rfl
  | _, _, .cons (d := d) a b, h => by
    rw [List.map_cons, List.map_cons, ← ints_v b fun x hx => h x (List.mem_cons_of_mem _ hx)]
    have := h d List.mem_cons_self
    cases d with
    | int i => cases a; rfl
    | _ => cases this
theorem pf_law_is_turn (h : S_law_is_turn K vs G M R Z) : rd_law_is_turn K (ends R Z) (sta 3 vs) G M := by
  obtain ⟨_, v, rfl, T, k, d, rfl, hT, hk, hr, hw, q⟩ := sp2_of h
  clear h
  refine ⟨G, M, Wk.refl, _, _, tup_g hT, rfl, ?_⟩
  show if decide (V.str k.txt = .str "leaf") = true then _ else _
  rw [txt_leaf]
  refine ite2' (fun e => ?_) (fun e => ?_)
  · have e2 : turnX k d = decide (v = .non) := by unfold turnX; rw [if_pos e, nonX_iff hr]
    rw [e2] at q
    refine ⟨G, M, Wk.refl, ?_⟩
    have fin : ∀ b : Bool, b = decide (v = .non) → wkR R (.bl b) G M := fun b hb => by rw [hb]; exact ret0 q
    cases v <;> exact fin _ rfl
  have et : turnX k d = ordLX k.n d := by unfold turnX; rw [if_neg (by rw [e]; decide)]
  rw [et] at q
  have ty := rp_ty hr M
  have nl : (d.ty == .list) = false → ordLX k.n d = false := fun z => by cases d <;> first | rfl | cases z
  refine ⟨G, M, Wk.refl, .type d.ty.name, .type "list", _, .ty "list", ty, kit_pt d.ty .list, ite2' (c := !isaB d.ty .list) (fun e1 => ?_) (fun e1 => ?_)⟩
  · rw [nl (by revert e1; cases d.ty <;> decide)] at q
    exact ⟨G, M, Wk.refl, ret0 q⟩
  obtain ⟨l, rfl⟩ : ∃ l, d = .list l := by
    cases d with
    | list l => exact ⟨l, rfl⟩
    | _ => exact nomatch (show true = false from e1)
  cases hr with
  | @list a us _ ha hs =>
    obtain ⟨hl, hit⟩ := hw
    have hlen := hs.len
    have hA : LstAt K G M a us := .inr (sql_of (list_g ha))
    refine ⟨us, .inl hA, _, _, tup_g hT, rfl, ?_⟩
    refine ite2' (c := !decide (V.int (us.length : Int) = .int (k.n : Int))) (fun e2 => ?_) (fun e2 => ?_)
    · have hne : l.length ≠ k.n := fun z => by rw [hlen, z, decide_eq_true rfl] at e2; cases e2
      have : ordLX k.n (.list l) = false := by show (ordX l && decide (l.length = k.n)) = false; rw [decide_eq_false hne, Bool.and_false]
      rw [this] at q
      exact ⟨G, M, Wk.refl, ret0 q⟩
    have hln : l.length = k.n := by
      have : decide (V.int (us.length : Int) = .int (k.n : Int)) = true := by simpa using e2
      have := V.int.inj (of_decide_eq_true this)
      omega
    have k1 := hk.2.2 e
    have k64 := hk.1
    refine ⟨G, M, Wk.refl, us, hA, sz (by show us.length ≤ _; omega), fun i acc G' M' => G' = G ∧ M' = M ∧ RpA K G [] acc ((l.take i).filter fun x => !isIntX x), ⟨rfl, rfl, .nil⟩, ?_, ?_, ?_⟩
    · rintro i acc G' M' _ ⟨rfl, rfl, _⟩; exact hA
    · rintro i acc G' M' D hi hacc ⟨rfl, rfl, hf⟩ fD
      have hi : i < us.length := hi
      obtain ⟨x, dx, hx, hdx, hxd⟩ := hs.get hi
      refine asg_L hx ⟨rfl, dx.ty, rp_ty hxd _, ?_⟩
      rw [isint_ty]
      refine ite2' (c := !isIntX dx) (fun e3 => ?_) (fun e3 => ?_)
      · refine ⟨G', _, Wk.refl, rfl, rfl, ?_⟩
        rw [take_succ' hdx, List.filter_append]
        refine hf.app ?_
        rw [List.filter_cons_of_pos (by exact e3)]
        exact .cons hxd .nil
      · refine ⟨G', _, Wk.refl, rfl, rfl, ?_⟩
        rw [take_succ' hdx, List.filter_append, List.filter_cons_of_neg (by rw [e3]; decide), List.filter_nil, List.append_nil]
        exact hf
    · rintro acc G' M' b ⟨rfl, rfl, hf⟩ hacc fb
      have en : (srcL K a us).n = l.length := hlen
      rw [en, List.take_length] at hf
      refine ⟨sz0, fun b2 f2 => ?_⟩
      have hit2 : ∀ x, x ∈ l.filter (fun x => !isIntX x) → ItX x := fun x hx => hit x (List.mem_filter.mp hx).1
      refine ⟨.list ((l.filter fun x => !isIntX x).map XD.pd), .list [], dat_list (.inl (List.mem_cons_of_mem _ List.mem_cons_self)) (dats_g (its_dat hf hit2)), dat_list lat_0 dats_nil, (its_shp (n := 0) fun x hx => ?_).shaped (by decide), (shp_nats (n := 0) []).shaped (by decide), ?_⟩
      · obtain ⟨y, hy⟩ := List.getElem?_of_mem hx
        obtain ⟨w, dw, _, g2, g3⟩ := hf.get (i := y) (by rw [hf.len]; exact (List.getElem?_eq_some_iff.mp hy).1)
        rw [hy] at g2; cases g2
        exact (it_dat g3 (hit2 x hx)).2
      rw [eqvL_nil]
      have hE : ((l.filter fun x => !isIntX x).map XD.pd).isEmpty = (l.filter fun x => !isIntX x).isEmpty := by cases l.filter fun x => !isIntX x <;> rfl
      show if ((l.filter fun x => !isIntX x).map XD.pd).isEmpty = true then _ else _
      rw [hE]
      refine ite2' (fun e4 => ?_) (fun e4 => ?_)
      · have hint : ∀ x, x ∈ l → isIntX x = true := fun x hx => by
          cases hq : isIntX x with
          | true => rfl
          | false =>
            have : x ∈ l.filter fun x => !isIntX x := List.mem_filter.mpr ⟨hx, by rw [hq]; rfl⟩
            rw [List.isEmpty_iff.mp e4] at this; cases this
        have huv := ints_v hs hint
        refine ⟨l.map intX, .inr (by rw [← huv]; exact sql_of (list_g ha)), fun s b3 hp hsrt f3 => ⟨_, _, tup_g hT, rfl, RgOk.of_le (by omega) (by omega) (by omega) (by omega), fun b4 f4 => ?_⟩⟩
        rw [rgV_nats]
        have hsr := sorted_range (l := l.map intX) (n := k.n) (by rw [List.length_map]; exact hln) hp hsrt
        refine ⟨.list (s.map .int), .list ((((List.range k.n).map fun i : Nat => (i : Int))).map .int), dat_ints (.inl (List.mem_cons_of_mem _ List.mem_cons_self)), ?_, (shp_ints (n := 0) _).shaped (by decide), (shp_ints (n := 0) _).shaped (by decide), ?_⟩
        · refine dat_ints (.inl ?_)
          rw [natsV_ints]; exact List.mem_cons_self
        show wkR R (.bl (PyData.eqv _ _)) G' _
        rw [eqvL_ints]
        have : decide (s = (List.range k.n).map fun i : Nat => (i : Int)) = ordLX k.n (.list l) := by
          rw [ordLX_ints k1 k64 hln hint]
          exact decide_eq_decide.mpr hsr
        rw [this]
        exact retW (Wk.drop0.trans (Wk.drop0.trans (Wk.drop0.trans Wk.drop0))) q
      · have : ordLX k.n (.list l) = false := by
          refine ordLX_odd ?_
          cases hq : l.filter fun x => !isIntX x with
          | nil => rw [hq] at e4; cases e4
          | cons x r =>
            have : x ∈ l.filter fun x => !isIntX x := by rw [hq]; exact List.mem_cons_self
            obtain ⟨h1, h2⟩ := List.mem_filter.mp this
            exact ⟨x, h1, by simpa using h2⟩
        rw [this] at q
        exact retW (Wk.drop0.trans Wk.drop0) q
end
section
variable {K : PySem.W.Frag} {vs : List V} {G : Hp} {M : Mem} {R : KR} {Z : KX}
theorem partX_at {ks : List Kn} {k : Kn} {u w : XD} : partX ks k (.tup [u, w]) = (wiX u 0 ((ks.length : Int) - 1) && (match ks[(intX u).toNat]? with | some k' => knE k' k && turnX k w | none => false)) := rfl
theorem partX_nt {ks : List Kn} {k : Kn} {d : XD} (h : (d.ty == .tuple) = false) : partX ks k d = false := by
  cases d <;> first | rfl | cases h
theorem wiX_no {u : XD} {lo hi : Int} (h : isIntX u = false) : wiX u lo hi = false := by cases u <;> first | rfl | cases h
theorem isint_ex {u : XD} (h : isIntX u = true) : ∃ i, u = .int i := by
  cases u with
  | int i => exact ⟨i, rfl⟩
  | _ => cases h
theorem kn_dat {T : Addr} {k : Kn} (h : G T = some (.tup [.str k.txt, .int (k.n : Nat)])) : DatAt K G M (.ref T) (knD k) := dat_tup (sqt_of h) (dats_cons dat_str (dats_cons dat_int dats_nil))
/-- one part -/
theorem paper_b0 {a T sl : Addr} {x0 : V} {ks : List Kn} {k : Kn} {v : V} {d : XD} {ss : List V} {M0 : Mem} {D : Kd} (hk : KnF K G a ks) (hkn : ∀ k, k ∈ ks → KnOk k) (hkk : k ∈ ks) (hl : ks.length ≤ 6) (hT : G T = some (.tup [.str k.txt, .int (k.n : Nat)])) (r : Rp K G [] v d) (hp : PtX d) (hss : ss.length ≤ 100)
    (no : partX ks k d = false → D.rt (.bl false) G ((sl, .lst ss) :: M0)) (yes : partX ks k d = true → D.nx [some (.ref a), some x0, some (.ref sl), some (.ref T), some v] G ((sl, .lst (ss ++ [.int (srcX d)])) :: M0)) :
    rd_law_is_paper_b0 K D [some (.ref a), some x0, some (.ref sl), some (.ref T), some v] G ((sl, .lst ss) :: M0) := by
  have no' : partX ks k d = false → ∃ G' M', Wk G ((sl, HO.lst ss) :: M0) G' M' ∧ D.rt (.bl false) G' M' := fun h => ⟨G, _, Wk.refl, no h⟩
  refine ⟨G, _, Wk.refl, .type d.ty.name, .type "tuple", _, .ty "tuple", rp_ty r _, kit_pt d.ty .tuple, ite2' (c := !isaB d.ty .tuple) (fun e => no' (partX_nt (by revert e; cases d.ty <;> decide))) (fun e => ?_)⟩
  obtain ⟨xs, rfl⟩ : ∃ xs, d = .tup xs := by
    cases d with
    | tup xs => exact ⟨xs, rfl⟩
    | _ => exact nomatch (show true = false from e)
  cases r with
  | @tup t us _ hs hr =>
    have hlen := hr.len
    refine ⟨us, tup_g hs, ite2' (c := !decide (V.int (us.length : Int) = .int 2)) (fun e2 => no' (partX_no fun z => ?_)) (fun e2 => ?_)⟩
    · rw [hlen, z] at e2; exact absurd e2 (by decide)
    have h2 : xs.length = 2 := by
      have : decide (V.int (us.length : Int) = .int 2) = true := by simpa using e2
      have := V.int.inj (of_decide_eq_true this)
      omega
    obtain ⟨u, w, rfl⟩ := two_of h2
    obtain ⟨x, y, rfl, hu, hw⟩ := rpa_two hr
    have hwx : WX2 w := hp.2 w (by simp)
    refine ⟨_, x, tup_g hs, rfl, u.ty, rp_ty hu _, ?_⟩
    rw [isint_ty]
    refine ite2' (c := !isIntX u) (fun e3 => no' ?_) (fun e3 => ?_)
    · rw [partX_at, wiX_no (by simpa using e3)]; rfl
    obtain ⟨i, rfl⟩ := isint_ex (u := u) (by simpa using e3)
    cases hu
    have hku := hk
    obtain ⟨uk, huk, hA⟩ := hku
    have hul := hA.len
    refine ⟨G, _, Wk.refl, _, .int i, tup_g hs, rfl, ite2' (c := decide (0 ≤ i)) (fun e4 => ?_) (fun e4 => ?_)⟩
    · refine ⟨uk, .inl (.inr huk), ite2' (c := !decide (i < (uk.length : Int))) (fun e5 => no' ?_) (fun e5 => ?_)⟩
      · have e4 := of_decide_eq_true e4
        have : ¬ i < (uk.length : Int) := fun z => by rw [decide_eq_true z] at e5; cases e5
        rw [partX_at, show wiX (.int i) 0 ((ks.length : Int) - 1) = false from by
          show (decide (0 ≤ i) && decide (i ≤ (ks.length : Int) - 1)) = false
          rw [decide_eq_false (p := i ≤ (ks.length : Int) - 1) (by omega), Bool.and_false]]; rfl
      have e4 := of_decide_eq_true e4
      have e5 : i < (uk.length : Int) := by
        have : decide (i < (uk.length : Int)) = true := by simpa using e5
        exact of_decide_eq_true this
      obtain ⟨j, rfl⟩ := Int.eq_ofNat_of_zero_le e4
      have hj : ks[j]? = some ks[j] := List.getElem?_eq_getElem (by omega)
      obtain ⟨us2, T2, hu2, hv2, hT2, _⟩ := knF_get hk hj
      have hwi : wiX (.int (j : Nat)) 0 ((ks.length : Int) - 1) = true := by
        show (decide (0 ≤ (j : Int)) && decide ((j : Int) ≤ (ks.length : Int) - 1)) = true
        rw [decide_eq_true (by omega), decide_eq_true (by omega)]; rfl
      have epart : partX ks k (.tup [.int (j : Nat), w]) = (knE ks[j] k && turnX k w) := by
        rw [partX_at, hwi, Bool.true_and]
        show (match ks[j]? with | some k' => knE k' k && turnX k w | none => false) = _
        rw [hj]
      refine ⟨_, .int (j : Nat), tup_g hs, rfl, us2, .ref T2, .inl (.inr hu2), atI_nat hv2, knD ks[j], knD k, kn_dat hT2, kn_dat hT, (shp_kn _).shaped (by decide), (shp_kn _).shaped (by decide), ?_⟩
      show if (!PyData.eqv (knD ks[j]) (knD k)) = true then _ else _
      by_cases hke : ks[j] = k
      · rw [hke, eqv_kn_refl]
        rw [knE_iff.mpr hke, Bool.true_and] at epart
        refine ⟨_, y, tup_g hs, rfl, T, k, w, rfl, sqt_of hT, hkn k hkk, hw, hwx, ite2' (c := !turnX k w) (fun e6 => no' ?_) (fun e6 => ?_)⟩
        · rw [epart]; simpa using e6
        · refine ⟨G, _, Wk.refl, tyl_n (n := 0) rfl, _, .int (j : Nat), tup_g hs, rfl, 0, ss, rfl, Nat.lt_of_le_of_lt hss (by decide), ?_⟩
          exact yes (by rw [epart]; simpa using e6)
      · rw [eqv_kn_ne hke]
        refine no' ?_
        rw [epart, show knE ks[j] k = false from by
          cases hq : knE ks[j] k with
          | false => rfl
          | true => exact absurd (knE_iff.mp hq) hke]; rfl
    · refine no' ?_
      have e4 := of_decide_eq_false e4
      rw [partX_at, show wiX (.int i) 0 ((ks.length : Int) - 1) = false from by
        show (decide (0 ≤ i) && decide (i ≤ (ks.length : Int) - 1)) = false
        rw [decide_eq_false (p := 0 ≤ i) (by omega), Bool.false_and]]; rfl
end
section
variable {K : PySem.W.Frag} {vs : List V} {G : Hp} {M : Mem} {R : KR} {Z : KX}
theorem paperX_nl {ks : List Kn} {d : XD} (h : (d.ty == .list) = false) : paperX ks d = false := by
  cases d <;> first | rfl | cases h
theorem paperX_at {ks : List Kn} {zs : List XD} : paperX ks (.list zs) = (decide (zs.length = ks.length) && (List.zipWith (partX ks) ks zs).all id && decide ((zs.map srcX).Nodup)) := rfl
theorem zw_mem {α β γ : Type} {f : α → β → γ} {as : List α} {bs : List β} {i : Nat} {a : α} {b : β} (h1 : as[i]? = some a) (h2 : bs[i]? = some b) : f a b ∈ List.zipWith f as bs := by
  refine List.mem_of_getElem? (i := i) ?_
  rw [List.getElem?_zipWith, h1, h2]
theorem paperX_no {ks : List Kn} {zs : List XD} {i : Nat} {k : Kn} {z : XD} (hk : ks[i]? = some k) (hz : zs[i]? = some z) (h : partX ks k z = false) : paperX ks (.list zs) = false := by
  rw [paperX_at]
  have : (List.zipWith (partX ks) ks zs).all id = false := by
    rw [Bool.eq_false_iff]
    intro e
    rw [List.all_eq_true] at e
    have := e (partX ks k z) (zw_mem hk hz)
    rw [h] at this; cases this
  rw [this, Bool.and_false, Bool.false_and]
theorem pf_law_is_paper (h : S_law_is_paper K vs G M R Z) : rd_law_is_paper K (ends R Z) (sta 5 vs) G M := by
  obtain ⟨_, v, rfl, a, ks, d, rfl, hk, hkn, hkl, r, hp, q⟩ := sp2_of h
  clear h
  have ty := rp_ty r M
  refine ⟨G, M, Wk.refl, .type d.ty.name, .type "list", _, .ty "list", ty, kit_pt d.ty .list, ite2' (c := !isaB d.ty .list) (fun e1 => ?_) (fun e1 => ?_)⟩
  · rw [paperX_nl (by revert e1; cases d.ty <;> decide)] at q
    exact ⟨G, M, Wk.refl, ret0 q⟩
  obtain ⟨zs, rfl⟩ : ∃ l, d = .list l := by
    cases d with
    | list l => exact ⟨l, rfl⟩
    | _ => exact nomatch (show true = false from e1)
  cases r with
  | @list z us _ ha hr =>
    obtain ⟨hl, hz⟩ := hp
    have hlen := hr.len
    have hk0 := hk
    obtain ⟨uk, huk, hA⟩ := hk0
    have hul := hA.len
    have hZ : SqL K G z us := sql_of (list_g ha)
    refine ⟨us, .inl (.inr hZ), uk, .inl (.inr huk), ?_⟩
    show if (!decide (V.int (us.length : Int) = .int (uk.length : Int))) = true then _ else _
    rw [int_dec, hlen, hul]
    refine ite2' (fun e => ?_) (fun e => ?_)
    · have e : decide (zs.length = ks.length) = false := by
        cases z : decide (zs.length = ks.length) with
        | false => rfl
        | true => rw [z] at e; cases e
      rw [paperX_at, e, Bool.false_and, Bool.false_and] at q
      exact ⟨G, M, Wk.refl, ret0 q⟩
    have hzk : zs.length = ks.length := by
      cases z : decide (zs.length = ks.length) with
      | true => exact of_decide_eq_true z
      | false => rw [z] at e; cases e
    refine ⟨G, M, Wk.refl, sz0, fun sl fsl => ?_⟩
    refine ⟨G, _, Wk.refl, uk, us, .inr huk, .inr hZ, fun i σ G' M' => ∃ y3 y4 : Option V, σ = [some (.ref a), some (.ref z), some (.ref sl), y3, y4] ∧ G' = G ∧ M' = (sl, .lst (((zs.take i).map srcX).map V.int)) :: M ∧ ∀ j k x, j < i → ks[j]? = some k → zs[j]? = some x → partX ks k x = true, ⟨none, none, rfl, rfl, rfl, fun _ _ _ h => absurd h (Nat.not_lt_zero _)⟩, ?_, ?_, ?_⟩
    · rintro i σ G' M' _ ⟨y3, y4, rfl, rfl, rfl, _⟩; exact ⟨.inr huk, .inr hZ⟩
    · rintro i σ G' M' hi ⟨y3, y4, rfl, hG, rfl, hall⟩
      subst hG
      have hi : i < min uk.length us.length := hi
      obtain ⟨k, hki⟩ : ∃ k, ks[i]? = some k := ⟨_, List.getElem?_eq_getElem (by omega)⟩
      obtain ⟨v0, hv, T, rfl, hT⟩ := hA.get hki
      obtain ⟨x, dx, hx, hdx, hxd⟩ := hr.get (i := i) (by omega)
      refine asg_Z hv hx (paper_b0 (x0 := .ref z) hk hkn (List.mem_of_getElem? hki) hkl hT hxd (hz dx (List.mem_of_getElem? hdx)) (by rw [List.length_map, List.length_map, List.length_take]; omega) (fun e => retW Wk.drop0 (by rw [← paperX_no hki hdx e]; exact q)) (fun e => ⟨G', _, Wk.refl, some (.ref T), some x, rfl, rfl, ?_, fun j k' x' hj h1 h2 => ?_⟩))
      · rw [take_succ' hdx, List.map_append, List.map_append]; rfl
      · by_cases ej : j = i
        · subst ej
          rw [hki] at h1; rw [hdx] at h2
          cases h1; cases h2; exact e
        · exact hall j k' x' (by omega) h1 h2
    · rintro σ G' M' ⟨y3, y4, rfl, hG, hM, hall⟩
      subst hG
      have en : (srcZ K a z uk us).n = zs.length := by show min uk.length us.length = _; omega
      rw [en, List.take_length] at hM
      rw [en] at hall
      subst hM
      have ball : (List.zipWith (partX ks) ks zs).all id = true := List.all_eq_true.mpr fun c hc => by
        obtain ⟨j, hj⟩ := List.getElem?_of_mem hc
        obtain ⟨k', x', g1, g2, rfl⟩ := zipW_get hj
        exact hall j k' x' (List.getElem?_eq_some_iff.mp g2).1 g1 g2
      rw [paperX_at, ball, decide_eq_true hzk, Bool.true_and, Bool.true_and] at q
      refine ⟨G', _, Wk.refl, zs.map srcX, lat_0, by rw [List.length_map]; omega, fun m m1 m2 => ⟨_, .inl lat_0, ?_⟩⟩
      show wkR R (.bl (decide (V.int (m : Int) = .int ((((zs.map srcX).map V.int).length : Nat) : Int)))) G' _
      rw [int_dec, List.length_map, decide_eq_decide.mpr m2]
      exact retW Wk.drop0 q
/-! signs as they are led -/
theorem ledS_ok {ks : List Kn} {ps : List Pp} {g : Sg} (h : PapOk ks ps) (o : SgOk ks g) : SgOk ks (ledS ps g) ∧ ledB ps g (ledS ps g) = true := by
  have hord := srcs_ord h
  have key : ∀ {d : Nat} {k : Kn}, ks[d]? = some k → ∃ pp, ks[(ps.map (·.src)).idxOf d]? = some k ∧ ps.getD ((ps.map (·.src)).idxOf d) ⟨0, none⟩ = pp ∧ pp.src = d ∧ (k.leaf = false → ∃ l, pp.turn = some l ∧ OrdOk k.n l) := fun {d k} hk => by
    have hdl : d < ps.length := by have := (List.getElem?_eq_some_iff.mp hk).1; have := h.len; omega
    obtain ⟨i1, i2⟩ := getD_idx (ord_has hord d hdl)
    rw [List.length_map] at i1
    obtain ⟨kj, hkj⟩ : ∃ kj, ks[(ps.map (·.src)).idxOf d]? = some kj := ⟨_, List.getElem?_eq_getElem (by have := h.len; omega)⟩
    obtain ⟨pp, a1, a2, b1, b2, b3⟩ := h.at hkj
    rw [srcs_getD i1] at i2
    unfold srcOf at i2
    rw [a2] at i2
    rw [i2, hk] at b1
    have e : k = kj := by injection b1
    subst e
    exact ⟨pp, hkj, a2, i2, b3⟩
  cases g with
  | room b s r => exact ⟨trivial, by simp [ledS, ledB]⟩
  | item b s d i =>
    obtain ⟨n, hn, hi⟩ := o
    obtain ⟨pp, k1, k2, k3, k4⟩ := key hn
    obtain ⟨l, l1, l2⟩ := k4 rfl
    obtain ⟨g1, g2⟩ := getD_idx (ord_has l2 i hi)
    have ht : turnOf ps ((ps.map (·.src)).idxOf d) = l := by unfold turnOf; rw [k2, l1]; rfl
    refine ⟨⟨n, k1, ?_⟩, ?_⟩
    · rw [ht]; have := l2.len; show l.idxOf i < n; have hn2 : l.length = n := l2.len; omega
    · show (decide (b = b) && (decide (s = s) && (decide (srcOf ps ((ps.map (·.src)).idxOf d) = d) && decide ((turnOf ps ((ps.map (·.src)).idxOf d)).getD ((turnOf ps ((ps.map (·.src)).idxOf d)).idxOf i) 0 = i)))) = true
      have hs : srcOf ps ((ps.map (·.src)).idxOf d) = d := by unfold srcOf; rw [k2]; exact k3
      rw [hs, ht, g2]; simp
  | way b s d p e =>
    obtain ⟨hh, hn, hp, he⟩ := o
    obtain ⟨pp, k1, k2, k3, k4⟩ := key hn
    have hs : srcOf ps ((ps.map (·.src)).idxOf d) = d := by unfold srcOf; rw [k2]; exact k3
    refine ⟨⟨hh, k1, hp, he⟩, ?_⟩
    show (decide (b = b) && (decide (s = s) && (decide (srcOf ps ((ps.map (·.src)).idxOf d) = d) && (decide (p = p) && decide (e = e))))) = true
    rw [hs]; simp
theorem src_back {ks : List Kn} {ps : List Pp} {d d' : Nat} (h : PapOk ks ps) (hd : d' < ps.length) (e : srcOf ps d' = d) : (ps.map (·.src)).idxOf d = d' := by
  have := idx_of_nodup h.nd (i := d') (by rw [List.length_map]; exact hd)
  rw [srcs_getD hd, e] at this
  exact this
theorem ledB_iff {ks : List Kn} {ps : List Pp} {g g' : Sg} (h : PapOk ks ps) (o : SgOk ks g) (o' : SgOk ks g') : ledB ps g g' = true ↔ ledS ps g = g' := by
  constructor
  · intro e
    have hpl := h.len
    cases g with
    | room b s r =>
      cases g' with
      | room b' s' r' =>
        simp only [ledB, Bool.and_eq_true, decide_eq_true_eq] at e
        obtain ⟨rfl, rfl, rfl⟩ := e; rfl
      | _ => cases e
    | item b s d i =>
      cases g' with
      | item b' s' d' i' =>
        simp only [ledB, Bool.and_eq_true, decide_eq_true_eq] at e
        obtain ⟨rfl, rfl, e1, e2⟩ := e
        obtain ⟨n, hn, hi⟩ := o'
        have hd : d' < ps.length := by have := (List.getElem?_eq_some_iff.mp hn).1; omega
        have eb := src_back h hd e1
        obtain ⟨pp, a1, a2, b1, b2, b3⟩ := h.at hn
        obtain ⟨l, l1, l2⟩ := b3 rfl
        have ht : turnOf ps d' = l := by unfold turnOf; rw [a2, l1]; rfl
        show Sg.item b s ((ps.map (·.src)).idxOf d) ((turnOf ps ((ps.map (·.src)).idxOf d)).idxOf i) = _
        rw [eb, ht]
        rw [ht] at e2
        have hll : l.length = n := l2.len
        have := idx_of_nodup l2.nd (i := i') (by omega)
        rw [e2] at this
        rw [this]
      | _ => cases e
    | way b s d p q =>
      cases g' with
      | way b' s' d' p' q' =>
        simp only [ledB, Bool.and_eq_true, decide_eq_true_eq] at e
        obtain ⟨rfl, rfl, e1, rfl, rfl⟩ := e
        obtain ⟨hh, hn, _⟩ := o'
        have hd : d' < ps.length := by have := (List.getElem?_eq_some_iff.mp hn).1; omega
        show Sg.way b s ((ps.map (·.src)).idxOf d) p q = _
        rw [src_back h hd e1]
      | _ => cases e
  · rintro rfl
    exact (ledS_ok h o).2
theorem leadB_dec {ks : List Kn} {ps : List Pp} (h : PapOk ks ps) : ∀ {one other : List Sg}, (∀ g, g ∈ one → SgOk ks g) → (∀ g, g ∈ other → SgOk ks g) → (leadB ps one other = true ↔ one.map (ledS ps) = other)
  | [], [], _, _ => ⟨fun _ => rfl, fun _ => rfl⟩
  | [], _ :: _, _, _ => ⟨fun z => (by cases z), fun z => (by cases z)⟩
  | _ :: _, [], _, _ => ⟨fun z => (by simp [leadB] at z), fun z => (by cases z)⟩
  | g :: one, g' :: other, o1, o2 => by
    have ih := leadB_dec h (one := one) (other := other) (fun x hx => o1 x (List.mem_cons_of_mem _ hx)) (fun x hx => o2 x (List.mem_cons_of_mem _ hx))
    have ig := ledB_iff h (o1 g List.mem_cons_self) (o2 g' List.mem_cons_self)
    rw [List.map_cons]
    constructor
    · intro e
      have e := leadB_iff.mp e
      cases e with
      | cons a b => rw [ig.mp a, ih.mp (leadB_iff.mpr b)]
    · intro e
      injection e with e1 e2
      exact leadB_iff.mpr (.cons (ig.mpr e1) (leadB_iff.mp (ih.mpr e2)))
/-- what the law's own look tells, and what is told -/
theorem due_lead {ks : List Kn} {ps : List Pp} {one other : List Sg} (h : PapOk ks ps) (o1 : ∀ g, g ∈ one → SgOk ks g) (o2 : ∀ g, g ∈ other → SgOk ks g) : leadB ps one other = (decide (one.length = other.length) && decide (one.map (ledS ps) = other)) := by
  rw [Bool.eq_iff_iff, Bool.and_eq_true, decide_eq_true_eq, decide_eq_true_eq, leadB_dec h o1 o2]
  constructor
  · intro e; exact ⟨by rw [← e, List.length_map], e⟩
  · exact fun e => e.2
theorem eqv_ss {a b : Str} : PyData.eqv (.str a) (.str b) = decide (a = b) := by
  show (a == b) = _
  by_cases e : a = b <;> simp [e]
theorem eqv_ni {a b : Nat} : PyData.eqv (.int (a : Int)) (.int (b : Int)) = decide (a = b) := by
  show ((a : Int) == (b : Int)) = _
  by_cases e : a = b
  · subst e; simp
  · rw [decide_eq_false e]
    exact beq_eq_false_iff_ne.mpr (by omega)
theorem deedS_iff {a b : Bool} : deedS a = deedS b ↔ a = b := by
  cases a <;> cases b <;> decide +kernel
theorem eqvA_cons {x y : PyData} {xs ys : List PyData} : PyData.eqvAll (x :: xs) (y :: ys) = (PyData.eqv x y && PyData.eqvAll xs ys) := rfl
theorem eqvA_nil : PyData.eqvAll [] [] = true := rfl
theorem eqvT {xs ys : List PyData} : PyData.eqv (.tuple xs) (.tuple ys) = PyData.eqvAll xs ys := rfl
theorem eqv_sg (a b : Sg) : PyData.eqv (sgD a) (sgD b) = decide (a = b) := by
  rw [Bool.eq_iff_iff, decide_eq_true_eq]
  have k1 : ¬ ("room" : Str) = "item" := by decide +kernel
  have k2 : ¬ ("room" : Str) = "way" := by decide +kernel
  have k3 : ¬ ("item" : Str) = "way" := by decide +kernel
  have k4 : ¬ ("item" : Str) = "room" := by decide +kernel
  have k5 : ¬ ("way" : Str) = "room" := by decide +kernel
  have k6 : ¬ ("way" : Str) = "item" := by decide +kernel
  cases a <;> cases b <;> simp only [sgD, eqvT, eqvA_cons, eqvA_nil, eqv_ss, eqv_ni, Bool.and_eq_true, decide_eq_true_eq, deedS_iff, k1, k2, k3, k4, k5, k6, false_and, true_and, and_true, reduceCtorEq, Sg.room.injEq, Sg.item.injEq, Sg.way.injEq]
theorem eqv_sgs : ∀ l m : List Sg, PyData.eqv (.list (l.map sgD)) (.list (m.map sgD)) = decide (l = m)
  | [], [] => rfl
  | [], _ :: _ => rfl
  | _ :: _, [] => rfl
  | a :: l, b :: m => by
    show (PyData.eqv (sgD a) (sgD b) && PyData.eqv (.list (l.map sgD)) (.list (m.map sgD))) = _
    rw [eqv_sg, eqv_sgs l m, Bool.eq_iff_iff, Bool.and_eq_true, decide_eq_true_eq, decide_eq_true_eq, decide_eq_true_eq, List.cons.injEq]
theorem pf_law_due (h : S_law_due K vs G M R Z) : rd_law_due K (ends R Z) (sta 5 vs) G M := by
  obtain ⟨_, _, _, w, rfl, a, o1, o2, ks, one, other, d, rfl, rfl, rfl, hk, hkn, hkl, h1, h2, l1, l2, ok1, hr, hp, q⟩ := sp4_of h
  clear h
  refine ⟨G, M, Wk.refl, a, ks, d, rfl, hk, hkn, hkl, hr, hp, ite2' (c := !paperX ks d) (fun e => ?_) (fun e => ?_)⟩
  · have e : paperX ks d = false := by simpa using e
    have := q G Ex.refl
    unfold dueB at this
    rw [e, Bool.false_and] at this
    exact ⟨G, M, Wk.refl, ret0 this⟩
  have e : paperX ks d = true := by simpa using e
  obtain ⟨p, rfl, hpm, hpo⟩ := paper_ok hr e
  obtain ⟨us1, hu1, hd1⟩ := h1
  obtain ⟨us2, hu2, hd2⟩ := h2
  have e1 := dpall_len hd1
  have e2 := dpall_len hd2
  rw [List.length_map] at e1 e2
  have q : ∀ G', Ex G G' → R (.bl (decide (one.length = other.length) && decide (one.map (ledS (papP d)) = other))) G' M := fun G' ex => by
    have := q G' ex
    unfold dueB at this
    rw [e, Bool.true_and] at this
    exact this
  refine ⟨us1, .inl (.inr hu1), us2, .inl (.inr hu2), ?_⟩
  show if (!decide (V.int (us1.length : Int) = .int (us2.length : Int))) = true then _ else _
  rw [int_dec, e1, e2]
  refine ite2' (fun e3 => ?_) (fun e3 => ?_)
  · have e3 : decide (one.length = other.length) = false := by
      cases z : decide (one.length = other.length) with
      | false => rfl
      | true => rw [z] at e3; cases e3
    have := q G Ex.refl
    rw [e3, Bool.false_and] at this
    exact ⟨G, M, Wk.refl, ret0 this⟩
  have e3 : decide (one.length = other.length) = true := by
    cases z : decide (one.length = other.length) with
    | true => rfl
    | false => rw [z] at e3; cases e3
  rw [e3, Bool.true_and] at q
  refine ⟨G, M, Wk.refl, us1, .inr hu1, sz (by show us1.length ≤ _; omega), fun i acc G' M' => Ex G G' ∧ M' = M ∧ DpAll K G' acc (((one.take i).map (ledS (papP d))).map sgD), ⟨Ex.refl, rfl, .nil⟩, ?_, ?_, ?_⟩
  · rintro i acc G' M' _ ⟨ex, rfl, _⟩; exact .inr (ex_l ex hu1)
  · rintro i acc G' M' X hi hacc ⟨ex, rfl, hdd⟩ fX
    have hi : i < us1.length := hi
    obtain ⟨g, hgi⟩ : ∃ g, one[i]? = some g := ⟨_, List.getElem?_eq_getElem (by omega)⟩
    obtain ⟨v, hv, hvd⟩ := dpall_get hd1 (i := i) (d := sgD g) (by rw [List.getElem?_map, hgi]; rfl)
    obtain ⟨T, rfl, hT⟩ := sg_inv hvd
    refine asg_L hv ⟨rfl, p, T, g, ks, papP d, rfl, rfl, (hpm.ex ex).any, hpo, ex_t ex hT, ok1 g (List.mem_of_getElem? hgi), by omega, fun T' G5 ex5 hT' => ?_⟩
    refine ⟨G5, _, Wk.refl, ex.trans ex5, rfl, ?_⟩
    rw [take_succ' hgi, List.map_append, List.map_append]
    exact dpall_snoc (ex_ds ex5 _ hdd) (dp_sg hT')
  · rintro us3 G5 M' o3 ⟨ex5, rfl, hd3⟩ hacc fo3
    have en : (srcL K o1 us1).n = one.length := e1
    rw [en, List.take_length] at hd3
    refine ⟨.list ((one.map (ledS (papP d))).map sgD), .list (other.map sgD), dat_list lat_0 (dats_g hd3), dat_list (.inr (ex_l ex5 hu2)) (dats_g (ex_ds ex5 _ hd2)), (shp_sgs _).shaped (by decide), (shp_sgs _).shaped (by decide), ?_⟩
    show wkR R (.bl (PyData.eqv _ _)) G5 _
    rw [eqv_sgs]
    exact retW Wk.drop0 (q G5 ex5)
end
section
variable {K : PySem.W.Frag} {vs : List V} {G : Hp} {M : Mem} {R : KR} {Z : KX}
/-! sizes of what is shown -/
theorem Shq.up {p p' w w' : Nat} {d : PyData} (h : Shq p w d) (hp : p ≤ p') (hw : w ≤ w') : Shq p' w' d := ⟨h.s, h.l, Nat.le_trans h.p hp, Nat.le_trans h.w hw⟩
theorem shq_int {i : Int} (h0 : 0 ≤ i) (h : i < 10 ^ 20) : Shq 0 70 (.int i) := by
  have a := sho_int h0 h
  refine ⟨a.s, ?_, a.p, a.w⟩
  show decide ((PyData.shown (.int i)).length ≤ 40) = true
  have := PyProof.Rows.toString_length_le h0 (k := 20) (by decide) h
  exact decide_eq_true (Nat.le_trans this (by decide))
theorem nat_sm {n : Nat} (h : n ≤ 999999999999999999) : Shq 0 70 (.int (n : Int)) := shq_int (by omega) (Int.lt_of_le_of_lt (b := 999999999999999999) (by omega) (by decide))
theorem neg_all : ∀ n : Nat, n < 65 → (PyData.int (-(n : Int))).showable = true ∧ (PyData.int (-(n : Int))).leavesShort 40 = true ∧ (PyData.int (-(n : Int))).depth ≤ 0 ∧ (PyData.int (-(n : Int))).weight ≤ 70 := by decide +kernel
theorem neg_sm {i : Int} (h0 : i ≤ 0) (h1 : -65 < i) : Shq 0 70 (.int i) := by
  obtain ⟨a, b, c, d⟩ := neg_all (-i).toNat (by omega)
  rw [show -(((-i).toNat : Nat) : Int) = i by omega] at a b c d
  exact ⟨a, b, c, d⟩
theorem int_sm {i : Int} (h0 : -65 < i) (h1 : i ≤ 999999999999999999) : Shq 0 70 (.int i) := by
  by_cases e : 0 ≤ i
  · exact shq_int e (Int.lt_of_le_of_lt h1 (by decide))
  · exact neg_sm (by omega) h0
theorem non_sm : Shq 0 70 .none := ⟨rfl, by decide +kernel, by decide +kernel, by decide +kernel⟩
theorem bl_sm (b : Bool) : Shq 0 70 (.bool b) := by cases b <;> exact ⟨rfl, by decide +kernel, by decide +kernel, by decide +kernel⟩
theorem zero_sm : Shq 0 70 (.str "0") := ⟨by decide +kernel, by decide +kernel, by decide +kernel, by decide +kernel⟩
theorem lead_sm : Shq 0 70 (.str "leading") := ⟨by decide +kernel, by decide +kernel, by decide +kernel, by decide +kernel⟩
theorem l0_sm : Shq 1 71 (.list [.int 0]) := ⟨by decide +kernel, by decide +kernel, by decide +kernel, by decide +kernel⟩
theorem t0_sm : Shq 1 71 (.tuple [.int 0]) := ⟨by decide +kernel, by decide +kernel, by decide +kernel, by decide +kernel⟩
theorem d0_sm : Shq 1 71 (.dict []) := ⟨by decide +kernel, by decide +kernel, by decide +kernel, by decide +kernel⟩
theorem shq_all {p w : Nat} : ∀ {ds : List PyData}, (∀ d, d ∈ ds → Shq p w d) → PyData.showableAll ds = true ∧ PyData.leavesShortAll 40 ds = true ∧ PyData.depthAll ds ≤ p ∧ PyData.weightAll ds ≤ ds.length * (w + 1)
  | [], _ => ⟨rfl, rfl, Nat.zero_le _, Nat.zero_le _⟩
  | d :: ds, h => by
    obtain ⟨a1, a3, a4, a5⟩ := shq_all fun x hx => h x (List.mem_cons_of_mem _ hx)
    have b := h d List.mem_cons_self
    refine ⟨?_, ?_, ?_, ?_⟩
    · show (d.showable && PyData.showableAll ds) = true
      rw [b.s, a1]; rfl
    · show (d.leavesShort 40 && PyData.leavesShortAll 40 ds) = true
      rw [b.l, a3]; rfl
    · show max d.depth (PyData.depthAll ds) ≤ p
      have := b.p; omega
    · show d.weight + 1 + PyData.weightAll ds ≤ (ds.length + 1) * (w + 1)
      have := b.w
      rw [Nat.succ_mul]; omega
theorem shq_list {p w n : Nat} {ds : List PyData} (h : ∀ d, d ∈ ds → Shq p w d) (hl : ds.length ≤ n) : Shq (p + 1) (n * (w + 1)) (.list ds) := by
  obtain ⟨a1, a3, a4, a5⟩ := shq_all h
  exact ⟨a1, a3, Nat.succ_le_succ a4, Nat.le_trans a5 (Nat.mul_le_mul_right _ hl)⟩
theorem shq_tup {p w n : Nat} {ds : List PyData} (h : ∀ d, d ∈ ds → Shq p w d) (hl : ds.length ≤ n) : Shq (p + 1) (n * (w + 1)) (.tuple ds) := by
  obtain ⟨a1, a3, a4, a5⟩ := shq_all h
  exact ⟨a1, a3, Nat.succ_le_succ a4, Nat.le_trans a5 (Nat.mul_le_mul_right _ hl)⟩
theorem repr_shq {a : Addr} {ds : List PyData} {w : Nat} (h : DqAt K G M (.ref a) (.list ds)) (s : Shq 5 w (.list ds)) (hw : w ≤ 300000) (q : R (.str (PyData.list ds).shown) G M) : kReprQ K [.ref a] G M R :=
  ⟨ds, h, s.s, Nat.le_trans s.p (by decide), Nat.le_trans (PyData.shown_le 40 (by decide) _ s.l) (Nat.le_trans (m := (40 + 2) * 300000 + 40) (Nat.add_le_add_right (Nat.mul_le_mul_left _ (Nat.le_trans s.w hw)) _) (by decide)), q⟩
/-! bent parts -/
def natX (l : List Nat) : XD := .list (l.map fun (n : Nat) => XD.int (n : Int))
def turnXD : Option (List Nat) → XD
  | none => .non
  | some l => natX l
def ppX (pp : Pp) : XD := .tup [.int (pp.src : Int), turnXD pp.turn]
theorem rpa_nat {Mx : Mem} : ∀ l : List Nat, RpA K G Mx (natsV l) (l.map fun (n : Nat) => XD.int (n : Int))
  | [] => .nil
  | n :: l => .cons (.int _) (rpa_nat l)
theorem rp_nat {b : Addr} {l : List Nat} (h : G b = some (.lst (natsV l))) : Rp K G [] (.ref b) (natX l) := .list (.inr h) (rpa_nat l)
theorem turn_rp {w : V} {t : Option (List Nat)} (h : TurnG G w t) : Rp K G [] w (turnXD t) := by
  cases t with
  | none => cases (show w = .non from h); exact .non
  | some l =>
    obtain ⟨b, rfl, hb⟩ := h
    exact rp_nat hb
theorem pp_rp {v : V} {pp : Pp} (h : PpG K G v pp) : Rp K G [] v (ppX pp) := by
  obtain ⟨T, w, rfl, hT, hw⟩ := h
  exact .tup hT (.cons (.int _) (.cons (turn_rp hw) .nil))
/-- data that a part may be -/
def PtOk (z : XD) : Prop := PtX z ∧ Shq 3 9300 z.pd
/-- data that may stand at a part's place, and in a turn -/
def ElOk (x : XD) : Prop := WX2 x ∧ Shq 2 4640 x.pd
def InOk (x : XD) : Prop := ItX x ∧ Shq 1 71 x.pd
theorem el_list {l : List XD} (h : ∀ x, x ∈ l → InOk x) (hl : l.length ≤ 64) : ElOk (.list l) := by
  refine ⟨⟨by omega, fun x hx => (h x hx).1⟩, ?_⟩
  show Shq 2 4640 (.list (XD.pds l))
  rw [pds_map]
  refine (shq_list (n := 64) (w := 71) (fun d hd => ?_) (by rw [List.length_map]; exact hl)).up (Nat.le_refl _) (by decide)
  obtain ⟨x, hx, rfl⟩ := List.mem_map.mp hd
  exact (h x hx).2
theorem el_ints {l : List Int} (h : ∀ x, x ∈ l → -65 < x ∧ x ≤ 64) (hl : l.length ≤ 65) : ElOk (.list (l.map XD.int)) := by
  refine ⟨⟨by rw [List.length_map]; omega, fun x hx => ?_⟩, ?_⟩
  · obtain ⟨i, _, rfl⟩ := List.mem_map.mp hx; trivial
  show Shq 2 4640 (.list (XD.pds (l.map XD.int)))
  rw [pds_map]
  refine (shq_list (n := 65) (w := 70) (p := 0) (fun d hd => ?_) (by rw [List.length_map, List.length_map]; exact hl)).up (by decide) (by decide)
  obtain ⟨x, hx, rfl⟩ := List.mem_map.mp hd
  obtain ⟨i, hi, rfl⟩ := List.mem_map.mp hx
  have := h i hi
  exact int_sm this.1 (by omega)
theorem el_tup {l : List Nat} (h : ∀ x, x ∈ l → x ≤ 64) (hl : l.length ≤ 65) : ElOk (.tup (l.map fun (n : Nat) => XD.int (n : Int))) := by
  refine ⟨trivial, ?_⟩
  show Shq 2 4640 (.tuple (XD.pds (l.map fun (n : Nat) => XD.int (n : Int))))
  rw [pds_map]
  refine (shq_tup (n := 65) (w := 70) (p := 0) (fun d hd => ?_) (by rw [List.length_map, List.length_map]; exact hl)).up (by decide) (by decide)
  obtain ⟨x, hx, rfl⟩ := List.mem_map.mp hd
  obtain ⟨i, hi, rfl⟩ := List.mem_map.mp hx
  exact nat_sm (by have := h i hi; omega)
theorem natX_int (l : List Nat) : natX l = .list ((l.map fun (n : Nat) => (n : Int)).map XD.int) := by unfold natX; rw [List.map_map]; rfl
theorem el_natX {l : List Nat} (h : ∀ x, x ∈ l → x ≤ 64) (hl : l.length ≤ 65) : ElOk (natX l) := by
  rw [natX_int]
  refine el_ints (fun x hx => ?_) (by rw [List.length_map]; exact hl)
  obtain ⟨i, hi, rfl⟩ := List.mem_map.mp hx
  have := h i hi
  omega
theorem el_up {x : XD} (h : WX2 x) {p w : Nat} (s : Shq p w x.pd) (hp : p ≤ 2) (hw : w ≤ 4640) : ElOk x := ⟨h, s.up hp hw⟩
theorem el_int {i : Int} (h0 : -65 < i) (h1 : i ≤ 999999999999999999) : ElOk (.int i) := el_up trivial (int_sm h0 h1) (by decide) (by decide)
theorem el_non : ElOk .non := el_up trivial non_sm (by decide) (by decide)
theorem els_all {l : List XD} (h : ∀ z, z ∈ l → ElOk z) : ∀ d, d ∈ XD.pds l → Shq 2 4640 d := fun d hd => by
  rw [pds_map] at hd
  obtain ⟨x, hx, rfl⟩ := List.mem_map.mp hd
  exact (h x hx).2
theorem pt_tup {l : List XD} (h : ∀ z, z ∈ l → ElOk z) (hl : l.length ≤ 2) : PtOk (.tup l) :=
  ⟨⟨by omega, fun z hz => (h z hz).1⟩, (shq_tup (n := 2) (els_all h) (by rw [pds_map, List.length_map]; exact hl)).up (Nat.le_refl _) (by decide)⟩
theorem pt_lst {l : List XD} (h : ∀ z, z ∈ l → ElOk z) (hl : l.length ≤ 2) : PtOk (.list l) :=
  ⟨trivial, (shq_list (n := 2) (els_all h) (by rw [pds_map, List.length_map]; exact hl)).up (Nat.le_refl _) (by decide)⟩
theorem el1 {x : XD} (hx : ElOk x) : ∀ z, z ∈ [x] → ElOk z := fun z hz => by rw [List.mem_singleton.mp hz]; exact hx
theorem el2 {x y : XD} (hx : ElOk x) (hy : ElOk y) : ∀ z, z ∈ [x, y] → ElOk z := fun z hz => by
  rcases List.mem_cons.mp hz with rfl | hz
  · exact hx
  · exact el1 hy z hz
theorem pt_src {s : Nat} (h : s ≤ 10) : ElOk (.int (s : Int)) := el_int (by omega) (by omega)
theorem pt_tri {s : Nat} (h : s ≤ 10) : PtOk (.tup [.int (s : Int), .non, .non]) := by
  have m : ∀ d, d ∈ [PyData.int (s : Int), .none, .none] → Shq 0 70 d := fun d hd => by
    simp only [List.mem_cons, List.not_mem_nil, or_false] at hd
    rcases hd with rfl | rfl | rfl
    · exact nat_sm (by omega)
    · exact non_sm
    · exact non_sm
  refine ⟨⟨by show 3 ≤ 100; decide, fun z hz => ?_⟩, (shq_tup (n := 3) m (Nat.le_refl _)).up (by decide) (by decide)⟩
  simp only [List.mem_cons, List.not_mem_nil, or_false] at hz
  rcases hz with rfl | rfl | rfl <;> trivial
theorem pt_non : PtOk .non := ⟨trivial, non_sm.up (by decide) (by decide)⟩
theorem turn_el {ks : List Kn} {k : Kn} {pp : Pp} (h : PpOk ks k pp) (hk : KnOk k) : ElOk (turnXD pp.turn) := by
  cases hl : k.leaf with
  | true => rw [h.2.1 hl]; exact el_non
  | false =>
    obtain ⟨l, e, ho⟩ := h.2.2 hl
    rw [e]
    have := hk.1
    have := ho.len
    exact el_natX (fun x hx => by have := ho.lt x hx; omega) (by omega)
theorem pp_ok {ks : List Kn} {k : Kn} {pp : Pp} (h : PpOk ks k pp) (hk : KnOk k) (hl : ks.length ≤ 6) : PtOk (ppX pp) :=
  pt_tup (el2 (pt_src (by have := (List.getElem?_eq_some_iff.mp h.1).1; omega)) (turn_el h hk)) (Nat.le_refl _)
/-- a thing of written ones, by a number in hand -/
theorem lit_at {te : KE} {σ : St} {ds : List XD} {i j : Nat} {E : KX} (h : LitOk K te σ G (.list ds)) (hv : σ[i]? = some (some (.int (j : Nat)))) (hj : j < ds.length)
    (q : ∀ v d G' Mx, Ex G G' → NewC G' Mx → ds[j]? = some d → Rp K G' Mx v d → R v G' (Mx ++ M)) : kBin (kIx K) te (kVar i) σ G M R E := by
  refine h G [] M _ E Ex.refl NewC.nil fun v G1 Mx e1 n1 r1 => ?_
  rw [List.append_nil] at n1
  cases r1 with
  | @list a vs _ ha hs1 =>
    rw [List.nil_append]
    simp only [kVar, hv]
    obtain ⟨y, d, hy, hd, ry⟩ := hs1.get (i := j) (by have := hs1.len; omega)
    refine ⟨vs, y, ?_, atI_nat hy, q y d G1 Mx e1 n1 hd ry⟩
    rcases ha with z | z
    · exact .inl (.inl (List.mem_append.mpr (.inl z)))
    · exact .inl (.inr (sql_of z))
theorem lit_tuple {σ : St} {i : Nat} {b : Addr} {vs : List V} {ds : List XD} (hσ : σ[i]? = some (some (.ref b))) (hb : G b = some (.lst vs)) (hr : RpA K G [] vs ds) : LitOk K (kCB (kTuple K) (kCons (kVar i) kNil)) σ G (.tup ds) := by
  intro G0 My M R E e n q
  simp only [kCB, kCons, kVar, hσ]
  exact .inl ⟨vs, .inr (sql_of (e _ _ hb)), fun p fp => q _ _ [] (Ex.new fp) (n.tup fp) (.tup sqt_new (hr.ex (e.trans (Ex.new fp))))⟩
/-- truths for numbers below two -/
def bX (n : Nat) : XD := if n < 2 then .bl ((n : Int) != 0) else .int (n : Int)
def bV (n : Nat) : V := if n < 2 then .bl ((n : Int) != 0) else .int (n : Int)
theorem bx_rp {Mx : Mem} : ∀ l : List Nat, RpA K G Mx (l.map bV) (l.map bX)
  | [] => .nil
  | n :: l => by
    refine .cons ?_ (bx_rp l)
    unfold bV bX
    split
    · exact .bl _
    · exact .int _
theorem bx_in (n : Nat) (h : n ≤ 64) : InOk (bX n) := by
  unfold bX
  split
  · exact ⟨trivial, (bl_sm _).up (by decide) (by decide)⟩
  · exact ⟨trivial, (nat_sm (by omega)).up (by decide) (by decide)⟩
theorem lit_bools {a0 a1 a2 a3 a5 a6 a7 a8 a9 a10 : Option V} {b : Addr} {l : List Nat} (hb : G b = some (.lst (natsV l))) (hl : l.length ≤ 64) :
    LitOk K (kComp (kiSeq K (kVar 4)) (kgName 11) (kYes) (kIte (kT (kBin (kI0 fun i j => .bl (decide (i < j))) (kVar 11) (kC (.int 2)))) (kCB (kBool) (kCons (kVar 11) (kNil))) (kVar 11)) [11]) [a0, a1, a2, a3, some (.ref b), a5, a6, a7, a8, a9, a10, none] G (.list (l.map bX)) := by
  intro G0 My M R E e n q
  have hb0 := e _ _ hb
  refine ⟨natsV l, .inr (sql_of hb0), sz (by show (natsV l).length ≤ _; rw [natsV_len]; omega), fun i acc G' M' => G' = G0 ∧ M' = My ++ M ∧ acc = (l.take i).map bV, ⟨rfl, rfl, rfl⟩, ?_, ?_, ?_⟩
  · rintro i acc G' M' _ ⟨rfl, rfl, _⟩; exact .inr (sql_of hb0)
  · rintro i acc G' M' D hi hacc ⟨hG, rfl, rfl⟩ fD
    subst hG
    have hi : i < (natsV l).length := hi
    rw [natsV_len] at hi
    obtain ⟨x, hx⟩ : ∃ x, l[i]? = some x := ⟨_, List.getElem?_eq_getElem hi⟩
    refine asg_L (natsV_get hx) ⟨rfl, ?_⟩
    show if decide ((x : Int) < 2) = true then _ else _
    refine ite2' (fun e1 => ⟨G', _, Wk.refl, rfl, rfl, ?_⟩) (fun e1 => ⟨G', _, Wk.refl, rfl, rfl, ?_⟩)
    · have e1 := of_decide_eq_true e1
      rw [take_succ' hx, List.map_append, List.map_singleton]
      unfold bV
      rw [if_pos (by omega)]
    · have e1 := of_decide_eq_false e1
      rw [take_succ' hx, List.map_append, List.map_singleton]
      unfold bV
      rw [if_neg (by omega)]
  · rintro acc G' M' pp ⟨hG, rfl, rfl⟩ _ fp
    subst hG
    have en : (srcL K b (natsV l)).n = l.length := natsV_len l
    rw [en, List.take_length]
    exact q (.ref pp) G' [(pp, .lst (l.map bV))] Ex.refl (n.cell fp) (.list (.inl List.mem_cons_self) (bx_rp l))
end
section
variable {K : PySem.W.Frag} {vs : List V} {G : Hp} {M : Mem} {R : KR} {Z : KX}
/-- what a bent part answers -/
def PartR (K : PySem.W.Frag) (G : Hp) (N : Mem) (n : Nat) (p : Addr) (R : KR) : Prop := ∀ (v : V) (d : XD) (c' s' : Int) (G' : Hp), Ex G G' → Rp K G' [] v d → PtX d → Shq 3 9300 d.pd → PoolOk s' → R v G' (N.set n (p, pool c' s'))
theorem set_same {x : Addr × HO} {n : Nat} (h : M[n]? = some x) : M = M.set n x := by
  refine of_now ?_
  simp (disch := with_unfolding_all
    apply List.ext_getElem?
    intro i
    by_cases e : n = i
    · subst e; rw [h, List.getElem?_set_self (List.getElem?_eq_some_iff.mp h).1]
    · rw [List.getElem?_set_ne e]) only [↓now_true]
theorem part_fin {n : Nat} {p : Addr} {G' : Hp} {N N' Mx : Mem} {v : V} {d : XD} {c' s' : Int} (q : PartR K G N n p R) (ex : Ex G G') (hr : Rp K G' Mx v d) (hd : PtOk d) (hs : PoolOk s') (hN : N' = N.set n (p, pool c' s')) : wkR R v G' (Mx ++ N') := fun H hv => by
  have nc := Hv.newc ⟨H, hv⟩
  subst hN
  exact retW (frzA_wk Mx _ _) (q v d c' s' _ (ex.trans (frzA_ex nc)) (hr.frz nc) hd.1 hd.2 hs) H hv
theorem PartR.ex {n : Nat} {p : Addr} {G' : Hp} {N : Mem} (q : PartR K G N n p R) (ex : Ex G G') : PartR K G' N n p R := fun v d c' s' G2 e2 hr hp hq hs => q v d c' s' G2 (ex.trans e2) hr hp hq hs
theorem PartR.set {n : Nat} {p : Addr} {N : Mem} {x : Addr × HO} (q : PartR K G N n p R) : PartR K G (N.set n x) n p R := fun v d c' s' G2 e2 hr hp hq hs => by
  rw [List.set_set]; exact q v d c' s' G2 e2 hr hp hq hs
theorem el_l0 : ElOk (.list [.int 0]) := el_up ⟨show 1 ≤ 1000 from by decide, fun x hx => by rw [List.mem_singleton.mp hx]; trivial⟩ l0_sm (by decide) (by decide)
theorem el_t0 : ElOk (.tup [.int 0]) := el_up trivial t0_sm (by decide) (by decide)
theorem el_d0 : ElOk .dict := el_up trivial d0_sm (by decide) (by decide)
theorem el_s0 : ElOk (.str "0") := el_up trivial zero_sm (by decide) (by decide)
theorem el_bl (b : Bool) : ElOk (.bl b) := el_up trivial (bl_sm b) (by decide) (by decide)
def nonesX (src : Nat) : List XD := [.tup [.int (src : Int), .list [.int 0]], .tup [.int (src : Int), .int 0], .tup [.int (src : Int)], .tup [.int (src : Int), .non, .non], .list [.int (src : Int), .non], .tup [.int ((src : Int) + 1), .non], .tup [.bl true, .non], .non]
theorem nones_ok {src : Nat} (h : src ≤ 6) {d : XD} (hd : d ∈ nonesX src) : PtOk d := by
  have es : ElOk (.int (src : Int)) := pt_src (by omega)
  have es1 : ElOk (.int ((src : Int) + 1)) := el_int (by omega) (by omega)
  unfold nonesX at hd
  simp only [List.mem_cons, List.not_mem_nil, or_false] at hd
  rcases hd with rfl | rfl | rfl | rfl | rfl | rfl | rfl | rfl
  · exact pt_tup (el2 es el_l0) (Nat.le_refl _)
  · exact pt_tup (el2 es (el_int (by decide) (by decide))) (Nat.le_refl _)
  · exact pt_tup (el1 es) (show 1 ≤ 2 by decide)
  · exact pt_tri (by omega)
  · exact pt_lst (el2 es el_non) (Nat.le_refl _)
  · exact pt_tup (el2 es1 el_non) (Nat.le_refl _)
  · exact pt_tup (el2 (el_bl true) el_non) (Nat.le_refl _)
  · exact pt_non
theorem le1k : 1 ≤ 1000 := by decide
theorem le2k : 2 ≤ 1000 := by decide
theorem le3k : 3 ≤ 1000 := by decide
theorem le6k : 6 ≤ 1000 := by decide
theorem le7k : 7 ≤ 1000 := by decide
theorem le8k : 8 ≤ 1000 := by decide
theorem part_none {p : Addr} {n : Nat} {src way : Nat} {v1 v2 : V} {c s : Int} (q : PartR K G M n p R) (hn : M[n]? = some (p, pool c s)) (hs : PoolOk s) (h6 : src ≤ 6) (hw : way < 8) :
    rd_law_bent_part_4 K (ends R Z) [some (.ref p), some v1, some v2, some (.int (src : Nat)), some .non, some (.int (way : Nat)), none, none, none, none, none, none] G M := by
  refine ⟨G, M, Wk.refl, kret_of ?_⟩
  have l3 : LitOk K (kVar 3) [some (.ref p), some v1, some v2, some (.int (src : Nat)), some .non, some (.int (way : Nat)), none, none, none, none, none, none] G (.int (src : Int)) := lit_var rfl (.int _)
  have l4 : LitOk K (kVar 4) [some (.ref p), some v1, some v2, some (.int (src : Nat)), some .non, some (.int (way : Nat)), none, none, none, none, none, none] G .non := lit_var rfl .non
  have l31 : LitOk K (kBin (kAdd) (kVar 3) (kC (.int 1))) [some (.ref p), some v1, some v2, some (.int (src : Nat)), some .non, some (.int (way : Nat)), none, none, none, none, none, none] G (.int ((src : Int) + 1)) := lit_pure (v := .int ((src : Int) + 1)) (fun _ _ _ _ _ q => q) (.int _)
  have hl := lit_lst (lits_cons (lit_tup (lits_cons l3 (lits_cons (lit_lst (lits_cons (lit_int (i := 0)) lits_nil) le1k) lits_nil)) le2k) (lits_cons (lit_tup (lits_cons l3 (lits_cons (lit_int (i := 0)) lits_nil)) le2k) (lits_cons (lit_tup (lits_cons l3 lits_nil) le1k) (lits_cons (lit_tup (lits_cons l3 (lits_cons l4 (lits_cons l4 lits_nil))) le3k)
    (lits_cons (lit_lst (lits_cons l3 (lits_cons l4 lits_nil)) le2k) (lits_cons (lit_tup (lits_cons l31 (lits_cons l4 lits_nil)) le2k) (lits_cons (lit_tup (lits_cons (lit_bl (i := true)) (lits_cons l4 lits_nil)) le2k) (lits_cons lit_non lits_nil)))))))) le8k
  refine lit_at (ds := nonesX src) hl rfl hw fun v d G' Mx e nc hd hr => ?_
  exact part_fin q e hr (nones_ok h6 (List.mem_of_getElem? hd)) hs (set_same hn)
/-! a turn that is bent -/
theorem rpa_set {v : V} {d : XD} {Mx : Mem} : ∀ {us : List V} {ds : List XD} (i : Nat), RpA K G Mx us ds → Rp K G Mx v d → RpA K G Mx (us.set i v) (ds.set i d)
  | _, _, _, .nil, _ => .nil
  | _, _, 0, .cons _ b, h => .cons h b
  | _, _, i + 1, .cons a b, h => .cons a (rpa_set i b h)
def bp_mut (K : PySem.W.Frag) : KS :=
  (kSeq (kAsg (kBin (kIx K) (kLst (kCons (kCB (kLen K) (kCons (kVar 4) (kNil))) (kCons (kBin (kI0 fun i j => .int (i - j)) (kBin (kIx K) (kVar 4) (kVar 6)) (kCB (kLen K) (kCons (kVar 4) (kNil)))) (kCons (kBin (kI CPow fun i j => .int (i ^ j.toNat)) (kC (.int 10)) (kC (.int 9))) (kCons (kC .non) (kCons (kC (.str "0")) (kCons (kLst (kCons (kC (.int 0)) (kNil))) (kNil)))))))) (kBin (kAdd) (kVar 5) (kBin (kMul) (kC (.int 3)) (kCall (S_law_take K) (kCons (kVar 0) (kCons (kC (.int 2)) (kNil))))))) (kgIx (kVar 8) (kVar 6))) (kSeq (kRet (kTup (kCons (kVar 3) (kCons (kVar 8) (kNil))))) (kNext)))
def bp_last (K : PySem.W.Frag) : KS :=
  (kSeq (kRet (kBin (kIx K) (kLst (kCons (kTup (kCons (kVar 3) (kCons (kVar 9) (kNil)))) (kCons (kTup (kCons (kVar 3) (kCons (kVar 8) (kNil)))) (kCons (kTup (kCons (kVar 3) (kCons (kC .non) (kNil)))) (kCons (kTup (kCons (kVar 3) (kCons (kCB (kTuple K) (kCons (kVar 4) (kNil))) (kNil)))) (kCons (kLst (kCons (kVar 3) (kCons (kVar 4) (kNil)))) (kCons (kTup (kCons (kVar 3) (kCons (kVar 10) (kNil)))) (kCons (kTup (kCons (kBin (kAdd) (kVar 3) (kC (.int 1))) (kCons (kVar 4) (kNil)))) (kCons (kTup (kCons (kVar 3) (kCons (kComp (kiSeq K (kVar 4)) (kgName 11) (kYes) (kIte (kT (kBin (kI0 fun i j => .bl (decide (i < j))) (kVar 11) (kC (.int 2)))) (kCB (kBool) (kCons (kVar 11) (kNil))) (kVar 11)) [11]) (kNil)))) (kNil)))))))))) (kVar 5))) (kNext))
def bp_tail (K : PySem.W.Frag) : KS :=
  (kSeq (kIf (kAnd (kT (kBin (kI0 fun i j => .bl (decide (i < j))) (kVar 5) (kC (.int 3)))) (kT (kBin (kEqv false K) (kCall (S_law_take K) (kCons (kVar 0) (kCons (kC (.int 2)) (kNil)))) (kC (.int 1))))) (kSeq (kAsg (kBin (kIx K) (kLst (kCons (kCB (kLen K) (kCons (kVar 4) (kNil))) (kCons (kBin (kI0 fun i j => .int (i - j)) (kBin (kIx K) (kVar 4) (kVar 6)) (kCB (kLen K) (kCons (kVar 4) (kNil)))) (kCons (kBin (kI CPow fun i j => .int (i ^ j.toNat)) (kC (.int 10)) (kC (.int 9))) (kCons (kC .non) (kCons (kC (.str "0")) (kCons (kLst (kCons (kC (.int 0)) (kNil))) (kNil)))))))) (kBin (kAdd) (kVar 5) (kBin (kMul) (kC (.int 3)) (kCall (S_law_take K) (kCons (kVar 0) (kCons (kC (.int 2)) (kNil))))))) (kgIx (kVar 8) (kVar 6))) (kSeq (kRet (kTup (kCons (kVar 3) (kCons (kVar 8) (kNil))))) (kNext))) (kNext)) (kSeq (kRet (kBin (kIx K) (kLst (kCons (kTup (kCons (kVar 3) (kCons (kVar 9) (kNil)))) (kCons (kTup (kCons (kVar 3) (kCons (kVar 8) (kNil)))) (kCons (kTup (kCons (kVar 3) (kCons (kC .non) (kNil)))) (kCons (kTup (kCons (kVar 3) (kCons (kCB (kTuple K) (kCons (kVar 4) (kNil))) (kNil)))) (kCons (kLst (kCons (kVar 3) (kCons (kVar 4) (kNil)))) (kCons (kTup (kCons (kVar 3) (kCons (kVar 10) (kNil)))) (kCons (kTup (kCons (kBin (kAdd) (kVar 3) (kC (.int 1))) (kCons (kVar 4) (kNil)))) (kCons (kTup (kCons (kVar 3) (kCons (kComp (kiSeq K (kVar 4)) (kgName 11) (kYes) (kIte (kT (kBin (kI0 fun i j => .bl (decide (i < j))) (kVar 11) (kC (.int 2)))) (kCB (kBool) (kCons (kVar 11) (kNil))) (kVar 11)) [11]) (kNil)))) (kNil)))))))))) (kVar 5))) (kNext)))
def lastsX (src : Nat) (l l8 l9 l10 : List Nat) : List XD := [.tup [.int (src : Int), natX l9], .tup [.int (src : Int), natX l8], .tup [.int (src : Int), .non], .tup [.int (src : Int), .tup (l.map fun (n : Nat) => XD.int (n : Int))], .list [.int (src : Int), natX l], .tup [.int (src : Int), natX l10], .tup [.int ((src : Int) + 1), natX l], .tup [.int (src : Int), .list (l.map bX)]]
def LOk (l : List Nat) : Prop := (∀ x, x ∈ l → x ≤ 64) ∧ l.length ≤ 65
theorem lasts_ok {src : Nat} {l l8 l9 l10 : List Nat} (h : src ≤ 6) (hl : LOk l) (hl64 : l.length ≤ 64) (h8 : LOk l8) (h9 : LOk l9) (h10 : LOk l10) {d : XD} (hd : d ∈ lastsX src l l8 l9 l10) : PtOk d := by
  have es : ElOk (.int (src : Int)) := pt_src (by omega)
  have es1 : ElOk (.int ((src : Int) + 1)) := el_int (by omega) (by omega)
  unfold lastsX at hd
  simp only [List.mem_cons, List.not_mem_nil, or_false] at hd
  rcases hd with rfl | rfl | rfl | rfl | rfl | rfl | rfl | rfl
  · exact pt_tup (el2 es (el_natX h9.1 h9.2)) (Nat.le_refl _)
  · exact pt_tup (el2 es (el_natX h8.1 h8.2)) (Nat.le_refl _)
  · exact pt_tup (el2 es el_non) (Nat.le_refl _)
  · exact pt_tup (el2 es (el_tup hl.1 hl.2)) (Nat.le_refl _)
  · exact pt_lst (el2 es (el_natX hl.1 hl.2)) (Nat.le_refl _)
  · exact pt_tup (el2 es (el_natX h10.1 h10.2)) (Nat.le_refl _)
  · exact pt_tup (el2 es1 (el_natX hl.1 hl.2)) (Nat.le_refl _)
  · refine pt_tup (el2 es (el_list (fun x hx => ?_) (by rw [List.length_map]; exact hl64))) (Nat.le_refl _)
    obtain ⟨y, hy, rfl⟩ := List.mem_map.mp hx
    exact bx_in y (hl.1 y hy)
end
section
variable {K : PySem.W.Frag} {vs : List V} {G : Hp} {M : Mem} {R : KR} {Z : KX}
theorem part_last {p b o x w : Addr} {n : Nat} {src way : Nat} {v1 v2 v6 v7 : V} {c s : Int} {l l8 l9 l10 : List Nat} (q : PartR K G M n p R) (hn : M[n]? = some (p, pool c s)) (hs : PoolOk s) (h6 : src ≤ 6) (hw : way < 8)
    (hl : LOk l) (hl64 : l.length ≤ 64) (h8 : LOk l8) (h9 : LOk l9) (h10 : LOk l10) (hb : G b = some (.lst (natsV l))) (hx : G x = some (.lst (natsV l9))) (hwv : G w = some (.lst (natsV l10))) (ho : G o = none) :
    bp_last K (ends R Z) [some (.ref p), some v1, some v2, some (.int (src : Nat)), some (.ref b), some (.int (way : Nat)), some v6, some v7, some (.ref o), some (.ref x), some (.ref w), none] G ((o, .lst (natsV l8)) :: M) := by
  have eo : Ex G (upd G o (.lst (natsV l8))) := Ex.new' ho
  refine ⟨upd G o (.lst (natsV l8)), M, Wk.frz0, kret_of ?_⟩
  obtain ⟨σ, hσ⟩ : ∃ σ : St, σ = [some (.ref p), some v1, some v2, some (.int (src : Nat)), some (.ref b), some (.int (way : Nat)), some v6, some v7, some (.ref o), some (.ref x), some (.ref w), none] := ⟨_, rfl⟩
  have l3 : LitOk K (kVar 3) σ (upd G o (.lst (natsV l8))) (.int (src : Int)) := lit_var (by rw [hσ]; rfl) (.int _)
  have l4 : LitOk K (kVar 4) σ (upd G o (.lst (natsV l8))) (natX l) := lit_var (by rw [hσ]; rfl) (rp_nat (eo _ _ hb))
  have l8' : LitOk K (kVar 8) σ (upd G o (.lst (natsV l8))) (natX l8) := lit_var (by rw [hσ]; rfl) (rp_nat upd_same)
  have l9' : LitOk K (kVar 9) σ (upd G o (.lst (natsV l8))) (natX l9) := lit_var (by rw [hσ]; rfl) (rp_nat (eo _ _ hx))
  have l10' : LitOk K (kVar 10) σ (upd G o (.lst (natsV l8))) (natX l10) := lit_var (by rw [hσ]; rfl) (rp_nat (eo _ _ hwv))
  have l31 : LitOk K (kBin (kAdd) (kVar 3) (kC (.int 1))) σ (upd G o (.lst (natsV l8))) (.int ((src : Int) + 1)) := by
    rw [hσ]; exact lit_pure (v := .int ((src : Int) + 1)) (fun _ _ _ _ _ q => q) (.int _)
  have lt : LitOk K (kCB (kTuple K) (kCons (kVar 4) (kNil))) σ (upd G o (.lst (natsV l8))) (.tup (l.map fun (n : Nat) => XD.int (n : Int))) := lit_tuple (by rw [hσ]; rfl) (eo _ _ hb) (rpa_nat l)
  have lb : LitOk K (kComp (kiSeq K (kVar 4)) (kgName 11) (kYes) (kIte (kT (kBin (kI0 fun i j => .bl (decide (i < j))) (kVar 11) (kC (.int 2)))) (kCB (kBool) (kCons (kVar 11) (kNil))) (kVar 11)) [11]) σ (upd G o (.lst (natsV l8))) (.list (l.map bX)) := by
    rw [hσ]; exact lit_bools (eo _ _ hb) hl64
  have hL := lit_lst (lits_cons (lit_tup (lits_cons l3 (lits_cons l9' lits_nil)) le2k) (lits_cons (lit_tup (lits_cons l3 (lits_cons l8' lits_nil)) le2k) (lits_cons (lit_tup (lits_cons l3 (lits_cons lit_non lits_nil)) le2k) (lits_cons (lit_tup (lits_cons l3 (lits_cons lt lits_nil)) le2k)
    (lits_cons (lit_lst (lits_cons l3 (lits_cons l4 lits_nil)) le2k) (lits_cons (lit_tup (lits_cons l3 (lits_cons l10' lits_nil)) le2k) (lits_cons (lit_tup (lits_cons l31 (lits_cons l4 lits_nil)) le2k) (lits_cons (lit_tup (lits_cons l3 (lits_cons lb lits_nil)) le2k) lits_nil)))))))) le8k
  rw [← hσ]
  refine lit_at (ds := lastsX src l l8 l9 l10) hL (by rw [hσ]; rfl) hw fun v d G' Mx e nc hd hr => ?_
  exact part_fin (q.ex eo) e hr (lasts_ok h6 hl hl64 h8 h9 h10 (List.mem_of_getElem? hd)) hs (set_same hn)
end
section
variable {K : PySem.W.Frag} {vs : List V} {G : Hp} {M : Mem} {R : KR} {Z : KX}
def mutsX (l : List Nat) (y : Nat) : List XD := [.int (l.length : Int), .int ((y : Int) - (l.length : Int)), .int (10 ^ (9 : Int).toNat), .non, .str "0", .list [.int 0]]
theorem muts_ok {l : List Nat} {y : Nat} (hl : l.length ≤ 64) (hy : y ≤ 64) {d : XD} (hd : d ∈ mutsX l y) : InOk d := by
  unfold mutsX at hd
  simp only [List.mem_cons, List.not_mem_nil, or_false] at hd
  rcases hd with rfl | rfl | rfl | rfl | rfl | rfl
  · exact ⟨trivial, (nat_sm (by omega)).up (by decide) (by decide)⟩
  · exact ⟨trivial, (int_sm (by omega) (by omega)).up (by decide) (by decide)⟩
  · exact ⟨trivial, (int_sm (by decide) (by decide)).up (by decide) (by decide)⟩
  · exact ⟨trivial, non_sm.up (by decide) (by decide)⟩
  · exact ⟨rfl, zero_sm.up (by decide) (by decide)⟩
  · exact ⟨rfl, l0_sm⟩
theorem kasg_of {D : Kd} {σ : St} {t : KE} {g : KG} (h : t σ G M (fun v G M => g.val v σ G M D.nx) (D.x σ)) : kAsg t g D σ G M := h
theorem nat_in {n : Nat} (h : n ≤ 64) : InOk (.int (n : Int)) := ⟨trivial, (nat_sm (by omega)).up (by decide) (by decide)⟩
theorem part_mut {p b o : Addr} {n : Nat} {src way ia y : Nat} {v1 v2 v7 v9 v10 : V} {c s : Int} {l l8 : List Nat} (q : PartR K G M n p R) (hn : M[n]? = some (p, pool c s)) (hs : PoolOk s) (h6 : src ≤ 6) (hw : way < 3)
    (hl : LOk l) (hl64 : l.length ≤ 64) (h8 : LOk l8) (h8l : l8.length = l.length) (hb : G b = some (.lst (natsV l))) (hy : l[ia]? = some y) :
    bp_mut K (ends R Z) [some (.ref p), some v1, some v2, some (.int (src : Nat)), some (.ref b), some (.int (way : Nat)), some (.int (ia : Nat)), some v7, some (.ref o), some v9, some v10, none] G ((o, .lst (natsV l8)) :: M) := by
  have hia : ia < l.length := (List.getElem?_eq_some_iff.mp hy).1
  have hy64 : y ≤ 64 := hl.1 y (List.mem_of_getElem? hy)
  obtain ⟨σ, hσ⟩ : ∃ σ : St, σ = [some (.ref p), some v1, some v2, some (.int (src : Nat)), some (.ref b), some (.int (way : Nat)), some (.int (ia : Nat)), some v7, some (.ref o), some v9, some v10, none] := ⟨_, rfl⟩
  have la : LitOk K (kCB (kLen K) (kCons (kVar 4) (kNil))) σ G (.int (l.length : Int)) := by
    rw [hσ]
    refine lit_pure (v := .int (l.length : Int)) (fun G0 M R E e q => ?_) (.int _)
    refine ⟨natsV l, lst_g (sql_of (e _ _ hb)), ?_⟩
    rw [natsV_len]; exact q
  have lb : LitOk K (kBin (kI0 fun i j => .int (i - j)) (kBin (kIx K) (kVar 4) (kVar 6)) (kCB (kLen K) (kCons (kVar 4) (kNil)))) σ G (.int ((y : Int) - (l.length : Int))) := by
    rw [hσ]
    refine lit_pure (v := .int ((y : Int) - (l.length : Int))) (fun G0 M R E e q => ?_) (.int _)
    refine ⟨natsV l, _, lst_g (sql_of (e _ _ hb)), atI_nats hy, natsV l, lst_g (sql_of (e _ _ hb)), ?_⟩
    show R (.int ((y : Int) - ((natsV l).length : Int))) G0 M
    rw [natsV_len]; exact q
  have hL := lit_lst (lits_cons la (lits_cons lb (lits_cons (lit_pow (K := K) (σ := σ) (G := G) (i := 10) (j := 9) ⟨by decide, by decide, by decide⟩) (lits_cons lit_non (lits_cons (lit_str (i := "0")) (lits_cons (lit_lst (lits_cons (lit_int (i := 0)) lits_nil) le1k) lits_nil)))))) le6k
  refine ⟨G, _, Wk.refl, kasg_of (kbin_of ?_)⟩
  rw [← hσ]
  refine LitOk.use (d := .list (mutsX l y)) hL fun v G' Mx e nc hr => ?_
  rw [hσ]
  cases hr with
  | @list a us _ ha hs1 =>
    have hul := hs1.len
    have hn2 : (Mx ++ (o, HO.lst (natsV l8)) :: M)[Mx.length + (n + 1)]? = some (p, pool c s) := by rw [List.getElem?_append_right (by omega), Nat.add_sub_cancel_left]; exact hn
    refine ⟨p, 2, Mx.length + (n + 1), c, s, rfl, rfl, hn2, hs, by decide, by decide, fun r c' s' r0 r1 hs' => ⟨mul_l (by decide) (by decide), ?_⟩⟩
    have eS : (Mx ++ (o, HO.lst (natsV l8)) :: M).set (Mx.length + (n + 1)) (p, pool c' s') = Mx ++ (o, HO.lst (natsV l8)) :: M.set n (p, pool c' s') := by
      rw [List.set_append_right _ _ (by omega), Nat.add_sub_cancel_left]; rfl
    rw [eS]
    obtain ⟨j, rfl⟩ := Int.eq_ofNat_of_zero_le r0
    have hml : (mutsX l y).length = 6 := rfl
    obtain ⟨u, d, hu, hd, ru⟩ := hs1.get (i := way + 3 * j) (by omega)
    have hat : atI us ((way : Int) + 3 * (j : Int)) = some u := by
      rw [show (way : Int) + 3 * (j : Int) = ((way + 3 * j : Nat) : Int) by omega]; exact atI_nat hu
    have hd := muts_ok hl64 hy64 (List.mem_of_getElem? hd)
    refine ⟨us, u, ?_, hat, Mx.length, natsV l8, ia, ?_, ?_, ?_⟩
    · rcases ha with z | z
      · exact .inl (.inl (List.mem_append.mpr (.inl z)))
      · exact .inl (.inr (sql_of z))
    · rw [List.getElem?_append_right (Nat.le_refl _), Nat.sub_self]; rfl
    · rw [natsV_len]; exact ixN_nat (by omega)
    rw [List.set_append_right _ _ (Nat.le_refl _), Nat.sub_self, List.set_cons_zero]
    refine ⟨G', _, Wk.refl, kret_of ⟨sz2, fun T fT => ?_⟩⟩
    have r2 : RpA K G' ((o, .lst ((natsV l8).set ia u)) :: Mx) ((natsV l8).set ia u) ((l8.map fun (n : Nat) => XD.int (n : Int)).set ia d) := rpa_set ia (rpa_nat l8) (ru.up Ex.refl fun x hx => List.mem_cons_of_mem _ hx)
    have e2 := Ex.new (o := .tup [.int (src : Int), .ref o]) fT
    have hr3 : Rp K (upd G' T (.tup [.int (src : Int), .ref o])) ((o, .lst ((natsV l8).set ia u)) :: Mx) (.ref T) (.tup [.int (src : Int), .list ((l8.map fun (n : Nat) => XD.int (n : Int)).set ia d)]) := .tup sqt_new (.cons (.int _) (.cons (.list (.inl List.mem_cons_self) (r2.ex e2)) .nil))
    refine wkR_wk (Wk.perm (M' := ((o, .lst ((natsV l8).set ia u)) :: Mx) ++ M.set n (p, pool c' s')) List.perm_middle.symm) (part_fin q (e.trans e2) hr3 ?_ hs' rfl)
    refine pt_tup (el2 (pt_src (by omega)) (el_list (fun x hx => ?_) (by rw [List.length_set, List.length_map]; omega))) (Nat.le_refl _)
    rcases List.mem_or_eq_of_mem_set hx with hx | rfl
    · obtain ⟨z, hz, rfl⟩ := List.mem_map.mp hx
      exact nat_in (h8.1 z hz)
    · exact hd
end
section
variable {K : PySem.W.Frag} {vs : List V} {G : Hp} {M : Mem} {R : KR} {Z : KX}
theorem cut_natsA (l : List Nat) (lo hi : Option Int) : ∃ l', cutV (natsV l) lo hi = natsV l' ∧ l'.length ≤ l.length ∧ ∀ x, x ∈ l' → x ∈ l := by
  unfold cutV natsV
  rw [← List.map_drop, ← List.map_take]
  refine ⟨_, rfl, by rw [List.length_take, List.length_drop]; omega, fun x hx => List.mem_of_mem_drop (List.mem_of_mem_take hx)⟩
theorem lok_set {l : List Nat} {i x : Nat} (h : LOk l) (hx : x ≤ 64) : LOk (l.set i x) := ⟨fun y hy => by
  rcases List.mem_or_eq_of_mem_set hy with z | rfl
  · exact h.1 y z
  · exact hx, by rw [List.length_set]; exact h.2⟩
theorem part_some {p b : Addr} {n : Nat} {src way : Nat} {v1 v2 : V} {c s : Int} {l : List Nat} (q : PartR K G M n p R) (hn : M[n]? = some (p, pool c s)) (hs : PoolOk s) (h6 : src ≤ 6) (hw : way < 8)
    (hl : LOk l) (hl1 : 1 ≤ l.length) (hl64 : l.length ≤ 64) (hb : G b = some (.lst (natsV l))) :
    rd_law_bent_part_3 K (ends R Z) [some (.ref p), some v1, some v2, some (.int (src : Nat)), some (.ref b), some (.int (way : Nat)), none, none, none, none, none, none] G M := by
  have hbm : ∀ M : Mem, SeqAt' K G M b (natsV l) := fun M => lst_g (sql_of hb)
  have nl := natsV_len l
  refine ⟨G, M, Wk.refl, .type "list", .type "list", _, .ty "list", ty_lst (.inr (sql_of hb)), kit_pt .list .list, ?_⟩
  refine ⟨G, M, Wk.refl, natsV l, hbm _, p, _, n, c, s, rfl, rfl, hn, hs, by omega, Int.lt_of_le_of_lt (b := 100) (by omega) (by decide), fun r1 c1 s1 r10 r11 hs1 => ?_⟩
  obtain ⟨ia, rfl⟩ := Int.eq_ofNat_of_zero_le r10
  have hia : ia < l.length := by omega
  obtain ⟨ya, hya⟩ : ∃ y, l[ia]? = some y := ⟨_, List.getElem?_eq_getElem hia⟩
  refine ⟨G, _, Wk.refl, natsV l, hbm _, p, _, n, c1, s1, rfl, rfl, set_n hn, hs1, by omega, Int.lt_of_le_of_lt (b := 100) (by omega) (by decide), fun r2 c2 s2 r20 r21 hs2 => ?_⟩
  obtain ⟨it, rfl⟩ := Int.eq_ofNat_of_zero_le r20
  have hit : it < l.length := by omega
  obtain ⟨yt, hyt⟩ : ∃ y, l[it]? = some y := ⟨_, List.getElem?_eq_getElem hit⟩
  have hya64 := hl.1 ya (List.mem_of_getElem? hya)
  have hyt64 := hl.1 yt (List.mem_of_getElem? hyt)
  have q2 := (q.set (x := (p, pool c1 s1))).set (x := (p, pool c2 s2))
  have hn2 := set_n (x := (p, pool c2 s2)) (set_n (x := (p, pool c1 s1)) hn)
  obtain ⟨M2, hM2⟩ : ∃ M2, M2 = (M.set n (p, pool c1 s1)).set n (p, pool c2 s2) := ⟨_, rfl⟩
  rw [← hM2] at q2 hn2 ⊢
  refine ⟨G, _, Wk.refl, natsV l, hbm _, fun o fo => ?_⟩
  refine ⟨G, _, Wk.refl, natsV l, _, hbm _, atI_nats hyt, 0, natsV l, ia, rfl, by rw [nl]; exact ixN_nat hia, ?_⟩
  show (kSeq _ _ : KS) _ _ _ _
  rw [List.set_cons_zero, natsV_set]
  refine ⟨G, _, Wk.refl, natsV (l.set ia yt), lst_n (n := 0) rfl, fun x fx => ?_⟩
  refine ⟨G, _, Wk.refl, natsV l, _, hbm _, atI_nats hya, 0, natsV (l.set ia yt), it, rfl, by rw [natsV_len, List.length_set]; exact ixN_nat hit, ?_⟩
  show (kSeq _ _ : KS) _ _ _ _
  rw [List.set_cons_zero, natsV_set]
  obtain ⟨l8, hl8⟩ : ∃ l8, l8 = l.set ia yt := ⟨_, rfl⟩
  have h8 : LOk l8 := by rw [hl8]; exact lok_set hl hyt64
  have h8l : l8.length = l.length := by rw [hl8, List.length_set]
  rw [← hl8] at fx ⊢
  obtain ⟨l9, hl9⟩ : ∃ l9, l9 = l8.set it ya := ⟨_, rfl⟩
  have h9 : LOk l9 := by rw [hl9]; exact lok_set h8 hya64
  rw [← hl9]
  obtain ⟨lc, hlc, hlcl, hlcm⟩ := cut_natsA l none (some (-1))
  have hcok : LOk lc := ⟨fun x hx => hl.1 x (hlcm x hx), by omega⟩
  have hlok : LOk (l ++ [l.length]) := ⟨fun x hx => by
    rcases List.mem_append.mp hx with z | z
    · exact hl.1 x z
    · rw [List.mem_singleton.mp z]; exact hl64, by rw [List.length_append]; show l.length + 1 ≤ 65; omega⟩
  refine ⟨G, _, Wk.refl, natsV l, .inr (sql_of hb), fun e1 f1 => ⟨natsV l, hbm _, sz1, fun e2 f2 => ⟨natsV l, _, .inr hb, .inl List.mem_cons_self, (by rw [nl]; exact sz (by show l.length + 1 ≤ 16777216; omega)), fun e3 f3 => ⟨sz2, fun e4 f4 => ⟨p, 2, n + 6, c2, s2, rfl, rfl, hn2, hs2, by decide, by decide, fun r3 c3 s3 r30 r31 hs3 => ?_⟩⟩⟩⟩⟩
  obtain ⟨j, rfl⟩ := Int.eq_ofNat_of_zero_le r30
  rw [show natsV l ++ [V.int ((natsV l).length : Int)] = natsV (l ++ [l.length]) by rw [nl]; exact natsV_app (l := l) (m := [l.length])] at f4 ⊢
  rw [show cutV (natsV l) none (some (-1)) = natsV lc from hlc] at f2 f3 f4 ⊢
  have nx := NewC.cell (o := .lst (natsV l9)) (NewC.nil (G := G)) fx
  have n1 := nx.cell (o := .lst (natsV lc)) f1
  have n2 := n1.cell (o := .lst [.int ((natsV l).length : Int)]) f2
  have n3 := n2.cell (o := .lst (natsV (l ++ [l.length]))) f3
  have n4 := n3.cell (o := .lst [.ref e1, .ref e3]) f4
  obtain ⟨w, l10, hw10, h10, hwm⟩ : ∃ (w : Addr) (l10 : List Nat), atI [V.ref e1, .ref e3] (j : Int) = some (.ref w) ∧ LOk l10 ∧ (w, HO.lst (natsV l10)) ∈ [(e4, HO.lst [V.ref e1, .ref e3]), (e3, .lst (natsV (l ++ [l.length]))), (e2, .lst [.int ((natsV l).length : Int)]), (e1, .lst (natsV lc)), (x, .lst (natsV l9))] := by
    have : j = 0 ∨ j = 1 := by omega
    rcases this with rfl | rfl
    · exact ⟨e1, lc, rfl, hcok, by simp⟩
    · exact ⟨e3, _, rfl, hlok, by simp⟩
  refine ⟨[.ref e1, .ref e3], _, lst_n (n := 0) rfl, hw10, ?_⟩
  have hn3 := set_n (x := (p, pool c3 s3)) hn2
  have q3 := q2.set (x := (p, pool c3 s3))
  obtain ⟨Gz, hGz⟩ : ∃ Gz, Gz = frzA G [(e4, HO.lst [V.ref e1, .ref e3]), (e3, .lst (natsV (l ++ [l.length]))), (e2, .lst [.int ((natsV l).length : Int)]), (e1, .lst (natsV lc)), (x, .lst (natsV l9))] := ⟨_, rfl⟩
  have exz : Ex G Gz := by rw [hGz]; exact frzA_ex n4
  have hwz : Gz w = some (.lst (natsV l10)) := by rw [hGz]; exact frzA_at n4.2 _ hwm
  have hxz : Gz x = some (.lst (natsV l9)) := by rw [hGz]; exact frzA_at n4.2 (x, .lst (natsV l9)) (by simp)
  have hoz : Gz o = none := by
    rw [hGz, frzA_ne]
    · exact fo.1
    · intro y hy e
      simp only [List.mem_cons, List.not_mem_nil, or_false] at hy
      rcases hy with rfl | rfl | rfl | rfl | rfl
      · exact f4.2 (o, .lst (natsV l8)) (by simp) e.symm
      · exact f3.2 (o, .lst (natsV l8)) (by simp) e.symm
      · exact f2.2 (o, .lst (natsV l8)) (by simp) e.symm
      · exact f1.2 (o, .lst (natsV l8)) (by simp) e.symm
      · exact fx.2 (o, .lst (natsV l8)) (by simp) e.symm
  have hbz := exz _ _ hb
  have tail : bp_tail K (ends R Z) [some (.ref p), some v1, some v2, some (.int (src : Nat)), some (.ref b), some (.int (way : Nat)), some (.int (ia : Nat)), some (.int (it : Nat)), some (.ref o), some (.ref x), some (.ref w), none] Gz ((o, .lst (natsV l8)) :: M2.set n (p, pool c3 s3)) := by
    refine ⟨Gz, _, Wk.refl, ite2' (c := decide ((way : Int) < 3)) (fun e3 => ?_) (fun _ => ?_)⟩
    · refine ⟨p, 2, n + 1, c3, s3, rfl, rfl, hn3, hs3, by decide, by decide, fun r4 c4 s4 r40 r41 hs4 => ite2' (c := decide (V.int r4 = .int 1)) (fun _ => ?_) (fun _ => ?_)⟩
      · exact part_mut ((q3.ex exz).set (x := (p, pool c4 s4))) (set_n hn3) hs4 h6 (by have := of_decide_eq_true e3; omega) hl hl64 h8 h8l hbz hya
      · exact part_last ((q3.ex exz).set (x := (p, pool c4 s4))) (set_n hn3) hs4 h6 hw hl hl64 h8 h9 h10 hbz hxz hwz hoz
    · exact part_last (q3.ex exz) hn3 hs3 h6 hw hl hl64 h8 h9 h10 hbz hxz hwz hoz
  rw [hGz] at tail
  obtain ⟨Ga, Ma, wa, ta⟩ := tail
  exact ⟨Ga, Ma, (frzA_wk _ G _).trans wa, ta⟩
end
section
variable {K : PySem.W.Frag} {vs : List V} {G : Hp} {M : Mem} {R : KR} {Z : KX}
theorem pf_law_bent_part (h : S_law_bent_part K vs G M R Z) : rd_law_bent_part K (ends R Z) (sta 12 vs) G M := by
  obtain ⟨_, v1, _, rfl, p, n, c, s, ks, k, pp, rfl, rfl, hn, hs, ⟨T, w, rfl, hT, hw⟩, hpp, hk, h6, q⟩ := sp3_of h
  clear h
  have q : PartR K G M n p R := q
  have hsrc : pp.src < ks.length := (List.getElem?_eq_some_iff.mp hpp.1).1
  have hel : ElOk (turnXD pp.turn) := turn_el hpp hk
  refine ⟨G, M, Wk.refl, _, hT, G, M, Wk.refl, p, 8, n, c, s, rfl, rfl, hn, hs, by decide, by decide, fun r1 c1 s1 r10 r11 hs1 => ?_⟩
  obtain ⟨way, rfl⟩ := Int.eq_ofNat_of_zero_le r10
  have hway : way < 8 := by omega
  have rest : ∀ M1 : Mem, ∀ c1 s1, PartR K G M1 n p R → M1[n]? = some (p, pool c1 s1) → PoolOk s1 → rd_law_bent_part_3 K (ends R Z) [some (.ref p), some (.ref T), some (.int (ks.length : Nat)), some (.int (pp.src : Nat)), some w, some (.int (way : Nat)), none, none, none, none, none, none] G M1 := fun M1 c1 s1 q1 hn1 hs1 => by
    cases ht : pp.turn with
    | none =>
      rw [ht] at hw
      cases (show w = .non from hw)
      refine ⟨G, M1, Wk.refl, .type "NoneType", .type "list", _, .ty "list", ty_non, kit_pt .non .list, ?_⟩
      exact part_none q1 hn1 hs1 (by omega) hway
    | some l =>
      rw [ht] at hw
      obtain ⟨b, rfl, hb⟩ := hw
      cases hkl : k.leaf with
      | true => exact nomatch (hpp.2.1 hkl).symm.trans ht
      | false =>
        obtain ⟨l', e, ho⟩ := hpp.2.2 hkl
        cases ht.symm.trans e
        have := hk.1
        have := hk.2.2 hkl
        have := ho.len
        exact part_some q1 hn1 hs1 (by omega) hway ⟨fun x hx => by have := ho.lt x hx; omega, by omega⟩ (by omega) (by omega) hb
  refine ⟨G, _, Wk.refl, ite2' (c := decide ((5 : Int) < (way : Int))) (fun _ => ?_) (fun _ => ?_)⟩
  · refine ⟨p, 2, n, c1, s1, rfl, rfl, set_n hn, hs1, by decide, by decide, fun r2 c2 s2 r20 r21 hs2 => ite2' (c := decide (V.int r2 = .int 1)) (fun _ => ?_) (fun _ => ?_)⟩
    · refine ⟨G, _, Wk.refl, kret_of ?_⟩
      have lm : LitOk K (kBin (kI0 fun i j => .int (i - j)) (kVar 3) (kVar 2)) [some (.ref p), some (.ref T), some (.int (ks.length : Nat)), some (.int (pp.src : Nat)), some w, some (.int (way : Nat)), none, none, none, none, none, none] G (.int ((pp.src : Int) - (ks.length : Int))) := lit_pure (v := .int ((pp.src : Int) - (ks.length : Int))) (fun _ _ _ _ _ q => q) (.int _)
      have hL := lit_lst (lits_cons lm (lits_cons (lit_neg (i := 1)) (lits_cons lit_non (lits_cons (lit_str (i := "0")) (lits_cons (lit_lst (lits_cons (lit_int (i := 0)) lits_nil) le1k) (lits_cons (lit_tup (lits_cons (lit_int (i := 0)) lits_nil) le1k) (lits_cons lit_dict lits_nil))))))) le7k
      refine lit_pick (i := 0) (n := n) (L := 7) hL rfl (set_n (set_n hn)) hs2 rfl (Nat.succ_pos 6) le7k fun v d G' Mx c3 s3 e nc hd hr hs3 => ⟨sz2, fun T2 fT => ?_⟩
      have e2 := Ex.new (o := .tup [v, w]) fT
      refine part_fin q.set.set (e.trans e2) (d := .tup [d, turnXD pp.turn]) (.tup sqt_new (.cons (hr.ex e2) (.cons ((turn_rp hw).up (e.trans e2) fun _ z => absurd z List.not_mem_nil) .nil))) ?_ hs3 rfl
      refine pt_tup (el2 ?_ hel) (Nat.le_refl _)
      simp only [List.mem_cons, List.not_mem_nil, or_false] at hd
      rcases hd with rfl | rfl | rfl | rfl | rfl | rfl | rfl
      · exact el_int (by omega) (by omega)
      · exact el_int (by decide) (by decide)
      · exact el_non
      · exact el_s0
      · exact el_l0
      · exact el_t0
      · exact el_d0
    · exact rest _ c2 s2 q.set.set (set_n (set_n hn)) hs2
  · exact rest _ c1 s1 q.set (set_n hn) hs1
end
section
variable {K : PySem.W.Frag} {vs : List V} {G : Hp} {M : Mem} {R : KR} {Z : KX}
theorem rpa_take {Mx : Mem} : ∀ {vs : List V} {ds : List XD} (k : Nat), RpA K G Mx vs ds → RpA K G Mx (vs.take k) (ds.take k)
  | _, _, 0, _ => .nil
  | _, _, _ + 1, .nil => .nil
  | _, _, k + 1, .cons a b => .cons a (rpa_take k b)
theorem rpa_drop {Mx : Mem} : ∀ {vs : List V} {ds : List XD} (k : Nat), RpA K G Mx vs ds → RpA K G Mx (vs.drop k) (ds.drop k)
  | _, _, 0, h => h
  | _, _, _ + 1, .nil => .nil
  | _, _, k + 1, .cons _ b => rpa_drop k b
theorem cut_hi {vs : List V} {k : Nat} (h : k ≤ vs.length) : cutV vs none (some ((k : Nat) : Int)) = vs.take k := by
  unfold cutV
  have e1 : HT.sIx vs.length 0 none = 0 := rfl
  have e2 : HT.sIx vs.length vs.length (some ((k : Nat) : Int)) = k := by
    unfold HT.sIx; simp only []; split <;> omega
  rw [e1, e2, List.drop_zero, Nat.sub_zero]
theorem cut_lo {vs : List V} {k : Nat} (h : k ≤ vs.length + 1) : cutV vs (some ((k : Nat) : Int)) none = vs.drop k := by
  unfold cutV
  have e1 : HT.sIx vs.length vs.length none = vs.length := rfl
  rw [e1]
  by_cases h2 : k ≤ vs.length
  · have e2 : HT.sIx vs.length 0 (some ((k : Nat) : Int)) = k := by
      unfold HT.sIx; simp only []; split <;> omega
    rw [e2]
    exact List.take_of_length_le (by rw [List.length_drop]; exact Nat.le_refl _)
  · have e2 : HT.sIx vs.length 0 (some ((k : Nat) : Int)) = vs.length := by
      unfold HT.sIx; simp only []; split <;> omega
    rw [e2, Nat.sub_self, List.take_zero, List.drop_eq_nil_of_le (by omega)]
theorem cut_one {vs : List V} : ∃ k, k ≤ 1 ∧ cutV vs none (some 1) = vs.take k := by
  by_cases h : 1 ≤ vs.length
  · exact ⟨1, Nat.le_refl _, cut_hi (k := 1) h⟩
  · refine ⟨0, Nat.zero_le _, ?_⟩
    have : vs = [] := List.eq_nil_of_length_eq_zero (by omega)
    rw [this]; unfold cutV
    exact List.take_nil
/-- what a bent paper answers -/
def PapR (K : PySem.W.Frag) (G : Hp) (N : Mem) (n : Nat) (p : Addr) (R : KR) : Prop := ∀ (v : V) (d : XD) (c' s' : Int) (G' : Hp), Ex G G' → Rp K G' [] v d → PaX d → Shq 4 66000 d.pd → PoolOk s' → R v G' (N.set n (p, pool c' s'))
def PaOk (z : XD) : Prop := PaX z ∧ Shq 4 66000 z.pd
theorem pap_fin {n : Nat} {p : Addr} {G' : Hp} {N N' Mx : Mem} {v : V} {d : XD} {c' s' : Int} (q : PapR K G N n p R) (ex : Ex G G') (hr : Rp K G' Mx v d) (hd : PaOk d) (hs : PoolOk s') (hN : N' = N.set n (p, pool c' s')) : wkR R v G' (Mx ++ N') := fun H hv => by
  have nc := Hv.newc ⟨H, hv⟩
  subst hN
  exact retW (frzA_wk Mx _ _) (q v d c' s' _ (ex.trans (frzA_ex nc)) (hr.frz nc) hd.1 hd.2 hs) H hv
theorem PapR.set {n : Nat} {p : Addr} {N : Mem} {x : Addr × HO} (q : PapR K G N n p R) : PapR K G (N.set n x) n p R := fun v d c' s' G2 e2 hr hp hq hs => by
  rw [List.set_set]; exact q v d c' s' G2 e2 hr hp hq hs
theorem pa_pds {zs : List XD} (h : ∀ z, z ∈ zs → PtOk z) : ∀ d, d ∈ XD.pds zs → Shq 3 9300 d := fun d hd => by
  rw [pds_map] at hd
  obtain ⟨x, hx, rfl⟩ := List.mem_map.mp hd
  exact (h x hx).2
theorem pa_list {zs : List XD} (h : ∀ z, z ∈ zs → PtOk z) (hl : zs.length ≤ 7) : PaOk (.list zs) :=
  ⟨⟨by omega, fun z hz => (h z hz).1⟩, (shq_list (n := 7) (pa_pds h) (by rw [pds_map, List.length_map]; exact hl)).up (Nat.le_refl _) (by decide)⟩
theorem pa_tup {zs : List XD} (h : ∀ z, z ∈ zs → PtOk z) (hl : zs.length ≤ 7) : PaOk (.tup zs) :=
  ⟨trivial, (shq_tup (n := 7) (pa_pds h) (by rw [pds_map, List.length_map]; exact hl)).up (Nat.le_refl _) (by decide)⟩
theorem ppm_of {v : V} {pp : Pp} (h : PpG K G v pp) : PpM K G M v pp := by
  obtain ⟨T, w, rfl, hT, hw⟩ := h
  refine ⟨T, w, rfl, hT, ?_⟩
  cases ht : pp.turn with
  | none => rw [ht] at hw; exact hw
  | some l =>
    rw [ht] at hw
    obtain ⟨b, rfl, hb⟩ := hw
    exact ⟨b, rfl, .inr (sql_of hb)⟩
theorem pps_rpa : ∀ {us : List V} {ps : List Pp}, A2 (PpG K G) us ps → RpA K G [] us (ps.map ppX)
  | _, _, .nil => .nil
  | _, _, .cons a b => .cons (pp_rp a) (pps_rpa b)
theorem pps_m : ∀ {us : List V} {ps : List Pp}, A2 (PpG K G) us ps → A2 (PpM K G M) us ps
  | _, _, .nil => .nil
  | _, _, .cons a b => .cons (ppm_of a) (pps_m b)
theorem pps_ok {ks : List Kn} {ps : List Pp} (h : PapOk ks ps) (hk : ∀ k, k ∈ ks → KnOk k) (hl : ks.length ≤ 6) {d : XD} (hd : d ∈ ps.map ppX) : PtOk d := by
  obtain ⟨pp, hp, rfl⟩ := List.mem_map.mp hd
  obtain ⟨i, hi⟩ := List.getElem?_of_mem hp
  obtain ⟨k, h1, h2⟩ := h.ok.get hi
  exact pp_ok h2 (hk k (List.mem_of_getElem? h1)) hl
theorem pf_law_bent_paper (h : S_law_bent_paper K vs G M R Z) : rd_law_bent_paper K (ends R Z) (sta 6 vs) G M := by
  obtain ⟨_, _, rfl, p, n, c, s, a, ks, ps, rfl, rfl, hn, hs, ⟨us, ha, h2⟩, hpo, hk, h6, q⟩ := sp2_of h
  clear h
  have q : PapR K G M n p R := q
  have hlen : us.length = ps.length := h2.len
  have hlk : ks.length = ps.length := hpo.ok.len
  have hr : RpA K G [] us (ps.map ppX) := pps_rpa h2
  have hok : ∀ d, d ∈ ps.map ppX → PtOk d := fun d hd => pps_ok hpo hk h6 hd
  have hdl : (ps.map ppX).length = us.length := by rw [List.length_map]; exact hlen.symm
  obtain ⟨ds, hds⟩ : ∃ ds, ds = ps.map ppX := ⟨_, rfl⟩
  rw [← hds] at hr hok hdl
  have hal : ∀ M : Mem, LstAt K G M a us := fun M => .inr (sql_of ha)
  have has : ∀ M : Mem, SeqAt' K G M a us := fun M => .inl (hal M)
  have hcat : ∀ x y : List V, x.length ≤ 7 → y.length ≤ 7 → x.length + y.length ≤ sizeLine := fun x y h1 h2 => sz (by omega)
  refine ⟨G, M, Wk.refl, us, has _, p, (us.length : Int) + 1, n, c, s, rfl, rfl, hn, hs, by omega, Int.lt_of_le_of_lt (b := 100) (by omega) (by decide), fun r1 c1 s1 r10 r11 hs1 => ?_⟩
  obtain ⟨at1, rfl⟩ := Int.eq_ofNat_of_zero_le r10
  have hat : at1 ≤ us.length := by omega
  have hn1 := set_n (x := (p, pool c1 s1)) hn
  have q1 := q.set (x := (p, pool c1 s1))
  obtain ⟨M1, hM1⟩ : ∃ M1, M1 = M.set n (p, pool c1 s1) := ⟨_, rfl⟩
  rw [← hM1] at hn1 q1 ⊢
  refine ⟨G, M1, Wk.refl, p, 8, n, c1, s1, rfl, rfl, hn1, hs1, by decide, by decide, fun r2 c2 s2 r20 r21 hs2 => ?_⟩
  obtain ⟨way, rfl⟩ := Int.eq_ofNat_of_zero_le r20
  have hn2 := set_n (x := (p, pool c2 s2)) hn1
  have q2 := q1.set (x := (p, pool c2 s2))
  obtain ⟨M2, hM2⟩ : ∃ M2, M2 = M1.set n (p, pool c2 s2) := ⟨_, rfl⟩
  rw [← hM2] at hn2 q2 ⊢
  have e1 : ((at1 : Int) + 1) = ((at1 + 1 : Nat) : Int) := by omega
  refine ⟨G, M2, Wk.refl, ite2' (c := decide (V.int (way : Nat) = .int 0)) (fun _ => ?_) (fun _ => ?_)⟩
  · refine ⟨G, M2, Wk.refl, us, hal _, fun x1 f1 => ⟨us, hal _, fun x2 f2 => ⟨_, _, .inl (List.mem_cons_of_mem _ List.mem_cons_self), .inl List.mem_cons_self, ?_, fun x3 f3 => ?_⟩⟩⟩
    · rw [cut_hi hat, e1, cut_lo (by omega)]
      exact hcat _ _ (by rw [List.length_take]; omega) (by rw [List.length_drop]; omega)
    · rw [e1, cut_hi hat, cut_lo (by omega)]
      exact pap_fin (Mx := [_, _, _]) (N' := M2) q2 Ex.refl (.list (.inl List.mem_cons_self) (((rpa_take at1 hr).app (rpa_drop (at1 + 1) hr)).up Ex.refl fun _ z => absurd z List.not_mem_nil)) (pa_list (fun z hz => (List.mem_append.mp hz).elim (fun z => hok _ (List.mem_of_mem_take z)) (fun z => hok _ (List.mem_of_mem_drop z))) (by rw [List.length_append, List.length_take, List.length_drop]; omega)) hs2 (set_same hn2)
  refine ⟨G, M2, Wk.refl, ite2' (c := decide (V.int (way : Nat) = .int 1)) (fun _ => ?_) (fun _ => ?_)⟩
  · obtain ⟨k, hk1, hk2⟩ := cut_one (vs := us)
    refine ⟨G, M2, Wk.refl, us, hal _, fun x1 f1 => ⟨us, _, .inr ha, .inl List.mem_cons_self, ?_, fun x2 f2 => ?_⟩⟩
    · rw [hk2]
      exact hcat _ _ (by omega) (by rw [List.length_take]; omega)
    · rw [hk2]
      exact pap_fin (Mx := [_, _]) (N' := M2) q2 Ex.refl (.list (.inl List.mem_cons_self) ((hr.app (rpa_take k hr)).up Ex.refl fun _ z => absurd z List.not_mem_nil)) (pa_list (fun z hz => (List.mem_append.mp hz).elim (fun z => hok _ z) (fun z => hok _ (List.mem_of_mem_take z))) (by rw [List.length_append, List.length_take]; omega)) hs2 (set_same hn2)
  refine ⟨G, M2, Wk.refl, ite2' (c := decide (V.int (way : Nat) = .int 2)) (fun _ => ?_) (fun _ => ?_)⟩
  · refine ⟨G, M2, Wk.refl, kret_of ?_⟩
    have hL := lit_lst (lits_cons (lit_tuple (K := K) (i := 1) (σ := [some (.ref p), some (.ref a), some (.int (at1 : Nat)), some (.int (way : Nat)), none, none]) rfl ha hr) (lits_cons lit_non (lits_cons (lit_str (i := "leading")) (lits_cons (lit_int (i := 0)) lits_nil)))) (show 4 ≤ 1000 by decide)
    refine lit_pick (i := 0) (n := n) (L := 4) hL rfl hn2 hs2 rfl (Nat.succ_pos 3) (show 4 ≤ 1000 by decide) fun v d G' Mx c3 s3 e nc hd hr hs3 => ?_
    refine pap_fin q2 e hr ?_ hs3 rfl
    simp only [List.mem_cons, List.not_mem_nil, or_false] at hd
    rcases hd with rfl | rfl | rfl | rfl
    · exact pa_tup hok (by omega)
    · exact ⟨trivial, non_sm.up (by decide) (by decide)⟩
    · exact ⟨trivial, lead_sm.up (by decide) (by decide)⟩
    · exact ⟨trivial, (int_sm (i := 0) (by decide) (by decide)).up (by decide) (by decide)⟩
  refine ⟨G, M2, Wk.refl, sz0, fun x0 f0 => ⟨.list (ps.map ppD), .list [], dat_list (hal _) (pps_dat (pps_m h2)), dat_list lat_0 dats_nil, (shp_pps (n := 0) ps).shaped (by decide), (shp_nats (n := 0) []).shaped (by decide), ?_⟩⟩
  rw [eqvL_nil]
  show if (ps.map ppD).isEmpty = true then _ else _
  refine ite2' (fun _ => ?_) (fun hne => ?_)
  · exact ⟨G, M2, Wk.drop0, sz0, fun x1 f1 => pap_fin (Mx := [_]) (N' := M2) q2 Ex.refl (.list (.inl List.mem_cons_self) .nil) (pa_list (fun z hz => absurd hz List.not_mem_nil) (Nat.zero_le _)) hs2 (set_same hn2)⟩
  have hpos : 0 < us.length := by
    rw [hlen]
    cases hps : ps with
    | nil => rw [hps] at hne; cases hne
    | cons _ _ => exact Nat.succ_pos _
  refine ⟨G, M2, Wk.drop0, us, has _, (by show (0 : Int) < (us.length : Int); omega), ?_⟩
  obtain ⟨at2, hat2, hat2l⟩ : ∃ at2 : Nat, (at1 : Int) % (us.length : Int) = (at2 : Int) ∧ at2 < us.length := ⟨at1 % us.length, (Int.natCast_emod _ _).symm, Nat.mod_lt _ hpos⟩
  show (kSeq _ _ : KS) _ [some (.ref p), some (.ref a), some (.int ((at1 : Int) % (us.length : Int))), some (.int (way : Nat)), none, none] _ _
  rw [hat2]
  obtain ⟨v1, d1, hv1, hd1, hr1⟩ := hr.get (i := at2) hat2l
  refine ⟨G, M2, Wk.refl, ite2' (c := decide (V.int (way : Nat) = .int 3)) (fun _ => ?_) (fun _ => ?_)⟩
  · refine ⟨G, M2, Wk.refl, us, has _, p, _, n, c2, s2, rfl, rfl, hn2, hs2, by omega, Int.lt_of_le_of_lt (b := 100) (by omega) (by decide), fun r3 c3 s3 r30 r31 hs3 => ?_⟩
    obtain ⟨ot, rfl⟩ := Int.eq_ofNat_of_zero_le r30
    have hot : ot < us.length := by omega
    obtain ⟨v3, d3, hv3, hd3, hr3⟩ := hr.get (i := ot) hot
    refine ⟨G, _, Wk.refl, us, has _, fun x1 f1 => ?_⟩
    refine ⟨G, _, Wk.refl, us, _, has _, atI_nat hv3, 0, us, at2, rfl, ixN_nat hat2l, ?_⟩
    refine ⟨G, _, Wk.refl, us, _, has _, atI_nat hv1, 0, us.set at2 v3, ot, rfl, by rw [List.length_set]; exact ixN_nat hot, ?_⟩
    refine ⟨G, _, Wk.refl, pap_fin (Mx := [(x1, .lst ((us.set at2 v3).set ot v1))]) (N' := M2.set n (p, pool c3 s3)) (d := .list ((ds.set at2 d3).set ot d1)) q2 Ex.refl (.list (.inl List.mem_cons_self) ((rpa_set ot (rpa_set at2 hr hr3) hr1).up Ex.refl fun _ z => absurd z List.not_mem_nil)) (pa_list (fun z hz => ?_) (by rw [List.length_set, List.length_set]; omega)) hs3 rfl⟩
    rcases List.mem_or_eq_of_mem_set hz with hz | rfl
    · rcases List.mem_or_eq_of_mem_set hz with hz | rfl
      · exact hok _ hz
      · exact hok _ (List.mem_of_getElem? hd3)
    · exact hok _ (List.mem_of_getElem? hd1)
  have e2 : ((at2 : Int) + 1) = ((at2 + 1 : Nat) : Int) := by omega
  obtain ⟨pp, hpp, hpg⟩ := h2.get' hv1
  obtain ⟨k, hk1, hk2⟩ := hpo.ok.get hpp
  refine ⟨G, M2, Wk.refl, us, hal _, fun x1 f1 => ⟨us, v1, has _, atI_nat hv1, us, has _, p, n + 1, c2, s2, ks, k, pp, rfl, by rw [hlk, ← hlen], hn2, hs2, hpg, hk2, hk k (List.mem_of_getElem? hk1), h6, fun v d c3 s3 G3 ex3 hrv hpx hsq hs3 => ⟨sz1, fun x2 f2 => ?_⟩⟩⟩
  have ha3 : G3 a = some (.lst us) := ex3 _ _ ha
  have hrd := hr.ex ex3
  refine ⟨_, _, .inl (List.mem_cons_of_mem _ List.mem_cons_self), .inl List.mem_cons_self, ?_, fun x3 f3 => ⟨us, .inr (sql_of ha3), fun x4 f4 => ⟨_, _, .inl (List.mem_cons_of_mem _ List.mem_cons_self), .inl List.mem_cons_self, ?_, fun x5 f5 => ?_⟩⟩⟩
  · rw [cut_hi (by omega)]
    exact hcat _ _ (by rw [List.length_take]; omega) (show 1 ≤ 7 by decide)
  · rw [cut_hi (by omega), e2, cut_lo (by omega)]
    exact hcat _ _ (by rw [List.length_append, List.length_take]; show _ + 1 ≤ 7; omega) (by rw [List.length_drop]; omega)
  · rw [cut_hi (by omega), e2, cut_lo (by omega)]
    refine pap_fin (Mx := [_, _, _, _, _]) (N' := M2.set n (p, pool c3 s3)) q2 ex3 (.list (.inl List.mem_cons_self) ((((rpa_take at2 hrd).app (.cons hrv .nil)).app (rpa_drop (at2 + 1) hrd)).up Ex.refl fun _ z => absurd z List.not_mem_nil)) (pa_list (fun z hz => ?_) ?_) hs3 rfl
    · rcases List.mem_append.mp hz with hz | hz
      · rcases List.mem_append.mp hz with hz | hz
        · exact hok _ (List.mem_of_mem_take hz)
        · rw [List.mem_singleton.mp hz]; exact ⟨hpx, hsq⟩
      · exact hok _ (List.mem_of_mem_drop hz)
    · rw [List.length_append, List.length_append, List.length_take, List.length_drop]; show _ + 1 + _ ≤ 7; omega
end
section
variable {K : PySem.W.Frag} {vs : List V} {G : Hp} {M : Mem} {R : KR} {Z : KX}
/-! signs that are bent -/
def SgsR (K : PySem.W.Frag) (G : Hp) (N : Mem) (n : Nat) (p : Addr) (ks : List Kn) (R : KR) : Prop := ∀ (q : Addr) (sg' : List Sg) (c' s' : Int) (G' : Hp), Ex G G' → SgsG K G' q sg' → sg'.length ≤ 20 → (∀ s, s ∈ sg' → SgOk ks s ∧ SgB 60 s) → PoolOk s' → R (.ref q) G' (N.set n (p, pool c' s'))
theorem SgsR.set {n : Nat} {p : Addr} {N : Mem} {x : Addr × HO} {ks : List Kn} (q : SgsR K G N n p ks R) : SgsR K G (N.set n x) n p ks R := fun v d c' s' G2 e2 hr hp hq hs => by
  rw [List.set_set]; exact q v d c' s' G2 e2 hr hp hq hs
theorem sgs_fin {n : Nat} {p x : Addr} {ks : List Kn} {G' : Hp} {N N' Mx : Mem} {us' : List V} {sg' : List Sg} {c' s' : Int} (q : SgsR K G N n p ks R) (ex : Ex G G') (hx : (x, HO.lst us') ∈ Mx) (hd : DpAll K G' us' (sg'.map sgD)) (hl : sg'.length ≤ 20) (hok : ∀ s, s ∈ sg' → SgOk ks s ∧ SgB 60 s) (hs : PoolOk s') (hN : N' = N.set n (p, pool c' s')) : wkR R (.ref x) G' (Mx ++ N') := fun H hv => by
  have nc := Hv.newc ⟨H, hv⟩
  subst hN
  exact retW (frzA_wk Mx _ _) (q x sg' c' s' _ (ex.trans (frzA_ex nc)) ⟨us', sql_of (frzA_at nc.2 (x, .lst us') hx), ex_ds (frzA_ex nc) _ hd⟩ hl hok hs) H hv
theorem dpall_take : ∀ {vs : List V} {ds : List PyData} (k : Nat), DpAll K G vs ds → DpAll K G (vs.take k) (ds.take k)
  | _, _, 0, _ => .nil
  | _, _, _ + 1, .nil => .nil
  | _, _, k + 1, .cons a b => .cons a (dpall_take k b)
theorem dpall_drop : ∀ {vs : List V} {ds : List PyData} (k : Nat), DpAll K G vs ds → DpAll K G (vs.drop k) (ds.drop k)
  | _, _, 0, h => h
  | _, _, _ + 1, .nil => .nil
  | _, _, k + 1, .cons _ b => dpall_drop k b
theorem SgB.up {s : Sg} (h : SgB 50 s) : SgB 60 s := by
  cases s with
  | room b s r => obtain ⟨h1, h2⟩ := h; exact ⟨by omega, h2⟩
  | item b s d i => exact Nat.le_trans h (by decide)
  | way b s d p e => exact Nat.le_trans h (by decide)
/-- one sign is put in the place of another -/
theorem signs_put {te : KE} {σ : St} {E : KX} {n i : Nat} {p o : Addr} {ks : List Kn} {us : List V} {sg : List Sg} (q : SgsR K G M n p ks R) (ho : SqL K G o us) (hd : DpAll K G us (sg.map sgD)) (hul : us.length = sg.length) (hi : i < us.length) (hl : sg.length ≤ 20) (hok : ∀ s, s ∈ sg → SgOk ks s ∧ SgB 50 s)
    (h2 : σ[2]? = some (some (.ref o))) (h3 : σ[3]? = some (some (.int (i : Nat))))
    (h : ∀ (x1 : Addr) (R' : KR), (∀ (T : Addr) (g' : Sg) (c' s' : Int) (G' : Hp) (My : Mem), Ex G G' → SqT K G' T g'.vs → SgOk ks g' → SgB 60 g' → PoolOk s' → R' (.ref T) G' (My ++ (x1, .lst (us.take i)) :: M.set n (p, pool c' s'))) → te σ G ((x1, .lst (us.take i)) :: M) R' E) :
    kBin kAdd (kBin kAdd (kSl K (kVar 2) kNoP (kPart (kVar 3))) (kLst (kCons te kNil))) (kSl K (kVar 2) (kPart (kBin kAdd (kVar 3) (kC (.int 1)))) kNoP) σ G M (wkR R) E := by
  have e1 : ((i : Int) + 1) = ((i + 1 : Nat) : Int) := by omega
  have hcat : ∀ x y : List V, x.length ≤ 100 → y.length ≤ 100 → x.length + y.length ≤ sizeLine := fun x y h1 h2 => sz (by omega)
  simp only [kBin, kSl, kNoP, kPart, kLst, kCons, kVar, h2, h3]
  refine ⟨us, .inr ho, fun x1 f1 => ?_⟩
  rw [cut_hi (by omega)]
  refine h x1 _ fun T g' c' s' G' My ex hT hg1 hg2 hs' => ⟨sz1, fun x2 f2 => ⟨us.take i, [.ref T], .inl (by simp), .inl (by simp), hcat _ _ (by rw [List.length_take]; omega) (show 1 ≤ 100 by decide), fun x3 f3 => ⟨us, .inr (ex_l ex ho), fun x4 f4 => ⟨_, _, .inl (List.mem_cons_of_mem _ List.mem_cons_self), .inl List.mem_cons_self, ?_, fun x5 f5 => ?_⟩⟩⟩⟩
  · show _ + (cutV us (some ((i : Int) + 1)) none).length ≤ _
    rw [e1, cut_lo (by omega)]
    exact hcat _ _ (by rw [List.length_append, List.length_take]; show _ + 1 ≤ 100; omega) (by rw [List.length_drop]; omega)
  · show wkR R (.ref x5) G' ((x5, .lst (us.take i ++ [.ref T] ++ cutV us (some ((i : Int) + 1)) none)) :: (x4, .lst (cutV us (some ((i : Int) + 1)) none)) :: (x3, .lst (us.take i ++ [.ref T])) :: (x2, .lst [.ref T]) :: (My ++ (x1, .lst (us.take i)) :: M.set n (p, pool c' s')))
    rw [e1, cut_lo (by omega)]
    have eM : (x5, HO.lst (us.take i ++ [.ref T] ++ us.drop (i + 1))) :: (x4, .lst (us.drop (i + 1))) :: (x3, .lst (us.take i ++ [.ref T])) :: (x2, .lst [.ref T]) :: (My ++ (x1, .lst (us.take i)) :: M.set n (p, pool c' s')) = ((x5, HO.lst (us.take i ++ [.ref T] ++ us.drop (i + 1))) :: (x4, .lst (us.drop (i + 1))) :: (x3, .lst (us.take i ++ [.ref T])) :: (x2, .lst [.ref T]) :: (My ++ [(x1, .lst (us.take i))])) ++ M.set n (p, pool c' s') := by simp
    rw [eM]
    refine sgs_fin q ex List.mem_cons_self (sg' := sg.take i ++ [g'] ++ sg.drop (i + 1)) ?_ ?_ ?_ hs' rfl
    · rw [List.map_append, List.map_append, List.map_take, List.map_drop]
      exact dpall_app2 (dpall_app2 (dpall_take i (ex_ds ex _ hd)) (.cons (dp_sg hT) .nil)) (dpall_drop (i + 1) (ex_ds ex _ hd))
    · rw [List.length_append, List.length_append, List.length_take, List.length_drop]; show _ + 1 + _ ≤ 20; omega
    · intro s hs
      rcases List.mem_append.mp hs with hs | hs
      · rcases List.mem_append.mp hs with hs | hs
        · have := hok s (List.mem_of_mem_take hs); exact ⟨this.1, this.2.up⟩
        · rw [List.mem_singleton.mp hs]; exact ⟨hg1, hg2⟩
      · have := hok s (List.mem_of_mem_drop hs); exact ⟨this.1, this.2.up⟩
def flipS : Sg → Sg
  | .room b s r => .room (!b) s r
  | .item b s d i => .item (!b) s d i
  | .way b s d p e => .way (!b) s d p e
def bumpS : Sg → Sg
  | .room b s r => .room b (s + 1) r
  | .item b s d i => .item b (s + 1) d i
  | .way b s d p e => .way b (s + 1) d p e
theorem flip_ok {ks : List Kn} {g : Sg} (h : SgOk ks g ∧ SgB 50 g) : SgOk ks (flipS g) ∧ SgB 60 (flipS g) := by
  obtain ⟨h1, h2⟩ := h
  cases g with
  | room b s r => obtain ⟨h1, h2⟩ := h2; exact ⟨trivial, by omega, h2⟩
  | item b s d i => exact ⟨h1, Nat.le_trans h2 (by decide)⟩
  | way b s d p e => exact ⟨h1, Nat.le_trans h2 (by decide)⟩
theorem bump_ok {ks : List Kn} {g : Sg} (h : SgOk ks g ∧ SgB 50 g) : SgOk ks (bumpS g) ∧ SgB 60 (bumpS g) := by
  obtain ⟨h1, h2⟩ := h
  cases g with
  | room b s r => obtain ⟨h1, h2⟩ := h2; exact ⟨trivial, by omega, h2⟩
  | item b s d i => exact ⟨h1, by have h2 : s ≤ 50 := h2; show s + 1 ≤ 60; omega⟩
  | way b s d p e => exact ⟨h1, by have h2 : s ≤ 50 := h2; show s + 1 ≤ 60; omega⟩
theorem sg_form (g : Sg) : ∃ (v0 r : V) (b : Bool) (sh : Nat) (rest : List V), rest.length ≤ 2 ∧ g.vs = v0 :: .str (deedS b) :: .int (sh : Int) :: r :: rest ∧ (flipS g).vs = v0 :: .str (deedS !b) :: .int (sh : Int) :: r :: rest ∧ (bumpS g).vs = v0 :: .str (deedS b) :: .int ((sh : Int) + 1) :: r :: rest := by
  cases g with
  | room b s r => exact ⟨_, _, b, s, [], by decide, rfl, rfl, rfl⟩
  | item b s d i => exact ⟨_, _, b, s, [_], (show 1 ≤ 2 by decide), rfl, rfl, rfl⟩
  | way b s d p e => exact ⟨_, _, b, s, [_, _], Nat.le_refl _, rfl, rfl, rfl⟩
theorem sIx_hi {n k : Nat} (h : k ≤ n) : HT.sIx n n (some ((k : Nat) : Int)) = k := by
  unfold HT.sIx; simp only []; split <;> omega
theorem sIx_lo {n k : Nat} (h : k ≤ n) : HT.sIx n 0 (some ((k : Nat) : Int)) = k := by
  unfold HT.sIx; simp only []; split <;> omega
theorem deed_at (b : Bool) : atI [V.str "lay", V.str "look"] (if decide (V.str (deedS b) = V.str "lay") = true then 1 else 0) = some (.str (deedS !b)) := by
  cases b
  · rw [show decide (V.str (deedS false) = V.str "lay") = false from by decide +kernel]; rfl
  · rw [show decide (V.str (deedS true) = V.str "lay") = true from by decide +kernel]; rfl
end
section
variable {K : PySem.W.Frag} {vs : List V} {G : Hp} {M : Mem} {R : KR} {Z : KX}
theorem pf_law_bent_signs (h : S_law_bent_signs K vs G M R Z) : rd_law_bent_signs K (ends R Z) (sta 6 vs) G M := by
  obtain ⟨_, _, _, rfl, p, n, c, s, a, o, ks, sg, rfl, rfl, rfl, hn, hs, hk, hkn, h6, ⟨us, ho, hd⟩, hl20, hok, q⟩ := sp3_of h
  clear h
  have q : SgsR K G M n p ks R := q
  have hul : us.length = sg.length := by have := dpall_len hd; rw [List.length_map] at this; exact this
  have hal : ∀ M : Mem, LstAt K G M o us := fun M => .inr ho
  have has : ∀ M : Mem, SeqAt' K G M o us := fun M => .inl (hal M)
  have hcat : ∀ x y : List V, x.length ≤ 100 → y.length ≤ 100 → x.length + y.length ≤ sizeLine := fun x y h1 h2 => sz (by omega)
  refine ⟨G, M, Wk.refl, us, has _, p, (us.length : Int) + 1, n, c, s, rfl, rfl, hn, hs, by omega, Int.lt_of_le_of_lt (b := 100) (by omega) (by decide), fun r1 c1 s1 r10 r11 hs1 => ?_⟩
  obtain ⟨at1, rfl⟩ := Int.eq_ofNat_of_zero_le r10
  have hat : at1 ≤ us.length := by omega
  have hn1 := set_n (x := (p, pool c1 s1)) hn
  have q1 := q.set (x := (p, pool c1 s1))
  obtain ⟨M1, hM1⟩ : ∃ M1, M1 = M.set n (p, pool c1 s1) := ⟨_, rfl⟩
  rw [← hM1] at hn1 q1 ⊢
  refine ⟨G, M1, Wk.refl, p, 4, n, c1, s1, rfl, rfl, hn1, hs1, by decide, by decide, fun r2 c2 s2 r20 r21 hs2 => ?_⟩
  obtain ⟨way, rfl⟩ := Int.eq_ofNat_of_zero_le r20
  have hn2 := set_n (x := (p, pool c2 s2)) hn1
  have q2 := q1.set (x := (p, pool c2 s2))
  obtain ⟨M2, hM2⟩ : ∃ M2, M2 = M1.set n (p, pool c2 s2) := ⟨_, rfl⟩
  rw [← hM2] at hn2 q2 ⊢
  have e1 : ((at1 : Int) + 1) = ((at1 + 1 : Nat) : Int) := by omega
  have out : ∀ G0 : Hp, (kSeq (kRet (kBin (kAdd) (kSl K (kVar 2) (kNoP) (kPart (kVar 3))) (kSl K (kVar 2) (kPart (kBin (kAdd) (kVar 3) (kC (.int 1)))) (kNoP)))) (kNext)) { ends R Z with nx := rd_law_bent_signs_3 K (ends R Z) } [some (.ref p), some (.ref a), some (.ref o), some (.int (at1 : Nat)), some (.int (way : Nat)), none] G M2 := fun _ => by
    refine ⟨G, M2, Wk.refl, us, hal _, fun x1 f1 => ⟨us, hal _, fun x2 f2 => ⟨_, _, .inl (List.mem_cons_of_mem _ List.mem_cons_self), .inl List.mem_cons_self, ?_, fun x3 f3 => ?_⟩⟩⟩
    · rw [cut_hi hat, e1, cut_lo (by omega)]
      exact hcat _ _ (by rw [List.length_take]; omega) (by rw [List.length_drop]; omega)
    · rw [e1, cut_hi hat, cut_lo (by omega)]
      refine sgs_fin (Mx := [_, _, _]) (N' := M2) q2 Ex.refl List.mem_cons_self (sg' := sg.take at1 ++ sg.drop (at1 + 1)) ?_ (by rw [List.length_append, List.length_take, List.length_drop]; omega) (fun s hs => ?_) hs2 (set_same hn2)
      · rw [List.map_append, List.map_take, List.map_drop]
        exact dpall_app2 (dpall_take at1 hd) (dpall_drop (at1 + 1) hd)
      · rcases List.mem_append.mp hs with hs | hs
        · have := hok s (List.mem_of_mem_take hs); exact ⟨this.1, this.2.up⟩
        · have := hok s (List.mem_of_mem_drop hs); exact ⟨this.1, this.2.up⟩
  refine ⟨G, M2, Wk.refl, ?_⟩
  show if decide (V.int (way : Nat) = .int 0) = true then _ else _
  refine ite2' (fun _ => out G) (fun _ => ⟨sz0, fun x0 f0 => ⟨.list (sg.map sgD), .list [], dat_list (hal _) (dats_g hd), dat_list lat_0 dats_nil, (shp_sgs _).shaped (by decide), (shp_nats (n := 0) []).shaped (by decide), ?_⟩⟩)
  rw [eqvL_nil]
  show if (sg.map sgD).isEmpty = true then _ else _
  refine ite2' (fun _ => kseq_wk Wk.drop0 (out G)) (fun hne => ?_)
  have hpos : 0 < us.length := by
    rw [hul]
    cases hps : sg with
    | nil => rw [hps] at hne; cases hne
    | cons _ _ => exact Nat.succ_pos _
  refine ⟨G, M2, Wk.drop0, us, has _, (by show (0 : Int) < (us.length : Int); omega), ?_⟩
  obtain ⟨at2, hat2, hat2l⟩ : ∃ at2 : Nat, (at1 : Int) % (us.length : Int) = (at2 : Int) ∧ at2 < us.length := ⟨at1 % us.length, (Int.natCast_emod _ _).symm, Nat.mod_lt _ hpos⟩
  show (kSeq _ _ : KS) _ [some (.ref p), some (.ref a), some (.ref o), some (.int ((at1 : Int) % (us.length : Int))), some (.int (way : Nat)), none] _ _
  rw [hat2]
  obtain ⟨g, hg⟩ : ∃ g, sg[at2]? = some g := ⟨_, List.getElem?_eq_getElem (by omega)⟩
  obtain ⟨v, hv, hvd⟩ := dpall_at (i := at2) (d := sgD g) hd (by rw [List.getElem?_map, hg]; rfl)
  obtain ⟨T, rfl, hT⟩ := sg_inv hvd
  have hgo := hok g (List.mem_of_getElem? hg)
  obtain ⟨v0, rr, b, sh, rest, hrest, hvs, hfl, hbu⟩ := sg_form g
  have hlen : g.vs.length = rest.length + 4 := by rw [hvs]; rfl
  refine ⟨G, M2, Wk.refl, us, _, has _, atI_nat hv, ?_⟩
  refine ⟨G, M2, Wk.refl, ite2' (c := decide (V.int (way : Nat) = .int 1)) (fun _ => ?_) (fun _ => ?_)⟩
  · refine ⟨G, M2, Wk.refl, kret_of (signs_put (ks := ks) (i := at2) q2 ho hd hul hat2l hl20 hok rfl rfl fun x1 R' k => ?_)⟩
    refine ⟨g.vs, hT, fun z => absurd z.2 (by rw [show HT.sIx g.vs.length g.vs.length (some 1) = 1 from sIx_hi (k := 1) (by omega)]; omega), fun _ c1' f1 => ⟨sz2, fun y fy => ?_⟩⟩
    have hc1 : cutV g.vs none (some 1) = [v0] := by rw [show cutV g.vs none (some 1) = g.vs.take 1 from cut_hi (k := 1) (by omega), hvs]; rfl
    rw [hc1] at fy ⊢
    have x1' := Ex.new (o := .tup [v0]) f1
    refine ⟨g.vs, .str (deedS b), .inr (ex_t x1' hT), (by rw [hvs]; exact atI_nat (j := 1) rfl), ?_⟩
    refine ⟨[.str "lay", .str "look"], .str (deedS !b), lst_n (n := 0) rfl, deed_at b, sz1, fun c2' f2 => ?_⟩
    have x2' := Ex.new (o := .tup [.str (deedS !b)]) f2
    refine ⟨_, _, ex_t x2' sqt_new, sqt_new, by show 1 + 1 ≤ _; decide, fun z => (by cases z), fun _ z => (by cases z), fun _ _ c3' f3 => ?_⟩
    have x3' := Ex.new (o := .tup ([v0] ++ [.str (deedS !b)])) f3
    refine ⟨g.vs, ex_t x3' (ex_t x2' (ex_t x1' hT)), fun z => absurd z.1 (by rw [show HT.sIx g.vs.length 0 (some 2) = 2 from sIx_lo (k := 2) (by omega)]; decide), fun _ c4' f4 => ?_⟩
    have hc2 : cutV g.vs (some 2) none = .int (sh : Int) :: rr :: rest := by rw [show cutV g.vs (some 2) none = g.vs.drop 2 from cut_lo (k := 2) (by omega), hvs]; rfl
    rw [hc2]
    have x4' := Ex.new (o := .tup (.int (sh : Int) :: rr :: rest)) f4
    refine ⟨_, _, ex_t x4' sqt_new, sqt_new, (by show 2 + (rest.length + 2) ≤ _; exact sz (by omega)), fun z => (by cases z), fun _ z => (by cases z), fun _ _ c5' f5 => ?_⟩
    have x5' := Ex.new (o := .tup (([v0] ++ [.str (deedS !b)]) ++ (.int (sh : Int) :: rr :: rest))) f5
    have := k c5' (flipS g) c2 s2 _ [(y, .lst [.str "lay", .str "look"])] ((((x1'.trans x2').trans x3').trans x4').trans x5') (by rw [hfl]; exact sqt_new) (flip_ok hgo).1 (flip_ok hgo).2 hs2
    rw [← set_same hn2] at this
    exact this
  refine ⟨G, M2, Wk.refl, ite2' (c := decide (V.int (way : Nat) = .int 2)) (fun _ => ?_) (fun _ => ?_)⟩
  · refine ⟨G, M2, Wk.refl, kret_of (signs_put (ks := ks) (i := at2) q2 ho hd hul hat2l hl20 hok rfl rfl fun x1 R' k => ?_)⟩
    refine ⟨g.vs, hT, fun z => absurd z.2 (by rw [show HT.sIx g.vs.length g.vs.length (some 2) = 2 from sIx_hi (k := 2) (by omega)]; omega), fun _ c1' f1 => ?_⟩
    have hc1 : cutV g.vs none (some 2) = [v0, .str (deedS b)] := by rw [show cutV g.vs none (some 2) = g.vs.take 2 from cut_hi (k := 2) (by omega), hvs]; rfl
    rw [hc1]
    have x1' := Ex.new (o := .tup [v0, .str (deedS b)]) f1
    refine ⟨g.vs, .int (sh : Int), .inr (ex_t x1' hT), (by rw [hvs]; exact atI_nat (j := 2) rfl), sz1, fun c2' f2 => ?_⟩

    have x2' := Ex.new (o := .tup [.int ((sh : Int) + 1)]) f2
    refine ⟨_, _, ex_t x2' sqt_new, sqt_new, by show 2 + 1 ≤ _; decide, fun z => (by cases z), fun _ z => (by cases z), fun _ _ c3' f3 => ?_⟩
    have x3' := Ex.new (o := .tup ([v0, .str (deedS b)] ++ [.int ((sh : Int) + 1)])) f3
    refine ⟨g.vs, ex_t x3' (ex_t x2' (ex_t x1' hT)), fun z => absurd z.1 (by rw [show HT.sIx g.vs.length 0 (some 3) = 3 from sIx_lo (k := 3) (by omega)]; decide), fun _ c4' f4 => ?_⟩
    have hc2 : cutV g.vs (some 3) none = rr :: rest := by rw [show cutV g.vs (some 3) none = g.vs.drop 3 from cut_lo (k := 3) (by omega), hvs]; rfl
    rw [hc2]
    have x4' := Ex.new (o := .tup (rr :: rest)) f4
    refine ⟨_, _, ex_t x4' sqt_new, sqt_new, (by show 3 + (rest.length + 1) ≤ _; exact sz (by omega)), fun z => (by cases z), fun _ z => (by cases z), fun _ _ c5' f5 => ?_⟩
    have x5' := Ex.new (o := .tup (([v0, .str (deedS b)] ++ [.int ((sh : Int) + 1)]) ++ (rr :: rest))) f5
    have := k c5' (bumpS g) c2 s2 _ [] ((((x1'.trans x2').trans x3').trans x4').trans x5') (by rw [hbu]; exact sqt_new) (bump_ok hgo).1 (bump_ok hgo).2 hs2
    rw [← set_same hn2] at this
    exact this
  refine ⟨G, M2, Wk.refl, kret_of (signs_put (ks := ks) (i := at2) q2 ho hd hul hat2l hl20 hok rfl rfl fun x1 R' k => ?_)⟩
  exact ⟨p, n + 1, c2, s2, a, ks, rfl, rfl, hn2, hs2, hk, hkn, h6, fun T' g' c3 s3 G3 ex3 hT' hg' hs3 => k T' g' c3 s3 G3 [] ex3 hT' hg'.1 hg'.2.up hs3⟩
end
section
variable {K : PySem.W.Frag} {vs : List V} {G : Hp} {M : Mem} {R : KR} {Z : KX}
/-! sizes of kinds and signs as they are shown -/
theorem str_sm {t : Str} (h : t = "room" ∨ t = "item" ∨ t = "way" ∨ t = "look" ∨ t = "lay" ∨ t = "leaf" ∨ t = "shuffle") : Shq 0 70 (.str t) := by
  rcases h with rfl | rfl | rfl | rfl | rfl | rfl | rfl <;> exact ⟨by decide +kernel, by decide +kernel, by decide +kernel, by decide +kernel⟩
theorem deed_sm (b : Bool) : Shq 0 70 (.str (deedS b)) := by
  cases b
  · exact str_sm (.inr (.inr (.inr (.inl rfl))))
  · exact str_sm (.inr (.inr (.inr (.inr (.inl rfl)))))
theorem all_cons {x : PyData} {l : List PyData} {P : PyData → Prop} (h : P x) (t : ∀ d, d ∈ l → P d) : ∀ d, d ∈ x :: l → P d := fun d hd => by
  rcases List.mem_cons.mp hd with rfl | hd
  · exact h
  · exact t d hd
theorem all_nil {P : PyData → Prop} : ∀ d, d ∈ ([] : List PyData) → P d := fun _ hd => absurd hd List.not_mem_nil
theorem sg_sm {ks : List Kn} {g : Sg} (ho : SgOk ks g) (hb : SgB 60 g) (hk : ∀ k, k ∈ ks → KnOk k) (hl : ks.length ≤ 6) : Shq 1 426 (sgD g) := by
  cases g with
  | room b s r =>
    obtain ⟨h1, h2⟩ := hb
    exact (shq_tup (n := 4) (all_cons (str_sm (.inl rfl)) (all_cons (deed_sm b) (all_cons (nat_sm (by omega)) (all_cons (nat_sm (by omega)) all_nil)))) (Nat.le_refl _)).up (Nat.le_refl _) (by decide)
  | item b s d i =>
    obtain ⟨n, h1, h2⟩ := ho
    have h3 : s ≤ 60 := hb
    have h4 := (List.getElem?_eq_some_iff.mp h1).1
    have h5 : n ≤ 64 := (hk _ (List.mem_of_getElem? h1)).1
    exact (shq_tup (n := 5) (all_cons (str_sm (.inr (.inl rfl))) (all_cons (deed_sm b) (all_cons (nat_sm (by omega)) (all_cons (nat_sm (by omega)) (all_cons (nat_sm (by omega)) all_nil))))) (Nat.le_refl _)).up (Nat.le_refl _) (by decide)
  | way b s d p e =>
    obtain ⟨n, h1, h2, h6⟩ := ho
    have h3 : s ≤ 60 := hb
    have h4 := (List.getElem?_eq_some_iff.mp h1).1
    have h5 : n ≤ 64 := (hk _ (List.mem_of_getElem? h1)).1
    exact (shq_tup (n := 6) (all_cons (str_sm (.inr (.inr (.inl rfl)))) (all_cons (deed_sm b) (all_cons (nat_sm (by omega)) (all_cons (nat_sm (by omega)) (all_cons (nat_sm (by omega)) (all_cons (nat_sm (by omega)) all_nil)))))) (Nat.le_refl _)).up (Nat.le_refl _) (by decide)
theorem sgs_sm {ks : List Kn} {l : List Sg} (h : ∀ s, s ∈ l → SgOk ks s ∧ SgB 60 s) (hk : ∀ k, k ∈ ks → KnOk k) (hl : ks.length ≤ 6) (hn : l.length ≤ 20) : Shq 4 66000 (.list (l.map sgD)) := by
  refine (shq_list (n := 20) (w := 426) (p := 1) (fun d hd => ?_) (by rw [List.length_map]; exact hn)).up (by decide) (by decide)
  obtain ⟨g, hg, rfl⟩ := List.mem_map.mp hd
  exact sg_sm (h g hg).1 (h g hg).2 hk hl
theorem kn_sm {k : Kn} (h : KnOk k) : Shq 1 426 (knD k) := by
  have h1 := h.1
  refine (shq_tup (n := 2) (all_cons ?_ (all_cons (nat_sm (by omega)) all_nil)) (Nat.le_refl _)).up (Nat.le_refl _) (by decide)
  unfold Kn.txt
  split
  · exact str_sm (.inr (.inr (.inr (.inr (.inr (.inl rfl))))))
  · exact str_sm (.inr (.inr (.inr (.inr (.inr (.inr rfl))))))
theorem kns_sm {ks : List Kn} (hk : ∀ k, k ∈ ks → KnOk k) (hl : ks.length ≤ 6) : Shq 4 66000 (.list (ks.map knD)) := by
  refine (shq_list (n := 6) (w := 426) (p := 1) (fun d hd => ?_) (by rw [List.length_map]; exact hl)).up (by decide) (by decide)
  obtain ⟨g, hg, rfl⟩ := List.mem_map.mp hd
  exact kn_sm (hk g hg)
/-- one trial -/
structure TrG (K : PySem.W.Frag) (G : Hp) (ks : List Kn) (o1 o2 : Addr) (w : V) (one other : List Sg) (d : XD) : Prop where
  s1 : SgsG K G o1 one
  s2 : SgsG K G o2 other
  l1 : one.length ≤ 20
  l2 : other.length ≤ 20
  k1 : ∀ s, s ∈ one → SgOk ks s ∧ SgB 60 s
  k2 : ∀ s, s ∈ other → SgOk ks s ∧ SgB 60 s
  hr : Rp K G [] w d
  hd : PaOk d
theorem TrG.ex {G' : Hp} {ks : List Kn} {o1 o2 : Addr} {w : V} {one other : List Sg} {d : XD} (e : Ex G G') (h : TrG K G ks o1 o2 w one other d) : TrG K G' ks o1 o2 w one other d := ⟨h.s1.ex e, h.s2.ex e, h.l1, h.l2, h.k1, h.k2, h.hr.ex e, h.hd⟩
theorem TrG.repr {ks : List Kn} {a x o1 o2 : Addr} {w : V} {one other : List Sg} {d : XD} (h : TrG K G ks o1 o2 w one other d) (hk : KnF K G a ks) (hkn : ∀ k, k ∈ ks → KnOk k) (hkl : ks.length ≤ 6) (hx : LstAt K G M x [.ref a, .ref o1, .ref o2, w]) (q : R (.str (PyData.list [.list (ks.map knD), .list (one.map sgD), .list (other.map sgD), d.pd]).shown) G M) : kReprQ K [.ref x] G M R := by
  obtain ⟨us1, hu1, hd1⟩ := h.s1
  obtain ⟨us2, hu2, hd2⟩ := h.s2
  obtain ⟨uk, z1, z2, _⟩ := knF_at (M := M) hk hkn (by omega)
  refine repr_shq (w := 4 * (66000 + 1)) (dqt_lst hx (dqs_cons (dqt_of (dat_list z1 (dats_g z2))) (dqs_cons (dqt_of (dat_list (.inr hu1) (dats_g hd1))) (dqs_cons (dqt_of (dat_list (.inr hu2) (dats_g hd2))) (dqs_cons (rp_dq h.hr) dqs_nil))))) (shq_list (n := 4) (p := 4) (all_cons (kns_sm hkn hkl) (all_cons (sgs_sm h.k1 hkn hkl h.l1) (all_cons (sgs_sm h.k2 hkn hkl h.l2) (all_cons h.hd.2 all_nil)))) (Nat.le_refl _)) (by decide) q
theorem knil_of' {σ : St} {R : List V → Hp → Mem → Prop} {E : KX} (h : R [] G M) : kNil σ G M R E := h
theorem right_b0 {a o1 o2 : Addr} {ks : List Kn} {w : V} {one other : List Sg} {d : XD} {y0 y2 y3 y4 y5 y6 y7 y11 y12 : Option V} {D : Kd} (hk : KnF K G a ks) (hkn : ∀ k, k ∈ ks → KnOk k) (hkl : ks.length ≤ 6) (h : TrG K G ks o1 o2 w one other d)
    (q : ∀ (G' : Hp) (M' : Mem) (y11 y12 : Option V), Ex G G' → Wk G' M' G' M → D.nx [y0, some (.ref a), y2, y3, y4, y5, y6, y7, some (.ref o1), some (.ref o2), some w, y11, y12] G' M') :
    rd_law_right_b0 K D [y0, some (.ref a), y2, y3, y4, y5, y6, y7, some (.ref o1), some (.ref o2), some w, y11, y12] G M := by
  refine ⟨G, M, Wk.refl, sz4, fun x1 f1 => ?_⟩
  refine knil_of' (h.repr hk hkn hkl lat_0 ?_)
  have l1 := h.l1
  have l2 := h.l2
  have cont : ∀ G1, Ex G G1 → rd_law_right_b0_2 K D [y0, some (.ref a), y2, y3, y4, y5, y6, y7, some (.ref o1), some (.ref o2), some w, some (.str (PyData.list [.list (ks.map knD), .list (one.map sgD), .list (other.map sgD), d.pd]).shown), some (.bl (dueB ks d one other))] G1 M := fun G1 ex1 => by
    have h1 := h.ex ex1
    have hk1 := hk.ex ex1
    refine ⟨G1, M, Wk.refl, .type "bool", .type "bool", _, .ty "bool", ty_bl, kit_pt .bool .bool, a, o1, o2, ks, one, other, d, rfl, rfl, rfl, hk1, hkn, hkl, h1.s1, h1.s2, by omega, by omega, fun s hs => (h.k1 s hs).1, h1.hr, h1.hd.1, fun G2 ex2 => ?_⟩
    have h2 := h1.ex ex2
    have hk2 := hk1.ex ex2
    refine ite2' (c := !decide (V.bl (dueB ks d one other) = .bl (dueB ks d one other))) (fun e => by rw [decide_eq_true rfl] at e; cases e) (fun _ => ?_)
    refine ⟨G2, M, Wk.refl, sz4, fun x2 f2 => ?_⟩
    refine knil_of' (h2.repr hk2 hkn hkl lat_0 ?_)
    refine ite2' (c := !decide (V.str (PyData.list [.list (ks.map knD), .list (one.map sgD), .list (other.map sgD), d.pd]).shown = .str (PyData.list [.list (ks.map knD), .list (one.map sgD), .list (other.map sgD), d.pd]).shown)) (fun e => by rw [decide_eq_true rfl] at e; cases e) (fun _ => ?_)
    exact q G2 _ _ _ (ex1.trans ex2) Wk.drop0
  obtain ⟨us1, hu1, hd1⟩ := h.s1
  obtain ⟨us2, hu2, hd2⟩ := h.s2
  have kk := knF_at (M := M) hk hkn (by omega)
  cases e : paperX ks d with
  | false =>
    have e2 : dueB ks d one other = false := by unfold dueB; rw [e, Bool.false_and]
    rw [e2] at cont
    have pv := paperV_of (M := M) (ks := ks) h.hr h.hd.1
    rw [e] at pv
    exact ⟨G, M, Wk.drop0, a, o1, o2, ks, us1, us2, one, other, rfl, rfl, rfl, kk, .inr hu1, hd1, .inr hu2, hd2, by omega, by omega, fun s hs => (h.k1 s hs).1, fun s hs => (h.k2 s hs).1, .inl ⟨pv, cont G Ex.refl⟩⟩
  | true =>
    obtain ⟨pq, rfl, hpm, hpo⟩ := paper_ok h.hr e
    have e2 : leadB (papP d) one other = dueB ks d one other := by
      rw [due_lead hpo (fun s hs => (h.k1 s hs).1) (fun s hs => (h.k2 s hs).1)]
      unfold dueB
      rw [e, Bool.true_and]
    rw [← e2] at cont
    have hpm := hpm.more (Mx := M)
    rw [List.append_nil] at hpm
    exact ⟨G, M, Wk.drop0, a, o1, o2, ks, us1, us2, one, other, rfl, rfl, rfl, kk, .inr hu1, hd1, .inr hu2, hd2, by omega, by omega, fun s hs => (h.k1 s hs).1, fun s hs => (h.k2 s hs).1, .inr ⟨pq, papP d, rfl, hpm, hpo, cont⟩⟩
end
section
variable {K : PySem.W.Frag} {vs : List V} {G : Hp} {M : Mem} {R : KR} {Z : KX}
theorem ledS_b {m : Nat} {ps : List Pp} {g : Sg} (h : SgB m g) : SgB m (ledS ps g) := by cases g <;> exact h
theorem PapG.ex {G' : Hp} {q : Addr} {ps : List Pp} (e : Ex G G') (h : PapG K G q ps) : PapG K G' q ps := by
  obtain ⟨us, h1, h2⟩ := h
  exact ⟨us, e _ _ h1, h2.mono fun _ _ z => z.ex e⟩
theorem PapG.m {q : Addr} {ps : List Pp} (h : PapG K G q ps) : PapM K G M q ps := by
  obtain ⟨us, h1, h2⟩ := h
  exact ⟨us, .inr (sql_of h1), pps_m h2⟩
def TrV (K : PySem.W.Frag) (G : Hp) (ks : List Kn) (v : V) : Prop := ∃ (T o1 o2 : Addr) (w : V) (one other : List Sg) (d : XD), v = .ref T ∧ SqT K G T [.ref o1, .ref o2, w] ∧ TrG K G ks o1 o2 w one other d
theorem TrV.ex {G' : Hp} {ks : List Kn} {v : V} (e : Ex G G') (h : TrV K G ks v) : TrV K G' ks v := by
  obtain ⟨T, o1, o2, w, one, other, d, rfl, hT, ht⟩ := h
  exact ⟨T, o1, o2, w, one, other, d, rfl, ex_t e hT, ht.ex e⟩
theorem pf_law_right (h : S_law_right K vs G M R Z) : rd_law_right K (ends R Z) (sta 13 vs) G M := by
  refine of_now ?_
  simp (disch := with_unfolding_all
    obtain ⟨_, rfl, p, c, s, rfl, rfl, hs, k⟩ := sp1_of h
    clear h
    refine ⟨G, _, Wk.refl, p, 0, c, s, rfl, rfl, rfl, rfl, hs, fun a ks c1 s1 G1 ex1 hk hkn hkl hs1 => ?_⟩
    refine ⟨G1, _, Wk.refl, p, 0, c1, s1, a, ks, rfl, rfl, rfl, hs1, hk, hkn, hkl, fun q0 ps c2 s2 G2 ex2 hp hpo hs2 => ?_⟩
    have hk2 := hk.ex ex2
    refine ⟨G2, _, Wk.refl, p, 13, 0, c2, s2, rfl, rfl, rfl, hs2, by decide, by decide, fun r c3 s3 r0 r1 hs3 => ?_⟩
    refine ⟨by omega, sz (by show r.toNat ≤ _; omega), fun i acc G' M' => ∃ (sg : List Sg) (c s : Int), Ex G2 G' ∧ M' = [(p, pool c s)] ∧ PoolOk s ∧ sg.length = i ∧ DpAll K G' acc (sg.map sgD) ∧ ∀ g, g ∈ sg → SgOk ks g ∧ SgB 50 g, ⟨[], c3, s3, Ex.refl, rfl, hs3, rfl, .nil, fun _ z => absurd z List.not_mem_nil⟩, fun _ _ _ _ _ _ => trivial, ?_, ?_⟩
    · rintro i acc G' M' X hi hacc ⟨sg, c4, s4, ex, rfl, hs4, hl, hd, hg⟩ fX
      have hi : i < r.toNat := hi
      refine asg_R (v := (i : Int)) (by omega) ⟨rfl, p, 1, c4, s4, a, ks, rfl, rfl, rfl, hs4, hk2.ex ex, hkn, hkl, fun T g c5 s5 G5 ex5 hT hgo hs5 => ?_⟩
      refine ⟨G5, [(p, pool c5 s5)], Wk.refl, sg ++ [g], c5, s5, ex.trans ex5, rfl, hs5, by rw [List.length_append, hl]; rfl, ?_, fun x hx => ?_⟩
      · rw [List.map_append]; exact dpall_snoc (ex_ds ex5 _ hd) (dp_sg hT)
      · rcases List.mem_append.mp hx with hx | hx
        · exact hg x hx
        · rw [List.mem_singleton.mp hx]; exact hgo
    rintro us G3 M' o1 ⟨one, c4, s4, ex3, rfl, hs4, hl, hd, hg⟩ hacc fo1
    have hl : one.length = r.toNat := hl
    clear hacc
    have hul := dpall_len hd
    rw [List.length_map] at hul
    have exo := Ex.new (o := .lst us) fo1
    obtain ⟨G4, hG4⟩ : ∃ G4, G4 = upd G3 o1 (.lst us) := ⟨_, rfl⟩
    rw [← hG4] at exo
    have hu1 : SqL K G4 o1 us := by rw [hG4]; exact sql_new
    have hd1 : DpAll K G4 us (one.map sgD) := ex_ds exo _ hd
    have h1 : SgsG K G4 o1 one := ⟨us, hu1, hd1⟩
    refine ⟨G4, [(p, pool c4 s4)], by rw [hG4]; exact Wk.frz0, us, .inr hu1, sz (by show us.length ≤ _; omega), fun i acc G' M' => Ex G4 G' ∧ M' = [(p, pool c4 s4)] ∧ DpAll K G' acc (((one.take i).map (ledS ps)).map sgD), ⟨Ex.refl, rfl, .nil⟩, ?_, ?_, ?_⟩
    · rintro i acc G' M' _ ⟨ex, rfl, _⟩; exact .inr (ex_l ex hu1)
    · rintro i acc G' M' X hi hacc ⟨ex, rfl, hd2⟩ fX
      have hi : i < us.length := hi
      obtain ⟨g, hgi⟩ : ∃ g, one[i]? = some g := ⟨_, List.getElem?_eq_getElem (by omega)⟩
      obtain ⟨v, hv, hvd⟩ := dpall_get hd1 (i := i) (d := sgD g) (by rw [List.getElem?_map, hgi]; rfl)
      obtain ⟨T, rfl, hT⟩ := sg_inv hvd
      refine asg_L hv ⟨rfl, q0, T, g, ks, ps, rfl, rfl, (hp.ex ((ex3.trans exo).trans ex)).m, hpo, ex_t ex hT, (hg g (List.mem_of_getElem? hgi)).1, by omega, fun T' G5 ex5 hT' => ?_⟩
      refine ⟨G5, _, Wk.refl, ex.trans ex5, rfl, ?_⟩
      rw [take_succ' hgi, List.map_append, List.map_append]
      exact dpall_snoc (ex_ds ex5 _ hd2) (dp_sg hT')
    rintro us2 G5 M' o2 ⟨ex5, rfl, hd2⟩ hacc fo2
    have en : (srcL K o1 us).n = one.length := hul
    rw [en, List.take_length] at hd2
    clear hacc
    have exo2 := Ex.new (o := .lst us2) fo2
    obtain ⟨G6, hG6⟩ : ∃ G6, G6 = upd G5 o2 (.lst us2) := ⟨_, rfl⟩
    rw [← hG6] at exo2
    have ex46 := ex5.trans exo2
    have h2 : SgsG K G6 o2 (one.map (ledS ps)) := ⟨us2, by rw [hG6]; exact sql_new, ex_ds exo2 _ hd2⟩
    have ex26 := (ex3.trans exo).trans ex46
    have hk6 := hk2.ex ex26
    have ok1 : ∀ g, g ∈ one → SgOk ks g := fun g hg1 => (hg g hg1).1
    have hg2 : ∀ g, g ∈ one.map (ledS ps) → SgOk ks g ∧ SgB 50 g := fun g hg2 => by
      obtain ⟨x, hx, rfl⟩ := List.mem_map.mp hg2
      exact ⟨(ledS_ok hpo (hg x hx).1).1, ledS_b (hg x hx).2⟩
    have h1' := h1.ex ex46
    have hp6 := hp.ex ex26
    have l1 : one.length ≤ 20 := by omega
    have l2 : (one.map (ledS ps)).length ≤ 20 := by rw [List.length_map]; exact l1
    have hpr : ∀ {G' : Hp}, Ex G6 G' → Rp K G' [] (.ref q0) (.list (ps.map ppX)) := fun {G'} e => by
      obtain ⟨uq, z1, z2⟩ := hp6.ex e
      exact .list (.inr z1) (pps_rpa z2)
    have hpd : PaOk (.list (ps.map ppX)) := pa_list (fun z hz => pps_ok hpo hkn hkl hz) (by rw [List.length_map]; have := hpo.ok.len; omega)
    have up1 : ∀ {l : List Sg}, (∀ g, g ∈ l → SgOk ks g ∧ SgB 50 g) → ∀ g, g ∈ l → SgOk ks g ∧ SgB 60 g := fun h g hg => ⟨(h g hg).1, (h g hg).2.up⟩
    -- the four trials
    refine ⟨G6, [(p, pool c4 s4)], by rw [hG6]; exact Wk.frz0, sz3, fun T1 f1 => ?_⟩
    have x1 := Ex.new (o := .tup [.ref o1, .ref o2, .ref q0]) f1
    refine ⟨p, 0, c4, s4, q0, ks, ps, rfl, rfl, rfl, hs4, hp6.ex x1, hpo, hkn, hkl, fun v d c5 s5 G7 ex7 hr hpx hsq hs5 => ⟨sz3, fun T2 f2 => ⟨sz2, fun tl ftl => ?_⟩⟩⟩
    have x2 := Ex.new (o := .tup [.ref o1, .ref o2, v]) f2
    obtain ⟨G8, hG8⟩ : ∃ G8, G8 = upd G7 T2 (.tup [.ref o1, .ref o2, v]) := ⟨_, rfl⟩
    have x68 : Ex G6 G8 := by rw [hG8]; exact (x1.trans ex7).trans x2
    have t1 : TrV K G8 ks (.ref T1) := ⟨T1, o1, o2, .ref q0, one, one.map (ledS ps), .list (ps.map ppX), rfl, by rw [hG8]; exact ex_t (ex7.trans x2) sqt_new, h1'.ex x68, h2.ex x68, l1, l2, up1 hg, up1 hg2, hpr x68, hpd⟩
    have t2 : TrV K G8 ks (.ref T2) := ⟨T2, o1, o2, v, one, one.map (ledS ps), d, rfl, by rw [hG8]; exact sqt_new, h1'.ex x68, h2.ex x68, l1, l2, up1 hg, up1 hg2, by rw [hG8]; exact hr.ex x2, hpx, hsq⟩
    rw [← hG8] at ftl ⊢
    refine ⟨G8, _, Wk.refl, p, 1, c5, s5, a, o2, ks, one.map (ledS ps), rfl, rfl, rfl, rfl, hs5, hk6.ex x68, hkn, hkl, h2.ex x68, l2, hg2, fun o3 sg3 c6 s6 G9 ex9 h3 l3 hg3 hs6 => ⟨sz3, fun T3 f3 => ⟨sz3, fun T4 f4 => ⟨sz2, fun m1 fm1 => ⟨[.ref T1, .ref T2], [.ref T3, .ref T4], .inl (List.mem_cons_of_mem _ List.mem_cons_self), .inl List.mem_cons_self, sz4, fun m2 fm2 => ?_⟩⟩⟩⟩⟩
    have x3 := Ex.new (o := .tup [.ref o1, .ref o3, .ref q0]) f3
    have x4 := Ex.new (o := .tup [.ref o2, .ref o1, .ref q0]) f4
    have xm := Ex.new (o := .lst ([V.ref T1, .ref T2] ++ [.ref T3, .ref T4])) fm2
    obtain ⟨Ga, hGa⟩ : ∃ Ga, Ga = upd (upd G9 T3 (.tup [.ref o1, .ref o3, .ref q0])) T4 (.tup [.ref o2, .ref o1, .ref q0]) := ⟨_, rfl⟩
    rw [← hGa] at x4 xm fm2 ⊢
    have x9a : Ex G9 Ga := x3.trans x4
    have x8a : Ex G8 Ga := ex9.trans x9a
    have x6a := x68.trans x8a
    have t3 : TrV K Ga ks (.ref T3) := ⟨T3, o1, o3, .ref q0, one, sg3, .list (ps.map ppX), rfl, ex_t x4 sqt_new, h1'.ex x6a, h3.ex x9a, l1, l3, up1 hg, hg3, hpr x6a, hpd⟩
    have t4 : TrV K Ga ks (.ref T4) := ⟨T4, o2, o1, .ref q0, one.map (ledS ps), one, .list (ps.map ppX), rfl, by rw [hGa]; exact sqt_new, h2.ex x6a, h1'.ex x6a, l2, l1, up1 hg2, up1 hg, hpr x6a, hpd⟩
    obtain ⟨Gb, hGb⟩ : ∃ Gb, Gb = upd Ga m2 (.lst ([V.ref T1, .ref T2] ++ [.ref T3, .ref T4])) := ⟨_, rfl⟩
    rw [← hGb] at xm
    have hm2 : Gb m2 = some (.lst [V.ref T1, .ref T2, .ref T3, .ref T4]) := by rw [hGb]; exact upd_same
    have x6b := x6a.trans xm
    have tr : ∀ v, v ∈ [V.ref T1, .ref T2, .ref T3, .ref T4] → TrV K Gb ks v := fun v hv => by
      simp only [List.mem_cons, List.not_mem_nil, or_false] at hv
      rcases hv with rfl | rfl | rfl | rfl
      · exact t1.ex (x8a.trans xm)
      · exact t2.ex (x8a.trans xm)
      · exact t3.ex xm
      · exact t4.ex xm
    refine ⟨Gb, [(p, pool c6 s6)], by rw [hGb]; exact Wk.frz0.trans (Wk.drop0.trans Wk.drop0), [V.ref T1, .ref T2, .ref T3, .ref T4], .inr (sql_of hm2), fun i σ G' M' => ∃ (y4 y6 y8 y9 y10 y11 y12 : Option V), σ = [some (.ref p), some (.ref a), some (.ref q0), some (.ref o1), y4, some (.ref o2), y6, some (.ref m2), y8, y9, y10, y11, y12] ∧ Ex Gb G' ∧ M' = [(p, pool c6 s6)], ⟨_, _, _, _, _, _, _, rfl, Ex.refl, rfl⟩, ?_, ?_, ?_⟩
    · rintro i σ G' M' _ ⟨_, _, _, _, _, _, _, rfl, ex, rfl⟩; exact .inr (sql_of (ex _ _ hm2))
    · rintro i σ G' M' hi ⟨y4, y6, y8, y9, y10, y11, y12, rfl, ex, rfl⟩
      obtain ⟨v, hv⟩ : ∃ v, [V.ref T1, .ref T2, .ref T3, .ref T4][i]? = some v := ⟨_, List.getElem?_eq_getElem hi⟩
      obtain ⟨T, e1, e2, w, q1, q2, d', rfl, hT, ht⟩ := (tr v (List.mem_of_getElem? hv)).ex ex
      refine asg_L hv ⟨_, hT, ?_⟩
      exact right_b0 (hk6.ex (x6b.trans ex)) hkn hkl ht fun G' M' y11 y12 ex' wk => ⟨G', _, wk, _, _, _, _, _, _, _, rfl, ex.trans ex', rfl⟩
    · rintro σ G' M' ⟨y4, y6, y8, y9, y10, y11, y12, rfl, ex, rfl⟩
      have e6 := x6b.trans ex
      obtain ⟨w1, hw1, wd1⟩ := h1'.ex e6
      obtain ⟨w2, hw2, wd2⟩ := h2.ex e6
      have hlead : leadB ps one (one.map (ledS ps)) = true := (leadB_dec hpo ok1 (fun g hg => (hg2 g hg).1)).mpr rfl
      refine ⟨G', _, Wk.refl, a, o1, o2, ks, w1, w2, one, one.map (ledS ps), rfl, rfl, rfl, knF_at (hk6.ex e6) hkn (by omega), .inr hw1, wd1, .inr hw2, wd2, by omega, by omega, ok1, fun g hg => (hg2 g hg).1, .inr ⟨q0, ps, rfl, (hp6.ex e6).m, hpo, fun G'' ex'' => ?_⟩⟩
      rw [hlead]
      exact ret0 (k G'' _ ((ex1.trans ex2).trans (ex26.trans (e6.trans ex''))))) only [↓now_true]
theorem pf_law (h : S_law K vs G M R Z) : rd_law K (ends R Z) (sta 2 vs) G M := by
  refine of_now ?_
  simp (disch := with_unfolding_all
    obtain ⟨_, rfl, a, ns, rfl, hS, hl, q⟩ := sp1_of h
    refine ⟨G, M, Wk.refl, _, lst_g hS, ⟨by omega, by omega⟩, fun i σ G' M' => ∃ (y1 : Option V), σ = [some (.ref a), y1] ∧ Ex G G', ⟨none, rfl, Ex.refl⟩, fun _ _ _ _ _ _ => trivial, ?_, ?_⟩
    · rintro i σ G' M' hi ⟨y1, rfl, ex⟩
      have hi : i < (max 1 (min (((ns.map V.int).length : Nat) : Int) 63)).toNat := hi
      refine asg_R (v := (i : Int)) (by omega) ⟨G', [], Wk.nil', a, ns, i, rfl, rfl, ex_l ex hS, by omega, by omega, hl, fun p c s fp hs => ⟨p, c, s, rfl, rfl, hs, fun G2 M2 ex2 => ?_⟩⟩
      exact ⟨_, _, Wk.refl, _, rfl, ex.trans ex2⟩
    · rintro σ G' M' ⟨y1, rfl, ex⟩
      exact ⟨G', _, Wk.refl, ret0 (q G' _)⟩) only [↓now_true]
end
def topS (i : Nat) : Stmt := PySem.Challenge.pw_blindtouch_k50_what_is_a_leading.main.body.getD i (.Pass ⟨0, 0, 0, 0⟩)
structure Bs (mg : Str → Option Value) : Prop where
  all : mg "all" = none
  bool : mg "bool" = none
  int : mg "int" = none
  isinstance : mg "isinstance" = none
  len : mg "len" = none
  list : mg "list" = none
  max : mg "max" = none
  min : mg "min" = none
  range : mg "range" = none
  repr : mg "repr" = none
  set : mg "set" = none
  sorted : mg "sorted" = none
  tuple : mg "tuple" = none
  zip : mg "zip" = none
structure Cs (K : PySem.W.Frag) (mg : Str → Option Value) : Prop where
  k_MOST : ∃ u, mg "MOST" = some u ∧ RelV (.int 64) u
abbrev s_law_pool : Stmt := topS 12
abbrev N_law_pool : List Str := ["_law_script", "_law_k", "_law_cell", "_law_seed"]
theorem sc_law_pool : FnScope N_law_pool ["_law_script", "_law_k"] (defScope s_law_pool) := ⟨rfl, rfl, rfl, by decide +kernel, rfl, by decide +kernel, by decide +kernel⟩
theorem fo_law_pool {P : Program} {w : World} {K : PySem.W.Frag} {mg : Str → Option Value} {base : Heap} {f : Addr} {fd : FuncData} (B : Bs mg) (C : Cs K mg) (F : Fun K "_law_pool" "_law_pool" s_law_pool f fd)  :
    FnOk P w K mg base (L2.CX P w) 1 f fd ["_law_script", "_law_k"] (lift (S_law_pool K)) := by
  refine of_now ?_
  simp (disch := with_unfolding_all
    refine fn_ok F sc_law_pool (fun vs G M R Z h => sp_len2 h) (fun cdv A outer s H E hr => ?_)
    have nd : N_law_pool.Nodup := sc_law_pool.nd
    have hu : _ + 64 < cLine := hr.units
    have tk : Takes (cxOf (L2.CX P w) P w K mg base N_law_pool "_law_pool" (defScope s_law_pool) f cdv A outer s H E) (fun c d _ H => E c d H) := takes_of rfl rfl rfl rfl
    have po : PassesOwn (model P w) _ _ _ := passes_of (X := cxOf (L2.CX P w) P w K mg base N_law_pool "_law_pool" (defScope s_law_pool) f cdv A outer s H E) rfl
    exact ⟨rd_law_pool K, jss_cons (js_set (i := 2) (je_int) nd) (jss_cons (js_if (jt_cmp (kop_lt) (je_var 1) (je_callB kc_len B.len (ja_cons (je_var 0) (ja_nil))) (nomark _)) (jss_cons (js_set (i := 2) (je_ix (je_var 0) (je_var 1)) nd) (jss_nil)) (jss_nil)) (jss_cons (js_set (i := 3) (je_op kop_mod (je_op kop_mul (je_op kop_add (je_op kop_add (je_op kop_mod (je_var 2) (je_int)) (je_op kop_mul (je_op kop_mul (je_int) (je_var 1)) (je_var 1))) (je_int)) (je_int)) (je_int)) nd) (jss_cons (js_if (jt_cmp (kop_lt) (je_var 2) (je_op kop_pow (je_int) (je_int)) (nomark _)) (jss_cons (js_set (i := 2) (je_int) nd) (jss_nil)) (jss_nil)) (jss_cons (js_ret (je_lst (ja_cons (je_var 2) (ja_cons (je_var 3) (ja_nil))))) (jss_nil))))), fun vs G M R Z h => pf_law_pool h⟩) only [↓now_true]
theorem df_law_pool {P : Program} {w : World} {K : PySem.W.Frag} {mg : Str → Option Value} {base : Heap} {f : Addr} {fd : FuncData} (B : Bs mg) (C : Cs K mg) (F : Fun K "_law_pool" "_law_pool" s_law_pool f fd) (b : Binds K fd ["_law_script", "_law_k"] []) (gm : mg "_law_pool" = some (.ref f))  :
    Def P w K mg base 1 "_law_pool" ["_law_script", "_law_k"] (S_law_pool K) := ⟨f, fd, fo_law_pool B C F , gm, F.kp, b⟩
abbrev s_law_take : Stmt := topS 13
abbrev N_law_take : List Str := ["_law_pool_here", "_law_many", "_law_found"]
theorem sc_law_take : FnScope N_law_take ["_law_pool_here", "_law_many"] (defScope s_law_take) := ⟨rfl, rfl, rfl, by decide +kernel, rfl, by decide +kernel, by decide +kernel⟩
theorem fo_law_take {P : Program} {w : World} {K : PySem.W.Frag} {mg : Str → Option Value} {base : Heap} {f : Addr} {fd : FuncData} (B : Bs mg) (C : Cs K mg) (F : Fun K "_law_take" "_law_take" s_law_take f fd)  :
    FnOk P w K mg base (L2.CX P w) 1 f fd ["_law_pool_here", "_law_many"] (lift (S_law_take K)) := by
  refine of_now ?_
  simp (disch := with_unfolding_all
    refine fn_ok F sc_law_take (fun vs G M R Z h => sp_len2 h) (fun cdv A outer s H E hr => ?_)
    have nd : N_law_take.Nodup := sc_law_take.nd
    have hu : _ + 64 < cLine := hr.units
    have tk : Takes (cxOf (L2.CX P w) P w K mg base N_law_take "_law_take" (defScope s_law_take) f cdv A outer s H E) (fun c d _ H => E c d H) := takes_of rfl rfl rfl rfl
    have po : PassesOwn (model P w) _ _ _ := passes_of (X := cxOf (L2.CX P w) P w K mg base N_law_take "_law_take" (defScope s_law_take) f cdv A outer s H E) rfl
    exact ⟨rd_law_take K, jss_cons (js_if (jt_cmp (kop_gt) (je_ix (je_var 0) (je_int)) (je_int) (nomark _)) (jss_cons (js_set (i := 2) (je_op kop_mod (je_ix (je_var 0) (je_int)) (je_var 1)) nd) (jss_cons (js_asg (je_op kop_fdiv (je_ix (je_var 0) (je_int)) (je_var 1)) (jg_ix (je_var 0) (je_int))) (jss_cons (js_ret (je_var 2)) (jss_nil)))) (jss_nil)) (jss_cons (js_asg (je_op kop_mod (je_op kop_add (je_op kop_mul (je_ix (je_var 0) (je_int)) (je_int)) (je_int)) (je_int)) (jg_ix (je_var 0) (je_int))) (jss_cons (js_ret (je_op kop_mod (je_op kop_fdiv (je_op kop_mod (je_op kop_mul (je_ix (je_var 0) (je_int)) (je_ix (je_var 0) (je_int))) (je_int)) (je_int)) (je_var 1))) (jss_nil))), fun vs G M R Z h => pf_law_take h⟩) only [↓now_true]
theorem df_law_take {P : Program} {w : World} {K : PySem.W.Frag} {mg : Str → Option Value} {base : Heap} {f : Addr} {fd : FuncData} (B : Bs mg) (C : Cs K mg) (F : Fun K "_law_take" "_law_take" s_law_take f fd) (b : Binds K fd ["_law_pool_here", "_law_many"] []) (gm : mg "_law_take" = some (.ref f))  :
    Def P w K mg base 1 "_law_take" ["_law_pool_here", "_law_many"] (S_law_take K) := ⟨f, fd, fo_law_take B C F , gm, F.kp, b⟩
abbrev s_law_kinds : Stmt := topS 15
abbrev N_law_kinds : List Str := ["_law_pool_here", "_law_most", "_law_far", "_law_kinds_here", "_law_k"]
theorem sc_law_kinds : FnScope N_law_kinds ["_law_pool_here", "_law_most", "_law_far"] (defScope s_law_kinds) := ⟨rfl, rfl, rfl, by decide +kernel, rfl, by decide +kernel, by decide +kernel⟩
theorem fo_law_kinds {P : Program} {w : World} {K : PySem.W.Frag} {mg : Str → Option Value} {base : Heap} {f : Addr} {fd : FuncData} (B : Bs mg) (C : Cs K mg) (F : Fun K "_law_kinds" "_law_kinds" s_law_kinds f fd) (D_law_take : Def P w K mg base 1 "_law_take" ["_law_pool_here", "_law_many"] (S_law_take K)) :
    FnOk P w K mg base (L2.CX P w) 2 f fd ["_law_pool_here", "_law_most", "_law_far"] (lift (S_law_kinds K)) := by
  refine fn_ok F sc_law_kinds (fun vs G M R Z h => sp_len3 h) (fun cdv A outer s H E hr => ?_)
  have nd : N_law_kinds.Nodup := sc_law_kinds.nd
  have hu : _ + 64 < cLine := hr.units
  have tk : Takes (cxOf (L2.CX P w) P w K mg base N_law_kinds "_law_kinds" (defScope s_law_kinds) f cdv A outer s H E) (fun c d _ H => E c d H) := takes_of rfl rfl rfl rfl
  have po : PassesOwn (model P w) _ _ _ := passes_of (X := cxOf (L2.CX P w) P w K mg base N_law_kinds "_law_kinds" (defScope s_law_kinds) f cdv A outer s H E) rfl
  exact ⟨rd_law_kinds K, jss_cons (js_set (i := 3) (je_lst (ja_nil)) nd) (jss_cons (js_for po rfl (ji_range1 B.range (ja_cons (je_callD D_law_take hr tk (ja_cons (je_var 0) (ja_cons (je_op kop_add (je_var 1) (je_int)) (ja_nil)))) (ja_nil))) (jg_name (i := 4) nd) (jss_cons (js_if (jt_cmp (kop_eq hu) (je_callD D_law_take hr tk (ja_cons (je_var 0) (ja_cons (je_int) (ja_nil)))) (je_int) (nomark _)) (jss_cons (js_expr (je_bm PySem.F.plainAttrs_list PySem.F.slot_list_append PySem.F.type_list_append km_append (je_var 3) (ja_cons (je_tup (ja_cons (je_str) (ja_cons (je_callD D_law_take hr tk (ja_cons (je_var 0) (ja_cons (je_int) (ja_nil)))) (ja_nil)))) (ja_nil)))) (jss_nil)) (jss_cons (js_expr (je_bm PySem.F.plainAttrs_list PySem.F.slot_list_append PySem.F.type_list_append km_append (je_var 3) (ja_cons (je_tup (ja_cons (je_str) (ja_cons (je_op kop_add (je_int) (je_callD D_law_take hr tk (ja_cons (je_var 0) (ja_cons (je_ix (je_lst (ja_cons (je_int) (ja_cons (je_var 2) (ja_nil)))) (je_callD D_law_take hr tk (ja_cons (je_var 0) (ja_cons (je_int) (ja_nil))))) (ja_nil))))) (ja_nil)))) (ja_nil)))) (jss_nil))) (jss_nil))) (jss_cons (js_ret (je_var 3)) (jss_nil))), fun vs G M R Z h => pf_law_kinds h⟩
theorem df_law_kinds {P : Program} {w : World} {K : PySem.W.Frag} {mg : Str → Option Value} {base : Heap} {f : Addr} {fd : FuncData} (B : Bs mg) (C : Cs K mg) (F : Fun K "_law_kinds" "_law_kinds" s_law_kinds f fd) (b : Binds K fd ["_law_pool_here", "_law_most", "_law_far"] []) (gm : mg "_law_kinds" = some (.ref f)) (D_law_take : Def P w K mg base 1 "_law_take" ["_law_pool_here", "_law_many"] (S_law_take K)) :
    Def P w K mg base 2 "_law_kinds" ["_law_pool_here", "_law_most", "_law_far"] (S_law_kinds K) := ⟨f, fd, fo_law_kinds B C F D_law_take, gm, F.kp, b⟩
abbrev s_law_turn : Stmt := topS 18
abbrev N_law_turn : List Str := ["_law_pool_here", "_law_size", "_law_order", "_law_k"]
theorem sc_law_turn : FnScope N_law_turn ["_law_pool_here", "_law_size"] (defScope s_law_turn) := ⟨rfl, rfl, rfl, by decide +kernel, rfl, by decide +kernel, by decide +kernel⟩
theorem fo_law_turn {P : Program} {w : World} {K : PySem.W.Frag} {mg : Str → Option Value} {base : Heap} {f : Addr} {fd : FuncData} (B : Bs mg) (C : Cs K mg) (F : Fun K "_law_turn" "_law_turn" s_law_turn f fd) (D_law_take : Def P w K mg base 1 "_law_take" ["_law_pool_here", "_law_many"] (S_law_take K)) :
    FnOk P w K mg base (L2.CX P w) 2 f fd ["_law_pool_here", "_law_size"] (lift (S_law_turn K)) := by
  refine fn_ok F sc_law_turn (fun vs G M R Z h => sp_len2 h) (fun cdv A outer s H E hr => ?_)
  have nd : N_law_turn.Nodup := sc_law_turn.nd
  have hu : _ + 64 < cLine := hr.units
  have tk : Takes (cxOf (L2.CX P w) P w K mg base N_law_turn "_law_turn" (defScope s_law_turn) f cdv A outer s H E) (fun c d _ H => E c d H) := takes_of rfl rfl rfl rfl
  have po : PassesOwn (model P w) _ _ _ := passes_of (X := cxOf (L2.CX P w) P w K mg base N_law_turn "_law_turn" (defScope s_law_turn) f cdv A outer s H E) rfl
  exact ⟨rd_law_turn K, jss_cons (js_set (i := 2) (je_lst (ja_nil)) nd) (jss_cons (js_for po rfl (ji_range1 B.range (ja_cons (je_var 1) (ja_nil))) (jg_name (i := 3) nd) (jss_cons (js_expr (je_bm PySem.F.plainAttrs_list PySem.F.slot_list_insert PySem.F.type_list_insert km_insert (je_var 2) (ja_cons (je_callD D_law_take hr tk (ja_cons (je_var 0) (ja_cons (je_op kop_add (je_var 3) (je_int)) (ja_nil)))) (ja_cons (je_var 3) (ja_nil))))) (jss_nil))) (jss_cons (js_ret (je_var 2)) (jss_nil))), fun vs G M R Z h => pf_law_turn h⟩
theorem df_law_turn {P : Program} {w : World} {K : PySem.W.Frag} {mg : Str → Option Value} {base : Heap} {f : Addr} {fd : FuncData} (B : Bs mg) (C : Cs K mg) (F : Fun K "_law_turn" "_law_turn" s_law_turn f fd) (b : Binds K fd ["_law_pool_here", "_law_size"] []) (gm : mg "_law_turn" = some (.ref f)) (D_law_take : Def P w K mg base 1 "_law_take" ["_law_pool_here", "_law_many"] (S_law_take K)) :
    Def P w K mg base 2 "_law_turn" ["_law_pool_here", "_law_size"] (S_law_turn K) := ⟨f, fd, fo_law_turn B C F D_law_take, gm, F.kp, b⟩
abbrev s_law_paper : Stmt := topS 19
abbrev N_law_paper : List Str := ["_law_pool_here", "_law_kinds_here", "_law_places", "_law_k", "_law_paper_here", "_law_kind", "_law_source"]
theorem sc_law_paper : FnScope N_law_paper ["_law_pool_here", "_law_kinds_here"] (defScope s_law_paper) := ⟨rfl, rfl, rfl, by decide +kernel, rfl, by decide +kernel, by decide +kernel⟩
theorem fo_law_paper {P : Program} {w : World} {K : PySem.W.Frag} {mg : Str → Option Value} {base : Heap} {f : Addr} {fd : FuncData} (B : Bs mg) (C : Cs K mg) (F : Fun K "_law_paper" "_law_paper" s_law_paper f fd) (D_law_take : Def P w K mg base 1 "_law_take" ["_law_pool_here", "_law_many"] (S_law_take K)) (D_law_turn : Def P w K mg base 2 "_law_turn" ["_law_pool_here", "_law_size"] (S_law_turn K)) :
    FnOk P w K mg base (L2.CX P w) 3 f fd ["_law_pool_here", "_law_kinds_here"] (lift (S_law_paper K)) := by
  refine fn_ok F sc_law_paper (fun vs G M R Z h => sp_len2 h) (fun cdv A outer s H E hr => ?_)
  have nd : N_law_paper.Nodup := sc_law_paper.nd
  have hu : _ + 64 < cLine := hr.units
  have tk : Takes (cxOf (L2.CX P w) P w K mg base N_law_paper "_law_paper" (defScope s_law_paper) f cdv A outer s H E) (fun c d _ H => E c d H) := takes_of rfl rfl rfl rfl
  have po : PassesOwn (model P w) _ _ _ := passes_of (X := cxOf (L2.CX P w) P w K mg base N_law_paper "_law_paper" (defScope s_law_paper) f cdv A outer s H E) rfl
  exact ⟨rd_law_paper K, jss_cons (js_set (i := 2) (je_dnewT) nd) (jss_cons (js_for po rfl (ji_range1 B.range (ja_cons (je_callB kc_len B.len (ja_cons (je_var 1) (ja_nil))) (ja_nil))) (jg_name (i := 3) nd) (jss_cons (js_dsetT hu (je_var 2) (je_ix (je_var 1) (je_var 3)) (je_op kop_add (je_dget2T hu (je_var 2) (je_ix (je_var 1) (je_var 3)) (je_lst (ja_nil))) (je_lst (ja_cons (je_var 3) (ja_nil))))) (jss_nil))) (jss_cons (js_set (i := 4) (je_lst (ja_nil)) nd) (jss_cons (js_for po rfl (ji_list (je_var 1)) (jg_name (i := 5) nd) (jss_cons (js_set (i := 6) (je_bm PySem.F.plainAttrs_list PySem.F.slot_list_pop PySem.F.type_list_pop km_popAt (je_dgetT hu (je_var 2) (je_var 5)) (ja_cons (je_callD D_law_take hr tk (ja_cons (je_var 0) (ja_cons (je_callB kc_len B.len (ja_cons (je_dgetT hu (je_var 2) (je_var 5)) (ja_nil))) (ja_nil)))) (ja_nil))) nd) (jss_cons (js_expr (je_bm PySem.F.plainAttrs_list PySem.F.slot_list_append PySem.F.type_list_append km_append (je_var 4) (ja_cons (je_tup (ja_cons (je_var 6) (ja_cons (je_ix (je_lst (ja_cons (je_non) (ja_cons (je_int) (ja_nil)))) (je_callTy kc_int B.int (ja_cons (je_cmp (kop_eq hu) (je_ix (je_var 5) (je_int)) (je_str) (nomark _)) (ja_nil)))) (ja_nil)))) (ja_nil)))) (jss_cons (js_if (jt_cmp (kop_eq hu) (je_ix (je_var 5) (je_int)) (je_str) (nomark _)) (jss_cons (js_asg (je_tup (ja_cons (je_var 6) (ja_cons (je_callD D_law_turn hr tk (ja_cons (je_var 0) (ja_cons (je_ix (je_var 5) (je_int)) (ja_nil)))) (ja_nil)))) (jg_ix (je_var 4) (je_neg (je_int)))) (jss_nil)) (jss_nil)) (jss_nil))))) (jss_cons (js_ret (je_var 4)) (jss_nil))))), fun vs G M R Z h => pf_law_paper h⟩
theorem df_law_paper {P : Program} {w : World} {K : PySem.W.Frag} {mg : Str → Option Value} {base : Heap} {f : Addr} {fd : FuncData} (B : Bs mg) (C : Cs K mg) (F : Fun K "_law_paper" "_law_paper" s_law_paper f fd) (b : Binds K fd ["_law_pool_here", "_law_kinds_here"] []) (gm : mg "_law_paper" = some (.ref f)) (D_law_take : Def P w K mg base 1 "_law_take" ["_law_pool_here", "_law_many"] (S_law_take K)) (D_law_turn : Def P w K mg base 2 "_law_turn" ["_law_pool_here", "_law_size"] (S_law_turn K)) :
    Def P w K mg base 3 "_law_paper" ["_law_pool_here", "_law_kinds_here"] (S_law_paper K) := ⟨f, fd, fo_law_paper B C F D_law_take D_law_turn, gm, F.kp, b⟩
abbrev s_law_sign : Stmt := topS 20
abbrev N_law_sign : List Str := ["_law_pool_here", "_law_kinds_here", "_law_way", "_law_deed", "_law_shelf", "_law_draw_here"]
theorem sc_law_sign : FnScope N_law_sign ["_law_pool_here", "_law_kinds_here"] (defScope s_law_sign) := ⟨rfl, rfl, rfl, by decide +kernel, rfl, by decide +kernel, by decide +kernel⟩
theorem fo_law_sign {P : Program} {w : World} {K : PySem.W.Frag} {mg : Str → Option Value} {base : Heap} {f : Addr} {fd : FuncData} (B : Bs mg) (C : Cs K mg) (F : Fun K "_law_sign" "_law_sign" s_law_sign f fd) (D_law_take : Def P w K mg base 1 "_law_take" ["_law_pool_here", "_law_many"] (S_law_take K)) :
    FnOk P w K mg base (L2.CX P w) 2 f fd ["_law_pool_here", "_law_kinds_here"] (lift (S_law_sign K)) := by
  refine fn_ok F sc_law_sign (fun vs G M R Z h => sp_len2 h) (fun cdv A outer s H E hr => ?_)
  have nd : N_law_sign.Nodup := sc_law_sign.nd
  have hu : _ + 64 < cLine := hr.units
  have tk : Takes (cxOf (L2.CX P w) P w K mg base N_law_sign "_law_sign" (defScope s_law_sign) f cdv A outer s H E) (fun c d _ H => E c d H) := takes_of rfl rfl rfl rfl
  have po : PassesOwn (model P w) _ _ _ := passes_of (X := cxOf (L2.CX P w) P w K mg base N_law_sign "_law_sign" (defScope s_law_sign) f cdv A outer s H E) rfl
  exact ⟨rd_law_sign K, jss_cons (js_set (i := 2) (je_callD D_law_take hr tk (ja_cons (je_var 0) (ja_cons (je_int) (ja_nil)))) nd) (jss_cons (js_set (i := 3) (je_ix (je_lst (ja_cons (je_str) (ja_cons (je_str) (ja_nil)))) (je_callD D_law_take hr tk (ja_cons (je_var 0) (ja_cons (je_int) (ja_nil))))) nd) (jss_cons (js_set (i := 4) (je_callD D_law_take hr tk (ja_cons (je_var 0) (ja_cons (je_int) (ja_nil)))) nd) (jss_cons (js_if ((jw_or (jt_cmp (kop_eq hu) (je_var 2) (je_int) (nomark _)) (jw_or1 (jt_cmp (kop_eq hu) (je_var 1) (je_lst (ja_nil)) (nomark _)))).jt) (jss_cons (js_ret (je_tup (ja_cons (je_str) (ja_cons (je_var 3) (ja_cons (je_var 4) (ja_cons (je_callD D_law_take hr tk (ja_cons (je_var 0) (ja_cons (je_int) (ja_nil)))) (ja_nil))))))) (jss_nil)) (jss_nil)) (jss_cons (js_set (i := 5) (je_callD D_law_take hr tk (ja_cons (je_var 0) (ja_cons (je_callB kc_len B.len (ja_cons (je_var 1) (ja_nil))) (ja_nil)))) nd) (jss_cons (js_if (jt_cmp (kop_eq hu) (je_ix (je_ix (je_var 1) (je_var 5)) (je_int)) (je_str) (nomark _)) (jss_cons (js_ret (je_tup (ja_cons (je_str) (ja_cons (je_var 3) (ja_cons (je_var 4) (ja_cons (je_var 5) (ja_cons (je_callD D_law_take hr tk (ja_cons (je_var 0) (ja_cons (je_ix (je_ix (je_var 1) (je_var 5)) (je_int)) (ja_nil)))) (ja_nil)))))))) (jss_nil)) (jss_nil)) (jss_cons (js_ret (je_tup (ja_cons (je_str) (ja_cons (je_var 3) (ja_cons (je_var 4) (ja_cons (je_var 5) (ja_cons (je_callD D_law_take hr tk (ja_cons (je_var 0) (ja_cons (je_op kop_add (je_ix (je_ix (je_var 1) (je_var 5)) (je_int)) (je_int)) (ja_nil)))) (ja_cons (je_callD D_law_take hr tk (ja_cons (je_var 0) (ja_cons (je_int) (ja_nil)))) (ja_nil))))))))) (jss_nil))))))), fun vs G M R Z h => pf_law_sign h⟩
theorem df_law_sign {P : Program} {w : World} {K : PySem.W.Frag} {mg : Str → Option Value} {base : Heap} {f : Addr} {fd : FuncData} (B : Bs mg) (C : Cs K mg) (F : Fun K "_law_sign" "_law_sign" s_law_sign f fd) (b : Binds K fd ["_law_pool_here", "_law_kinds_here"] []) (gm : mg "_law_sign" = some (.ref f)) (D_law_take : Def P w K mg base 1 "_law_take" ["_law_pool_here", "_law_many"] (S_law_take K)) :
    Def P w K mg base 2 "_law_sign" ["_law_pool_here", "_law_kinds_here"] (S_law_sign K) := ⟨f, fd, fo_law_sign B C F D_law_take, gm, F.kp, b⟩
abbrev s_law_led_sign : Stmt := topS 21
abbrev N_law_led_sign : List Str := ["_law_paper_here", "_law_sign_here", "_law_draw_here", "_law_k"]
theorem sc_law_led_sign : FnScope N_law_led_sign ["_law_paper_here", "_law_sign_here"] (defScope s_law_led_sign) := ⟨rfl, rfl, rfl, by decide +kernel, rfl, by decide +kernel, by decide +kernel⟩
theorem fo_law_led_sign {P : Program} {w : World} {K : PySem.W.Frag} {mg : Str → Option Value} {base : Heap} {f : Addr} {fd : FuncData} (B : Bs mg) (C : Cs K mg) (F : Fun K "_law_led_sign" "_law_led_sign" s_law_led_sign f fd)  :
    FnOk P w K mg base (L2.CX P w) 1 f fd ["_law_paper_here", "_law_sign_here"] (lift (S_law_led_sign K)) := by
  refine fn_ok F sc_law_led_sign (fun vs G M R Z h => sp_len2 h) (fun cdv A outer s H E hr => ?_)
  have nd : N_law_led_sign.Nodup := sc_law_led_sign.nd
  have hu : _ + 64 < cLine := hr.units
  have tk : Takes (cxOf (L2.CX P w) P w K mg base N_law_led_sign "_law_led_sign" (defScope s_law_led_sign) f cdv A outer s H E) (fun c d _ H => E c d H) := takes_of rfl rfl rfl rfl
  have po : PassesOwn (model P w) _ _ _ := passes_of (X := cxOf (L2.CX P w) P w K mg base N_law_led_sign "_law_led_sign" (defScope s_law_led_sign) f cdv A outer s H E) rfl
  exact ⟨rd_law_led_sign K, jss_cons (js_if (jt_cmp (kop_eq hu) (je_ix (je_var 1) (je_int)) (je_str) (nomark _)) (jss_cons (js_ret (je_var 1)) (jss_nil)) (jss_nil)) (jss_cons (js_set (i := 2) (je_ix (je_comp (own := [("_law_k", 3)]) rfl nd (ji_range1 B.range (ja_cons (je_callB kc_len B.len (ja_cons (je_var 0) (ja_nil))) (ja_nil))) (blkOk_by (own := [("_law_k", 3)]) (N := N_law_led_sign) (sc := defScope s_law_led_sign) (by decide +kernel)) (fun _ _ _ _ _ => by exact jg_name (i := 3) nd) (fun _ _ _ _ _ => by exact jts_one (jt_cmp (kop_eq hu) (je_ix (je_ix (je_var 0) (je_var 3)) (je_int)) (je_ix (je_var 1) (je_int)) (nomark _))) (fun _ _ _ _ _ => by exact je_var 3)) (je_int)) nd) (jss_cons (js_if (jt_cmp (kop_eq hu) (je_ix (je_var 1) (je_int)) (je_str) (nomark _)) (jss_cons (js_ret (je_op kop_cat (je_op kop_cat (je_slT (je_var 1) (jo_none) (jo_some (je_int))) (je_tup (ja_cons (je_var 2) (ja_nil)))) (je_slT (je_var 1) (jo_some (je_int)) (jo_none)))) (jss_nil)) (jss_nil)) (jss_cons (js_ret (je_op kop_cat (je_slT (je_var 1) (jo_none) (jo_some (je_int))) (je_tup (ja_cons (je_var 2) (ja_cons (je_bm PySem.F.plainAttrs_list PySem.F.slot_list_index PySem.F.type_list_index km_index (je_ix (je_ix (je_var 0) (je_var 2)) (je_int)) (ja_cons (je_ix (je_var 1) (je_int)) (ja_nil))) (ja_nil)))))) (jss_nil)))), fun vs G M R Z h => pf_law_led_sign h⟩
theorem df_law_led_sign {P : Program} {w : World} {K : PySem.W.Frag} {mg : Str → Option Value} {base : Heap} {f : Addr} {fd : FuncData} (B : Bs mg) (C : Cs K mg) (F : Fun K "_law_led_sign" "_law_led_sign" s_law_led_sign f fd) (b : Binds K fd ["_law_paper_here", "_law_sign_here"] []) (gm : mg "_law_led_sign" = some (.ref f))  :
    Def P w K mg base 1 "_law_led_sign" ["_law_paper_here", "_law_sign_here"] (S_law_led_sign K) := ⟨f, fd, fo_law_led_sign B C F , gm, F.kp, b⟩
abbrev s_law_bent_part : Stmt := topS 25
abbrev N_law_bent_part : List Str := ["_law_pool_here", "_law_part", "_law_many", "_law_source", "_law_turn_here", "_law_way", "_law_at", "_law_to", "_law_other", "_law_exchanged", "_law_longer", "_law_one"]
theorem sc_law_bent_part : FnScope N_law_bent_part ["_law_pool_here", "_law_part", "_law_many"] (defScope s_law_bent_part) := ⟨rfl, rfl, rfl, by decide +kernel, rfl, by decide +kernel, by decide +kernel⟩
theorem fo_law_bent_part {P : Program} {w : World} {K : PySem.W.Frag} {mg : Str → Option Value} {base : Heap} {f : Addr} {fd : FuncData} (B : Bs mg) (C : Cs K mg) (F : Fun K "_law_bent_part" "_law_bent_part" s_law_bent_part f fd) (D_law_take : Def P w K mg base 1 "_law_take" ["_law_pool_here", "_law_many"] (S_law_take K)) :
    FnOk P w K mg base (L2.CX P w) 2 f fd ["_law_pool_here", "_law_part", "_law_many"] (lift (S_law_bent_part K)) := by
  refine fn_ok F sc_law_bent_part (fun vs G M R Z h => sp_len3 h) (fun cdv A outer s H E hr => ?_)
  have nd : N_law_bent_part.Nodup := sc_law_bent_part.nd
  have hu : _ + 64 < cLine := hr.units
  have tk : Takes (cxOf (L2.CX P w) P w K mg base N_law_bent_part "_law_bent_part" (defScope s_law_bent_part) f cdv A outer s H E) (fun c d _ H => E c d H) := takes_of rfl rfl rfl rfl
  have po : PassesOwn (model P w) _ _ _ := passes_of (X := cxOf (L2.CX P w) P w K mg base N_law_bent_part "_law_bent_part" (defScope s_law_bent_part) f cdv A outer s H E) rfl
  exact ⟨rd_law_bent_part K, jss_cons (js_asg (je_var 1) (jg_tup rfl (jgs_cons (jg_name (i := 3) nd) (jgs_cons (jg_name (i := 4) nd) (jgs_nil))))) (jss_cons (js_set (i := 5) (je_callD D_law_take hr tk (ja_cons (je_var 0) (ja_cons (je_int) (ja_nil)))) nd) (jss_cons (js_if ((jw_and (jt_cmp (kop_gt) (je_var 5) (je_int) (nomark _)) (jw_and1 (jt_cmp (kop_eq hu) (je_callD D_law_take hr tk (ja_cons (je_var 0) (ja_cons (je_int) (ja_nil)))) (je_int) (nomark _)))).jt) (jss_cons (js_ret (je_tup (ja_cons (je_ix (je_lst (ja_cons (je_op kop_sub (je_var 3) (je_var 2)) (ja_cons (je_neg (je_int)) (ja_cons (je_non) (ja_cons (je_str) (ja_cons (je_lst (ja_cons (je_int) (ja_nil))) (ja_cons (je_tup (ja_cons (je_int) (ja_nil))) (ja_cons (je_dnew) (ja_nil))))))))) (je_callD D_law_take hr tk (ja_cons (je_var 0) (ja_cons (je_int) (ja_nil))))) (ja_cons (je_var 4) (ja_nil))))) (jss_nil)) (jss_nil)) (jss_cons (js_if (jt_val (je_callB kc_isi B.isinstance (ja_cons (je_var 4) (ja_cons (je_ty B.list) (ja_nil))))) (jss_cons (js_set (i := 6) (je_callD D_law_take hr tk (ja_cons (je_var 0) (ja_cons (je_callB kc_len B.len (ja_cons (je_var 4) (ja_nil))) (ja_nil)))) nd) (jss_cons (js_set (i := 7) (je_callD D_law_take hr tk (ja_cons (je_var 0) (ja_cons (je_callB kc_len B.len (ja_cons (je_var 4) (ja_nil))) (ja_nil)))) nd) (jss_cons (js_set (i := 8) (je_callTy kc_list B.list (ja_cons (je_var 4) (ja_nil))) nd) (jss_cons (js_asg (je_ix (je_var 4) (je_var 7)) (jg_ix (je_var 8) (je_var 6))) (jss_cons (js_set (i := 9) (je_callTy kc_list B.list (ja_cons (je_var 8) (ja_nil))) nd) (jss_cons (js_asg (je_ix (je_var 4) (je_var 6)) (jg_ix (je_var 9) (je_var 7))) (jss_cons (js_set (i := 10) (je_ix (je_lst (ja_cons (je_slice (je_var 4) (jo_none) (jo_some (je_neg (je_int)))) (ja_cons (je_op kop_add (je_var 4) (je_lst (ja_cons (je_callB kc_len B.len (ja_cons (je_var 4) (ja_nil))) (ja_nil)))) (ja_nil)))) (je_callD D_law_take hr tk (ja_cons (je_var 0) (ja_cons (je_int) (ja_nil))))) nd) (jss_cons (js_if ((jw_and (jt_cmp (kop_lt) (je_var 5) (je_int) (nomark _)) (jw_and1 (jt_cmp (kop_eq hu) (je_callD D_law_take hr tk (ja_cons (je_var 0) (ja_cons (je_int) (ja_nil)))) (je_int) (nomark _)))).jt) (jss_cons (js_asg (je_ix (je_lst (ja_cons (je_callB kc_len B.len (ja_cons (je_var 4) (ja_nil))) (ja_cons (je_op kop_sub (je_ix (je_var 4) (je_var 6)) (je_callB kc_len B.len (ja_cons (je_var 4) (ja_nil)))) (ja_cons (je_op kop_pow (je_int) (je_int)) (ja_cons (je_non) (ja_cons (je_str) (ja_cons (je_lst (ja_cons (je_int) (ja_nil))) (ja_nil)))))))) (je_op kop_add (je_var 5) (je_op kop_mul (je_int) (je_callD D_law_take hr tk (ja_cons (je_var 0) (ja_cons (je_int) (ja_nil))))))) (jg_ix (je_var 8) (je_var 6))) (jss_cons (js_ret (je_tup (ja_cons (je_var 3) (ja_cons (je_var 8) (ja_nil))))) (jss_nil))) (jss_nil)) (jss_cons (js_ret (je_ix (je_lst (ja_cons (je_tup (ja_cons (je_var 3) (ja_cons (je_var 9) (ja_nil)))) (ja_cons (je_tup (ja_cons (je_var 3) (ja_cons (je_var 8) (ja_nil)))) (ja_cons (je_tup (ja_cons (je_var 3) (ja_cons (je_non) (ja_nil)))) (ja_cons (je_tup (ja_cons (je_var 3) (ja_cons (je_callTy kc_tuple B.tuple (ja_cons (je_var 4) (ja_nil))) (ja_nil)))) (ja_cons (je_lst (ja_cons (je_var 3) (ja_cons (je_var 4) (ja_nil)))) (ja_cons (je_tup (ja_cons (je_var 3) (ja_cons (je_var 10) (ja_nil)))) (ja_cons (je_tup (ja_cons (je_op kop_add (je_var 3) (je_int)) (ja_cons (je_var 4) (ja_nil)))) (ja_cons (je_tup (ja_cons (je_var 3) (ja_cons (je_comp (own := [("_law_one", 11)]) rfl nd (ji_list (je_var 4)) (blkOk_by (own := [("_law_one", 11)]) (N := N_law_bent_part) (sc := defScope s_law_bent_part) (by decide +kernel)) (fun _ _ _ _ _ => by exact jg_name (i := 11) nd) (fun _ _ _ _ _ => by exact jts_nil) (fun _ _ _ _ _ => by exact je_ite (jt_cmp (kop_lt) (je_var 11) (je_int) (nomark _)) (je_callTy kc_bool B.bool (ja_cons (je_var 11) (ja_nil))) (je_var 11))) (ja_nil)))) (ja_nil)))))))))) (je_var 5))) (jss_nil)))))))))) (jss_nil)) (jss_cons (js_ret (je_ix (je_lst (ja_cons (je_tup (ja_cons (je_var 3) (ja_cons (je_lst (ja_cons (je_int) (ja_nil))) (ja_nil)))) (ja_cons (je_tup (ja_cons (je_var 3) (ja_cons (je_int) (ja_nil)))) (ja_cons (je_tup (ja_cons (je_var 3) (ja_nil))) (ja_cons (je_tup (ja_cons (je_var 3) (ja_cons (je_var 4) (ja_cons (je_var 4) (ja_nil))))) (ja_cons (je_lst (ja_cons (je_var 3) (ja_cons (je_var 4) (ja_nil)))) (ja_cons (je_tup (ja_cons (je_op kop_add (je_var 3) (je_int)) (ja_cons (je_var 4) (ja_nil)))) (ja_cons (je_tup (ja_cons (je_bl) (ja_cons (je_var 4) (ja_nil)))) (ja_cons (je_non) (ja_nil)))))))))) (je_var 5))) (jss_nil))))), fun vs G M R Z h => pf_law_bent_part h⟩
theorem df_law_bent_part {P : Program} {w : World} {K : PySem.W.Frag} {mg : Str → Option Value} {base : Heap} {f : Addr} {fd : FuncData} (B : Bs mg) (C : Cs K mg) (F : Fun K "_law_bent_part" "_law_bent_part" s_law_bent_part f fd) (b : Binds K fd ["_law_pool_here", "_law_part", "_law_many"] []) (gm : mg "_law_bent_part" = some (.ref f)) (D_law_take : Def P w K mg base 1 "_law_take" ["_law_pool_here", "_law_many"] (S_law_take K)) :
    Def P w K mg base 2 "_law_bent_part" ["_law_pool_here", "_law_part", "_law_many"] (S_law_bent_part K) := ⟨f, fd, fo_law_bent_part B C F D_law_take, gm, F.kp, b⟩
abbrev s_law_bent_paper : Stmt := topS 26
abbrev N_law_bent_paper : List Str := ["_law_pool_here", "_law_paper_here", "_law_at", "_law_way", "_law_other", "_law_bent"]
theorem sc_law_bent_paper : FnScope N_law_bent_paper ["_law_pool_here", "_law_paper_here"] (defScope s_law_bent_paper) := ⟨rfl, rfl, rfl, by decide +kernel, rfl, by decide +kernel, by decide +kernel⟩
theorem fo_law_bent_paper {P : Program} {w : World} {K : PySem.W.Frag} {mg : Str → Option Value} {base : Heap} {f : Addr} {fd : FuncData} (B : Bs mg) (C : Cs K mg) (F : Fun K "_law_bent_paper" "_law_bent_paper" s_law_bent_paper f fd) (D_law_take : Def P w K mg base 1 "_law_take" ["_law_pool_here", "_law_many"] (S_law_take K)) (D_law_bent_part : Def P w K mg base 2 "_law_bent_part" ["_law_pool_here", "_law_part", "_law_many"] (S_law_bent_part K)) :
    FnOk P w K mg base (L2.CX P w) 3 f fd ["_law_pool_here", "_law_paper_here"] (lift (S_law_bent_paper K)) := by
  refine fn_ok F sc_law_bent_paper (fun vs G M R Z h => sp_len2 h) (fun cdv A outer s H E hr => ?_)
  have nd : N_law_bent_paper.Nodup := sc_law_bent_paper.nd
  have hu : _ + 64 < cLine := hr.units
  have tk : Takes (cxOf (L2.CX P w) P w K mg base N_law_bent_paper "_law_bent_paper" (defScope s_law_bent_paper) f cdv A outer s H E) (fun c d _ H => E c d H) := takes_of rfl rfl rfl rfl
  have po : PassesOwn (model P w) _ _ _ := passes_of (X := cxOf (L2.CX P w) P w K mg base N_law_bent_paper "_law_bent_paper" (defScope s_law_bent_paper) f cdv A outer s H E) rfl
  exact ⟨rd_law_bent_paper K, jss_cons (js_set (i := 2) (je_callD D_law_take hr tk (ja_cons (je_var 0) (ja_cons (je_op kop_add (je_callB kc_len B.len (ja_cons (je_var 1) (ja_nil))) (je_int)) (ja_nil)))) nd) (jss_cons (js_set (i := 3) (je_callD D_law_take hr tk (ja_cons (je_var 0) (ja_cons (je_int) (ja_nil)))) nd) (jss_cons (js_if (jt_cmp (kop_eq hu) (je_var 3) (je_int) (nomark _)) (jss_cons (js_ret (je_op kop_add (je_slice (je_var 1) (jo_none) (jo_some (je_var 2))) (je_slice (je_var 1) (jo_some (je_op kop_add (je_var 2) (je_int))) (jo_none)))) (jss_nil)) (jss_nil)) (jss_cons (js_if (jt_cmp (kop_eq hu) (je_var 3) (je_int) (nomark _)) (jss_cons (js_ret (je_op kop_add (je_var 1) (je_slice (je_var 1) (jo_none) (jo_some (je_int))))) (jss_nil)) (jss_nil)) (jss_cons (js_if (jt_cmp (kop_eq hu) (je_var 3) (je_int) (nomark _)) (jss_cons (js_ret (je_ix (je_lst (ja_cons (je_callTy kc_tuple B.tuple (ja_cons (je_var 1) (ja_nil))) (ja_cons (je_non) (ja_cons (je_str) (ja_cons (je_int) (ja_nil)))))) (je_callD D_law_take hr tk (ja_cons (je_var 0) (ja_cons (je_int) (ja_nil)))))) (jss_nil)) (jss_nil)) (jss_cons (js_if (jt_cmp (kop_eq hu) (je_var 1) (je_lst (ja_nil)) (nomark _)) (jss_cons (js_ret (je_lst (ja_nil))) (jss_nil)) (jss_nil)) (jss_cons (js_set (i := 2) (je_op kop_mod (je_var 2) (je_callB kc_len B.len (ja_cons (je_var 1) (ja_nil)))) nd) (jss_cons (js_if (jt_cmp (kop_eq hu) (je_var 3) (je_int) (nomark _)) (jss_cons (js_set (i := 4) (je_callD D_law_take hr tk (ja_cons (je_var 0) (ja_cons (je_callB kc_len B.len (ja_cons (je_var 1) (ja_nil))) (ja_nil)))) nd) (jss_cons (js_set (i := 5) (je_callTy kc_list B.list (ja_cons (je_var 1) (ja_nil))) nd) (jss_cons (js_asg (je_ix (je_var 1) (je_var 4)) (jg_ix (je_var 5) (je_var 2))) (jss_cons (js_asg (je_ix (je_var 1) (je_var 2)) (jg_ix (je_var 5) (je_var 4))) (jss_cons (js_ret (je_var 5)) (jss_nil)))))) (jss_nil)) (jss_cons (js_ret (je_op kop_add (je_op kop_add (je_slice (je_var 1) (jo_none) (jo_some (je_var 2))) (je_lst (ja_cons (je_callD D_law_bent_part hr tk (ja_cons (je_var 0) (ja_cons (je_ix (je_var 1) (je_var 2)) (ja_cons (je_callB kc_len B.len (ja_cons (je_var 1) (ja_nil))) (ja_nil))))) (ja_nil)))) (je_slice (je_var 1) (jo_some (je_op kop_add (je_var 2) (je_int))) (jo_none)))) (jss_nil))))))))), fun vs G M R Z h => pf_law_bent_paper h⟩
theorem df_law_bent_paper {P : Program} {w : World} {K : PySem.W.Frag} {mg : Str → Option Value} {base : Heap} {f : Addr} {fd : FuncData} (B : Bs mg) (C : Cs K mg) (F : Fun K "_law_bent_paper" "_law_bent_paper" s_law_bent_paper f fd) (b : Binds K fd ["_law_pool_here", "_law_paper_here"] []) (gm : mg "_law_bent_paper" = some (.ref f)) (D_law_take : Def P w K mg base 1 "_law_take" ["_law_pool_here", "_law_many"] (S_law_take K)) (D_law_bent_part : Def P w K mg base 2 "_law_bent_part" ["_law_pool_here", "_law_part", "_law_many"] (S_law_bent_part K)) :
    Def P w K mg base 3 "_law_bent_paper" ["_law_pool_here", "_law_paper_here"] (S_law_bent_paper K) := ⟨f, fd, fo_law_bent_paper B C F D_law_take D_law_bent_part, gm, F.kp, b⟩
abbrev s_law_bent_signs : Stmt := topS 27
abbrev N_law_bent_signs : List Str := ["_law_pool_here", "_law_kinds_here", "_law_signs", "_law_at", "_law_way", "_law_sign_here"]
theorem sc_law_bent_signs : FnScope N_law_bent_signs ["_law_pool_here", "_law_kinds_here", "_law_signs"] (defScope s_law_bent_signs) := ⟨rfl, rfl, rfl, by decide +kernel, rfl, by decide +kernel, by decide +kernel⟩
theorem fo_law_bent_signs {P : Program} {w : World} {K : PySem.W.Frag} {mg : Str → Option Value} {base : Heap} {f : Addr} {fd : FuncData} (B : Bs mg) (C : Cs K mg) (F : Fun K "_law_bent_signs" "_law_bent_signs" s_law_bent_signs f fd) (D_law_take : Def P w K mg base 1 "_law_take" ["_law_pool_here", "_law_many"] (S_law_take K)) (D_law_sign : Def P w K mg base 2 "_law_sign" ["_law_pool_here", "_law_kinds_here"] (S_law_sign K)) :
    FnOk P w K mg base (L2.CX P w) 3 f fd ["_law_pool_here", "_law_kinds_here", "_law_signs"] (lift (S_law_bent_signs K)) := by
  refine fn_ok F sc_law_bent_signs (fun vs G M R Z h => sp_len3 h) (fun cdv A outer s H E hr => ?_)
  have nd : N_law_bent_signs.Nodup := sc_law_bent_signs.nd
  have hu : _ + 64 < cLine := hr.units
  have tk : Takes (cxOf (L2.CX P w) P w K mg base N_law_bent_signs "_law_bent_signs" (defScope s_law_bent_signs) f cdv A outer s H E) (fun c d _ H => E c d H) := takes_of rfl rfl rfl rfl
  have po : PassesOwn (model P w) _ _ _ := passes_of (X := cxOf (L2.CX P w) P w K mg base N_law_bent_signs "_law_bent_signs" (defScope s_law_bent_signs) f cdv A outer s H E) rfl
  exact ⟨rd_law_bent_signs K, jss_cons (js_set (i := 3) (je_callD D_law_take hr tk (ja_cons (je_var 0) (ja_cons (je_op kop_add (je_callB kc_len B.len (ja_cons (je_var 2) (ja_nil))) (je_int)) (ja_nil)))) nd) (jss_cons (js_set (i := 4) (je_callD D_law_take hr tk (ja_cons (je_var 0) (ja_cons (je_int) (ja_nil)))) nd) (jss_cons (js_if ((jw_or (jt_cmp (kop_eq hu) (je_var 4) (je_int) (nomark _)) (jw_or1 (jt_cmp (kop_eq hu) (je_var 2) (je_lst (ja_nil)) (nomark _)))).jt) (jss_cons (js_ret (je_op kop_add (je_slice (je_var 2) (jo_none) (jo_some (je_var 3))) (je_slice (je_var 2) (jo_some (je_op kop_add (je_var 3) (je_int))) (jo_none)))) (jss_nil)) (jss_nil)) (jss_cons (js_set (i := 3) (je_op kop_mod (je_var 3) (je_callB kc_len B.len (ja_cons (je_var 2) (ja_nil)))) nd) (jss_cons (js_set (i := 5) (je_ix (je_var 2) (je_var 3)) nd) (jss_cons (js_if (jt_cmp (kop_eq hu) (je_var 4) (je_int) (nomark _)) (jss_cons (js_ret (je_op kop_add (je_op kop_add (je_slice (je_var 2) (jo_none) (jo_some (je_var 3))) (je_lst (ja_cons (je_op kop_cat (je_op kop_cat (je_slT (je_var 5) (jo_none) (jo_some (je_int))) (je_tup (ja_cons (je_ix (je_lst (ja_cons (je_str) (ja_cons (je_str) (ja_nil)))) (je_callTy kc_int B.int (ja_cons (je_cmp (kop_eq hu) (je_ix (je_var 5) (je_int)) (je_str) (nomark _)) (ja_nil)))) (ja_nil)))) (je_slT (je_var 5) (jo_some (je_int)) (jo_none))) (ja_nil)))) (je_slice (je_var 2) (jo_some (je_op kop_add (je_var 3) (je_int))) (jo_none)))) (jss_nil)) (jss_nil)) (jss_cons (js_if (jt_cmp (kop_eq hu) (je_var 4) (je_int) (nomark _)) (jss_cons (js_ret (je_op kop_add (je_op kop_add (je_slice (je_var 2) (jo_none) (jo_some (je_var 3))) (je_lst (ja_cons (je_op kop_cat (je_op kop_cat (je_slT (je_var 5) (jo_none) (jo_some (je_int))) (je_tup (ja_cons (je_op kop_add (je_ix (je_var 5) (je_int)) (je_int)) (ja_nil)))) (je_slT (je_var 5) (jo_some (je_int)) (jo_none))) (ja_nil)))) (je_slice (je_var 2) (jo_some (je_op kop_add (je_var 3) (je_int))) (jo_none)))) (jss_nil)) (jss_nil)) (jss_cons (js_ret (je_op kop_add (je_op kop_add (je_slice (je_var 2) (jo_none) (jo_some (je_var 3))) (je_lst (ja_cons (je_callD D_law_sign hr tk (ja_cons (je_var 0) (ja_cons (je_var 1) (ja_nil)))) (ja_nil)))) (je_slice (je_var 2) (jo_some (je_op kop_add (je_var 3) (je_int))) (jo_none)))) (jss_nil)))))))), fun vs G M R Z h => pf_law_bent_signs h⟩
theorem df_law_bent_signs {P : Program} {w : World} {K : PySem.W.Frag} {mg : Str → Option Value} {base : Heap} {f : Addr} {fd : FuncData} (B : Bs mg) (C : Cs K mg) (F : Fun K "_law_bent_signs" "_law_bent_signs" s_law_bent_signs f fd) (b : Binds K fd ["_law_pool_here", "_law_kinds_here", "_law_signs"] []) (gm : mg "_law_bent_signs" = some (.ref f)) (D_law_take : Def P w K mg base 1 "_law_take" ["_law_pool_here", "_law_many"] (S_law_take K)) (D_law_sign : Def P w K mg base 2 "_law_sign" ["_law_pool_here", "_law_kinds_here"] (S_law_sign K)) :
    Def P w K mg base 3 "_law_bent_signs" ["_law_pool_here", "_law_kinds_here", "_law_signs"] (S_law_bent_signs K) := ⟨f, fd, fo_law_bent_signs B C F D_law_take D_law_sign, gm, F.kp, b⟩
abbrev s_is_whole : Stmt := topS 1
abbrev N_is_whole : List Str := ["thing"]
theorem sc_is_whole : FnScope N_is_whole ["thing"] (defScope s_is_whole) := ⟨rfl, rfl, rfl, by decide +kernel, rfl, by decide +kernel, by decide +kernel⟩
theorem fo_is_whole {P : Program} {w : World} {K : PySem.W.Frag} {mg : Str → Option Value} {base : Heap} {f : Addr} {fd : FuncData} (B : Bs mg) (C : Cs K mg) (F : Fun K "is_whole" "is_whole" s_is_whole f fd)  :
    FnOk P w K mg base (L2.CX P w) 1 f fd ["thing"] (lift (S_is_whole K)) := by
  refine of_now ?_
  simp (disch := with_unfolding_all
    refine fn_ok F sc_is_whole (fun vs G M R Z h => sp_len1 h) (fun cdv A outer s H E hr => ?_)
    have nd : N_is_whole.Nodup := sc_is_whole.nd
    have hu : _ + 64 < cLine := hr.units
    have tk : Takes (cxOf (L2.CX P w) P w K mg base N_is_whole "is_whole" (defScope s_is_whole) f cdv A outer s H E) (fun c d _ H => E c d H) := takes_of rfl rfl rfl rfl
    have po : PassesOwn (model P w) _ _ _ := passes_of (X := cxOf (L2.CX P w) P w K mg base N_is_whole "is_whole" (defScope s_is_whole) f cdv A outer s H E) rfl
    exact ⟨rd_is_whole K, jss_cons (js_ret (je_and (je_callB kc_isi B.isinstance (ja_cons (je_var 0) (ja_cons (je_ty B.int) (ja_nil)))) (je_one (je_not (je_callB kc_isi B.isinstance (ja_cons (je_var 0) (ja_cons (je_ty B.bool) (ja_nil)))))))) (jss_nil), fun vs G M R Z h => pf_is_whole h⟩) only [↓now_true]
theorem df_is_whole {P : Program} {w : World} {K : PySem.W.Frag} {mg : Str → Option Value} {base : Heap} {f : Addr} {fd : FuncData} (B : Bs mg) (C : Cs K mg) (F : Fun K "is_whole" "is_whole" s_is_whole f fd) (b : Binds K fd ["thing"] []) (gm : mg "is_whole" = some (.ref f))  :
    Def P w K mg base 1 "is_whole" ["thing"] (S_is_whole K) := ⟨f, fd, fo_is_whole B C F , gm, F.kp, b⟩
abbrev s_is_within : Stmt := topS 2
abbrev N_is_within : List Str := ["thing", "least", "most"]
theorem sc_is_within : FnScope N_is_within ["thing", "least", "most"] (defScope s_is_within) := ⟨rfl, rfl, rfl, by decide +kernel, rfl, by decide +kernel, by decide +kernel⟩
theorem fo_is_within {P : Program} {w : World} {K : PySem.W.Frag} {mg : Str → Option Value} {base : Heap} {f : Addr} {fd : FuncData} (B : Bs mg) (C : Cs K mg) (F : Fun K "is_within" "is_within" s_is_within f fd) (D_is_whole : Def P w K mg base 1 "is_whole" ["thing"] (S_is_whole K)) :
    FnOk P w K mg base (L2.CX P w) 2 f fd ["thing", "least", "most"] (lift (S_is_within K)) := by
  refine of_now ?_
  simp (disch := with_unfolding_all
    refine fn_ok F sc_is_within (fun vs G M R Z h => sp_len3 h) (fun cdv A outer s H E hr => ?_)
    have nd : N_is_within.Nodup := sc_is_within.nd
    have hu : _ + 64 < cLine := hr.units
    have tk : Takes (cxOf (L2.CX P w) P w K mg base N_is_within "is_within" (defScope s_is_within) f cdv A outer s H E) (fun c d _ H => E c d H) := takes_of rfl rfl rfl rfl
    have po : PassesOwn (model P w) _ _ _ := passes_of (X := cxOf (L2.CX P w) P w K mg base N_is_within "is_within" (defScope s_is_within) f cdv A outer s H E) rfl
    exact ⟨rd_is_within K, jss_cons (js_ret (je_and (je_callD D_is_whole hr tk (ja_cons (je_var 0) (ja_nil))) (je_one (je_chain (kop_le) (kop_le) (je_var 1) (je_var 0) (je_var 2))))) (jss_nil), fun vs G M R Z h => pf_is_within h⟩) only [↓now_true]
theorem df_is_within {P : Program} {w : World} {K : PySem.W.Frag} {mg : Str → Option Value} {base : Heap} {f : Addr} {fd : FuncData} (B : Bs mg) (C : Cs K mg) (F : Fun K "is_within" "is_within" s_is_within f fd) (b : Binds K fd ["thing", "least", "most"] []) (gm : mg "is_within" = some (.ref f)) (D_is_whole : Def P w K mg base 1 "is_whole" ["thing"] (S_is_whole K)) :
    Def P w K mg base 2 "is_within" ["thing", "least", "most"] (S_is_within K) := ⟨f, fd, fo_is_within B C F D_is_whole, gm, F.kp, b⟩
abbrev s_is_order : Stmt := topS 5
abbrev N_is_order : List Str := ["thing", "number"]
theorem sc_is_order : FnScope N_is_order ["thing"] (defScope s_is_order) := ⟨rfl, rfl, rfl, by decide +kernel, rfl, by decide +kernel, by decide +kernel⟩
theorem fo_is_order {P : Program} {w : World} {K : PySem.W.Frag} {mg : Str → Option Value} {base : Heap} {f : Addr} {fd : FuncData} (B : Bs mg) (C : Cs K mg) (F : Fun K "is_order" "is_order" s_is_order f fd) (D_is_within : Def P w K mg base 2 "is_within" ["thing", "least", "most"] (S_is_within K)) :
    FnOk P w K mg base (L2.CX P w) 3 f fd ["thing"] (lift (S_is_order K)) := by
  refine of_now ?_
  simp (disch := with_unfolding_all
    refine fn_ok F sc_is_order (fun vs G M R Z h => sp_len1 h) (fun cdv A outer s H E hr => ?_)
    have nd : N_is_order.Nodup := sc_is_order.nd
    have hu : _ + 64 < cLine := hr.units
    have tk : Takes (cxOf (L2.CX P w) P w K mg base N_is_order "is_order" (defScope s_is_order) f cdv A outer s H E) (fun c d _ H => E c d H) := takes_of rfl rfl rfl rfl
    have po : PassesOwn (model P w) _ _ _ := passes_of (X := cxOf (L2.CX P w) P w K mg base N_is_order "is_order" (defScope s_is_order) f cdv A outer s H E) rfl
    exact ⟨rd_is_order K, jss_cons (js_if ((jw_or (jt_not (jt_val (je_callB kc_isi B.isinstance (ja_cons (je_var 0) (ja_cons (je_ty B.list) (ja_nil)))))) (jw_or (jt_cmp (kop_lt) (je_callB kc_len B.len (ja_cons (je_var 0) (ja_nil))) (je_int) (nomark _)) (jw_or1 (jt_cmp (kop_gt) (je_callB kc_len B.len (ja_cons (je_var 0) (ja_nil))) (je_const C.k_MOST) (nomark _))))).jt) (jss_cons (js_ret (je_bl)) (jss_nil)) (jss_nil)) (jss_cons (js_if (jt_not (jt_val (je_callB kc_all B.all (ja_cons (je_comp (own := [("number", 1)]) rfl nd (ji_list (je_var 0)) (blkOk_by (own := [("number", 1)]) (N := N_is_order) (sc := defScope s_is_order) (by decide +kernel)) (fun _ _ _ _ _ => by exact jg_name (i := 1) nd) (fun _ _ _ _ _ => by exact jts_nil) (fun _ _ _ _ _ => by exact je_callD D_is_within hr takes0 (ja_cons (je_var 1) (ja_cons (je_int) (ja_cons (je_op kop_sub (je_callB kc_len B.len (ja_cons (je_var 0) (ja_nil))) (je_int)) (ja_nil)))))) (ja_nil))))) (jss_cons (js_ret (je_bl)) (jss_nil)) (jss_nil)) (jss_cons (js_ret (je_cmp (kop_eq hu) (je_lenSet B.len B.set (je_var 0)) (je_callB kc_len B.len (ja_cons (je_var 0) (ja_nil))) (nomark _))) (jss_nil))), fun vs G M R Z h => pf_is_order h⟩) only [↓now_true]
theorem df_is_order {P : Program} {w : World} {K : PySem.W.Frag} {mg : Str → Option Value} {base : Heap} {f : Addr} {fd : FuncData} (B : Bs mg) (C : Cs K mg) (F : Fun K "is_order" "is_order" s_is_order f fd) (b : Binds K fd ["thing"] []) (gm : mg "is_order" = some (.ref f)) (D_is_within : Def P w K mg base 2 "is_within" ["thing", "least", "most"] (S_is_within K)) :
    Def P w K mg base 3 "is_order" ["thing"] (S_is_order K) := ⟨f, fd, fo_is_order B C F D_is_within, gm, F.kp, b⟩
abbrev s_is_part : Stmt := topS 7
abbrev N_is_part : List Str := ["kinds", "place", "thing", "kind"]
theorem sc_is_part : FnScope N_is_part ["kinds", "place", "thing"] (defScope s_is_part) := ⟨rfl, rfl, rfl, by decide +kernel, rfl, by decide +kernel, by decide +kernel⟩
theorem fo_is_part {P : Program} {w : World} {K : PySem.W.Frag} {mg : Str → Option Value} {base : Heap} {f : Addr} {fd : FuncData} (B : Bs mg) (C : Cs K mg) (F : Fun K "is_part" "is_part" s_is_part f fd) (D_is_within : Def P w K mg base 2 "is_within" ["thing", "least", "most"] (S_is_within K)) (D_is_order : Def P w K mg base 3 "is_order" ["thing"] (S_is_order K)) :
    FnOk P w K mg base (L2.CX P w) 4 f fd ["kinds", "place", "thing"] (lift (S_is_part K)) := by
  refine of_now ?_
  simp (disch := with_unfolding_all
    refine fn_ok F sc_is_part (fun vs G M R Z h => sp_len3 h) (fun cdv A outer s H E hr => ?_)
    have nd : N_is_part.Nodup := sc_is_part.nd
    have hu : _ + 64 < cLine := hr.units
    have tk : Takes (cxOf (L2.CX P w) P w K mg base N_is_part "is_part" (defScope s_is_part) f cdv A outer s H E) (fun c d _ H => E c d H) := takes_of rfl rfl rfl rfl
    have po : PassesOwn (model P w) _ _ _ := passes_of (X := cxOf (L2.CX P w) P w K mg base N_is_part "is_part" (defScope s_is_part) f cdv A outer s H E) rfl
    exact ⟨rd_is_part K, jss_cons (js_if ((jw_or (jt_not (jt_val (je_callB kc_isi B.isinstance (ja_cons (je_var 2) (ja_cons (je_ty B.tuple) (ja_nil)))))) (jw_or (jt_cmp (kop_ne hu) (je_callB kc_len B.len (ja_cons (je_var 2) (ja_nil))) (je_int) (nomark _)) (jw_or1 (jt_not (jt_val (je_callD D_is_within hr tk (ja_cons (je_ix (je_var 2) (je_int)) (ja_cons (je_int) (ja_cons (je_op kop_sub (je_callB kc_len B.len (ja_cons (je_var 0) (ja_nil))) (je_int)) (ja_nil)))))))))).jt) (jss_cons (js_ret (je_bl)) (jss_nil)) (jss_nil)) (jss_cons (js_set (i := 3) (je_ix (je_var 0) (je_var 1)) nd) (jss_cons (js_if (jt_cmp (kop_ne hu) (je_ix (je_var 0) (je_ix (je_var 2) (je_int))) (je_var 3) (nomark _)) (jss_cons (js_ret (je_bl)) (jss_nil)) (jss_nil)) (jss_cons (js_if (jt_cmp (kop_eq hu) (je_ix (je_var 3) (je_int)) (je_str) (nomark _)) (jss_cons (js_ret (je_cmp (kop_is2) (je_ix (je_var 2) (je_int)) (je_non) (nomark _))) (jss_nil)) (jss_nil)) (jss_cons (js_ret (je_and (je_callD D_is_order hr tk (ja_cons (je_ix (je_var 2) (je_int)) (ja_nil))) (je_one (je_cmp (kop_eq hu) (je_callB kc_len B.len (ja_cons (je_ix (je_var 2) (je_int)) (ja_nil))) (je_ix (je_var 3) (je_int)) (nomark _))))) (jss_nil))))), fun vs G M R Z h => pf_is_part h⟩) only [↓now_true]
theorem df_is_part {P : Program} {w : World} {K : PySem.W.Frag} {mg : Str → Option Value} {base : Heap} {f : Addr} {fd : FuncData} (B : Bs mg) (C : Cs K mg) (F : Fun K "is_part" "is_part" s_is_part f fd) (b : Binds K fd ["kinds", "place", "thing"] []) (gm : mg "is_part" = some (.ref f)) (D_is_within : Def P w K mg base 2 "is_within" ["thing", "least", "most"] (S_is_within K)) (D_is_order : Def P w K mg base 3 "is_order" ["thing"] (S_is_order K)) :
    Def P w K mg base 4 "is_part" ["kinds", "place", "thing"] (S_is_part K) := ⟨f, fd, fo_is_part B C F D_is_within D_is_order, gm, F.kp, b⟩
abbrev s_is_paper : Stmt := topS 8
abbrev N_is_paper : List Str := ["kinds", "thing", "place", "part"]
theorem sc_is_paper : FnScope N_is_paper ["kinds", "thing"] (defScope s_is_paper) := ⟨rfl, rfl, rfl, by decide +kernel, rfl, by decide +kernel, by decide +kernel⟩
theorem fo_is_paper {P : Program} {w : World} {K : PySem.W.Frag} {mg : Str → Option Value} {base : Heap} {f : Addr} {fd : FuncData} (B : Bs mg) (C : Cs K mg) (F : Fun K "is_paper" "is_paper" s_is_paper f fd) (D_is_part : Def P w K mg base 4 "is_part" ["kinds", "place", "thing"] (S_is_part K)) :
    FnOk P w K mg base (L2.CX P w) 5 f fd ["kinds", "thing"] (lift (S_is_paper K)) := by
  refine of_now ?_
  simp (disch := with_unfolding_all
    refine fn_ok F sc_is_paper (fun vs G M R Z h => sp_len2 h) (fun cdv A outer s H E hr => ?_)
    have nd : N_is_paper.Nodup := sc_is_paper.nd
    have hu : _ + 64 < cLine := hr.units
    have tk : Takes (cxOf (L2.CX P w) P w K mg base N_is_paper "is_paper" (defScope s_is_paper) f cdv A outer s H E) (fun c d _ H => E c d H) := takes_of rfl rfl rfl rfl
    have po : PassesOwn (model P w) _ _ _ := passes_of (X := cxOf (L2.CX P w) P w K mg base N_is_paper "is_paper" (defScope s_is_paper) f cdv A outer s H E) rfl
    exact ⟨rd_is_paper K, jss_cons (js_if ((jw_or (jt_not (jt_val (je_callB kc_isi B.isinstance (ja_cons (je_var 1) (ja_cons (je_ty B.list) (ja_nil)))))) (jw_or1 (jt_cmp (kop_ne hu) (je_callB kc_len B.len (ja_cons (je_var 1) (ja_nil))) (je_callB kc_len B.len (ja_cons (je_var 0) (ja_nil))) (nomark _)))).jt) (jss_cons (js_ret (je_bl)) (jss_nil)) (jss_nil)) (jss_cons (js_for po rfl (ji_range1 B.range (ja_cons (je_callB kc_len B.len (ja_cons (je_var 0) (ja_nil))) (ja_nil))) (jg_name (i := 2) nd) (jss_cons (js_if (jt_not (jt_val (je_callD D_is_part hr tk (ja_cons (je_var 0) (ja_cons (je_var 2) (ja_cons (je_ix (je_var 1) (je_var 2)) (ja_nil))))))) (jss_cons (js_ret (je_bl)) (jss_nil)) (jss_nil)) (jss_nil))) (jss_cons (js_ret (je_cmp (kop_eq hu) (je_lenSet B.len B.set (je_comp (own := [("part", 3)]) rfl nd (ji_list (je_var 1)) (blkOk_by (own := [("part", 3)]) (N := N_is_paper) (sc := defScope s_is_paper) (by decide +kernel)) (fun _ _ _ _ _ => by exact jg_name (i := 3) nd) (fun _ _ _ _ _ => by exact jts_nil) (fun _ _ _ _ _ => by exact je_ix (je_var 3) (je_int)))) (je_callB kc_len B.len (ja_cons (je_var 1) (ja_nil))) (nomark _))) (jss_nil))), fun vs G M R Z h => pf_is_paper h⟩) only [↓now_true]
theorem df_is_paper {P : Program} {w : World} {K : PySem.W.Frag} {mg : Str → Option Value} {base : Heap} {f : Addr} {fd : FuncData} (B : Bs mg) (C : Cs K mg) (F : Fun K "is_paper" "is_paper" s_is_paper f fd) (b : Binds K fd ["kinds", "thing"] []) (gm : mg "is_paper" = some (.ref f)) (D_is_part : Def P w K mg base 4 "is_part" ["kinds", "place", "thing"] (S_is_part K)) :
    Def P w K mg base 5 "is_paper" ["kinds", "thing"] (S_is_paper K) := ⟨f, fd, fo_is_paper B C F D_is_part, gm, F.kp, b⟩
abbrev s_is_led : Stmt := topS 9
abbrev N_is_led : List Str := ["one", "other", "paper", "source", "turn"]
theorem sc_is_led : FnScope N_is_led ["one", "other", "paper"] (defScope s_is_led) := ⟨rfl, rfl, rfl, by decide +kernel, rfl, by decide +kernel, by decide +kernel⟩
theorem fo_is_led {P : Program} {w : World} {K : PySem.W.Frag} {mg : Str → Option Value} {base : Heap} {f : Addr} {fd : FuncData} (B : Bs mg) (C : Cs K mg) (F : Fun K "is_led" "is_led" s_is_led f fd)  :
    FnOk P w K mg base (L2.CX P w) 1 f fd ["one", "other", "paper"] (lift (S_is_led K)) := by
  refine of_now ?_
  simp (disch := with_unfolding_all
    refine fn_ok F sc_is_led (fun vs G M R Z h => sp_len3 h) (fun cdv A outer s H E hr => ?_)
    have nd : N_is_led.Nodup := sc_is_led.nd
    have hu : _ + 64 < cLine := hr.units
    have tk : Takes (cxOf (L2.CX P w) P w K mg base N_is_led "is_led" (defScope s_is_led) f cdv A outer s H E) (fun c d _ H => E c d H) := takes_of rfl rfl rfl rfl
    have po : PassesOwn (model P w) _ _ _ := passes_of (X := cxOf (L2.CX P w) P w K mg base N_is_led "is_led" (defScope s_is_led) f cdv A outer s H E) rfl
    exact ⟨rd_is_led K, jss_cons (js_if ((jw_or (jt_cmp (kop_ne hu) (je_ix (je_var 0) (je_int)) (je_ix (je_var 1) (je_int)) (nomark _)) (jw_or1 (jt_cmp (kop_ne hu) (je_slT (je_var 0) (jo_some (je_int)) (jo_some (je_int))) (je_slT (je_var 1) (jo_some (je_int)) (jo_some (je_int))) (nomark _)))).jt) (jss_cons (js_ret (je_bl)) (jss_nil)) (jss_nil)) (jss_cons (js_if (jt_cmp (kop_eq hu) (je_ix (je_var 0) (je_int)) (je_str) (nomark _)) (jss_cons (js_ret (je_cmp (kop_eq hu) (je_ix (je_var 0) (je_int)) (je_ix (je_var 1) (je_int)) (nomark _))) (jss_nil)) (jss_nil)) (jss_cons (js_asg (je_ix (je_var 2) (je_ix (je_var 1) (je_int))) (jg_tup rfl (jgs_cons (jg_name (i := 3) nd) (jgs_cons (jg_name (i := 4) nd) (jgs_nil))))) (jss_cons (js_if (jt_cmp (kop_ne hu) (je_var 3) (je_ix (je_var 0) (je_int)) (nomark _)) (jss_cons (js_ret (je_bl)) (jss_nil)) (jss_nil)) (jss_cons (js_if (jt_cmp (kop_eq hu) (je_ix (je_var 0) (je_int)) (je_str) (nomark _)) (jss_cons (js_ret (je_cmp (kop_eq hu) (je_ix (je_var 4) (je_ix (je_var 1) (je_int))) (je_ix (je_var 0) (je_int)) (nomark _))) (jss_nil)) (jss_nil)) (jss_cons (js_ret (je_cmp (kop_eq hu) (je_slT (je_var 0) (jo_some (je_int)) (jo_none)) (je_slT (je_var 1) (jo_some (je_int)) (jo_none)) (nomark _))) (jss_nil)))))), fun vs G M R Z h => pf_is_led h⟩) only [↓now_true]
theorem df_is_led {P : Program} {w : World} {K : PySem.W.Frag} {mg : Str → Option Value} {base : Heap} {f : Addr} {fd : FuncData} (B : Bs mg) (C : Cs K mg) (F : Fun K "is_led" "is_led" s_is_led f fd) (b : Binds K fd ["one", "other", "paper"] []) (gm : mg "is_led" = some (.ref f))  :
    Def P w K mg base 1 "is_led" ["one", "other", "paper"] (S_is_led K) := ⟨f, fd, fo_is_led B C F , gm, F.kp, b⟩
abbrev s_is_leading : Stmt := topS 10
abbrev N_is_leading : List Str := ["kinds", "one", "other", "thing", "here", "there"]
theorem sc_is_leading : FnScope N_is_leading ["kinds", "one", "other", "thing"] (defScope s_is_leading) := ⟨rfl, rfl, rfl, by decide +kernel, rfl, by decide +kernel, by decide +kernel⟩
theorem fo_is_leading {P : Program} {w : World} {K : PySem.W.Frag} {mg : Str → Option Value} {base : Heap} {f : Addr} {fd : FuncData} (B : Bs mg) (C : Cs K mg) (F : Fun K "is_leading" "is_leading" s_is_leading f fd) (D_is_paper : Def P w K mg base 5 "is_paper" ["kinds", "thing"] (S_is_paper K)) (D_is_led : Def P w K mg base 1 "is_led" ["one", "other", "paper"] (S_is_led K)) :
    FnOk P w K mg base (L2.CX P w) 6 f fd ["kinds", "one", "other", "thing"] (lift (S_is_leading K)) := by
  refine of_now ?_
  simp (disch := with_unfolding_all
    refine fn_ok F sc_is_leading (fun vs G M R Z h => sp_len4 h) (fun cdv A outer s H E hr => ?_)
    have nd : N_is_leading.Nodup := sc_is_leading.nd
    have hu : _ + 64 < cLine := hr.units
    have tk : Takes (cxOf (L2.CX P w) P w K mg base N_is_leading "is_leading" (defScope s_is_leading) f cdv A outer s H E) (fun c d _ H => E c d H) := takes_of rfl rfl rfl rfl
    have po : PassesOwn (model P w) _ _ _ := passes_of (X := cxOf (L2.CX P w) P w K mg base N_is_leading "is_leading" (defScope s_is_leading) f cdv A outer s H E) rfl
    exact ⟨rd_is_leading K, jss_cons (js_if ((jw_or (jt_not (jt_val (je_callD D_is_paper hr tk (ja_cons (je_var 0) (ja_cons (je_var 3) (ja_nil)))))) (jw_or1 (jt_cmp (kop_ne hu) (je_callB kc_len B.len (ja_cons (je_var 1) (ja_nil))) (je_callB kc_len B.len (ja_cons (je_var 2) (ja_nil))) (nomark _)))).jt) (jss_cons (js_ret (je_bl)) (jss_nil)) (jss_nil)) (jss_cons (js_ret (je_callB kc_all B.all (ja_cons (je_comp (own := [("here", 4), ("there", 5)]) rfl nd (ji_zip B.zip (ja_cons (je_var 1) (ja_cons (je_var 2) (ja_nil)))) (blkOk_by (own := [("here", 4), ("there", 5)]) (N := N_is_leading) (sc := defScope s_is_leading) (by decide +kernel)) (fun _ _ _ _ _ => by exact jg_tup rfl (jgs_cons (jg_name (i := 4) nd) (jgs_cons (jg_name (i := 5) nd) (jgs_nil)))) (fun _ _ _ _ _ => by exact jts_nil) (fun _ _ _ _ _ => by exact je_callD D_is_led hr takes0 (ja_cons (je_var 4) (ja_cons (je_var 5) (ja_cons (je_var 3) (ja_nil)))))) (ja_nil)))) (jss_nil)), fun vs G M R Z h => pf_is_leading h⟩) only [↓now_true]
theorem df_is_leading {P : Program} {w : World} {K : PySem.W.Frag} {mg : Str → Option Value} {base : Heap} {f : Addr} {fd : FuncData} (B : Bs mg) (C : Cs K mg) (F : Fun K "is_leading" "is_leading" s_is_leading f fd) (b : Binds K fd ["kinds", "one", "other", "thing"] []) (gm : mg "is_leading" = some (.ref f)) (D_is_paper : Def P w K mg base 5 "is_paper" ["kinds", "thing"] (S_is_paper K)) (D_is_led : Def P w K mg base 1 "is_led" ["one", "other", "paper"] (S_is_led K)) :
    Def P w K mg base 6 "is_leading" ["kinds", "one", "other", "thing"] (S_is_leading K) := ⟨f, fd, fo_is_leading B C F D_is_paper D_is_led, gm, F.kp, b⟩
abbrev s_law_whole : Stmt := topS 14
abbrev N_law_whole : List Str := ["_law_found"]
theorem sc_law_whole : FnScope N_law_whole ["_law_found"] (defScope s_law_whole) := ⟨rfl, rfl, rfl, by decide +kernel, rfl, by decide +kernel, by decide +kernel⟩
theorem fo_law_whole {P : Program} {w : World} {K : PySem.W.Frag} {mg : Str → Option Value} {base : Heap} {f : Addr} {fd : FuncData} (B : Bs mg) (C : Cs K mg) (F : Fun K "_law_whole" "_law_whole" s_law_whole f fd)  :
    FnOk P w K mg base (L2.CX P w) 1 f fd ["_law_found"] (lift (S_law_whole K)) := by
  refine fn_ok F sc_law_whole (fun vs G M R Z h => sp_len1 h) (fun cdv A outer s H E hr => ?_)
  have nd : N_law_whole.Nodup := sc_law_whole.nd
  have hu : _ + 64 < cLine := hr.units
  have tk : Takes (cxOf (L2.CX P w) P w K mg base N_law_whole "_law_whole" (defScope s_law_whole) f cdv A outer s H E) (fun c d _ H => E c d H) := takes_of rfl rfl rfl rfl
  have po : PassesOwn (model P w) _ _ _ := passes_of (X := cxOf (L2.CX P w) P w K mg base N_law_whole "_law_whole" (defScope s_law_whole) f cdv A outer s H E) rfl
  exact ⟨rd_law_whole K, jss_cons (js_ret (je_and (je_callB kc_isi B.isinstance (ja_cons (je_var 0) (ja_cons (je_ty B.int) (ja_nil)))) (je_one (je_not (je_callB kc_isi B.isinstance (ja_cons (je_var 0) (ja_cons (je_ty B.bool) (ja_nil)))))))) (jss_nil), fun vs G M R Z h => pf_law_whole h⟩
theorem df_law_whole {P : Program} {w : World} {K : PySem.W.Frag} {mg : Str → Option Value} {base : Heap} {f : Addr} {fd : FuncData} (B : Bs mg) (C : Cs K mg) (F : Fun K "_law_whole" "_law_whole" s_law_whole f fd) (b : Binds K fd ["_law_found"] []) (gm : mg "_law_whole" = some (.ref f))  :
    Def P w K mg base 1 "_law_whole" ["_law_found"] (S_law_whole K) := ⟨f, fd, fo_law_whole B C F , gm, F.kp, b⟩
abbrev s_law_is_turn : Stmt := topS 22
abbrev N_law_is_turn : List Str := ["_law_kind", "_law_turn_here", "_law_one"]
theorem sc_law_is_turn : FnScope N_law_is_turn ["_law_kind", "_law_turn_here"] (defScope s_law_is_turn) := ⟨rfl, rfl, rfl, by decide +kernel, rfl, by decide +kernel, by decide +kernel⟩
theorem fo_law_is_turn {P : Program} {w : World} {K : PySem.W.Frag} {mg : Str → Option Value} {base : Heap} {f : Addr} {fd : FuncData} (B : Bs mg) (C : Cs K mg) (F : Fun K "_law_is_turn" "_law_is_turn" s_law_is_turn f fd) (D_law_whole : Def P w K mg base 1 "_law_whole" ["_law_found"] (S_law_whole K)) :
    FnOk P w K mg base (L2.CX P w) 2 f fd ["_law_kind", "_law_turn_here"] (lift (S_law_is_turn K)) := by
  refine fn_ok F sc_law_is_turn (fun vs G M R Z h => sp_len2 h) (fun cdv A outer s H E hr => ?_)
  have nd : N_law_is_turn.Nodup := sc_law_is_turn.nd
  have hu : _ + 64 < cLine := hr.units
  have tk : Takes (cxOf (L2.CX P w) P w K mg base N_law_is_turn "_law_is_turn" (defScope s_law_is_turn) f cdv A outer s H E) (fun c d _ H => E c d H) := takes_of rfl rfl rfl rfl
  have po : PassesOwn (model P w) _ _ _ := passes_of (X := cxOf (L2.CX P w) P w K mg base N_law_is_turn "_law_is_turn" (defScope s_law_is_turn) f cdv A outer s H E) rfl
  exact ⟨rd_law_is_turn K, jss_cons (js_if (jt_cmp (kop_eq hu) (je_ix (je_var 0) (je_int)) (je_str) (nomark _)) (jss_cons (js_ret (je_cmp (kop_is2) (je_var 1) (je_non) (nomark _))) (jss_nil)) (jss_nil)) (jss_cons (js_if ((jw_or (jt_not (jt_val (je_callB kc_isi B.isinstance (ja_cons (je_var 1) (ja_cons (je_ty B.list) (ja_nil)))))) (jw_or1 (jt_cmp (kop_ne hu) (je_callB kc_len B.len (ja_cons (je_var 1) (ja_nil))) (je_ix (je_var 0) (je_int)) (nomark _)))).jt) (jss_cons (js_ret (je_bl)) (jss_nil)) (jss_nil)) (jss_cons (js_ret (je_and (je_cmp (kop_eq hu) (je_comp (own := [("_law_one", 2)]) rfl nd (ji_list (je_var 1)) (blkOk_by (own := [("_law_one", 2)]) (N := N_law_is_turn) (sc := defScope s_law_is_turn) (by decide +kernel)) (fun _ _ _ _ _ => by exact jg_name (i := 2) nd) (fun _ _ _ _ _ => by exact jts_one (jt_not (jt_val (je_callD D_law_whole hr takes0 (ja_cons (je_var 2) (ja_nil)))))) (fun _ _ _ _ _ => by exact je_var 2)) (je_lst (ja_nil)) (nomark _)) (je_one (je_cmp (kop_eq hu) (je_callB kc_sorted B.sorted (ja_cons (je_var 1) (ja_nil))) (je_listR1 B.list B.range (je_ix (je_var 0) (je_int))) (nomark _))))) (jss_nil))), fun vs G M R Z h => pf_law_is_turn h⟩
theorem df_law_is_turn {P : Program} {w : World} {K : PySem.W.Frag} {mg : Str → Option Value} {base : Heap} {f : Addr} {fd : FuncData} (B : Bs mg) (C : Cs K mg) (F : Fun K "_law_is_turn" "_law_is_turn" s_law_is_turn f fd) (b : Binds K fd ["_law_kind", "_law_turn_here"] []) (gm : mg "_law_is_turn" = some (.ref f)) (D_law_whole : Def P w K mg base 1 "_law_whole" ["_law_found"] (S_law_whole K)) :
    Def P w K mg base 2 "_law_is_turn" ["_law_kind", "_law_turn_here"] (S_law_is_turn K) := ⟨f, fd, fo_law_is_turn B C F D_law_whole, gm, F.kp, b⟩
abbrev s_law_is_paper : Stmt := topS 23
abbrev N_law_is_paper : List Str := ["_law_kinds_here", "_law_thing", "_law_sources", "_law_kind", "_law_part"]
theorem sc_law_is_paper : FnScope N_law_is_paper ["_law_kinds_here", "_law_thing"] (defScope s_law_is_paper) := ⟨rfl, rfl, rfl, by decide +kernel, rfl, by decide +kernel, by decide +kernel⟩
theorem fo_law_is_paper {P : Program} {w : World} {K : PySem.W.Frag} {mg : Str → Option Value} {base : Heap} {f : Addr} {fd : FuncData} (B : Bs mg) (C : Cs K mg) (F : Fun K "_law_is_paper" "_law_is_paper" s_law_is_paper f fd) (D_law_whole : Def P w K mg base 1 "_law_whole" ["_law_found"] (S_law_whole K)) (D_law_is_turn : Def P w K mg base 2 "_law_is_turn" ["_law_kind", "_law_turn_here"] (S_law_is_turn K)) :
    FnOk P w K mg base (L2.CX P w) 3 f fd ["_law_kinds_here", "_law_thing"] (lift (S_law_is_paper K)) := by
  refine fn_ok F sc_law_is_paper (fun vs G M R Z h => sp_len2 h) (fun cdv A outer s H E hr => ?_)
  have nd : N_law_is_paper.Nodup := sc_law_is_paper.nd
  have hu : _ + 64 < cLine := hr.units
  have tk : Takes (cxOf (L2.CX P w) P w K mg base N_law_is_paper "_law_is_paper" (defScope s_law_is_paper) f cdv A outer s H E) (fun c d _ H => E c d H) := takes_of rfl rfl rfl rfl
  have po : PassesOwn (model P w) _ _ _ := passes_of (X := cxOf (L2.CX P w) P w K mg base N_law_is_paper "_law_is_paper" (defScope s_law_is_paper) f cdv A outer s H E) rfl
  exact ⟨rd_law_is_paper K, jss_cons (js_if ((jw_or (jt_not (jt_val (je_callB kc_isi B.isinstance (ja_cons (je_var 1) (ja_cons (je_ty B.list) (ja_nil)))))) (jw_or1 (jt_cmp (kop_ne hu) (je_callB kc_len B.len (ja_cons (je_var 1) (ja_nil))) (je_callB kc_len B.len (ja_cons (je_var 0) (ja_nil))) (nomark _)))).jt) (jss_cons (js_ret (je_bl)) (jss_nil)) (jss_nil)) (jss_cons (js_set (i := 2) (je_lst (ja_nil)) nd) (jss_cons (js_for po rfl (ji_zip B.zip (ja_cons (je_var 0) (ja_cons (je_var 1) (ja_nil)))) (jg_tup rfl (jgs_cons (jg_name (i := 3) nd) (jgs_cons (jg_name (i := 4) nd) (jgs_nil)))) (jss_cons (js_if ((jw_or (jt_not (jt_val (je_callB kc_isi B.isinstance (ja_cons (je_var 4) (ja_cons (je_ty B.tuple) (ja_nil)))))) (jw_or (jt_cmp (kop_ne hu) (je_callB kc_len B.len (ja_cons (je_var 4) (ja_nil))) (je_int) (nomark _)) (jw_or1 (jt_not (jt_val (je_callD D_law_whole hr tk (ja_cons (je_ix (je_var 4) (je_int)) (ja_nil)))))))).jt) (jss_cons (js_ret (je_bl)) (jss_nil)) (jss_nil)) (jss_cons (js_if ((jw_or (jt_not (jt_chain (kop_le) (kop_lt) (je_int) (je_ix (je_var 4) (je_int)) (je_callB kc_len B.len (ja_cons (je_var 0) (ja_nil))))) (jw_or (jt_cmp (kop_ne hu) (je_ix (je_var 0) (je_ix (je_var 4) (je_int))) (je_var 3) (nomark _)) (jw_or1 (jt_not (jt_val (je_callD D_law_is_turn hr tk (ja_cons (je_var 3) (ja_cons (je_ix (je_var 4) (je_int)) (ja_nil))))))))).jt) (jss_cons (js_ret (je_bl)) (jss_nil)) (jss_nil)) (jss_cons (js_expr (je_bm PySem.F.plainAttrs_list PySem.F.slot_list_append PySem.F.type_list_append km_append (je_var 2) (ja_cons (je_ix (je_var 4) (je_int)) (ja_nil)))) (jss_nil))))) (jss_cons (js_ret (je_cmp (kop_eq hu) (je_lenSet B.len B.set (je_var 2)) (je_callB kc_len B.len (ja_cons (je_var 2) (ja_nil))) (nomark _))) (jss_nil)))), fun vs G M R Z h => pf_law_is_paper h⟩
theorem df_law_is_paper {P : Program} {w : World} {K : PySem.W.Frag} {mg : Str → Option Value} {base : Heap} {f : Addr} {fd : FuncData} (B : Bs mg) (C : Cs K mg) (F : Fun K "_law_is_paper" "_law_is_paper" s_law_is_paper f fd) (b : Binds K fd ["_law_kinds_here", "_law_thing"] []) (gm : mg "_law_is_paper" = some (.ref f)) (D_law_whole : Def P w K mg base 1 "_law_whole" ["_law_found"] (S_law_whole K)) (D_law_is_turn : Def P w K mg base 2 "_law_is_turn" ["_law_kind", "_law_turn_here"] (S_law_is_turn K)) :
    Def P w K mg base 3 "_law_is_paper" ["_law_kinds_here", "_law_thing"] (S_law_is_paper K) := ⟨f, fd, fo_law_is_paper B C F D_law_whole D_law_is_turn, gm, F.kp, b⟩
abbrev s_law_due : Stmt := topS 24
abbrev N_law_due : List Str := ["_law_kinds_here", "_law_one", "_law_other", "_law_thing", "_law_sign_here"]
theorem sc_law_due : FnScope N_law_due ["_law_kinds_here", "_law_one", "_law_other", "_law_thing"] (defScope s_law_due) := ⟨rfl, rfl, rfl, by decide +kernel, rfl, by decide +kernel, by decide +kernel⟩
theorem fo_law_due {P : Program} {w : World} {K : PySem.W.Frag} {mg : Str → Option Value} {base : Heap} {f : Addr} {fd : FuncData} (B : Bs mg) (C : Cs K mg) (F : Fun K "_law_due" "_law_due" s_law_due f fd) (D_law_is_paper : Def P w K mg base 3 "_law_is_paper" ["_law_kinds_here", "_law_thing"] (S_law_is_paper K)) (D_law_led_sign : Def P w K mg base 1 "_law_led_sign" ["_law_paper_here", "_law_sign_here"] (S_law_led_sign K)) :
    FnOk P w K mg base (L2.CX P w) 4 f fd ["_law_kinds_here", "_law_one", "_law_other", "_law_thing"] (lift (S_law_due K)) := by
  refine fn_ok F sc_law_due (fun vs G M R Z h => sp_len4 h) (fun cdv A outer s H E hr => ?_)
  have nd : N_law_due.Nodup := sc_law_due.nd
  have hu : _ + 64 < cLine := hr.units
  have tk : Takes (cxOf (L2.CX P w) P w K mg base N_law_due "_law_due" (defScope s_law_due) f cdv A outer s H E) (fun c d _ H => E c d H) := takes_of rfl rfl rfl rfl
  have po : PassesOwn (model P w) _ _ _ := passes_of (X := cxOf (L2.CX P w) P w K mg base N_law_due "_law_due" (defScope s_law_due) f cdv A outer s H E) rfl
  exact ⟨rd_law_due K, jss_cons (js_if ((jw_or (jt_not (jt_val (je_callD D_law_is_paper hr tk (ja_cons (je_var 0) (ja_cons (je_var 3) (ja_nil)))))) (jw_or1 (jt_cmp (kop_ne hu) (je_callB kc_len B.len (ja_cons (je_var 1) (ja_nil))) (je_callB kc_len B.len (ja_cons (je_var 2) (ja_nil))) (nomark _)))).jt) (jss_cons (js_ret (je_bl)) (jss_nil)) (jss_nil)) (jss_cons (js_ret (je_cmp (kop_eq hu) (je_comp (own := [("_law_sign_here", 4)]) rfl nd (ji_list (je_var 1)) (blkOk_by (own := [("_law_sign_here", 4)]) (N := N_law_due) (sc := defScope s_law_due) (by decide +kernel)) (fun _ _ _ _ _ => by exact jg_name (i := 4) nd) (fun _ _ _ _ _ => by exact jts_nil) (fun _ _ _ _ _ => by exact je_callD D_law_led_sign hr takes0 (ja_cons (je_var 3) (ja_cons (je_var 4) (ja_nil))))) (je_var 2) (nomark _))) (jss_nil)), fun vs G M R Z h => pf_law_due h⟩
theorem df_law_due {P : Program} {w : World} {K : PySem.W.Frag} {mg : Str → Option Value} {base : Heap} {f : Addr} {fd : FuncData} (B : Bs mg) (C : Cs K mg) (F : Fun K "_law_due" "_law_due" s_law_due f fd) (b : Binds K fd ["_law_kinds_here", "_law_one", "_law_other", "_law_thing"] []) (gm : mg "_law_due" = some (.ref f)) (D_law_is_paper : Def P w K mg base 3 "_law_is_paper" ["_law_kinds_here", "_law_thing"] (S_law_is_paper K)) (D_law_led_sign : Def P w K mg base 1 "_law_led_sign" ["_law_paper_here", "_law_sign_here"] (S_law_led_sign K)) :
    Def P w K mg base 4 "_law_due" ["_law_kinds_here", "_law_one", "_law_other", "_law_thing"] (S_law_due K) := ⟨f, fd, fo_law_due B C F D_law_is_paper D_law_led_sign, gm, F.kp, b⟩
abbrev s_law_right : Stmt := topS 28
abbrev N_law_right : List Str := ["_law_pool_here", "_law_kinds_here", "_law_paper_here", "_law_one", "_law_k", "_law_other", "_law_sign_here", "_law_trials", "_law_here", "_law_there", "_law_thing", "_law_kept", "_law_found"]
theorem sc_law_right : FnScope N_law_right ["_law_pool_here"] (defScope s_law_right) := ⟨rfl, rfl, rfl, by decide +kernel, rfl, by decide +kernel, by decide +kernel⟩
theorem fo_law_right {P : Program} {w : World} {K : PySem.W.Frag} {mg : Str → Option Value} {base : Heap} {f : Addr} {fd : FuncData} (B : Bs mg) (C : Cs K mg) (F : Fun K "_law_right" "_law_right" s_law_right f fd) (D_law_kinds : Def P w K mg base 2 "_law_kinds" ["_law_pool_here", "_law_most", "_law_far"] (S_law_kinds K)) (D_law_paper : Def P w K mg base 3 "_law_paper" ["_law_pool_here", "_law_kinds_here"] (S_law_paper K)) (D_law_take : Def P w K mg base 1 "_law_take" ["_law_pool_here", "_law_many"] (S_law_take K)) (D_law_sign : Def P w K mg base 2 "_law_sign" ["_law_pool_here", "_law_kinds_here"] (S_law_sign K)) (D_law_led_sign : Def P w K mg base 1 "_law_led_sign" ["_law_paper_here", "_law_sign_here"] (S_law_led_sign K)) (D_law_bent_paper : Def P w K mg base 3 "_law_bent_paper" ["_law_pool_here", "_law_paper_here"] (S_law_bent_paper K)) (D_law_bent_signs : Def P w K mg base 3 "_law_bent_signs" ["_law_pool_here", "_law_kinds_here", "_law_signs"] (S_law_bent_signs K)) (D_is_leading : Def P w K mg base 6 "is_leading" ["kinds", "one", "other", "thing"] (S_is_leading K)) (D_law_due : Def P w K mg base 4 "_law_due" ["_law_kinds_here", "_law_one", "_law_other", "_law_thing"] (S_law_due K)) :
    GFn P w K mg base 7 f fd ["_law_pool_here"] (lift (S_law_right K)) := by
  refine of_now ?_
  simp (disch := with_unfolding_all
    refine gfn_ok F sc_law_right (fun vs G M R Z h => sp_len1 h) (fun cdv A outer s H E hgd hr => ?_)
    have nd : N_law_right.Nodup := sc_law_right.nd
    have hu : _ + 64 < cLine := hr.units
    have tk : Takes (cxOf (L2.CX P w) P w K mg base N_law_right "_law_right" (defScope s_law_right) f cdv A outer s H E) (fun c d _ H => E c d H) := takes_of rfl rfl rfl rfl
    have po : PassesOwn (model P w) _ _ _ := passes_of (X := cxOf (L2.CX P w) P w K mg base N_law_right "_law_right" (defScope s_law_right) f cdv A outer s H E) rfl
    exact ⟨rd_law_right K, jss_cons (js_set (i := 1) (je_callD D_law_kinds hr tk (ja_cons (je_var 0) (ja_cons (je_int) (ja_cons (je_int) (ja_nil))))) nd) (jss_cons (js_set (i := 2) (je_callD D_law_paper hr tk (ja_cons (je_var 0) (ja_cons (je_var 1) (ja_nil)))) nd) (jss_cons (js_setComp (own := [("_law_k", 4)]) (i := 3) rfl nd (sw_true rfl rfl rfl (by decide +kernel)) (ji_range1 B.range (ja_cons (je_callD D_law_take hr tk (ja_cons (je_var 0) (ja_cons (je_int) (ja_nil)))) (ja_nil))) (blkOk_by (own := [("_law_k", 4)]) (N := N_law_right) (sc := defScope s_law_right) (by decide +kernel)) (fun _ _ _ _ _ => by exact jg_name (i := 4) nd) (fun _ _ _ _ _ => by exact jts_nil) (fun _ _ _ _ _ => by exact je_callD D_law_sign hr takes0 (ja_cons (je_var 0) (ja_cons (je_var 1) (ja_nil))))) (jss_cons (js_setComp (own := [("_law_sign_here", 6)]) (i := 5) rfl nd (sw_true rfl rfl rfl (by decide +kernel)) (ji_list (je_var 3)) (blkOk_by (own := [("_law_sign_here", 6)]) (N := N_law_right) (sc := defScope s_law_right) (by decide +kernel)) (fun _ _ _ _ _ => by exact jg_name (i := 6) nd) (fun _ _ _ _ _ => by exact jts_nil) (fun _ _ _ _ _ => by exact je_callD D_law_led_sign hr takes0 (ja_cons (je_var 2) (ja_cons (je_var 6) (ja_nil))))) (jss_cons (js_set (i := 7) (je_lst (ja_cons (je_tup (ja_cons (je_var 3) (ja_cons (je_var 5) (ja_cons (je_var 2) (ja_nil))))) (ja_cons (je_tup (ja_cons (je_var 3) (ja_cons (je_var 5) (ja_cons (je_callD D_law_bent_paper hr tk (ja_cons (je_var 0) (ja_cons (je_var 2) (ja_nil)))) (ja_nil))))) (ja_nil)))) nd) (jss_cons (js_set (i := 7) (je_op kop_add (je_var 7) (je_lst (ja_cons (je_tup (ja_cons (je_var 3) (ja_cons (je_callD D_law_bent_signs hr tk (ja_cons (je_var 0) (ja_cons (je_var 1) (ja_cons (je_var 5) (ja_nil))))) (ja_cons (je_var 2) (ja_nil))))) (ja_cons (je_tup (ja_cons (je_var 5) (ja_cons (je_var 3) (ja_cons (je_var 2) (ja_nil))))) (ja_nil))))) nd) (jss_cons (js_for po rfl (ji_list (je_var 7)) (jg_tup rfl (jgs_cons (jg_name (i := 8) nd) (jgs_cons (jg_name (i := 9) nd) (jgs_cons (jg_name (i := 10) nd) (jgs_nil))))) (jss_cons (js_set (i := 11) (je_callB (kc_reprQ hgd hu) B.repr (ja_cons (je_lst (ja_cons (je_var 1) (ja_cons (je_var 8) (ja_cons (je_var 9) (ja_cons (je_var 10) (ja_nil)))))) (ja_nil))) nd) (jss_cons (js_set (i := 12) (je_callD D_is_leading hr tk (ja_cons (je_var 1) (ja_cons (je_var 8) (ja_cons (je_var 9) (ja_cons (je_var 10) (ja_nil)))))) nd) (jss_cons (js_if ((jw_or (jt_not (jt_val (je_callB kc_isi B.isinstance (ja_cons (je_var 12) (ja_cons (je_ty B.bool) (ja_nil)))))) (jw_or1 (jt_cmp (kop_ne hu) (je_var 12) (je_callD D_law_due hr tk (ja_cons (je_var 1) (ja_cons (je_var 8) (ja_cons (je_var 9) (ja_cons (je_var 10) (ja_nil)))))) (nomark _)))).jt) (jss_cons (js_ret (je_bl)) (jss_nil)) (jss_nil)) (jss_cons (js_if (jt_cmp (kop_ne hu) (je_callB (kc_reprQ hgd hu) B.repr (ja_cons (je_lst (ja_cons (je_var 1) (ja_cons (je_var 8) (ja_cons (je_var 9) (ja_cons (je_var 10) (ja_nil)))))) (ja_nil))) (je_var 11) (nomark _)) (jss_cons (js_ret (je_bl)) (jss_nil)) (jss_nil)) (jss_nil)))))) (jss_cons (js_ret (je_callD D_is_leading hr tk (ja_cons (je_var 1) (ja_cons (je_var 3) (ja_cons (je_var 5) (ja_cons (je_var 2) (ja_nil))))))) (jss_nil)))))))), fun vs G M R Z h => pf_law_right h⟩) only [↓now_true]
theorem df_law_right {P : Program} {w : World} {K : PySem.W.Frag} {mg : Str → Option Value} {base : Heap} {f : Addr} {fd : FuncData} (B : Bs mg) (C : Cs K mg) (F : Fun K "_law_right" "_law_right" s_law_right f fd) (b : Binds K fd ["_law_pool_here"] []) (gm : mg "_law_right" = some (.ref f)) (D_law_kinds : Def P w K mg base 2 "_law_kinds" ["_law_pool_here", "_law_most", "_law_far"] (S_law_kinds K)) (D_law_paper : Def P w K mg base 3 "_law_paper" ["_law_pool_here", "_law_kinds_here"] (S_law_paper K)) (D_law_take : Def P w K mg base 1 "_law_take" ["_law_pool_here", "_law_many"] (S_law_take K)) (D_law_sign : Def P w K mg base 2 "_law_sign" ["_law_pool_here", "_law_kinds_here"] (S_law_sign K)) (D_law_led_sign : Def P w K mg base 1 "_law_led_sign" ["_law_paper_here", "_law_sign_here"] (S_law_led_sign K)) (D_law_bent_paper : Def P w K mg base 3 "_law_bent_paper" ["_law_pool_here", "_law_paper_here"] (S_law_bent_paper K)) (D_law_bent_signs : Def P w K mg base 3 "_law_bent_signs" ["_law_pool_here", "_law_kinds_here", "_law_signs"] (S_law_bent_signs K)) (D_is_leading : Def P w K mg base 6 "is_leading" ["kinds", "one", "other", "thing"] (S_is_leading K)) (D_law_due : Def P w K mg base 4 "_law_due" ["_law_kinds_here", "_law_one", "_law_other", "_law_thing"] (S_law_due K)) :
    DefG P w K mg base 7 "_law_right" ["_law_pool_here"] (S_law_right K) := ⟨f, fd, fo_law_right B C F D_law_kinds D_law_paper D_law_take D_law_sign D_law_led_sign D_law_bent_paper D_law_bent_signs D_is_leading D_law_due, gm, F.kp, b⟩
abbrev s_law : Stmt := topS 29
abbrev N_law : List Str := ["_law_script", "_law_k"]
theorem sc_law : FnScope N_law ["_law_script"] (defScope s_law) := ⟨rfl, rfl, rfl, by decide +kernel, rfl, by decide +kernel, by decide +kernel⟩
theorem fo_law {P : Program} {w : World} {K : PySem.W.Frag} {mg : Str → Option Value} {base : Heap} {f : Addr} {fd : FuncData} (B : Bs mg) (C : Cs K mg) (F : Fun K "law" "law" s_law f fd) (D_law_pool : Def P w K mg base 1 "_law_pool" ["_law_script", "_law_k"] (S_law_pool K)) (D_law_right : DefG P w K mg base 7 "_law_right" ["_law_pool_here"] (S_law_right K)) :
    GFn P w K mg base 8 f fd ["_law_script"] (lift (S_law K)) := by
  refine of_now ?_
  simp (disch := with_unfolding_all
    refine gfn_ok F sc_law (fun vs G M R Z h => sp_len1 h) (fun cdv A outer s H E hgd hr => ?_)
    have nd : N_law.Nodup := sc_law.nd
    have hu : _ + 64 < cLine := hr.units
    have tk : Takes (cxOf (L2.CX P w) P w K mg base N_law "law" (defScope s_law) f cdv A outer s H E) (fun c d _ H => E c d H) := takes_of rfl rfl rfl rfl
    have po : PassesOwn (model P w) _ _ _ := passes_of (X := cxOf (L2.CX P w) P w K mg base N_law "law" (defScope s_law) f cdv A outer s H E) rfl
    exact ⟨rd_law K, jss_cons (js_for po rfl (ji_range1 B.range (ja_cons (je_callB kc_max2 B.max (ja_cons (je_int) (ja_cons (je_callB kc_min2 B.min (ja_cons (je_callB kc_len B.len (ja_cons (je_var 0) (ja_nil))) (ja_cons (je_int) (ja_nil)))) (ja_nil)))) (ja_nil))) (jg_name (i := 1) nd) (jss_cons (js_if (jt_not (jt_val (je_callG D_law_right hgd hr tk (ja_cons (je_callD D_law_pool hr tk (ja_cons (je_var 0) (ja_cons (je_var 1) (ja_nil)))) (ja_nil))))) (jss_cons (js_ret (je_bl)) (jss_nil)) (jss_nil)) (jss_nil))) (jss_cons (js_ret (je_bl)) (jss_nil)), fun vs G M R Z h => pf_law h⟩) only [↓now_true]
theorem df_law {P : Program} {w : World} {K : PySem.W.Frag} {mg : Str → Option Value} {base : Heap} {f : Addr} {fd : FuncData} (B : Bs mg) (C : Cs K mg) (F : Fun K "law" "law" s_law f fd) (b : Binds K fd ["_law_script"] []) (gm : mg "law" = some (.ref f)) (D_law_pool : Def P w K mg base 1 "_law_pool" ["_law_script", "_law_k"] (S_law_pool K)) (D_law_right : DefG P w K mg base 7 "_law_right" ["_law_pool_here"] (S_law_right K)) :
    DefG P w K mg base 8 "law" ["_law_script"] (S_law K) := ⟨f, fd, fo_law B C F D_law_pool D_law_right, gm, F.kp, b⟩
theorem len_0 {α : Type} {P : List α → Prop} (h : P []) : ∀ us : List α, us.length = 0 → P us := fun us hl => match us, hl with
  | [], _ => h
theorem len_1 {α : Type} {P : List α → Prop} (h : ∀ a0, P [a0]) : ∀ us : List α, us.length = 1 → P us := fun us hl => match us, hl with
  | [a0], _ => h a0
theorem len_2 {α : Type} {P : List α → Prop} (h : ∀ a0 a1, P [a0, a1]) : ∀ us : List α, us.length = 2 → P us := fun us hl => match us, hl with
  | [a0, a1], _ => h a0 a1
theorem len_3 {α : Type} {P : List α → Prop} (h : ∀ a0 a1 a2, P [a0, a1, a2]) : ∀ us : List α, us.length = 3 → P us := fun us hl => match us, hl with
  | [a0, a1, a2], _ => h a0 a1 a2
theorem len_4 {α : Type} {P : List α → Prop} (h : ∀ a0 a1 a2 a3, P [a0, a1, a2, a3]) : ∀ us : List α, us.length = 4 → P us := fun us hl => match us, hl with
  | [a0, a1, a2, a3], _ => h a0 a1 a2 a3
theorem len_5 {α : Type} {P : List α → Prop} (h : ∀ a0 a1 a2 a3 a4, P [a0, a1, a2, a3, a4]) : ∀ us : List α, us.length = 5 → P us := fun us hl => match us, hl with
  | [a0, a1, a2, a3, a4], _ => h a0 a1 a2 a3 a4
theorem len_6 {α : Type} {P : List α → Prop} (h : ∀ a0 a1 a2 a3 a4 a5, P [a0, a1, a2, a3, a4, a5]) : ∀ us : List α, us.length = 6 → P us := fun us hl => match us, hl with
  | [a0, a1, a2, a3, a4, a5], _ => h a0 a1 a2 a3 a4 a5
theorem len_7 {α : Type} {P : List α → Prop} (h : ∀ a0 a1 a2 a3 a4 a5 a6, P [a0, a1, a2, a3, a4, a5, a6]) : ∀ us : List α, us.length = 7 → P us := fun us hl => match us, hl with
  | [a0, a1, a2, a3, a4, a5, a6], _ => h a0 a1 a2 a3 a4 a5 a6
theorem fa_nil {α : Type} {P : α → Prop} : ∀ x ∈ ([] : List α), P x := fun _ z => nomatch z
theorem all_mk {l : PySem.W.OpenLaw} {w : World} {K : PySem.W.Frag} {h : Heap} {mg : Str → Option Value} {fa f0 f1 f2 f3 f4 f5 f6 f7 f8 f9 f10 f11 f12 f13 f14 f15 f16 f17 f18 f19 f20 f21 f22 : Addr} (X : K.In h) (G : h.Ns mainGlobals mg) (hfa : mg "law" = some (.ref fa))
    {od0 an0 od1 an1 od2 an2 od3 an3 od4 an4 od5 an5 od6 an6 od7 an7 od8 an8 od9 an9 od10 an10 od11 an11 od12 an12 od13 an13 od14 an14 od15 an15 od16 an16 od17 an17 od18 an18 od19 an19 od20 an20 od21 an21 od22 an22 : Option Addr} {sl0 sl1 sl2 sl3 sl4 sl5 sl6 sl7 sl8 sl9 sl10 sl11 sl12 sl13 sl14 sl15 sl16 sl17 sl18 sl19 sl20 sl21 sl22 : Array (Option Value)} {oc0 kV0 dc0 pm0 cd0 ct0 oc1 kV1 dc1 pm1 cd1 ct1 oc2 kV2 dc2 pm2 cd2 ct2 oc3 kV3 dc3 pm3 cd3 ct3 oc4 kV4 dc4 pm4 cd4 ct4 oc5 kV5 dc5 pm5 cd5 ct5 oc6 kV6 dc6 pm6 cd6 ct6 oc7 kV7 dc7 pm7 cd7 ct7 oc8 kV8 dc8 pm8 cd8 ct8 oc9 kV9 dc9 pm9 cd9 ct9 oc10 kV10 dc10 pm10 cd10 ct10 oc11 kV11 dc11 pm11 cd11 ct11 oc12 kV12 dc12 pm12 cd12 ct12 oc13 kV13 dc13 pm13 cd13 ct13 oc14 kV14 dc14 pm14 cd14 ct14 oc15 kV15 dc15 pm15 cd15 ct15 oc16 kV16 dc16 pm16 cd16 ct16 oc17 kV17 dc17 pm17 cd17 ct17 oc18 kV18 dc18 pm18 cd18 ct18 oc19 kV19 dc19 pm19 cd19 ct19 oc20 kV20 dc20 pm20 cd20 ct20 oc21 kV21 dc21 pm21 cd21 ct21 oc22 kV22 dc22 pm22 cd22 ct22 : Value}
    (a0 : PySem.W.nsIn K mainGlobals "_law_pool" = some (some (.ref f0))) (l0 : K.lookup f0 = some ⟨oc0, od0, .func (PySem.W.fnOf "_law_pool" "_law_pool" (defArgs s_law_pool) (defBody s_law_pool) (defScope s_law_pool) .none kV0 dc0 pm0 an0 cd0 ct0), sl0⟩) (c0 : PySem.W.codeIn K cd0 "_law_pool" = true) (k0 : PySem.W.keepIn K (.ref f0) = true)
    (a1 : PySem.W.nsIn K mainGlobals "_law_take" = some (some (.ref f1))) (l1 : K.lookup f1 = some ⟨oc1, od1, .func (PySem.W.fnOf "_law_take" "_law_take" (defArgs s_law_take) (defBody s_law_take) (defScope s_law_take) .none kV1 dc1 pm1 an1 cd1 ct1), sl1⟩) (c1 : PySem.W.codeIn K cd1 "_law_take" = true) (k1 : PySem.W.keepIn K (.ref f1) = true)
    (a2 : PySem.W.nsIn K mainGlobals "_law_kinds" = some (some (.ref f2))) (l2 : K.lookup f2 = some ⟨oc2, od2, .func (PySem.W.fnOf "_law_kinds" "_law_kinds" (defArgs s_law_kinds) (defBody s_law_kinds) (defScope s_law_kinds) .none kV2 dc2 pm2 an2 cd2 ct2), sl2⟩) (c2 : PySem.W.codeIn K cd2 "_law_kinds" = true) (k2 : PySem.W.keepIn K (.ref f2) = true)
    (a3 : PySem.W.nsIn K mainGlobals "_law_turn" = some (some (.ref f3))) (l3 : K.lookup f3 = some ⟨oc3, od3, .func (PySem.W.fnOf "_law_turn" "_law_turn" (defArgs s_law_turn) (defBody s_law_turn) (defScope s_law_turn) .none kV3 dc3 pm3 an3 cd3 ct3), sl3⟩) (c3 : PySem.W.codeIn K cd3 "_law_turn" = true) (k3 : PySem.W.keepIn K (.ref f3) = true)
    (a4 : PySem.W.nsIn K mainGlobals "_law_paper" = some (some (.ref f4))) (l4 : K.lookup f4 = some ⟨oc4, od4, .func (PySem.W.fnOf "_law_paper" "_law_paper" (defArgs s_law_paper) (defBody s_law_paper) (defScope s_law_paper) .none kV4 dc4 pm4 an4 cd4 ct4), sl4⟩) (c4 : PySem.W.codeIn K cd4 "_law_paper" = true) (k4 : PySem.W.keepIn K (.ref f4) = true)
    (a5 : PySem.W.nsIn K mainGlobals "_law_sign" = some (some (.ref f5))) (l5 : K.lookup f5 = some ⟨oc5, od5, .func (PySem.W.fnOf "_law_sign" "_law_sign" (defArgs s_law_sign) (defBody s_law_sign) (defScope s_law_sign) .none kV5 dc5 pm5 an5 cd5 ct5), sl5⟩) (c5 : PySem.W.codeIn K cd5 "_law_sign" = true) (k5 : PySem.W.keepIn K (.ref f5) = true)
    (a6 : PySem.W.nsIn K mainGlobals "_law_led_sign" = some (some (.ref f6))) (l6 : K.lookup f6 = some ⟨oc6, od6, .func (PySem.W.fnOf "_law_led_sign" "_law_led_sign" (defArgs s_law_led_sign) (defBody s_law_led_sign) (defScope s_law_led_sign) .none kV6 dc6 pm6 an6 cd6 ct6), sl6⟩) (c6 : PySem.W.codeIn K cd6 "_law_led_sign" = true) (k6 : PySem.W.keepIn K (.ref f6) = true)
    (a7 : PySem.W.nsIn K mainGlobals "_law_bent_part" = some (some (.ref f7))) (l7 : K.lookup f7 = some ⟨oc7, od7, .func (PySem.W.fnOf "_law_bent_part" "_law_bent_part" (defArgs s_law_bent_part) (defBody s_law_bent_part) (defScope s_law_bent_part) .none kV7 dc7 pm7 an7 cd7 ct7), sl7⟩) (c7 : PySem.W.codeIn K cd7 "_law_bent_part" = true) (k7 : PySem.W.keepIn K (.ref f7) = true)
    (a8 : PySem.W.nsIn K mainGlobals "_law_bent_paper" = some (some (.ref f8))) (l8 : K.lookup f8 = some ⟨oc8, od8, .func (PySem.W.fnOf "_law_bent_paper" "_law_bent_paper" (defArgs s_law_bent_paper) (defBody s_law_bent_paper) (defScope s_law_bent_paper) .none kV8 dc8 pm8 an8 cd8 ct8), sl8⟩) (c8 : PySem.W.codeIn K cd8 "_law_bent_paper" = true) (k8 : PySem.W.keepIn K (.ref f8) = true)
    (a9 : PySem.W.nsIn K mainGlobals "_law_bent_signs" = some (some (.ref f9))) (l9 : K.lookup f9 = some ⟨oc9, od9, .func (PySem.W.fnOf "_law_bent_signs" "_law_bent_signs" (defArgs s_law_bent_signs) (defBody s_law_bent_signs) (defScope s_law_bent_signs) .none kV9 dc9 pm9 an9 cd9 ct9), sl9⟩) (c9 : PySem.W.codeIn K cd9 "_law_bent_signs" = true) (k9 : PySem.W.keepIn K (.ref f9) = true)
    (a10 : PySem.W.nsIn K mainGlobals "is_whole" = some (some (.ref f10))) (l10 : K.lookup f10 = some ⟨oc10, od10, .func (PySem.W.fnOf "is_whole" "is_whole" (defArgs s_is_whole) (defBody s_is_whole) (defScope s_is_whole) .none kV10 dc10 pm10 an10 cd10 ct10), sl10⟩) (c10 : PySem.W.codeIn K cd10 "is_whole" = true) (k10 : PySem.W.keepIn K (.ref f10) = true)
    (a11 : PySem.W.nsIn K mainGlobals "is_within" = some (some (.ref f11))) (l11 : K.lookup f11 = some ⟨oc11, od11, .func (PySem.W.fnOf "is_within" "is_within" (defArgs s_is_within) (defBody s_is_within) (defScope s_is_within) .none kV11 dc11 pm11 an11 cd11 ct11), sl11⟩) (c11 : PySem.W.codeIn K cd11 "is_within" = true) (k11 : PySem.W.keepIn K (.ref f11) = true)
    (a12 : PySem.W.nsIn K mainGlobals "is_order" = some (some (.ref f12))) (l12 : K.lookup f12 = some ⟨oc12, od12, .func (PySem.W.fnOf "is_order" "is_order" (defArgs s_is_order) (defBody s_is_order) (defScope s_is_order) .none kV12 dc12 pm12 an12 cd12 ct12), sl12⟩) (c12 : PySem.W.codeIn K cd12 "is_order" = true) (k12 : PySem.W.keepIn K (.ref f12) = true)
    (a13 : PySem.W.nsIn K mainGlobals "is_part" = some (some (.ref f13))) (l13 : K.lookup f13 = some ⟨oc13, od13, .func (PySem.W.fnOf "is_part" "is_part" (defArgs s_is_part) (defBody s_is_part) (defScope s_is_part) .none kV13 dc13 pm13 an13 cd13 ct13), sl13⟩) (c13 : PySem.W.codeIn K cd13 "is_part" = true) (k13 : PySem.W.keepIn K (.ref f13) = true)
    (a14 : PySem.W.nsIn K mainGlobals "is_paper" = some (some (.ref f14))) (l14 : K.lookup f14 = some ⟨oc14, od14, .func (PySem.W.fnOf "is_paper" "is_paper" (defArgs s_is_paper) (defBody s_is_paper) (defScope s_is_paper) .none kV14 dc14 pm14 an14 cd14 ct14), sl14⟩) (c14 : PySem.W.codeIn K cd14 "is_paper" = true) (k14 : PySem.W.keepIn K (.ref f14) = true)
    (a15 : PySem.W.nsIn K mainGlobals "is_led" = some (some (.ref f15))) (l15 : K.lookup f15 = some ⟨oc15, od15, .func (PySem.W.fnOf "is_led" "is_led" (defArgs s_is_led) (defBody s_is_led) (defScope s_is_led) .none kV15 dc15 pm15 an15 cd15 ct15), sl15⟩) (c15 : PySem.W.codeIn K cd15 "is_led" = true) (k15 : PySem.W.keepIn K (.ref f15) = true)
    (a16 : PySem.W.nsIn K mainGlobals "is_leading" = some (some (.ref f16))) (l16 : K.lookup f16 = some ⟨oc16, od16, .func (PySem.W.fnOf "is_leading" "is_leading" (defArgs s_is_leading) (defBody s_is_leading) (defScope s_is_leading) .none kV16 dc16 pm16 an16 cd16 ct16), sl16⟩) (c16 : PySem.W.codeIn K cd16 "is_leading" = true) (k16 : PySem.W.keepIn K (.ref f16) = true)
    (a17 : PySem.W.nsIn K mainGlobals "_law_whole" = some (some (.ref f17))) (l17 : K.lookup f17 = some ⟨oc17, od17, .func (PySem.W.fnOf "_law_whole" "_law_whole" (defArgs s_law_whole) (defBody s_law_whole) (defScope s_law_whole) .none kV17 dc17 pm17 an17 cd17 ct17), sl17⟩) (c17 : PySem.W.codeIn K cd17 "_law_whole" = true) (k17 : PySem.W.keepIn K (.ref f17) = true)
    (a18 : PySem.W.nsIn K mainGlobals "_law_is_turn" = some (some (.ref f18))) (l18 : K.lookup f18 = some ⟨oc18, od18, .func (PySem.W.fnOf "_law_is_turn" "_law_is_turn" (defArgs s_law_is_turn) (defBody s_law_is_turn) (defScope s_law_is_turn) .none kV18 dc18 pm18 an18 cd18 ct18), sl18⟩) (c18 : PySem.W.codeIn K cd18 "_law_is_turn" = true) (k18 : PySem.W.keepIn K (.ref f18) = true)
    (a19 : PySem.W.nsIn K mainGlobals "_law_is_paper" = some (some (.ref f19))) (l19 : K.lookup f19 = some ⟨oc19, od19, .func (PySem.W.fnOf "_law_is_paper" "_law_is_paper" (defArgs s_law_is_paper) (defBody s_law_is_paper) (defScope s_law_is_paper) .none kV19 dc19 pm19 an19 cd19 ct19), sl19⟩) (c19 : PySem.W.codeIn K cd19 "_law_is_paper" = true) (k19 : PySem.W.keepIn K (.ref f19) = true)
    (a20 : PySem.W.nsIn K mainGlobals "_law_due" = some (some (.ref f20))) (l20 : K.lookup f20 = some ⟨oc20, od20, .func (PySem.W.fnOf "_law_due" "_law_due" (defArgs s_law_due) (defBody s_law_due) (defScope s_law_due) .none kV20 dc20 pm20 an20 cd20 ct20), sl20⟩) (c20 : PySem.W.codeIn K cd20 "_law_due" = true) (k20 : PySem.W.keepIn K (.ref f20) = true)
    (a21 : PySem.W.nsIn K mainGlobals "_law_right" = some (some (.ref f21))) (l21 : K.lookup f21 = some ⟨oc21, od21, .func (PySem.W.fnOf "_law_right" "_law_right" (defArgs s_law_right) (defBody s_law_right) (defScope s_law_right) .none kV21 dc21 pm21 an21 cd21 ct21), sl21⟩) (c21 : PySem.W.codeIn K cd21 "_law_right" = true) (k21 : PySem.W.keepIn K (.ref f21) = true)
    (a22 : PySem.W.nsIn K mainGlobals "law" = some (some (.ref f22))) (l22 : K.lookup f22 = some ⟨oc22, od22, .func (PySem.W.fnOf "law" "law" (defArgs s_law) (defBody s_law) (defScope s_law) .none kV22 dc22 pm22 an22 cd22 ct22), sl22⟩) (c22 : PySem.W.codeIn K cd22 "law" = true) (k22 : PySem.W.keepIn K (.ref f22) = true)
    (z_all : PySem.W.nsIn K mainGlobals "all" = some none)
    (z_bool : PySem.W.nsIn K mainGlobals "bool" = some none)
    (z_int : PySem.W.nsIn K mainGlobals "int" = some none)
    (z_isinstance : PySem.W.nsIn K mainGlobals "isinstance" = some none)
    (z_len : PySem.W.nsIn K mainGlobals "len" = some none)
    (z_list : PySem.W.nsIn K mainGlobals "list" = some none)
    (z_max : PySem.W.nsIn K mainGlobals "max" = some none)
    (z_min : PySem.W.nsIn K mainGlobals "min" = some none)
    (z_range : PySem.W.nsIn K mainGlobals "range" = some none)
    (z_repr : PySem.W.nsIn K mainGlobals "repr" = some none)
    (z_set : PySem.W.nsIn K mainGlobals "set" = some none)
    (z_sorted : PySem.W.nsIn K mainGlobals "sorted" = some none)
    (z_tuple : PySem.W.nsIn K mainGlobals "tuple" = some none)
    (z_zip : PySem.W.nsIn K mainGlobals "zip" = some none)
    {tk_MOST : Tok}
    (ka_MOST : PySem.W.nsIn K mainGlobals "MOST" = some (some (.int 64 tk_MOST)))
    : ∃ fd : FuncData, (∀ (s : Shared) (v : Value), BindsTo s fd ⟨[v], []⟩ [("_law_script", v)]) ∧ ∀ base : Heap, K.In base → base.Ns mainGlobals mg → GFn l.prog w K mg base 8 fa fd ["_law_script"] (lift (S_law K)) := by
  refine of_now ?_
  simp (disch := with_unfolding_all
    have e := hfa.symm.trans (PySem.W.mg_of X G a22)
    cases e
    have B : Bs mg := ⟨PySem.W.mg_none_of X G z_all, PySem.W.mg_none_of X G z_bool, PySem.W.mg_none_of X G z_int, PySem.W.mg_none_of X G z_isinstance, PySem.W.mg_none_of X G z_len, PySem.W.mg_none_of X G z_list, PySem.W.mg_none_of X G z_max, PySem.W.mg_none_of X G z_min, PySem.W.mg_none_of X G z_range, PySem.W.mg_none_of X G z_repr, PySem.W.mg_none_of X G z_set, PySem.W.mg_none_of X G z_sorted, PySem.W.mg_none_of X G z_tuple, PySem.W.mg_none_of X G z_zip⟩
    have C : Cs K mg := ⟨⟨_, PySem.W.mg_of X G ka_MOST, _, rfl⟩⟩
    have F0 := fun_mk (st := s_law_pool) l0 c0 k0
    have b0 := F0.binds (ps := ["_law_script", "_law_k"]) fun _ _ _ _ _ _ us hl => len_2 (P := fun us => bindArgs _ { pos := us } = pure (List.zip _ us)) (fun _ _ => rfl) us hl
    have F1 := fun_mk (st := s_law_take) l1 c1 k1
    have b1 := F1.binds (ps := ["_law_pool_here", "_law_many"]) fun _ _ _ _ _ _ us hl => len_2 (P := fun us => bindArgs _ { pos := us } = pure (List.zip _ us)) (fun _ _ => rfl) us hl
    have F2 := fun_mk (st := s_law_kinds) l2 c2 k2
    have b2 := F2.binds (ps := ["_law_pool_here", "_law_most", "_law_far"]) fun _ _ _ _ _ _ us hl => len_3 (P := fun us => bindArgs _ { pos := us } = pure (List.zip _ us)) (fun _ _ _ => rfl) us hl
    have F3 := fun_mk (st := s_law_turn) l3 c3 k3
    have b3 := F3.binds (ps := ["_law_pool_here", "_law_size"]) fun _ _ _ _ _ _ us hl => len_2 (P := fun us => bindArgs _ { pos := us } = pure (List.zip _ us)) (fun _ _ => rfl) us hl
    have F4 := fun_mk (st := s_law_paper) l4 c4 k4
    have b4 := F4.binds (ps := ["_law_pool_here", "_law_kinds_here"]) fun _ _ _ _ _ _ us hl => len_2 (P := fun us => bindArgs _ { pos := us } = pure (List.zip _ us)) (fun _ _ => rfl) us hl
    have F5 := fun_mk (st := s_law_sign) l5 c5 k5
    have b5 := F5.binds (ps := ["_law_pool_here", "_law_kinds_here"]) fun _ _ _ _ _ _ us hl => len_2 (P := fun us => bindArgs _ { pos := us } = pure (List.zip _ us)) (fun _ _ => rfl) us hl
    have F6 := fun_mk (st := s_law_led_sign) l6 c6 k6
    have b6 := F6.binds (ps := ["_law_paper_here", "_law_sign_here"]) fun _ _ _ _ _ _ us hl => len_2 (P := fun us => bindArgs _ { pos := us } = pure (List.zip _ us)) (fun _ _ => rfl) us hl
    have F7 := fun_mk (st := s_law_bent_part) l7 c7 k7
    have b7 := F7.binds (ps := ["_law_pool_here", "_law_part", "_law_many"]) fun _ _ _ _ _ _ us hl => len_3 (P := fun us => bindArgs _ { pos := us } = pure (List.zip _ us)) (fun _ _ _ => rfl) us hl
    have F8 := fun_mk (st := s_law_bent_paper) l8 c8 k8
    have b8 := F8.binds (ps := ["_law_pool_here", "_law_paper_here"]) fun _ _ _ _ _ _ us hl => len_2 (P := fun us => bindArgs _ { pos := us } = pure (List.zip _ us)) (fun _ _ => rfl) us hl
    have F9 := fun_mk (st := s_law_bent_signs) l9 c9 k9
    have b9 := F9.binds (ps := ["_law_pool_here", "_law_kinds_here", "_law_signs"]) fun _ _ _ _ _ _ us hl => len_3 (P := fun us => bindArgs _ { pos := us } = pure (List.zip _ us)) (fun _ _ _ => rfl) us hl
    have F10 := fun_mk (st := s_is_whole) l10 c10 k10
    have b10 := F10.binds (ps := ["thing"]) fun _ _ _ _ _ _ us hl => len_1 (P := fun us => bindArgs _ { pos := us } = pure (List.zip _ us)) (fun _ => rfl) us hl
    have F11 := fun_mk (st := s_is_within) l11 c11 k11
    have b11 := F11.binds (ps := ["thing", "least", "most"]) fun _ _ _ _ _ _ us hl => len_3 (P := fun us => bindArgs _ { pos := us } = pure (List.zip _ us)) (fun _ _ _ => rfl) us hl
    have F12 := fun_mk (st := s_is_order) l12 c12 k12
    have b12 := F12.binds (ps := ["thing"]) fun _ _ _ _ _ _ us hl => len_1 (P := fun us => bindArgs _ { pos := us } = pure (List.zip _ us)) (fun _ => rfl) us hl
    have F13 := fun_mk (st := s_is_part) l13 c13 k13
    have b13 := F13.binds (ps := ["kinds", "place", "thing"]) fun _ _ _ _ _ _ us hl => len_3 (P := fun us => bindArgs _ { pos := us } = pure (List.zip _ us)) (fun _ _ _ => rfl) us hl
    have F14 := fun_mk (st := s_is_paper) l14 c14 k14
    have b14 := F14.binds (ps := ["kinds", "thing"]) fun _ _ _ _ _ _ us hl => len_2 (P := fun us => bindArgs _ { pos := us } = pure (List.zip _ us)) (fun _ _ => rfl) us hl
    have F15 := fun_mk (st := s_is_led) l15 c15 k15
    have b15 := F15.binds (ps := ["one", "other", "paper"]) fun _ _ _ _ _ _ us hl => len_3 (P := fun us => bindArgs _ { pos := us } = pure (List.zip _ us)) (fun _ _ _ => rfl) us hl
    have F16 := fun_mk (st := s_is_leading) l16 c16 k16
    have b16 := F16.binds (ps := ["kinds", "one", "other", "thing"]) fun _ _ _ _ _ _ us hl => len_4 (P := fun us => bindArgs _ { pos := us } = pure (List.zip _ us)) (fun _ _ _ _ => rfl) us hl
    have F17 := fun_mk (st := s_law_whole) l17 c17 k17
    have b17 := F17.binds (ps := ["_law_found"]) fun _ _ _ _ _ _ us hl => len_1 (P := fun us => bindArgs _ { pos := us } = pure (List.zip _ us)) (fun _ => rfl) us hl
    have F18 := fun_mk (st := s_law_is_turn) l18 c18 k18
    have b18 := F18.binds (ps := ["_law_kind", "_law_turn_here"]) fun _ _ _ _ _ _ us hl => len_2 (P := fun us => bindArgs _ { pos := us } = pure (List.zip _ us)) (fun _ _ => rfl) us hl
    have F19 := fun_mk (st := s_law_is_paper) l19 c19 k19
    have b19 := F19.binds (ps := ["_law_kinds_here", "_law_thing"]) fun _ _ _ _ _ _ us hl => len_2 (P := fun us => bindArgs _ { pos := us } = pure (List.zip _ us)) (fun _ _ => rfl) us hl
    have F20 := fun_mk (st := s_law_due) l20 c20 k20
    have b20 := F20.binds (ps := ["_law_kinds_here", "_law_one", "_law_other", "_law_thing"]) fun _ _ _ _ _ _ us hl => len_4 (P := fun us => bindArgs _ { pos := us } = pure (List.zip _ us)) (fun _ _ _ _ => rfl) us hl
    have F21 := fun_mk (st := s_law_right) l21 c21 k21
    have b21 := F21.binds (ps := ["_law_pool_here"]) fun _ _ _ _ _ _ us hl => len_1 (P := fun us => bindArgs _ { pos := us } = pure (List.zip _ us)) (fun _ => rfl) us hl
    have F22 := fun_mk (st := s_law) l22 c22 k22
    have b22 := F22.binds (ps := ["_law_script"]) fun _ _ _ _ _ _ us hl => len_1 (P := fun us => bindArgs _ { pos := us } = pure (List.zip _ us)) (fun _ => rfl) us hl
    refine ⟨PySem.W.fnOf "law" "law" (defArgs s_law) (defBody s_law) (defScope s_law) .none kV22 dc22 pm22 an22 cd22 ct22, fun s v => .of_eq rfl, fun base _ _ => ?_⟩
    have D_law_pool := df_law_pool (P := l.prog) (w := w) (base := base) B C F0 b0 (PySem.W.mg_of X G a0) 
    have D_law_take := df_law_take (P := l.prog) (w := w) (base := base) B C F1 b1 (PySem.W.mg_of X G a1) 
    have D_law_kinds := df_law_kinds (P := l.prog) (w := w) (base := base) B C F2 b2 (PySem.W.mg_of X G a2) D_law_take
    have D_law_turn := df_law_turn (P := l.prog) (w := w) (base := base) B C F3 b3 (PySem.W.mg_of X G a3) D_law_take
    have D_law_paper := df_law_paper (P := l.prog) (w := w) (base := base) B C F4 b4 (PySem.W.mg_of X G a4) D_law_take D_law_turn
    have D_law_sign := df_law_sign (P := l.prog) (w := w) (base := base) B C F5 b5 (PySem.W.mg_of X G a5) D_law_take
    have D_law_led_sign := df_law_led_sign (P := l.prog) (w := w) (base := base) B C F6 b6 (PySem.W.mg_of X G a6) 
    have D_law_bent_part := df_law_bent_part (P := l.prog) (w := w) (base := base) B C F7 b7 (PySem.W.mg_of X G a7) D_law_take
    have D_law_bent_paper := df_law_bent_paper (P := l.prog) (w := w) (base := base) B C F8 b8 (PySem.W.mg_of X G a8) D_law_take D_law_bent_part
    have D_law_bent_signs := df_law_bent_signs (P := l.prog) (w := w) (base := base) B C F9 b9 (PySem.W.mg_of X G a9) D_law_take D_law_sign
    have D_is_whole := df_is_whole (P := l.prog) (w := w) (base := base) B C F10 b10 (PySem.W.mg_of X G a10) 
    have D_is_within := df_is_within (P := l.prog) (w := w) (base := base) B C F11 b11 (PySem.W.mg_of X G a11) D_is_whole
    have D_is_order := df_is_order (P := l.prog) (w := w) (base := base) B C F12 b12 (PySem.W.mg_of X G a12) D_is_within
    have D_is_part := df_is_part (P := l.prog) (w := w) (base := base) B C F13 b13 (PySem.W.mg_of X G a13) D_is_within D_is_order
    have D_is_paper := df_is_paper (P := l.prog) (w := w) (base := base) B C F14 b14 (PySem.W.mg_of X G a14) D_is_part
    have D_is_led := df_is_led (P := l.prog) (w := w) (base := base) B C F15 b15 (PySem.W.mg_of X G a15) 
    have D_is_leading := df_is_leading (P := l.prog) (w := w) (base := base) B C F16 b16 (PySem.W.mg_of X G a16) D_is_paper D_is_led
    have D_law_whole := df_law_whole (P := l.prog) (w := w) (base := base) B C F17 b17 (PySem.W.mg_of X G a17) 
    have D_law_is_turn := df_law_is_turn (P := l.prog) (w := w) (base := base) B C F18 b18 (PySem.W.mg_of X G a18) D_law_whole
    have D_law_is_paper := df_law_is_paper (P := l.prog) (w := w) (base := base) B C F19 b19 (PySem.W.mg_of X G a19) D_law_whole D_law_is_turn
    have D_law_due := df_law_due (P := l.prog) (w := w) (base := base) B C F20 b20 (PySem.W.mg_of X G a20) D_law_is_paper D_law_led_sign
    have D_law_right := df_law_right (P := l.prog) (w := w) (base := base) B C F21 b21 (PySem.W.mg_of X G a21) D_law_kinds D_law_paper D_law_take D_law_sign D_law_led_sign D_law_bent_paper D_law_bent_signs D_is_leading D_law_due
    exact fo_law (P := l.prog) (w := w) (base := base) B C F22 D_law_pool D_law_right) only [↓now_true]
end BT
def PySem.W.Fast.tw3877255923012103461 := 0
def PySem.W.Fast.tw2814727216045491530 := 0
def PySem.W.Fast.tw16866959727256117100 := 0
def PySem.W.Fast.tw1277949941847488558 := 0
def PySem.W.Fast.tw10982361871180511412 := 0
def PySem.W.Fast.tw3106725933730027190 := 0
open PySem PySem.W PyProof.Rows
set_option maxHeartbeats 0 in
theorem PySem.Challenge.cw_blindtouch_k50_what_is_a_leading_holds : PySem.Challenge.rw_blindtouch_k50_what_is_a_leading.Holds := by
  w_on; o_law; k_head; (case hw => w_witness2)
  k_fill
  refine BT.walk_ofG (l := PySem.Challenge.rw_blindtouch_k50_what_is_a_leading) (n := 63) (k := 8) (x := "_law_script") (sp := fun w => BT.lift (BT.S_law _)) rfl (by decide) rfl ⟨rfl, by decide, by decide⟩ (fun w h Y => PySem.W.kIn_of Y) ?F (fun _ H a ns hl _ hS => BT.law_start hl hS)
  case F =>
    intro w mg fa h KX G hmg
    refine' BT.all_mk KX G hmg ?a0 ?l0 ?c0 ?k0 ?a1 ?l1 ?c1 ?k1 ?a2 ?l2 ?c2 ?k2 ?a3 ?l3 ?c3 ?k3 ?a4 ?l4 ?c4 ?k4 ?a5 ?l5 ?c5 ?k5 ?a6 ?l6 ?c6 ?k6 ?a7 ?l7 ?c7 ?k7 ?a8 ?l8 ?c8 ?k8 ?a9 ?l9 ?c9 ?k9 ?a10 ?l10 ?c10 ?k10 ?a11 ?l11 ?c11 ?k11 ?a12 ?l12 ?c12 ?k12 ?a13 ?l13 ?c13 ?k13 ?a14 ?l14 ?c14 ?k14 ?a15 ?l15 ?c15 ?k15 ?a16 ?l16 ?c16 ?k16 ?a17 ?l17 ?c17 ?k17 ?a18 ?l18 ?c18 ?k18 ?a19 ?l19 ?c19 ?k19 ?a20 ?l20 ?c20 ?k20 ?a21 ?l21 ?c21 ?k21 ?a22 ?l22 ?c22 ?k22 ?z_all ?z_bool ?z_int ?z_isinstance ?z_len ?z_list ?z_max ?z_min ?z_range ?z_repr ?z_set ?z_sorted ?z_tuple ?z_zip ?ka_MOST
    (case a0 => k_is); (case l0 => k_is); (case c0 => k_is); (case k0 => k_is); (case a1 => k_is); (case l1 => k_is); (case c1 => k_is); (case k1 => k_is); (case a2 => k_is); (case l2 => k_is); (case c2 => k_is); (case k2 => k_is); (case a3 => k_is); (case l3 => k_is); (case c3 => k_is); (case k3 => k_is); (case a4 => k_is); (case l4 => k_is); (case c4 => k_is); (case k4 => k_is); (case a5 => k_is); (case l5 => k_is); (case c5 => k_is); (case k5 => k_is); (case a6 => k_is); (case l6 => k_is); (case c6 => k_is); (case k6 => k_is); (case a7 => k_is); (case l7 => k_is); (case c7 => k_is); (case k7 => k_is); (case a8 => k_is); (case l8 => k_is); (case c8 => k_is); (case k8 => k_is); (case a9 => k_is); (case l9 => k_is); (case c9 => k_is); (case k9 => k_is); (case a10 => k_is); (case l10 => k_is); (case c10 => k_is); (case k10 => k_is); (case a11 => k_is); (case l11 => k_is); (case c11 => k_is); (case k11 => k_is); (case a12 => k_is); (case l12 => k_is); (case c12 => k_is); (case k12 => k_is); (case a13 => k_is); (case l13 => k_is); (case c13 => k_is); (case k13 => k_is); (case a14 => k_is); (case l14 => k_is); (case c14 => k_is); (case k14 => k_is); (case a15 => k_is); (case l15 => k_is); (case c15 => k_is); (case k15 => k_is); (case a16 => k_is); (case l16 => k_is); (case c16 => k_is); (case k16 => k_is); (case a17 => k_is); (case l17 => k_is); (case c17 => k_is); (case k17 => k_is); (case a18 => k_is); (case l18 => k_is); (case c18 => k_is); (case k18 => k_is); (case a19 => k_is); (case l19 => k_is); (case c19 => k_is); (case k19 => k_is); (case a20 => k_is); (case l20 => k_is); (case c20 => k_is); (case k20 => k_is); (case a21 => k_is); (case l21 => k_is); (case c21 => k_is); (case k21 => k_is); (case a22 => k_is); (case l22 => k_is); (case c22 => k_is); (case k22 => k_is); (case z_all => k_is); (case z_bool => k_is); (case z_int => k_is); (case z_isinstance => k_is); (case z_len => k_is); (case z_list => k_is); (case z_max => k_is); (case z_min => k_is); (case z_range => k_is); (case z_repr => k_is); (case z_set => k_is); (case z_sorted => k_is); (case z_tuple => k_is); (case z_zip => k_is); (case ka_MOST => k_is)
