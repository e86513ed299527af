import PyProof.Rows.All
import Wide.All
import OpenK.AllK
import Wide.FinOn
import HandS.ForMost
import HandS.Exc
import HandS.TryOnly
import HandS.ExcOwn
import HandS.WordsExc
import HandS.Wide
import HandS.WideBits
import HandS.IsInst
import HandS.SortInts
import HandS.Style
import HandS.ExcIs
import HandS.ExcValue
import HandS.Conv
import HandS.Dict
import KE.DataMinMax
import HandS.RevRange
import HandS.More
import PyProof.SetRoads
import HandS.SetKeys
import HandS.TupAny
import HandS.NoneIn
import PyProof.EqKinds
import PyProof.FactsAll.dict
import HandS.ListItems
import PyProof.ReprRoads
import PyProof.ReprLen
import PyProof.Rows.StrJoinMade
import HandS.Set
import HandS.SetFor
import HandS.Text
import HandS.FStr
import HandS.Flow
import HandS.Deep
import PyProof.DictMoreH
import PySem.Challenge.RW_blindtouch_k51_led_back_and_joined
set_option Elab.async false
set_option linter.all false
set_option maxRecDepth 100000
set_option maxHeartbeats 4000000
/-! KL: readings over what is known of the heap: a frozen part G, and cells M that may be written. -/
namespace BT
def Now (P : Prop) : Prop := P
theorem of_now {P : Prop} (h : Now P) : P := h
theorem now_true {P : Prop} (h : P) : Now P = True := eq_true h
open PySem PySem.Spec L2
open PyProof.Rows hiding St

abbrev Mem := List (Addr × HO)
structure Hv (G : Hp) (M : Mem) (H : Hp) : Prop where
  ex : ∀ a o, G a = some o → H a = some o
  mu : ∀ x, x ∈ M → H x.1 = some x.2
  nd : (M.map (·.1)).Nodup
  dj : ∀ x, x ∈ M → G x.1 = none
def Fr (G : Hp) (M : Mem) (p : Addr) : Prop := G p = none ∧ ∀ x, x ∈ M → x.1 ≠ p
def At (G : Hp) (M : Mem) (a : Addr) (o : HO) : Prop := (a, o) ∈ M ∨ G a = some o
section
variable {G : Hp} {M : Mem} {H : Hp} {p a : Addr} {o o' : HO} {n : Nat}
theorem Hv.self (H : Hp) : Hv H [] H := ⟨fun _ _ h => h, fun _ h => (nomatch h), List.nodup_nil, fun _ h => (nomatch h)⟩
theorem Hv.fr (h : Hv G M H) (hp : H p = none) : Fr G M p := by
  refine ⟨?_, fun x hx e => ?_⟩
  · cases e : G p with
    | none => rfl
    | some o => rw [h.ex p o e] at hp; cases hp
  · have := h.mu x hx
    rw [e, hp] at this; cases this
theorem Hv.at (h : Hv G M H) (q : At G M a o) : H a = some o := by
  refine of_now ?_
  simp (disch := with_unfolding_all
    rcases q with q | q
    · exact h.mu _ q
    · exact h.ex _ _ q) only [↓now_true]
theorem Hv.newM (h : Hv G M H) (hp : H p = none) : Hv G ((p, o) :: M) (upd H p o) := by
  refine of_now ?_
  simp (disch := with_unfolding_all
    have f := h.fr hp
    refine ⟨fun b u e => ?_, fun x hx => ?_, ?_, fun x hx => ?_⟩
    · rw [upd_ne (ne_of_none (h.ex b u e) hp)]; exact h.ex b u e
    · rcases List.mem_cons.mp hx with rfl | hx
      · exact upd_same
      · rw [upd_ne (f.2 x hx)]; exact h.mu x hx
    · rw [List.map_cons, List.nodup_cons]
      refine ⟨fun hm => ?_, h.nd⟩
      obtain ⟨x, hx, e⟩ := List.mem_map.mp hm
      exact f.2 x hx e
    · rcases List.mem_cons.mp hx with rfl | hx
      · exact f.1
      · exact h.dj x hx) only [↓now_true]
theorem Hv.newG (h : Hv G M H) (hp : H p = none) : Hv (upd G p o) M (upd H p o) := by
  refine of_now ?_
  simp (disch := with_unfolding_all
    have f := h.fr hp
    refine ⟨fun b u e => ?_, fun x hx => ?_, h.nd, fun x hx => ?_⟩
    · by_cases hb : b = p
      · subst hb; rw [upd_same] at e ⊢; exact e
      · rw [upd_ne hb] at e ⊢; exact h.ex b u e
    · rw [upd_ne (f.2 x hx)]; exact h.mu x hx
    · rw [upd_ne (f.2 x hx)]; exact h.dj x hx) only [↓now_true]
/-- an object that nobody knows of is laid: nothing known changes -/
theorem Hv.junk (h : Hv G M H) (hp : H p = none) : Hv G M (upd H p o) := by
  refine of_now ?_
  simp (disch := with_unfolding_all
    have f := h.fr hp
    refine ⟨fun b u e => ?_, fun x hx => ?_, h.nd, h.dj⟩
    · rw [upd_ne (ne_of_none (h.ex b u e) hp)]; exact h.ex b u e
    · rw [upd_ne (f.2 x hx)]; exact h.mu x hx) only [↓now_true]
theorem Hv.get (h : Hv G M H) (hn : M[n]? = some (p, o)) : H p = some o := h.mu _ (List.mem_of_getElem? hn)
theorem map_set_fst : ∀ (M : Mem) (n : Nat) (p : Addr) (o o' : HO), M[n]? = some (p, o) → (M.set n (p, o')).map (·.1) = M.map (·.1)
  | [], _, _, _, _, h => by simp at h
  | x :: M, 0, p, o, o', h => by
    have e : x = (p, o) := by simpa using h
    subst e; rfl
  | x :: M, n + 1, p, o, o', h => by
    have e : M[n]? = some (p, o) := by simpa using h
    show x.1 :: (M.set n (p, o')).map (·.1) = _
    rw [map_set_fst M n p o o' e]; rfl
theorem nodup_at : ∀ (M : Mem) (n : Nat) (p : Addr) (o : HO) (x : Addr × HO) (m : Nat), (M.map (·.1)).Nodup → M[n]? = some (p, o) → M[m]? = some x → x.1 = p → m = n := by
  refine of_now ?_
  simp (disch := with_unfolding_all
    intro M n p o x m hd h1 h2 e
    have q1 : (M.map (·.1))[n]? = some p := by rw [List.getElem?_map, h1]; rfl
    have q2 : (M.map (·.1))[m]? = some p := by rw [List.getElem?_map, h2, ← e]; rfl
    obtain ⟨l1, e1⟩ := List.getElem?_eq_some_iff.mp q1
    obtain ⟨l2, e2⟩ := List.getElem?_eq_some_iff.mp q2
    exact (List.getElem_inj hd).mp (e2.trans e1.symm)) only [↓now_true]
theorem Hv.set (h : Hv G M H) (hn : M[n]? = some (p, o)) : Hv G (M.set n (p, o')) (upd H p o') := by
  refine of_now ?_
  simp (disch := with_unfolding_all
    have hlt : n < M.length := (List.getElem?_eq_some_iff.mp hn).1
    refine ⟨fun b u e => ?_, fun x hx => ?_, ?_, fun x hx => ?_⟩
    · have : b ≠ p := fun z => by
        have q := h.dj _ (List.mem_of_getElem? hn)
        rw [z] at e
        rw [show G p = none from q] at e; cases e
      rw [upd_ne this]; exact h.ex b u e
    · obtain ⟨m, hm⟩ := List.getElem?_of_mem hx
      by_cases e : m = n
      · subst e
        rw [List.getElem?_set_self hlt] at hm
        cases hm
        exact upd_same
      · rw [List.getElem?_set_ne (Ne.symm e)] at hm
        have : x.1 ≠ p := fun z => e (nodup_at M n p o x m h.nd hn hm z)
        rw [upd_ne this]
        exact h.mu x (List.mem_of_getElem? hm)
    · rw [map_set_fst M n p o o' hn]; exact h.nd
    · have : x.1 ∈ M.map (·.1) := by
        rw [← map_set_fst M n p o o' hn]; exact List.mem_map.mpr ⟨x, hx, rfl⟩
      obtain ⟨y, hy, e⟩ := List.mem_map.mp this
      rw [← e]; exact h.dj y hy) only [↓now_true]
/-- what is known may be forgotten, and what may be written may be frozen -/
def Wk (G : Hp) (M : Mem) (G' : Hp) (M' : Mem) : Prop := ∀ H, Hv G M H → Hv G' M' H
theorem Wk.refl : Wk G M G M := fun _ h => h
theorem Wk.trans {G1 G2 G3 : Hp} {M1 M2 M3 : Mem} (a : Wk G1 M1 G2 M2) (b : Wk G2 M2 G3 M3) : Wk G1 M1 G3 M3 := fun H h => b H (a H h)
theorem Wk.drop (M1 : Mem) {x : Addr × HO} {M2 : Mem} : Wk G (M1 ++ x :: M2) G (M1 ++ M2) := fun H h => by
  refine ⟨h.ex, fun y hy => h.mu y ?_, ?_, fun y hy => h.dj y ?_⟩
  · rcases List.mem_append.mp hy with q | q
    · exact List.mem_append.mpr (.inl q)
    · exact List.mem_append.mpr (.inr (List.mem_cons_of_mem _ q))
  · refine h.nd.sublist ?_
    simp
  · rcases List.mem_append.mp hy with q | q
    · exact List.mem_append.mpr (.inl q)
    · exact List.mem_append.mpr (.inr (List.mem_cons_of_mem _ q))
theorem Wk.drop0 {x : Addr × HO} : Wk G (x :: M) G M := Wk.drop []
theorem Wk.drop1 {x y : Addr × HO} : Wk G (y :: x :: M) G (y :: M) := Wk.drop [y]
theorem Wk.frz (M1 : Mem) {M2 : Mem} : Wk G (M1 ++ (p, o) :: M2) (upd G p o) (M1 ++ M2) := fun H h => by
  have hp : H p = some o := h.mu (p, o) (by simp)
  have hg : G p = none := h.dj (p, o) (by simp)
  have h2 := Wk.drop (G := G) M1 (x := (p, o)) (M2 := M2) H h
  refine ⟨fun b u e => ?_, h2.mu, h2.nd, fun x hx => ?_⟩
  · by_cases hb : b = p
    · subst hb; rw [upd_same] at e; cases e; exact hp
    · rw [upd_ne hb] at e; exact h.ex b u e
  · have : x.1 ≠ p := fun z => by
      have nd := h.nd
      rw [List.map_append, List.map_cons, List.nodup_append] at nd
      obtain ⟨n1, n2, n3⟩ := nd
      rcases List.mem_append.mp hx with q | q
      · exact n3 x.1 (List.mem_map.mpr ⟨x, q, rfl⟩) p (by simp) z
      · rw [List.nodup_cons] at n2
        exact n2.1 (by rw [← z]; exact List.mem_map.mpr ⟨x, q, rfl⟩)
    rw [upd_ne this]; exact h2.dj x hx
theorem Wk.frz0 : Wk G ((p, o) :: M) (upd G p o) M := Wk.frz []
theorem Wk.perm {M' : Mem} (e : M'.Perm M) : Wk G M G M' := fun H h =>
  ⟨h.ex, fun x hx => h.mu x (e.mem_iff.mp hx), (e.map _).nodup_iff.mpr h.nd, fun x hx => h.dj x (e.mem_iff.mp hx)⟩
theorem Wk.swap {x y : Addr × HO} : Wk G (x :: y :: M) G (y :: x :: M) := Wk.perm (List.Perm.swap x y M)
/-- less of the frozen part -/
theorem Wk.less {G' : Hp} (e : ∀ a o, G' a = some o → G a = some o) : Wk G M G' M := fun H h =>
  ⟨fun a o q => h.ex a o (e a o q), h.mu, h.nd, fun x hx => by
    cases q : G' x.1 with
    | none => rfl
    | some o => have := h.dj x hx; rw [e _ _ q] at this; cases this⟩
end

/-! ### extension of the frozen part -/
def Ex (G G' : Hp) : Prop := ∀ a o, G a = some o → G' a = some o
theorem Ex.refl {G : Hp} : Ex G G := fun _ _ h => h
theorem Ex.trans {G G1 G2 : Hp} (a : Ex G G1) (b : Ex G1 G2) : Ex G G2 := fun x o h => b x o (a x o h)
theorem Ex.new {G : Hp} {M : Mem} {p : Addr} {o : HO} (h : Fr G M p) : Ex G (upd G p o) := fun a u e => by
  rw [upd_ne (ne_of_none e h.1)]; exact e
theorem Ex.new' {G : Hp} {p : Addr} {o : HO} (h : G p = none) : Ex G (upd G p o) := fun a u e => by
  rw [upd_ne (ne_of_none e h)]; exact e
theorem ex_rd {H H' : Hp} {a : Addr} {u : HO} (e : Ex H H') (h : Rd H a u) : Rd H' a u := by
  refine of_now ?_
  simp (disch := with_unfolding_all
    rcases h with h | ⟨o, h⟩
    · exact .inl (e a _ h)
    · exact .inr ⟨o, e a _ h⟩) only [↓now_true]
theorem ex_l {K : PySem.W.Frag} {H H' : Hp} {a : Addr} {xs : List V} (e : Ex H H') (h : SqL K H a xs) : SqL K H' a xs := by
  refine of_now ?_
  simp (disch := with_unfolding_all
    rcases h with h | h
    · exact .inl (ex_rd e h)
    · exact .inr h) only [↓now_true]
theorem ex_t {K : PySem.W.Frag} {H H' : Hp} {a : Addr} {xs : List V} (e : Ex H H') (h : SqT K H a xs) : SqT K H' a xs := by
  refine of_now ?_
  simp (disch := with_unfolding_all
    rcases h with h | h
    · exact .inl (ex_rd e h)
    · exact .inr h) only [↓now_true]
mutual
theorem ex_d {K : PySem.W.Frag} {H H' : Hp} (e : Ex H H') : ∀ (d : PyData) {v : V}, Dp K H v d → Dp K H' v d
  | _, _, .non => .non
  | _, _, .bl b => .bl b
  | _, _, .int b => .int b
  | _, _, .str b => .str b
  | .list ds, _, .lst s a => .lst (ex_l e s) (ex_ds e ds a)
  | .tuple ds, _, .tup s a => .tup (ex_t e s) (ex_ds e ds a)
theorem ex_ds {K : PySem.W.Frag} {H H' : Hp} (e : Ex H H') : ∀ (ds : List PyData) {vs : List V}, DpAll K H vs ds → DpAll K H' vs ds
  | _, _, .nil => .nil
  | d :: ds, _, .cons a b => .cons (ex_d e d a) (ex_ds e ds b)
end
/-- a list, a tuple that can be read -/
def LstAt (K : PySem.W.Frag) (G : Hp) (M : Mem) (a : Addr) (xs : List V) : Prop := (a, HO.lst xs) ∈ M ∨ SqL K G a xs
def SeqAt' (K : PySem.W.Frag) (G : Hp) (M : Mem) (a : Addr) (xs : List V) : Prop := LstAt K G M a xs ∨ SqT K G a xs
/-- data that can be read -/
def DatAt (K : PySem.W.Frag) (G : Hp) (M : Mem) (v : V) (d : PyData) : Prop := ∀ H, Hv G M H → Dp K H v d
section
variable {K : PySem.W.Frag} {G : Hp} {M : Mem} {H : Hp} {a : Addr} {xs : List V}
theorem Hv.exx (h : Hv G M H) : Ex G H := h.ex
theorem Hv.lst (h : Hv G M H) (q : LstAt K G M a xs) : SqL K H a xs := by
  refine of_now ?_
  simp (disch := with_unfolding_all
    rcases q with q | q
    · exact .inl (.inl (h.mu _ q))
    · exact ex_l h.exx q) only [↓now_true]
theorem Hv.tup (h : Hv G M H) (q : SqT K G a xs) : SqT K H a xs := ex_t h.exx q
theorem Hv.dat (h : Hv G M H) {v : V} {d : PyData} (q : DatAt K G M v d) : Dp K H v d := q H h
end

/-! ### judgements -/
abbrev KR := V → Hp → Mem → Prop
abbrev KX := Value → Option Addr → Hp → Mem → Prop
abbrev KK (α : Type) := St → Hp → Mem → (α → Hp → Mem → Prop) → KX → Prop
abbrev KE := KK V
abbrev KA := KK (List V)
abbrev KT := KK Bool
def upG {α : Type} (W : WX) (t : KK α) : St → Hp → (α → Hp → Prop) → Prop := fun σ H Q =>
  ∃ G M R E, Hv G M H ∧ t σ G M R E ∧ (∀ v G' M' H', Hv G' M' H' → R v G' M' → Q v H') ∧ (∀ c d G' M' H', Hv G' M' H' → E c d G' M' → W c d σ H')
def JE (X : Cx) (W : WX) (e : Expr) (t : KE) : Prop := PE X e (upG W t)
def JT (X : Cx) (W : WX) (e : Expr) (t : KT) : Prop := PT X e (upG W t)
def JW (X : Cx) (W : WX) (e : Expr) (t : KT) : Prop := PW X e (upG W t)
def JA (X : Cx) (W : WX) (es : List Expr) (t : KA) : Prop := PA X es (upG W t)
theorem pe_mono {X : Cx} {e : Expr} {t t' : TE} (h : PE X e t) (i : ∀ σ H Q, t' σ H Q → t σ H Q) : PE X e t' := ⟨fun pins s σ H Q I q => h.run pins s σ H Q I (i σ H Q q)⟩
theorem pt_mono {X : Cx} {e : Expr} {t t' : TT} (h : PT X e t) (i : ∀ σ H Q, t' σ H Q → t σ H Q) : PT X e t' := ⟨fun pins s σ H Q I q => h.run pins s σ H Q I (i σ H Q q)⟩
theorem pw_mono {X : Cx} {e : Expr} {t t' : TT} (h : PW X e t) (i : ∀ σ H Q, t' σ H Q → t σ H Q) : PW X e t' := ⟨fun wh pins s σ H Q I q => h.run wh pins s σ H Q I (i σ H Q q)⟩
theorem pa_mono {X : Cx} {e : List Expr} {t t' : TA} (h : PA X e t) (i : ∀ σ H Q, t' σ H Q → t σ H Q) : PA X e t' := ⟨fun pos pins s σ H Q I q => h.run pos pins s σ H Q I (i σ H Q q)⟩

section
variable {X : Cx} {W : WX} {pos : Pos}
/-- names, constants -/
def kVar (i : Nat) : KE := fun σ G M R _ => match σ[i]? with
  | some (some v) => R v G M
  | _ => False
def kC (v : V) : KE := fun _ G M R _ => R v G M
theorem je_var (i : Nat) {x : Str} (hN : X.N[i]? = some x := by rfl) (hv : Vis X.env.scope x := by first | exact Or.inl rfl | exact Or.inr (Or.inl rfl) | exact Or.inr (Or.inr rfl)) (hd : (x == ("__debug__" : Str)) = false := by decide)
    (hcd : (x == ("__classdict__" : Str)) = false := by decide) : JE X W (.Name x pos) (kVar i) := pe_mono (pe_var hN hv hd hcd) fun σ H Q ⟨G, M, R, E, hv, h, hR, _⟩ => by
  unfold kVar at h
  split at h
  · rename_i v e
    exact ⟨v, e, hR v G M H hv h⟩
  · exact h.elim
theorem je_c {e : Expr} {v : V} (h : PE X e (tC v)) : JE X W e (kC v) := pe_mono h fun σ H Q ⟨G, M, R, E, hv, h, hR, _⟩ => hR v G M H hv h
theorem je_int {i : Int} {j pos} : JE X W (.Constant (.int i) j pos) (kC (.int i)) := je_c pe_int
theorem je_bl {i : Bool} {j pos} : JE X W (.Constant (.bool i) j pos) (kC (.bl i)) := je_c pe_bl
theorem je_non {j pos} : JE X W (.Constant .none j pos) (kC .non) := je_c pe_non
theorem je_str {i : Str} {j pos} : JE X W (.Constant (.str i) j pos) (kC (.str i)) := je_c pe_str
/-- two in a row -/
def kBin {β : Type} (k : V → V → Hp → Mem → (β → Hp → Mem → Prop) → Prop) (ta tb : KE) : KK β := fun σ G M R E => ta σ G M (fun x G M => tb σ G M (fun y G M => k x y G M R) E) E
abbrev KR2 := V → V → Hp → Mem → KR → Prop
def KOp (X : Cx) (f : Value → Value → Sem Value) (k : KR2) : Prop :=
  ∀ (pins : List (Addr × Obj)) (s : Shared) (σ : St) (H : Hp) (x y : V) (v u : Value) (Q : VK) (G : Hp) (M : Mem) (R : KR), Inv X pins σ H s → RelV x v → RelV y u → Hv G M H → k x y G M R →
    (∀ v G' M' H', Hv G' M' H' → R v G' M' → Q v H') → wpAny (model X.prog X.w) X.A (f v u) (EP X pins σ Q) X.xe s
theorem kop_of {f : Value → Value → Sem Value} {r : R2} {k : KR2} (ho : OpR X f r)
    (s : ∀ x y G M R H Q, Hv G M H → k x y G M R → (∀ v G' M' H', Hv G' M' H' → R v G' M' → Q v H') → r x y H Q) : KOp X f k :=
  fun pins st σ H x y v u Q G M R I rx ry hv h hR => ho pins st σ H x y v u Q I rx ry (s x y G M R H Q hv h hR)
/-- an OpR whose reading is: it holds of k in some knowledge -/
def rUp (k : KR2) : R2 := fun x y H Q => ∃ G M R, Hv G M H ∧ k x y G M R ∧ ∀ v G' M' H', Hv G' M' H' → R v G' M' → Q v H'
theorem KOp.opr {f : Value → Value → Sem Value} {k : KR2} (h : KOp X f k) : OpR X f (rUp k) := fun pins s σ H x y v u Q I rx ry ⟨G, M, R, hv, hk, hR⟩ => h pins s σ H x y v u Q G M R I rx ry hv hk hR
theorem bin_sim {ta tb : KE} {k : KR2} {σ : St} {H : Hp} {Q : VK} (h : upG W (kBin k ta tb) σ H Q) : tOp (rUp k) (upG W ta) (upG W tb) σ H Q := by
  refine of_now ?_
  simp (disch := with_unfolding_all
    obtain ⟨G, M, R, E, hv, h, hR, hE⟩ := h
    exact ⟨G, M, _, E, hv, h, fun x G1 M1 H1 hv1 h1 => ⟨G1, M1, _, E, hv1, h1, fun y G2 M2 H2 hv2 h2 => ⟨G2, M2, R, hv2, h2, hR⟩, hE⟩, hE⟩) only [↓now_true]
theorem je_op {a b : Expr} {op : Operator} {k : KR2} {ta tb : KE} (ho : KOp X (binaryOp op) k) (ha : JE X W a ta) (hb : JE X W b tb) : JE X W (.BinOp a op b pos) (kBin k ta tb) :=
  pe_mono (pe_op ho.opr ha hb) fun _ _ _ h => bin_sim h
theorem je_cmp {a b : Expr} {op : CmpOp} {k : KR2} {ta tb : KE} (ho : KOp X (compareOp op) k) (ha : JE X W a ta) (hb : JE X W b tb) (hm : behindInMarks op b = false) : JE X W (.Compare a [op] [b] pos) (kBin k ta tb) :=
  pe_mono (pe_cmpR ho.opr ha hb hm) fun _ _ _ h => bin_sim h
/-- a value as a test -/
def asB (R : Bool → Hp → Mem → Prop) : KR := fun v G M => match v with
  | .bl b => R b G M
  | _ => False
def kT (t : KE) : KT := fun σ G M R E => t σ G M (asB R) E
theorem asB_of {R : Bool → Hp → Mem → Prop} {v : V} {G : Hp} {M : Mem} (h : asB R v G M) : ∃ c, v = .bl c ∧ R c G M := by
  cases v <;> first | exact ⟨_, rfl, h⟩ | exact h.elim
theorem t_sim {t : KE} {σ : St} {H : Hp} {Q : Bool → Hp → Prop} (h : upG W (kT t) σ H Q) : tTest (upG W t) σ H Q := by
  refine of_now ?_
  simp (disch := with_unfolding_all
    obtain ⟨G, M, R, E, hv, h, hR, hE⟩ := h
    refine ⟨G, M, _, E, hv, h, fun v G1 M1 H1 hv1 h1 => ?_, hE⟩
    obtain ⟨c, rfl, h2⟩ := asB_of h1
    exact ⟨c, rfl, hR c G1 M1 H1 hv1 h2⟩) only [↓now_true]
theorem jt_cmp {a b : Expr} {op : CmpOp} {k : KR2} {ta tb : KE} (ho : KOp X (compareOp op) k) (ha : JE X W a ta) (hb : JE X W b tb) (hm : behindInMarks op b = false) : JT X W (.Compare a [op] [b] pos) (kT (kBin k ta tb)) :=
  pt_mono (pt_cmpR ho.opr ha hb hm) fun σ H Q h => by
    have h2 := t_sim h
    exact bin_sim h2
theorem jt_val {e : Expr} {t : KE} (h : JE X W e t) (he : ∀ whole, isTrue e X.env whole = (do let v ← whole; standAt e.pos; holding [v] (truthy v)) := by intro _; rfl) : JT X W e (kT t) :=
  pt_mono (pt_val h he) fun σ H Q h => t_sim h
/-- chains -/
def kChain (k k' : KR2) (ta tb tc : KE) : KE := fun σ G M R E => ta σ G M (fun x G M => tb σ G M (fun y G M => k x y G M (asB fun c G M => if c = true then tc σ G M (fun z G M => k' y z G M R) E else R (.bl false) G M)) E) E
theorem chain_sim {ta tb tc : KE} {k k' : KR2} {σ : St} {H : Hp} {Q : VK} (h : upG W (kChain k k' ta tb tc) σ H Q) : tChain (rUp k) (rUp k') (upG W ta) (upG W tb) (upG W tc) σ H Q := by
  refine of_now ?_
  simp (disch := with_unfolding_all
    obtain ⟨G, M, R, E, hv, h, hR, hE⟩ := h
    refine ⟨G, M, _, E, hv, h, fun x G1 M1 H1 hv1 h1 => ⟨G1, M1, _, E, hv1, h1, fun y G2 M2 H2 hv2 h2 => ⟨G2, M2, _, hv2, h2, fun v G3 M3 H3 hv3 h3 => ?_⟩, hE⟩, hE⟩
    obtain ⟨c, rfl, h4⟩ := asB_of h3
    refine ⟨c, rfl, ?_⟩
    cases c with
    | true =>
      rw [if_pos rfl] at h4 ⊢
      exact ⟨G3, M3, _, E, hv3, h4, fun z G4 M4 H4 hv4 h5 => ⟨G4, M4, R, hv4, h5, hR⟩, hE⟩
    | false =>
      rw [if_neg Bool.false_ne_true] at h4 ⊢
      exact hR _ G3 M3 H3 hv3 h4) only [↓now_true]
theorem je_chain {a b c : Expr} {op op' : CmpOp} {k k' : KR2} {ta tb tc : KE} (ho : KOp X (compareOp op) k) (ho' : KOp X (compareOp op') k') (ha : JE X W a ta) (hb : JE X W b tb) (hc : JE X W c tc)
    (hm : lastMarks [op, op'] [b, c] = false := by with_unfolding_all rfl) : JE X W (.Compare a [op, op'] [b, c] pos) (kChain k k' ta tb tc) := pe_mono (pe_chain ho.opr ho'.opr ha hb hc hm) fun _ _ _ h => chain_sim h
theorem jt_chain {a b c : Expr} {op op' : CmpOp} {k k' : KR2} {ta tb tc : KE} (ho : KOp X (compareOp op) k) (ho' : KOp X (compareOp op') k') (ha : JE X W a ta) (hb : JE X W b tb) (hc : JE X W c tc)
    (hm : lastMarks [op, op'] [b, c] = false := by with_unfolding_all rfl) : JT X W (.Compare a [op, op'] [b, c] pos) (kT (kChain k k' ta tb tc)) := pt_mono (pt_chain ho.opr ho'.opr ha hb hc hm) fun _ _ _ h => chain_sim (t_sim h)
def kOr (t u : KT) : KT := fun σ G M R E => t σ G M (fun c G M => if c = true then R true G M else u σ G M R E) E
def kNot (t : KT) : KT := fun σ G M R E => t σ G M (fun c G M => R (!c) G M) E
def kAndV (t u : KE) : KE := fun σ G M R E => t σ G M (asB fun c G M => if c = true then u σ G M R E else R (.bl false) G M) E
def kNotV (t : KE) : KE := fun σ G M R E => t σ G M (asB fun c G M => R (.bl (!c)) G M) E
variable {a b : Expr} {rest : List Expr}
theorem jw_or1 {t : KT} (h : JT X W a t) : JW X W (.BoolOp .Or [a] pos) t := pw_or1 h
theorem jw_or {t u : KT} (ha : JT X W a t) (hb : JW X W (.BoolOp .Or (b :: rest) pos) u) : JW X W (.BoolOp .Or (a :: b :: rest) pos) (kOr t u) :=
  pw_mono (pw_or ha hb) fun σ H Q ⟨G, M, R, E, hv, h, hR, hE⟩ => ⟨G, M, _, E, hv, h, fun c G1 M1 H1 hv1 h1 => by
    cases c with
    | true => rw [if_pos rfl] at h1 ⊢; exact hR _ G1 M1 H1 hv1 h1
    | false => rw [if_neg Bool.false_ne_true] at h1 ⊢; exact ⟨G1, M1, R, E, hv1, h1, hR, hE⟩, hE⟩
theorem JW.jt {e : Expr} {t : KT} (h : JW X W e t) : JT X W e t := PW.pt h
theorem jt_not {t : KT} (h : JT X W a t) : JT X W (.UnaryOp .Not a pos) (kNot t) :=
  pt_mono (pt_not h) fun σ H Q ⟨G, M, R, E, hv, h, hR, hE⟩ => ⟨G, M, _, E, hv, h, fun c G1 M1 H1 hv1 h1 => hR _ G1 M1 H1 hv1 h1, hE⟩
theorem je_one {op} {t : KE} (h : JE X W a t) : JE X W (.BoolOp op [a] pos) t := pe_one h
theorem je_and {t u : KE} (ha : JE X W a t) (hb : JE X W (.BoolOp .And (b :: rest) pos) u) : JE X W (.BoolOp .And (a :: b :: rest) pos) (kAndV t u) :=
  pe_mono (pe_and ha hb) fun σ H Q ⟨G, M, R, E, hv, h, hR, hE⟩ => ⟨G, M, _, E, hv, h, fun v G1 M1 H1 hv1 h1 => by
    obtain ⟨c, rfl, h2⟩ := asB_of h1
    refine ⟨c, rfl, ?_⟩
    cases c with
    | true => rw [if_pos rfl] at h2 ⊢; exact ⟨G1, M1, R, E, hv1, h2, hR, hE⟩
    | false => rw [if_neg Bool.false_ne_true] at h2 ⊢; exact hR _ G1 M1 H1 hv1 h2, hE⟩
theorem je_not {t : KE} (h : JE X W a t) : JE X W (.UnaryOp .Not a pos) (kNotV t) :=
  pe_mono (pe_not h) fun σ H Q ⟨G, M, R, E, hv, h, hR, hE⟩ => ⟨G, M, _, E, hv, h, fun v G1 M1 H1 hv1 h1 => by
    obtain ⟨c, rfl, h2⟩ := asB_of h1
    exact ⟨c, rfl, hR _ G1 M1 H1 hv1 h2⟩, hE⟩
/-- a if c else b -/
def kIte (t : KT) (ta tb : KE) : KE := fun σ G M R E => t σ G M (fun c G M => if c = true then ta σ G M R E else tb σ G M R E) E
end
end BT
set_option Elab.async false
set_option linter.all false
set_option maxRecDepth 100000
set_option maxHeartbeats 4000000
namespace BT
open PySem PySem.Spec L2
open PyProof.Rows hiding St
section
variable {X : Cx} {W : WX} {pos : Pos} {a b c e : Expr} {es : List Expr}
theorem je_ite {t : KT} {ta tb : KE} (hc : JT X W c t) (ha : JE X W a ta) (hb : JE X W b tb) : JE X W (.IfExp c a b pos) (kIte t ta tb) :=
  pe_mono (pe_ifExp hc ha hb) fun σ H Q ⟨G, M, R, E, hv, h, hR, hE⟩ => ⟨G, M, _, E, hv, h, fun c G1 M1 H1 hv1 h1 => by
    cases c with
    | true => rw [if_pos rfl] at h1 ⊢; exact ⟨G1, M1, R, E, hv1, h1, hR, hE⟩
    | false => rw [if_neg Bool.false_ne_true] at h1 ⊢; exact ⟨G1, M1, R, E, hv1, h1, hR, hE⟩, hE⟩
/-! ### arguments, displays -/
def kNil : KA := fun _ G M R _ => R [] G M
def kCons (t : KE) (u : KA) : KA := fun σ G M R E => t σ G M (fun x G M => u σ G M (fun xs G M => R (x :: xs) G M) E) E
theorem ja_nil : JA X W [] kNil := pa_mono pa_nil fun σ H Q ⟨G, M, R, E, hv, h, hR, _⟩ => hR _ G M H hv h
theorem ja_cons {t : KE} {u : KA} (ha : JE X W e t) (hr : JA X W es u) (hs : starEach (e :: es) X.env = (false, eval e X.env) :: starEach es X.env := by rfl) : JA X W (e :: es) (kCons t u) :=
  pa_mono (pa_cons ha hr hs) fun σ H Q ⟨G, M, R, E, hv, h, hR, hE⟩ => ⟨G, M, _, E, hv, h, fun x G1 M1 H1 hv1 h1 => ⟨G1, M1, _, E, hv1, h1, fun xs G2 M2 H2 hv2 h2 => hR _ G2 M2 H2 hv2 h2, hE⟩, hE⟩
def kLst (t : KA) : KE := fun σ G M R E => t σ G M (fun xs G M => xs.length ≤ sizeLine ∧ ∀ p, Fr G M p → R (.ref p) G ((p, .lst xs) :: M)) E
def kTup (t : KA) : KE := fun σ G M R E => t σ G M (fun xs G M => xs.length ≤ sizeLine ∧ ∀ p, Fr G M p → R (.ref p) (upd G p (.tup xs)) M) E
theorem je_lst {t : KA} (h : JA X W es t) : JE X W (.List es pos) (kLst t) :=
  pe_mono (pe_lst h) fun σ H Q ⟨G, M, R, E, hv, h, hR, hE⟩ => ⟨G, M, _, E, hv, h, fun xs G1 M1 H1 hv1 h1 => ⟨h1.1, fun p hp => hR _ G1 _ _ (hv1.newM hp) (h1.2 p (hv1.fr hp))⟩, hE⟩
theorem je_tup {t : KA} {k : Nat} (h : JA X W es t) : JE X W (.Tuple es k pos) (kTup t) :=
  pe_mono (pe_tup h) fun σ H Q ⟨G, M, R, E, hv, h, hR, hE⟩ => ⟨G, M, _, E, hv, h, fun xs G1 M1 H1 hv1 h1 => ⟨h1.1, fun p hp => hR _ _ M1 _ (hv1.newG hp) (h1.2 p (hv1.fr hp))⟩, hE⟩
/-! ### operators -/
def kAdd : KR2 := fun x y G M R => match x, y with
  | .int i, .int j => R (.int (i + j)) G M
  | .str i, .str j => i.length + j.length ≤ sizeLine ∧ R (.str (i ++ j)) G M
  | .ref a, .ref b => ∃ xs ys, At G M a (.lst xs) ∧ At G M b (.lst ys) ∧ xs.length + ys.length ≤ sizeLine ∧ ∀ p, Fr G M p → R (.ref p) G ((p, .lst (xs ++ ys)) :: M)
  | _, _ => False
theorem kop_add : KOp X (binaryOp .Add) kAdd := fun pins s σ H x y v u Q G M R I rx ry hv h hR => by
  cases x <;> cases y <;> first
    | exact op_add pins s σ H _ _ v u Q I rx ry ⟨_, _, rfl, rfl, hR _ G M H hv h⟩
    | exact op_add_str pins s σ H _ _ v u Q I rx ry ⟨_, _, rfl, rfl, h.1, hR _ G M H hv h.2⟩
    | (obtain ⟨xs, ys, h1, h2, h3, h4⟩ := h
       exact op_cat pins s σ H _ _ v u Q I rx ry ⟨_, _, xs, ys, rfl, rfl, hv.at h1, hv.at h2, h3, fun p hp => hR _ G _ _ (hv.newM hp) (h4 p (hv.fr hp))⟩)
    | exact h.elim
def kI (C : Int → Int → Prop) (g : Int → Int → V) : KR2 := fun x y G M R => match x, y with
  | .int i, .int j => C i j ∧ R (g i j) G M
  | _, _ => False
def kI0 (g : Int → Int → V) : KR2 := fun x y G M R => match x, y with
  | .int i, .int j => R (g i j) G M
  | _, _ => False
theorem kop_I {f : Value → Value → Sem Value} {C : Int → Int → Prop} {g : Int → Int → V} (h : OpR X f (rI C g)) : KOp X f (kI C g) := kop_of h fun x y G M R H Q hv h hR => by
  cases x <;> cases y <;> first
    | exact ⟨_, _, rfl, rfl, h.1, hR _ G M H hv h.2⟩
    | exact h.elim
theorem kop_I0 {f : Value → Value → Sem Value} {g : Int → Int → V} (h : OpR X f (rI0 g)) : KOp X f (kI0 g) := kop_of h fun x y G M R H Q hv h hR => by
  cases x <;> cases y <;> first
    | exact ⟨_, _, rfl, rfl, hR _ G M H hv h⟩
    | exact h.elim
/-- sizes of products, quotients -/
def MulOk (i j : Int) : Prop := CMul i j ∨ CMulW i j
theorem kop_sub : KOp X (binaryOp .Sub) (kI0 fun i j => .int (i - j)) := kop_I0 op_sub
/-- a product of ints, a list repeated -/
def kMul : KR2 := fun x y G M R => match x, y with
  | .int i, .int j => MulOk i j ∧ R (.int (i * j)) G M
  | .ref a, .int k => ∃ xs, At G M a (.lst xs) ∧ -(2 ^ 63) ≤ k ∧ k < 2 ^ 63 ∧ xs.length * k.toNat ≤ sizeLine ∧ ∀ p, Fr G M p → R (.ref p) G ((p, .lst (List.replicate k.toNat xs).flatten) :: M)
  | _, _ => False
theorem kop_mul : KOp X (binaryOp .Mult) kMul := fun pins s σ H x y v u Q G M R I rx ry hv h hR => by
  cases x <;> cases y <;> first
    | (obtain ⟨hc, h⟩ := h
       rcases hc with hc | hc
       · exact op_mul pins s σ H _ _ v u Q I rx ry ⟨_, _, rfl, rfl, hc, hR _ G M H hv h⟩
       · exact op_mulW pins s σ H _ _ v u Q I rx ry ⟨_, _, rfl, rfl, hc, hR _ G M H hv h⟩)
    | (obtain ⟨xs, h1, h2, h3, h4, h5⟩ := h
       exact op_rep pins s σ H _ _ v u Q I rx ry ⟨_, _, xs, rfl, rfl, hv.at h1, h2, h3, h4, fun p hp => hR _ G _ _ (hv.newM hp) (h5 p (hv.fr hp))⟩)
    | exact h.elim
theorem kop_mod : KOp X (binaryOp .Mod) (kI (fun _ j => 0 < j) fun i j => .int (i % j)) := kop_I op_mod
theorem kop_fdiv : KOp X (binaryOp .FloorDiv) (kI CDivW fun i j => .int (i / j)) := kop_I op_fdivW
theorem kop_pow : KOp X (binaryOp .Pow) (kI CPow fun i j => .int (i ^ j.toNat)) := kop_I op_pow
theorem kop_shl : KOp X (binaryOp .LShift) (kI CPow fun i j => .int (i * 2 ^ j.toNat)) := kop_I op_shl
theorem kop_lt : KOp X (compareOp .Lt) (kI0 fun i j => .bl (decide (i < j))) := kop_I0 op_lt
theorem kop_le : KOp X (compareOp .LtE) (kI0 fun i j => .bl (decide (i ≤ j))) := kop_I0 op_le
theorem kop_gt : KOp X (compareOp .Gt) (kI0 fun i j => .bl (decide (j < i))) := kop_I0 op_gt
/-- equality: of plain values at once, of data by what they hold -/
def kEqv (neg : Bool) (K : PySem.W.Frag) : KR2 := fun x y G M R =>
  match scal x y with
  | true => R (.bl (if neg then !decide (x = y) else decide (x = y))) G M
  | false => ∃ d e, DatAt K G M x d ∧ DatAt K G M y e ∧ SeqAt.shaped d = true ∧ SeqAt.shaped e = true ∧ R (.bl (if neg then !PyData.eqv d e else PyData.eqv d e)) G M
theorem kop_eq (hu : X.A.units + 64 < cLine) : KOp X (compareOp .Eq) (kEqv false X.K) := fun pins s σ H x y v u Q G M R I rx ry hv h hR => by
  unfold kEqv at h
  split at h
  · rename_i e
    exact op_eq pins s σ H _ _ v u Q I rx ry ⟨e, hR _ G M H hv h⟩
  · obtain ⟨d, e, h1, h2, h3, h4, h5⟩ := h
    exact op_eqD hu pins s σ H _ _ v u Q I rx ry ⟨d, e, hv.dat h1, hv.dat h2, h3, h4, hR _ G M H hv h5⟩
theorem kop_ne (hu : X.A.units + 64 < cLine) : KOp X (compareOp .NotEq) (kEqv true X.K) := fun pins s σ H x y v u Q G M R I rx ry hv h hR => by
  unfold kEqv at h
  split at h
  · rename_i e
    exact op_ne pins s σ H _ _ v u Q I rx ry ⟨e, hR _ G M H hv h⟩
  · obtain ⟨d, e, h1, h2, h3, h4, h5⟩ := h
    exact op_neD hu pins s σ H _ _ v u Q I rx ry ⟨d, e, hv.dat h1, hv.dat h2, h3, h4, hR _ G M H hv h5⟩
def kUn (k : V → Hp → Mem → KR → Prop) (t : KE) : KE := fun σ G M R E => t σ G M (fun x G M => k x G M R) E
def kNeg : V → Hp → Mem → KR → Prop := fun x G M R => match x with
  | .int i => R (.int (-i)) G M
  | _ => False
theorem je_neg {t : KE} (h : JE X W a t) : JE X W (.UnaryOp .USub a pos) (kUn kNeg t) :=
  pe_mono (pe_un un_neg h) fun σ H Q ⟨G, M, R, E, hv, h, hR, hE⟩ => ⟨G, M, _, E, hv, h, fun x G1 M1 H1 hv1 h1 => by
    cases x <;> first
      | exact ⟨_, rfl, hR _ G1 M1 H1 hv1 h1⟩
      | exact h1.elim, hE⟩
/-! ### subscripts, slices -/
def kIx (K : PySem.W.Frag) : KR2 := fun x y G M R => match x, y with
  | .ref a, .int i => ∃ xs v, SeqAt' K G M a xs ∧ atI xs i = some v ∧ R v G M
  | .str z, .int i => ∃ c, z.length ≤ sizeLine ∧ atI z.cps.toList i = some c ∧ R (.str ⟨#[c]⟩) G M
  | _, _ => False
theorem ix_k : IxR X (rUp (kIx X.K)) := fun value slice pins s σ H x y v u Q I rx ry ⟨G, M, R, hv, h, hR⟩ hs => by
  cases x <;> cases y <;> first
    | (obtain ⟨xs, w, h1, h2, h3⟩ := h
       rcases h1 with h1 | h1
       · exact ix_list value slice pins s σ H _ _ v u Q I rx ry ⟨_, xs, _, w, rfl, rfl, hv.lst h1, h2, hR _ G M H hv h3⟩ hs
       · exact ix_tup value slice pins s σ H _ _ v u Q I rx ry ⟨_, xs, _, w, rfl, rfl, hv.tup h1, h2, hR _ G M H hv h3⟩ hs)
    | (obtain ⟨c, h1, h2, h3⟩ := h
       exact ix_str value slice pins s σ H _ _ v u Q I rx ry ⟨_, _, c, rfl, rfl, h1, h2, hR _ G M H hv h3⟩ hs)
    | exact h.elim
theorem je_ix {ta tb : KE} (ha : JE X W a ta) (hb : JE X W b tb) (hs : PlainIx b := by exact fun _ _ => rfl) : JE X W (.Subscript a b pos) (kBin (kIx X.K) ta tb) :=
  pe_mono (pe_ix ix_k ha hb hs) fun _ _ _ h => bin_sim h
abbrev KO := KK (Option Int)
def JO (X : Cx) (W : WX) (e : Option Expr) (t : KO) : Prop := PO X e (upG W t)
theorem po_mono {X : Cx} {e : Option Expr} {t t' : TO} (h : PO X e t) (i : ∀ σ H Q, t' σ H Q → t σ H Q) : PO X e t' := ⟨fun pins s σ H Q I q => h.run pins s σ H Q I (i σ H Q q)⟩
def kNoP : KO := fun _ G M R _ => R none G M
def asI (R : Option Int → Hp → Mem → Prop) : KR := fun v G M => match v with
  | .int i => R (some i) G M
  | _ => False
def kPart (t : KE) : KO := fun σ G M R E => t σ G M (asI R) E
theorem jo_none : JO X W none kNoP := po_mono po_none fun σ H Q ⟨G, M, R, E, hv, h, hR, _⟩ => hR _ G M H hv h
theorem jo_some {t : KE} (h : JE X W e t) : JO X W (some e) (kPart t) := po_mono (po_some h) fun σ H Q ⟨G, M, R, E, hv, h, hR, hE⟩ => ⟨G, M, _, E, hv, h, fun v G1 M1 H1 hv1 h1 => by
    cases v <;> first
      | exact ⟨_, rfl, hR _ G1 M1 H1 hv1 h1⟩
      | exact h1.elim, hE⟩
/-! ### calls of built-ins -/
abbrev KC := List V → Hp → Mem → KR → Prop
def rUpC (k : KC) : List V → Hp → VK → Prop := fun vs H Q => ∃ G M R, Hv G M H ∧ k vs G M R ∧ ∀ v G' M' H', Hv G' M' H' → R v G' M' → Q v H'
def kCB (k : KC) (t : KA) : KE := fun σ G M R E => t σ G M (fun vs G M => k vs G M R) E
def KCall (X : Cx) (f : Value) (k : KC) : Prop := CallR X f (rUpC k)
theorem kcall_of {f : Value} {r : List V → Hp → VK → Prop} {k : KC} (h : CallR X f r)
    (s : ∀ vs G M R H Q, Hv G M H → k vs G M R → (∀ v G' M' H', Hv G' M' H' → R v G' M' → Q v H') → r vs H Q) : KCall X f k :=
  fun pins st σ H xs us Q I rv ⟨G, M, R, hv, hk, hR⟩ => h pins st σ H xs us Q I rv (s xs G M R H Q hv hk hR)
theorem cb_sim {t : KA} {k : KC} {σ : St} {H : Hp} {Q : VK} (h : upG W (kCB k t) σ H Q) : tCB (rUpC k) (upG W t) σ H Q := by
  refine of_now ?_
  simp (disch := with_unfolding_all
    obtain ⟨G, M, R, E, hv, h, hR, hE⟩ := h
    exact ⟨G, M, _, E, hv, h, fun vs G1 M1 H1 hv1 h1 => ⟨G1, M1, R, hv1, h1, hR⟩, hE⟩) only [↓now_true]
variable {x : Str} {p : Pos} {id T : String}
theorem je_callB {k : KC} {t : KA} (hc : KCall X (.builtin id) k) (hm : X.mg x = none) (ha : JA X W (e :: es) t) (hv : bootBuiltins x = some (.builtin id) := by decide +kernel) (hg : Gl X x := by rfl) (hn : x ≠ "__name__" := by decide) (hdb : (x == ("__debug__" : Str)) = false := by decide)
    (he : starEach (e :: es) X.env = (false, eval e X.env) :: starEach es X.env := by rfl) (hpl : (backTo pos (starEach es X.env)).any (·.1) = false := by rfl) : JE X W (.Call (.Name x p) (e :: es) [] pos) (kCB k t) :=
  pe_mono (pe_callB hc hg hm hv ha hn hdb he hpl) fun _ _ _ h => cb_sim h
theorem je_callTy {k : KC} {t : KA} (hc : KCall X (.type T) k) (hm : X.mg x = none) (ha : JA X W (e :: es) t) (hv : bootBuiltins x = some (.type T) := by decide +kernel) (hg : Gl X x := by rfl) (hn : x ≠ "__name__" := by decide) (hdb : (x == ("__debug__" : Str)) = false := by decide)
    (he : starEach (e :: es) X.env = (false, eval e X.env) :: starEach es X.env := by rfl) (hpl : (backTo pos (starEach es X.env)).any (·.1) = false := by rfl) : JE X W (.Call (.Name x p) (e :: es) [] pos) (kCB k t) :=
  pe_mono (pe_callTy hc hg hm hv ha hn hdb he hpl) fun _ _ _ h => cb_sim h
/-- a built-in type's name as a value -/
theorem je_ty {T : String} {x : Str} {pos : Pos} (hm : X.mg x = none) (hv : bootBuiltins x = some (.type T) := by decide +kernel) (hg : Gl X x := by rfl) (hn : x ≠ "__name__" := by decide) (hd : (x == ("__debug__" : Str)) = false := by decide) : JE X W (.Name x pos) (kC (.ty T)) :=
  je_c (pe_bltn hg hm hv rfl hn hd)
/-- a module's constant -/
theorem je_glob {x : Str} {v : V} {u : Value} {pos : Pos} (hm : X.mg x = some u) (r : RelV v u) (hg : Gl X x := by rfl) (hd : (x == ("__debug__" : Str)) = false := by decide) : JE X W (.Name x pos) (kC v) := je_c (pe_glob hg hm r hd)
def kLen (K : PySem.W.Frag) : KC := fun vs G M R => match vs with
  | [.ref a] => ∃ xs, SeqAt' K G M a xs ∧ R (.int xs.length) G M
  | _ => False
theorem kc_len : KCall X (.builtin "len") (kLen X.K) := kcall_of call_len_seq fun vs G M R H Q hv h hR => by
  match vs, h with
  | [.ref a], ⟨xs, h1, h2⟩ => exact ⟨a, xs, rfl, h1.elim (fun q => .inl (hv.lst q)) (fun q => .inr (hv.tup q)), hR _ G M H hv h2⟩
def kList (K : PySem.W.Frag) : KC := fun vs G M R => match vs with
  | [.ref a] => ∃ xs, SeqAt' K G M a xs ∧ ∀ p, Fr G M p → R (.ref p) G ((p, .lst xs) :: M)
  | _ => False
theorem kc_list : KCall X (.type "list") (kList X.K) := kcall_of call_list_of fun vs G M R H Q hv h hR => by
  match vs, h with
  | [.ref a], ⟨xs, h1, h2⟩ => exact ⟨a, xs, rfl, h1.elim (fun q => .inl (hv.lst q)) (fun q => .inr (hv.tup q)), fun p hp => hR _ G _ _ (hv.newM hp) (h2 p (hv.fr hp))⟩
def kMin2 : KC := fun vs G M R => match vs with
  | [.int i, .int j] => R (.int (min i j)) G M
  | _ => False
def kMax2 : KC := fun vs G M R => match vs with
  | [.int i, .int j] => R (.int (max i j)) G M
  | _ => False
theorem kc_min2 (hc : X.calm = true := by rfl) : KCall X (.builtin "min") kMin2 := kcall_of (call_min2 hc) fun vs G M R H Q hv h hR => by
  match vs, h with
  | [.int i, .int j], h =>
    refine ⟨i, j, rfl, ?_⟩
    have e : (if j < i then j else i) = min i j := by split <;> omega
    rw [e]
    exact hR _ G M H hv h
theorem kc_max2 (hc : X.calm = true := by rfl) : KCall X (.builtin "max") kMax2 := kcall_of (call_max2 hc) fun vs G M R H Q hv h hR => by
  match vs, h with
  | [.int i, .int j], h =>
    refine ⟨i, j, rfl, ?_⟩
    have e : (if j > i then j else i) = max i j := by split <;> omega
    rw [e]
    exact hR _ G M H hv h
def kAll (K : PySem.W.Frag) : KC := fun vs G M R => match vs with
  | [.ref a] => ∃ bs : List Bool, LstAt K G M a (bs.map V.bl) ∧ R (.bl (bs.all _root_.id)) G M
  | _ => False
theorem kc_all (hc : X.calm = true := by rfl) : KCall X (.builtin "all") (kAll X.K) := kcall_of (cr_all hc) fun vs G M R H Q hv h hR => by
  match vs, h with
  | [.ref a], ⟨ns, h1, h2⟩ => exact ⟨a, ns, rfl, hv.lst h1, hR _ G M H hv h2⟩
/-- isinstance(x, c) -/
def kIsi (K : PySem.W.Frag) : KC := fun vs G M R => match vs with
  | [x, c] => ∃ (t u : Value) (b : Bool), ClsV c u ∧ (∀ H, Hv G M H → TyX K H x t) ∧ PySem.W.kitOne K t u = some b ∧ R (.bl b) G M
  | _ => False
theorem kc_isi : KCall X (.builtin "isinstance") (kIsi X.K) := kcall_of call_isi fun vs G M R H Q hv h hR => by
  match vs, h with
  | [x, c], ⟨t, u, b, h1, h2, h3, h4⟩ => exact ⟨x, c, t, u, b, rfl, h1, h2 H hv, h3, hR _ G M H hv h4⟩
/-! ### methods of built-in types -/
abbrev KM := V → List V → Hp → Mem → KR → Prop
def rUpM (k : KM) : V → List V → Hp → VK → Prop := fun x vs H Q => ∃ G M R, Hv G M H ∧ k x vs G M R ∧ ∀ v G' M' H', Hv G' M' H' → R v G' M' → Q v H'
def KMt (X : Cx) (id : String) (k : KM) : Prop := MtR X id (rUpM k)
theorem kmt_of {r : V → List V → Hp → VK → Prop} {k : KM} (h : MtR X id r)
    (s : ∀ x vs G M R H Q, Hv G M H → k x vs G M R → (∀ v G' M' H', Hv G' M' H' → R v G' M' → Q v H') → r x vs H Q) : KMt X id k :=
  fun pins st σ H x xs v us Q I rx rv ⟨G, M, R, hv, hk, hR⟩ => h pins st σ H x xs v us Q I rx rv (s x xs G M R H Q hv hk hR)
def kBM (K : PySem.W.Frag) (T : String) (k : KM) (to : KE) (t : KA) : KE := fun σ G M R E => to σ G M (fun x G M => (∀ H, Hv G M H → tyV K T x H) ∧ t σ G M (fun vs G M => k x vs G M R) E) E
def kBM0 (K : PySem.W.Frag) (T : String) (k : KM) (to : KE) : KE := fun σ G M R E => to σ G M (fun x G M => (∀ H, Hv G M H → tyV K T x H) ∧ k x [] G M R) E
variable {o : Expr} {name : Str} {apos cpos : Pos}
theorem je_bm {k : KM} {to : KE} {t : KA} (pa : PlainAttrs T) (slot : Slot T name id) (hty : typeOf (.builtin id) = pure (.type "method_descriptor")) (hm : KMt X id k) (ho : JE X W o to) (ha : JA X W (e :: es) t)
    (hbase : attributeBase o name X.env (eval o X.env) = eval o X.env := by rfl)
    (hfew : ((backTo cpos (starEach (e :: es) X.env)).all (fun x => !x.1) && (backToKw cpos (keywordEach [] X.env)).all (fun x => x.1.isSome)
      && decide ((e :: es).length + ([] : List Keyword).length + (if ([] : List Keyword).isEmpty then 0 else 1) < 30)) = true := by rfl)
    (hline : (apos.endLine == cpos.line) = true := by rfl) (hs : starEach (e :: es) X.env = (false, eval e X.env) :: starEach es X.env := by rfl) (hplain : (backTo cpos (starEach es X.env)).any (·.1) = false := by rfl) :
    JE X W (.Call (.Attribute o name apos) (e :: es) [] cpos) (kBM X.K T k to t) :=
  pe_mono (pe_bm pa slot hty hm ho ha hbase hfew hline hs hplain) fun σ H Q ⟨G, M, R, E, hv, h, hR, hE⟩ => ⟨G, M, _, E, hv, h, fun x G1 M1 H1 hv1 h1 => ⟨h1.1 H1 hv1, G1, M1, _, E, hv1, h1.2, fun vs G2 M2 H2 hv2 h2 => ⟨G2, M2, R, hv2, h2, hR⟩, hE⟩, hE⟩
theorem je_bm0 {k : KM} {to : KE} (pa : PlainAttrs T) (slot : Slot T name id) (hty : typeOf (.builtin id) = pure (.type "method_descriptor")) (hm : KMt X id k) (ho : JE X W o to)
    (hbase : attributeBase o name X.env (eval o X.env) = eval o X.env := by rfl) (hline : (apos.endLine == cpos.line) = true := by rfl) : JE X W (.Call (.Attribute o name apos) [] [] cpos) (kBM0 X.K T k to) :=
  pe_mono (pe_bm0 pa slot hty hm ho hbase hline) fun σ H Q ⟨G, M, R, E, hv, h, hR, hE⟩ => ⟨G, M, _, E, hv, h, fun x G1 M1 H1 hv1 h1 => ⟨h1.1 H1 hv1, G1, M1, R, hv1, h1.2, hR⟩, hE⟩
def kAppend : KM := fun x vs G M R => match x, vs with
  | .ref a, [y] => ∃ n xs, M[n]? = some (a, .lst xs) ∧ xs.length < sizeLine ∧ R .non G (M.set n (a, .lst (xs ++ [y])))
  | _, _ => False
theorem km_append : KMt X "list.append" kAppend := kmt_of mt_append fun x vs G M R H Q hv h hR => by
  match x, vs, h with
  | .ref a, [y], ⟨n, xs, h1, h2, h3⟩ => exact ⟨a, xs, y, rfl, rfl, hv.get h1, h2, hR _ G _ _ (hv.set h1) h3⟩
def kReverse : KM := fun x vs G M R => match x, vs with
  | .ref a, [] => ∃ n xs, M[n]? = some (a, .lst xs) ∧ R .non G (M.set n (a, .lst xs.reverse))
  | _, _ => False
theorem km_reverse : KMt X "list.reverse" kReverse := kmt_of mt_reverse fun x vs G M R H Q hv h hR => by
  match x, vs, h with
  | .ref a, [], ⟨n, xs, h1, h3⟩ => exact ⟨a, xs, rfl, rfl, hv.get h1, hR _ G _ _ (hv.set h1) h3⟩
end
/-! ### defs -/
abbrev KSp := List V → Hp → Mem → KR → KX → Prop
def lift (S : KSp) : Sp := fun vs H Q E => ∃ G M R X, Hv G M H ∧ S vs G M R X ∧ (∀ v G' M' H', Hv G' M' H' → R v G' M' → Q v H') ∧ (∀ c d G' M' H', Hv G' M' H' → X c d G' M' → E c d H')
def kCall (S : KSp) (t : KA) : KE := fun σ G M R E => t σ G M (fun vs G M => S vs G M R E) E
section
variable {X : Cx} {W : WX} {pos p : Pos} {e : Expr} {es : List Expr} {x : Str} {k : Nat} {f : Addr} {fd : FuncData} {ps : List Str} {S : KSp} {t : KA}
theorem je_call (F : FnOk X.prog X.w X.K X.mg X.base (L2.CX X.prog X.w) k f fd ps (lift S)) (hr : Room k X.A) (tk : Takes X W) (hm : X.mg x = some (.ref f)) (hk : PySem.W.keepIn X.K (.ref f) = true) (hb : Binds X.K fd ps []) (ha : JA X W (e :: es) t) (hg : Gl X x := by rfl)
    (hdb : (x == ("__debug__" : Str)) = false := by decide) (he : starEach (e :: es) X.env = (false, eval e X.env) :: starEach es X.env := by rfl) (hpl : (backTo pos (starEach es X.env)).any (·.1) = false := by rfl) :
    JE X W (.Call (.Name x p) (e :: es) [] pos) (kCall S t) :=
  pe_mono (pe_callS F hr hg hm hk hb (passAt tk) ha hdb he hpl) fun σ H Q ⟨G, M, R, E, hv, h, hR, hE⟩ =>
    ⟨G, M, _, E, hv, h, fun vs G1 M1 H1 hv1 h1 => ⟨G1, M1, R, E, hv1, h1, hR, hE⟩, hE⟩
end
end BT
set_option Elab.async false
set_option linter.all false
set_option maxRecDepth 100000
set_option maxHeartbeats 4000000
namespace BT
open PySem PySem.Spec L2
open PyProof.Rows hiding St
/-! ### statements -/
structure Kd where
  nx : St → Hp → Mem → Prop
  rt : KR
  bk : St → Hp → Mem → Prop := fun _ _ _ => False
  ct : St → Hp → Mem → Prop := fun _ _ _ => False
  xc : Value → Option Addr → St → Hp → Mem → Prop := fun _ _ _ _ _ => False
abbrev KS := Kd → St → Hp → Mem → Prop
structure EndsTo (W : WX) (d : Kd) (D : Ends) : Prop where
  nx : ∀ σ G M H, Hv G M H → d.nx σ G M → D.nx σ H
  rt : ∀ v G M H, Hv G M H → d.rt v G M → D.rt v H
  bk : ∀ σ G M H, Hv G M H → d.bk σ G M → D.bk σ H
  ct : ∀ σ G M H, Hv G M H → d.ct σ G M → D.ct σ H
  xc : ∀ c a σ G M H, Hv G M H → d.xc c a σ G M → W c a σ H
def upS (W : WX) (t : KS) : TS := fun D σ H => ∃ G M d, Hv G M H ∧ t d σ G M ∧ EndsTo W d D
def JS (X : Cx) (W : WX) (s : Stmt) (t : KS) : Prop := PS X s (upS W t)
def JSs (X : Cx) (W : WX) (s : List Stmt) (t : KS) : Prop := PSs X s (upS W t)
theorem ps_mono {X : Cx} {s : Stmt} {t t' : TS} (h : PS X s t) (i : ∀ D σ H, t' D σ H → t D σ H) : PS X s t' := ⟨fun pins st σ H D I q => h.run pins st σ H D I (i D σ H q)⟩
theorem pss_mono {X : Cx} {s : List Stmt} {t t' : TS} (h : PSs X s t) (i : ∀ D σ H, t' D σ H → t D σ H) : PSs X s t' := ⟨fun pins st σ H D I q => h.run pins st σ H D I (i D σ H q)⟩
def Kd.x (d : Kd) (σ : St) : KX := fun c a G M => d.xc c a σ G M
section
variable {X : Cx} {W : WX} {pos : Pos} {s : Stmt} {ss : List Stmt} {e : Expr} {t u : KS}
def kNext : KS := fun D σ G M => D.nx σ G M
def kSeq (t u : KS) : KS := fun D σ G M => ∃ G' M', Wk G M G' M' ∧ t { D with nx := u D } σ G' M'
theorem jss_nil : JSs X W [] kNext := pss_mono pss_nil fun D σ H ⟨G, M, d, hv, h, en⟩ => en.nx σ G M H hv h
theorem jss_cons (h1 : JS X W s t) (h2 : JSs X W ss u) : JSs X W (s :: ss) (kSeq t u) := pss_mono (pss_cons h1 h2) fun D σ H ⟨G, M, d, hv, ⟨G', M', wk, h⟩, en⟩ =>
  ⟨G', M', _, wk H hv, h, ⟨fun σ' G2 M2 H2 hv2 q => ⟨G2, M2, d, hv2, q, en⟩, en.rt, en.bk, en.ct, en.xc⟩⟩
def kSet (i : Nat) (t : KE) : KS := fun D σ G M => t σ G M (fun v G M => D.nx (σ.set i (some v)) G M) (D.x σ)
theorem js_set {i : Nat} {x : Str} {t : KE} {pos' : Pos} (he : JE X W e t) (hN : X.N.Nodup) (hi : X.N[i]? = some x := by rfl) (hx : Loc X.env.scope x := by first | exact Or.inl rfl | exact Or.inr rfl)
    (hs : swapsWith e (some (.Name x pos')) pos.line X.env = pure false := by rfl) (hf : X.fn x = true ∨ X.env.scope.names.lookup x = some .local := by first | exact .inl rfl | exact .inr rfl | assumption) :
    JS X W (.Assign [.Name x pos'] e pos) (kSet i t) := ps_mono (ps_set hN hi hx he hs hf) fun D σ H ⟨G, M, d, hv, h, en⟩ =>
  ⟨G, M, _, _, hv, h, fun v G' M' H' hv' q => en.nx _ G' M' H' hv' q, fun c a G' M' H' hv' q => en.xc c a σ G' M' H' hv' q⟩
def kExpr (t : KE) : KS := fun D σ G M => t σ G M (fun _ G M => D.nx σ G M) (D.x σ)
theorem js_expr {t : KE} (he : JE X W e t) (hs : swapsWith e none pos.line X.env = pure false := by rfl) : JS X W (.Expr e pos) (kExpr t) := ps_mono (ps_expr he hs) fun D σ H ⟨G, M, d, hv, h, en⟩ =>
  ⟨G, M, _, _, hv, h, fun v G' M' H' hv' q => en.nx _ G' M' H' hv' q, fun c a G' M' H' hv' q => en.xc c a σ G' M' H' hv' q⟩
def kRet (t : KE) : KS := fun D σ G M => t σ G M D.rt (D.x σ)
theorem js_ret {t : KE} (he : JE X W e t) : JS X W (.Return (some e) pos) (kRet t) := ps_mono (ps_ret he) fun D σ H ⟨G, M, d, hv, h, en⟩ =>
  ⟨G, M, _, _, hv, h, fun v G' M' H' hv' q => en.rt _ G' M' H' hv' q, fun c a G' M' H' hv' q => en.xc c a σ G' M' H' hv' q⟩
def kIf (c : KT) (t u : KS) : KS := fun D σ G M => c σ G M (fun b G M => if b = true then t D σ G M else u D σ G M) (D.x σ)
theorem js_if {c : Expr} {a b : List Stmt} {tc : KT} (hc : JT X W c tc) (ha : JSs X W a t) (hb : JSs X W b u) : JS X W (.If c a b pos) (kIf tc t u) := ps_mono (ps_if hc ha hb) fun D σ H ⟨G, M, d, hv, h, en⟩ =>
  ⟨G, M, _, _, hv, h, fun v G' M' H' hv' q => by
    cases v with
    | true => rw [if_pos rfl] at q ⊢; exact ⟨G', M', d, hv', q, en⟩
    | false => rw [if_neg Bool.false_ne_true] at q ⊢; exact ⟨G', M', d, hv', q, en⟩, fun c a G' M' H' hv' q => en.xc c a σ G' M' H' hv' q⟩
/-! ### targets -/
structure KG where
  val : V → St → Hp → Mem → (St → Hp → Mem → Prop) → Prop
  tup : List V → St → Hp → Mem → (St → Hp → Mem → Prop) → Prop
structure JG (X : Cx) (tg : Expr) (g : KG) (gr : TG) : Prop where
  pg : PG X tg gr
  val : ∀ v σ G M R H Q, Hv G M H → g.val v σ G M R → (∀ σ' G' M' H', Hv G' M' H' → R σ' G' M' → Q σ' H') → gr v σ H Q
  tup : ∀ T vs σ G M R H Q, Hv G M H → H T = none → g.tup vs σ G M R → (∀ σ' G' M' H', Hv G' M' H' → R σ' G' M' → Q σ' H') → gr (.ref T) σ (upd H T (.tup vs)) Q
def kgName (i : Nat) : KG := ⟨fun v σ G M R => R (σ.set i (some v)) G M, fun vs σ G M R => ∀ T, Fr G M T → R (σ.set i (some (.ref T))) (upd G T (.tup vs)) M⟩
theorem jg_name {i : Nat} {x : Str} (hN : X.N.Nodup) (hi : X.N[i]? = some x := by rfl) (hx : Loc X.env.scope x := by first | exact Or.inl rfl | exact Or.inr rfl) (hf : X.fn x = true ∨ X.env.scope.names.lookup x = some .local := by first | exact .inl rfl | exact .inr rfl | assumption) : JG X (.Name x pos) (kgName i) (gName i) :=
  ⟨pg_name hN hi hx hf, fun v σ G M R H Q hv h hR => hR _ G M H hv h, fun T vs σ G M R H Q hv hT h hR => hR _ _ M _ (hv.newG hT) (h T (hv.fr hT))⟩
/-- several targets at once -/
abbrev KGs := List V → St → Hp → Mem → (St → Hp → Mem → Prop) → Prop
def kgsNil : KGs := fun vs σ G M R => match vs with
  | [] => R σ G M
  | _ => False
def kgsCons (g : KG) (r : KGs) : KGs := fun vs σ G M R => match vs with
  | v :: vs => g.val v σ G M (fun σ G M => r vs σ G M R)
  | [] => False
structure JGs (X : Cx) (ts : List Expr) (g : KGs) (gr : TGs) : Prop where
  pgs : PGs X ts gr
  sim : ∀ vs σ G M R H Q, Hv G M H → g vs σ G M R → (∀ σ' G' M' H', Hv G' M' H' → R σ' G' M' → Q σ' H') → gr vs σ H Q
theorem jgs_nil : JGs X [] kgsNil gNil := ⟨pgs_nil, fun vs σ G M R H Q hv h hR => by
  match vs, h with
  | [], h => exact ⟨rfl, hR _ G M H hv h⟩⟩
theorem jgs_cons {tg : Expr} {ts : List Expr} {g : KG} {r : KGs} {gr : TG} {gs : TGs} (h1 : JG X tg g gr) (hr : JGs X ts r gs)
    (hs : (assignEach (tg :: ts) X.env).map (·.2) = assign tg X.env :: (assignEach ts X.env).map (·.2) := by rfl) : JGs X (tg :: ts) (kgsCons g r) (gCons gr gs) :=
  ⟨pgs_cons h1.pg hr.pgs hs, fun vs σ G M R H Q hv h hR => by
    match vs, h with
    | v :: vs, h => exact ⟨v, vs, rfl, h1.val v σ G M _ H _ hv h fun σ' G' M' H' hv' q => hr.sim vs σ' G' M' R H' Q hv' q hR⟩⟩
def onLen (n : Nat) (g : KGs) : KGs := fun vs σ G M R => match vs.length == n with
  | true => g vs σ G M R
  | false => False
theorem onLen_of {n : Nat} {g : KGs} {vs : List V} {σ : St} {G : Hp} {M : Mem} {R : St → Hp → Mem → Prop} (h : onLen n g vs σ G M R) : vs.length = n ∧ g vs σ G M R := by
  refine of_now ?_
  simp (disch := with_unfolding_all
    unfold onLen at h
    split at h
    · rename_i e; exact ⟨beq_iff_eq.mp e, h⟩
    · exact h.elim) only [↓now_true]
def kgTup (K : PySem.W.Frag) (n : Nat) (g : KGs) : KG := ⟨fun v σ G M R => match v with
    | .ref a => ∃ xs, SqT K G a xs ∧ onLen n g xs σ G M R
    | _ => False, onLen n g⟩
theorem jg_tup {K : PySem.W.Frag} {ts : List Expr} {g : KGs} {gs : TGs} {n k : Nat} (hc : X.calm = true) (h : JGs X ts g gs) (hK : X.K = K := by rfl) (hn : (assignEach ts X.env).length = n := by rfl) (hst : (assignEach ts X.env).findIdx? (·.1) = none := by rfl) :
    JG X (.Tuple ts k pos) (kgTup K n g) (gTup K n gs) := by
  refine of_now ?_
  simp (disch := with_unfolding_all
    subst hK
    exact ⟨pg_tup hc h.pgs hn hst, fun v σ G M R H Q hv q hR => by
      match v, q with
      | .ref a, ⟨xs, q1, q2⟩ =>
        obtain ⟨e, q3⟩ := onLen_of q2
        exact ⟨a, xs, rfl, hv.tup q1, e, h.sim xs σ G M R H Q hv q3 hR⟩,
     fun T vs σ G M R H Q hv hT q hR => by
      obtain ⟨e, q3⟩ := onLen_of q
      exact ⟨T, vs, rfl, .inl (.inl upd_same), e, h.sim vs σ G M R _ Q (hv.junk hT) q3 hR⟩⟩) only [↓now_true]
/-- nothing is raised -/
def W0 : WX := fun _ _ _ _ => False
/-- a place of a list as a target -/
def setL (o i v : V) (G : Hp) (M : Mem) (R : Hp → Mem → Prop) : Prop := match o, i with
  | .ref a, .int k => ∃ n xs j, M[n]? = some (a, .lst xs) ∧ ixN xs.length k = some j ∧ R G (M.set n (a, .lst (xs.set j v)))
  | _, _ => False
def kgIx (to ti : KE) : KG := ⟨fun v σ G M R => to σ G M (fun o G M => ti σ G M (fun i G M => setL o i v G M (fun G M => R σ G M)) (fun _ _ _ _ => False)) (fun _ _ _ _ => False), fun _ _ _ _ _ => False⟩
theorem jg_ix {o i : Expr} {to ti : KE} (ho : JE X W0 o to) (hi : JE X W0 i ti)
    (ha : ∀ v, assign (.Subscript o i pos) X.env v = (do
      let ov ← holding [v] (eval o X.env)
      let iv ← holding [v, ov] (eval i X.env)
      standAt pos
      holding [v, ov, iv] (setItem ov iv v)
      release [v, ov, iv] []) := by intro _; rfl) : JG X (.Subscript o i pos) (kgIx to ti) (gSub (upG W0 to) (upG W0 ti) rSetL) :=
  ⟨pg_sub ho hi set_list ha, fun v σ G M R H Q hv q hR => ⟨G, M, _, _, hv, q, fun ov G2 M2 H2 hv2 q2 => ⟨G2, M2, _, _, hv2, q2, fun iv G3 M3 H3 hv3 q3 => by
    match ov, iv, q3 with
    | .ref a, .int k, ⟨n, xs, j, e1, e2, q⟩ => exact ⟨a, xs, k, j, rfl, rfl, hv3.get e1, e2, hR σ G3 _ _ (hv3.set e1) q⟩, fun _ _ _ _ _ _ z => z.elim⟩, fun _ _ _ _ _ _ z => z.elim⟩,
   fun _ _ _ _ _ _ _ _ _ _ z => z.elim⟩
/-- a target of an assignment -/
def kAsg (t : KE) (g : KG) : KS := fun D σ G M => t σ G M (fun v G M => g.val v σ G M D.nx) (D.x σ)
theorem js_asg {tg : Expr} {t : KE} {g : KG} {gr : TG} (he : JE X W e t) (hg : JG X tg g gr) (hs : swapsWithSole [tg] e pos.line X.env = pure false := by rfl) (hw : swappedStores [tg] e X.env = pure none := by rfl)
    (h1 : (assignEach [tg] X.env).map (·.2) = [assign tg X.env] := by rfl) : JS X W (.Assign [tg] e pos) (kAsg t g) := ps_mono (ps_asg he hg.pg hs hw h1) fun D σ H ⟨G, M, d, hv, h, en⟩ =>
  ⟨G, M, _, _, hv, h, fun v G' M' H' hv' q => hg.val v σ G' M' _ H' _ hv' q fun σ' G2 M2 H2 hv2 q2 => en.nx _ G2 M2 H2 hv2 q2, fun c a G' M' H' hv' q => en.xc c a σ G' M' H' hv' q⟩
end
end BT
set_option Elab.async false
set_option linter.all false
set_option maxRecDepth 100000
set_option maxHeartbeats 4000000
namespace BT
open PySem PySem.Spec L2
open PyProof.Rows hiding St
/-! ### what is walked -/
structure Src where
  n : Nat
  get : Nat → V ⊕ List V
  ok : Hp → Mem → Prop
abbrev KI := KK Src
/-- an iterator that gives what the source says -/
structure Goes (src : Src) (J : It) : Prop where
  go : ∀ i G M H, Hv G M H → src.ok G M → i < src.n → J.go i H
  stop : ∀ i G M H, Hv G M H → src.ok G M → src.n ≤ i → J.stop i H
  yld : ∀ i G M H x H', Hv G M H → src.ok G M → i < src.n → J.yld i H x H' → match src.get i with
    | .inl v => x = v ∧ H' = H
    | .inr vs => ∃ T, x = .ref T ∧ H T = none ∧ H' = upd H T (.tup vs)
def upI (W : WX) (t : KI) : TI := fun σ H Q => ∃ G M R E, Hv G M H ∧ t σ G M R E ∧ (∀ src G' M' H', Hv G' M' H' → R src G' M' → ∀ J, Goes src J → Q J H') ∧ (∀ c d G' M' H', Hv G' M' H' → E c d G' M' → W c d σ H')
def JI (X : Cx) (W : WX) (tg it : Expr) (t : KI) : Prop := PI X tg it (upI W t)
theorem pi_mono {X : Cx} {tg it : Expr} {t t' : TI} (h : PI X tg it t) (i : ∀ σ H Q, t' σ H Q → t σ H Q) : PI X tg it t' := ⟨fun pins s σ H Q I q => h.run pins s σ H Q I (i σ H Q q)⟩
def srcL (K : PySem.W.Frag) (a : Addr) (xs : List V) : Src := ⟨xs.length, fun i => .inl (xs.getD i .non), fun G M => LstAt K G M a xs⟩
def srcR (lo : Int) (n : Nat) : Src := ⟨n, fun i => .inl (.int (lo + i)), fun _ _ => True⟩
def srcC (lo c : Int) (n : Nat) : Src := ⟨n, fun i => .inl (.int (lo + (i : Nat) * c)), fun _ _ => True⟩
def srcE (K : PySem.W.Frag) (a : Addr) (xs : List V) : Src := ⟨xs.length, fun i => .inr [.int i, xs.getD i .non], fun G M => LstAt K G M a xs⟩
def srcZ (K : PySem.W.Frag) (a b : Addr) (xs ys : List V) : Src := ⟨min xs.length ys.length, fun i => .inr [xs.getD i .non, ys.getD i .non], fun G M => LstAt K G M a xs ∧ LstAt K G M b ys⟩
theorem getD_of {xs : List V} {i : Nat} {x : V} (h : xs[i]? = some x) : xs.getD i .non = x := by
  rw [List.getD_eq_getElem?_getD, h]; rfl
theorem get_lt {xs : List V} {i : Nat} (h : i < xs.length) : xs[i]? = some (xs.getD i .non) := by
  rw [List.getD_eq_getElem?_getD, List.getElem?_eq_getElem h]; rfl
theorem goes_L {K : PySem.W.Frag} {a : Addr} {xs : List V} : Goes (srcL K a xs) (Itl K a) where
  go := fun i G M H hv ok hi => ⟨xs, _, hv.lst ok, get_lt hi⟩
  stop := fun i G M H hv ok hi => ⟨xs, hv.lst ok, hi⟩
  yld := fun i G M H x H' hv ok hi y => ⟨(getD_of (y.2 xs (hv.lst ok))).symm, y.1⟩
theorem goes_R {lo : Int} {n : Nat} : Goes (srcR lo n) (Itr lo n) where
  go := fun i G M H hv ok hi => hi
  stop := fun i G M H hv ok hi => hi
  yld := fun i G M H x H' hv ok hi y => ⟨y.2, y.1⟩
theorem goes_C {lo c : Int} {n : Nat} : Goes (srcC lo c n) (Itc lo c n) where
  go := fun i G M H hv ok hi => hi
  stop := fun i G M H hv ok hi => hi
  yld := fun i G M H x H' hv ok hi y => ⟨y.2, y.1⟩
theorem goes_E {K : PySem.W.Frag} {a : Addr} {xs : List V} : Goes (srcE K a xs) (Ite K a) where
  go := fun i G M H hv ok hi => ⟨xs, _, hv.lst ok, get_lt hi⟩
  stop := fun i G M H hv ok hi => ⟨xs, hv.lst ok, hi⟩
  yld := fun i G M H x H' hv ok hi y => by
    obtain ⟨T, z, e1, e2, e3, e4⟩ := y
    have e5 := getD_of (e4 xs (hv.lst ok))
    exact ⟨T, e1, e2, by rw [e3, ← e5]⟩
theorem goes_Z {K : PySem.W.Frag} {a b : Addr} {xs ys : List V} : Goes (srcZ K a b xs ys) (Itz K a b) where
  go := fun i G M H hv ok hi => ⟨xs, ys, _, _, hv.lst ok.1, hv.lst ok.2, get_lt (Nat.lt_of_lt_of_le hi (Nat.min_le_left _ _)), get_lt (Nat.lt_of_lt_of_le hi (Nat.min_le_right _ _))⟩
  stop := fun i G M H hv ok hi => ⟨xs, ys, hv.lst ok.1, hv.lst ok.2, by
    have hi : min xs.length ys.length ≤ i := hi
    omega⟩
  yld := fun i G M H x H' hv ok hi y => by
    obtain ⟨T, z, w, e1, e2, e3, e4, e5⟩ := y
    have e6 := getD_of (e4 xs (hv.lst ok.1))
    have e7 := getD_of (e5 ys (hv.lst ok.2))
    exact ⟨T, e1, e2, by rw [e3, ← e6, ← e7]⟩
section
variable {X : Cx} {W : WX} {pos p tpos : Pos} {e e2 a b c : Expr} {es : List Expr} {tg : Expr}
def kiSeq (K : PySem.W.Frag) (t : KE) : KI := fun σ G M R E => t σ G M (fun x G M => match x with
  | .ref a => ∃ xs, LstAt K G M a xs ∧ R (srcL K a xs) G M
  | _ => False) E
theorem ji_list {t : KE} (h : JE X W e t) : JI X W tg e (kiSeq X.K t) := pi_mono (pi_list h) fun σ H Q ⟨G, M, R, E, hv, h, hR, hE⟩ => ⟨G, M, _, E, hv, h, fun x G1 M1 H1 hv1 q => by
    match x, q with
    | .ref a, ⟨xs, q1, q2⟩ => exact ⟨a, rfl, ⟨xs, hv1.lst q1⟩, hR _ G1 M1 H1 hv1 q2 _ goes_L⟩, hE⟩
/-- range(n), range(a, b), range(a, b, c) -/
def kiR1 (t : KA) : KI := fun σ G M R E => t σ G M (fun vs G M => match vs with
  | [.int j] => (-(2 ^ 62) ≤ j ∧ j < 2 ^ 62) ∧ R (srcR 0 j.toNat) G M
  | _ => False) E
def kiR3 (t : KA) : KI := fun σ G M R E => t σ G M (fun vs G M => match vs with
  | [.int i, .int j, .int c] => ∃ n, RgC i j c n ∧ R (srcC i c n) G M
  | _ => False) E
theorem ji_range1 {t : KA} (hm : X.mg "range" = none) (ha : JA X W [a] t) (hg : Gl X "range" := by rfl) (hs : starEach [a] X.env = [(false, eval a X.env)] := by rfl) : JI X W tg (.Call (.Name "range" p) [a] [] pos) (kiR1 t) :=
  pi_mono (pi_range1 hg hm ha hs) fun σ H Q ⟨G, M, R, E, hv, h, hR, hE⟩ => ⟨G, M, _, E, hv, h, fun vs G1 M1 H1 hv1 q => by
    match vs, q with
    | [.int j], ⟨⟨q1, q2⟩, q3⟩ => exact ⟨j, rfl, q1, q2, hR _ G1 M1 H1 hv1 q3 _ goes_R⟩, hE⟩
theorem ji_range3 {t : KA} (hm : X.mg "range" = none) (ha : JA X W [a, b, c] t) (hg : Gl X "range" := by rfl) (hs : starEach [a, b, c] X.env = (false, eval a X.env) :: starEach [b, c] X.env := by rfl) (hpl : (backTo pos (starEach [b, c] X.env)).any (·.1) = false := by rfl) : JI X W tg (.Call (.Name "range" p) [a, b, c] [] pos) (kiR3 t) :=
  pi_mono (pi_range3 hg hm ha hs hpl) fun σ H Q ⟨G, M, R, E, hv, h, hR, hE⟩ => ⟨G, M, _, E, hv, h, fun vs G1 M1 H1 hv1 q => by
    match vs, q with
    | [.int i, .int j, .int c], ⟨n, q1, q3⟩ => exact ⟨i, j, c, n, rfl, q1, hR _ G1 M1 H1 hv1 q3 _ goes_C⟩, hE⟩
def kiEnum (K : PySem.W.Frag) (t : KA) : KI := fun σ G M R E => t σ G M (fun vs G M => match vs with
  | [.ref a] => ∃ xs, LstAt K G M a xs ∧ R (srcE K a xs) G M
  | _ => False) E
def kiZip (K : PySem.W.Frag) (t : KA) : KI := fun σ G M R E => t σ G M (fun vs G M => match vs with
  | [.ref a, .ref b] => ∃ xs ys, LstAt K G M a xs ∧ LstAt K G M b ys ∧ R (srcZ K a b xs ys) G M
  | _ => False) E
variable {elts : List Expr} {kk : Nat}
theorem ji_enum {t : KA} (hm : X.mg "enumerate" = none) (ha : JA X W [e] t) (hg : Gl X "enumerate" := by rfl) (hs : starEach [e] X.env = [(false, eval e X.env)] := by rfl) : JI X W (.Tuple elts kk tpos) (.Call (.Name "enumerate" p) [e] [] pos) (kiEnum X.K t) :=
  pi_mono (pi_enum hg hm ha hs) fun σ H Q ⟨G, M, R, E, hv, h, hR, hE⟩ => ⟨G, M, _, E, hv, h, fun vs G1 M1 H1 hv1 q => by
    match vs, q with
    | [.ref a], ⟨xs, q1, q3⟩ => exact ⟨a, xs, rfl, hv1.lst q1, hR _ G1 M1 H1 hv1 q3 _ goes_E⟩, hE⟩
theorem ji_zip {t : KA} (hm : X.mg "zip" = none) (ha : JA X W [e, e2] t) (hg : Gl X "zip" := by rfl) (hs : starEach [e, e2] X.env = (false, eval e X.env) :: starEach [e2] X.env := by rfl) (hpl : (backTo pos (starEach [e2] X.env)).any (·.1) = false := by rfl) :
    JI X W (.Tuple elts kk tpos) (.Call (.Name "zip" p) [e, e2] [] pos) (kiZip X.K t) :=
  pi_mono (pi_zip hg hm ha hs hpl) fun σ H Q ⟨G, M, R, E, hv, h, hR, hE⟩ => ⟨G, M, _, E, hv, h, fun vs G1 M1 H1 hv1 q => by
    match vs, q with
    | [.ref a, .ref b], ⟨xs, ys, q1, q2, q3⟩ => exact ⟨a, b, xs, ys, rfl, hv1.lst q1, hv1.lst q2, hR _ G1 M1 H1 hv1 q3 _ goes_Z⟩, hE⟩
/-! ### for -/
def asg (g : KG) (w : V ⊕ List V) : St → Hp → Mem → (St → Hp → Mem → Prop) → Prop := match w with
  | .inl v => g.val v
  | .inr vs => g.tup vs
def wk1 (Pv : St → Hp → Mem → Prop) : St → Hp → Mem → Prop := fun σ G M => ∃ G' M', Wk G M G' M' ∧ Pv σ G' M'
def kFor (ti : KI) (g : KG) (tb : KS) : KS := fun D σ G M => ti σ G M (fun src G M => ∃ Pv : Nat → St → Hp → Mem → Prop, Pv 0 σ G M ∧ (∀ i σ G M, i ≤ src.n → Pv i σ G M → src.ok G M) ∧
  (∀ i σ G M, i < src.n → Pv i σ G M → asg g (src.get i) σ G M (fun σ G M => tb { D with nx := wk1 (Pv (i + 1)), ct := wk1 (Pv (i + 1)), bk := D.nx } σ G M)) ∧ (∀ σ G M, Pv src.n σ G M → D.nx σ G M)) (D.x σ)
theorem asg_sim {g : KG} {gr : TG} (hg : JG X tg g gr) {w : V ⊕ List V} {σ : St} {G : Hp} {M : Mem} {R : St → Hp → Mem → Prop} {H H' : Hp} {x : V} {Q : St → Hp → Prop} (hv : Hv G M H)
    (y : match w with | .inl v => x = v ∧ H' = H | .inr vs => ∃ T, x = .ref T ∧ H T = none ∧ H' = upd H T (.tup vs)) (h : asg g w σ G M R) (hR : ∀ σ' G' M' H', Hv G' M' H' → R σ' G' M' → Q σ' H') : gr x σ H' Q := by
  refine of_now ?_
  simp (disch := with_unfolding_all
    cases w with
    | inl v =>
      obtain ⟨rfl, rfl⟩ := y
      exact hg.val _ σ G M R _ Q hv h hR
    | inr vs =>
      obtain ⟨T, rfl, hT, rfl⟩ := y
      exact hg.tup T vs σ G M R H Q hv hT h hR) only [↓now_true]
theorem js_for {it : Expr} {body : List Stmt} {ti : KI} {g : KG} {gr : TG} {tb : KS} (hp : PassesOwn (model X.prog X.w) X.A X.env X.xe) (hc : X.calm = true) (hi : JI X W tg it ti) (hg : JG X tg g gr) (hb : JSs X W body tb)
    (hs : ∀ x, foldedSetIterable it X.env x = pure x := by intro _; rfl) : JS X W (.For tg it body [] pos) (kFor ti g tb) := ps_mono (ps_for hp hc hi hg.pg hb hs) fun D σ H ⟨G, M, d, hv, h, en⟩ => by
  refine ⟨G, M, _, _, hv, h, fun src G1 M1 H1 hv1 q J go => ?_, fun c a G' M' H' hv' q => en.xc c a σ G' M' H' hv' q⟩
  obtain ⟨Pv, p0, pok, pst, pend⟩ := q
  refine ⟨fun i m σ H => m = src.n - i ∧ i ≤ src.n ∧ ∃ G M, Hv G M H ∧ Pv i σ G M, ⟨src.n, by simp, Nat.zero_le _, G1, M1, hv1, p0⟩, ?_⟩
  rintro i m σ2 H2 ⟨rfl, hi2, G2, M2, hv2, p2⟩
  have ok := pok i σ2 G2 M2 hi2 p2
  by_cases hlt : i < src.n
  · refine .inr ⟨go.go i G2 M2 H2 hv2 ok hlt, fun σ' H' => ∃ G M, Hv G M H' ∧ Pv (i + 1) σ' G M, fun σ' H' ⟨G3, M3, hv3, p3⟩ => ⟨src.n - (i + 1), by omega, rfl, hlt, G3, M3, hv3, p3⟩, fun x H' y => ?_⟩
    refine asg_sim hg hv2 (go.yld i G2 M2 H2 x H' hv2 ok hlt y) (pst i σ2 G2 M2 hlt p2) fun σ3 G3 M3 H3 hv3 q3 => ?_
    have e1 : ∀ σ G M H, Hv G M H → wk1 (Pv (i + 1)) σ G M → ∃ G M, Hv G M H ∧ Pv (i + 1) σ G M := fun σ G M H hv ⟨G', M', wk, q⟩ => ⟨G', M', wk H hv, q⟩
    exact ⟨G3, M3, _, hv3, q3, ⟨e1, en.rt, en.nx, e1, en.xc⟩⟩
  · have e : i = src.n := by omega
    subst e
    exact .inl ⟨go.stop _ G2 M2 H2 hv2 ok (Nat.le_refl _), en.nx _ G2 M2 H2 hv2 (pend σ2 G2 M2 p2)⟩
/-! ### while -/
/-! ### list comprehensions -/
def E0 : KX := fun _ _ _ _ => False
def kYes : KT := fun _ G M R _ => R true G M
def JTs (X : Cx) (W : WX) (es : List Expr) (t : KT) : Prop := PTs X es (upG W t)
theorem jts_nil : JTs X W [] kYes := ⟨fun pins s σ H Q I ⟨G, M, R, E, hv, h, hR, _⟩ => pts_nil.run pins s σ H Q I (hR _ G M H hv h)⟩
theorem jts_one {t : KT} (h : JT X W c t) : JTs X W [c] t := pts_one h
def kComp (ti : KI) (g : KG) (tt : KT) (te : KE) (own : List Nat) : KE := fun σ G M R E => ti σ G M (fun src G M => src.n ≤ sizeLine ∧ ∃ Pv : Nat → List V → Hp → Mem → Prop, Pv 0 [] G M ∧ (∀ i acc G M, i ≤ src.n → Pv i acc G M → src.ok G M) ∧
  (∀ i acc G M D, i < src.n → acc.length ≤ i → Pv i acc G M → Fr G M D → asg g (src.get i) (wipe σ own) G ((D, .lst acc) :: M) (fun σ2 G M => wipe σ2 own = wipe σ own ∧ tt σ2 G M (fun b G M =>
    if b = true then te σ2 G M (fun y G M => ∃ G' M', Wk G M G' ((D, .lst acc) :: M') ∧ Pv (i + 1) (acc ++ [y]) G' M') E0 else ∃ G' M', Wk G M G' ((D, .lst acc) :: M') ∧ Pv (i + 1) acc G' M') E0)) ∧
  (∀ acc G M p, Pv src.n acc G M → acc.length ≤ src.n → Fr G M p → R (.ref p) G ((p, .lst acc) :: M))) E
theorem comp_sim {K : PySem.W.Frag} {ti : KI} {g : KG} {gr : TG} {tt : KT} {te : KE} {own : List Nat} {σ : St} {H : Hp} {Q : VK}
    (hgv : ∀ v σ G M R H Q, Hv G M H → g.val v σ G M R → (∀ σ' G' M' H', Hv G' M' H' → R σ' G' M' → Q σ' H') → gr v σ H Q)
    (hgt : ∀ T vs σ G M R H Q, Hv G M H → H T = none → g.tup vs σ G M R → (∀ σ' G' M' H', Hv G' M' H' → R σ' G' M' → Q σ' H') → gr (.ref T) σ (upd H T (.tup vs)) Q)
    (h : upG W (kComp ti g tt te own) σ H Q) : tLc (upI W ti) gr (upG W0 tt) (upG W0 te) own σ H Q := by
  refine of_now ?_
  simp (disch := with_unfolding_all
    obtain ⟨G, M, R, E, hv, h, hR, hE⟩ := h
    refine ⟨G, M, _, E, hv, h, fun src G1 M1 H1 hv1 q J go => ?_, hE⟩
    obtain ⟨hn, Pv, p0, pok, pst, pend⟩ := q
    intro D hD
    refine ⟨fun i m H => m = src.n - i ∧ i ≤ src.n ∧ ∃ acc G M, acc.length ≤ i ∧ Hv G ((D, .lst acc) :: M) H ∧ Pv i acc G M, ⟨src.n, by simp, Nat.zero_le _, [], G1, M1, Nat.le_refl _, hv1.newM hD, p0⟩, ?_⟩
    rintro i m H2 ⟨rfl, hi2, acc, G2, M2, hacc, hv2, p2⟩
    have hv2' : Hv G2 M2 H2 := Wk.drop0 H2 hv2
    have ok := pok i acc G2 M2 hi2 p2
    have fD : Fr G2 M2 D := by
      refine ⟨hv2.dj (D, .lst acc) List.mem_cons_self, fun x hx e => ?_⟩
      have nd := hv2.nd
      rw [List.map_cons, List.nodup_cons] at nd
      exact nd.1 (by rw [← e]; exact List.mem_map.mpr ⟨x, hx, rfl⟩)
    by_cases hlt : i < src.n
    · refine .inr ⟨go.go i G2 M2 H2 hv2' ok hlt, fun H' => ∃ acc G M, acc.length ≤ i + 1 ∧ Hv G ((D, .lst acc) :: M) H' ∧ Pv (i + 1) acc G M, fun H' ⟨acc', G3, M3, l3, hv3, p3⟩ => ⟨src.n - (i + 1), by omega, rfl, hlt, acc', G3, M3, l3, hv3, p3⟩, fun x H' y => ?_⟩
      have step := pst i acc G2 M2 D hlt hacc p2 fD
      have yy := go.yld i G2 M2 H2 x H' hv2' ok hlt y
      have fin : ∀ σ3 G3 M3 H3, Hv G3 M3 H3 → (wipe σ3 own = wipe σ own ∧ tt σ3 G3 M3 (fun b G M =>
          if b = true then te σ3 G M (fun y G M => ∃ G' M', Wk G M G' ((D, .lst acc) :: M') ∧ Pv (i + 1) (acc ++ [y]) G' M') E0 else ∃ G' M', Wk G M G' ((D, .lst acc) :: M') ∧ Pv (i + 1) acc G' M') E0) →
          (wipe σ3 own = wipe σ own ∧ upG W0 tt σ3 H3 fun b H3 => if b = true then upG W0 te σ3 H3 fun y H4 => ∃ acc, H4 D = some (.lst acc) ∧ acc.length < sizeLine ∧ (∃ acc' G M, acc'.length ≤ i + 1 ∧ Hv G ((D, .lst acc') :: M) (upd H4 D (.lst (acc ++ [y]))) ∧ Pv (i + 1) acc' G M) else ∃ acc' G M, acc'.length ≤ i + 1 ∧ Hv G ((D, .lst acc') :: M) H3 ∧ Pv (i + 1) acc' G M) := by
        rintro σ3 G3 M3 H3 hv3 ⟨ew, q3⟩
        refine ⟨ew, G3, M3, _, _, hv3, q3, fun b G4 M4 H4 hv4 q4 => ?_, fun _ _ _ _ _ _ z => z.elim⟩
        cases b with
        | true =>
          rw [if_pos rfl] at q4 ⊢
          refine ⟨G4, M4, _, _, hv4, q4, fun y G5 M5 H5 hv5 ⟨G6, M6, wk, p6⟩ => ?_, fun _ _ _ _ _ _ z => z.elim⟩
          have hv6 := wk H5 hv5
          refine ⟨acc, hv6.mu (D, .lst acc) List.mem_cons_self, by omega, acc ++ [y], G6, M6, by rw [List.length_append]; exact Nat.succ_le_succ hacc, ?_, p6⟩
          exact hv6.set (n := 0) (o' := .lst (acc ++ [y])) rfl
        | false =>
          rw [if_neg Bool.false_ne_true] at q4 ⊢
          obtain ⟨G6, M6, wk, p6⟩ := q4
          exact ⟨acc, G6, M6, by omega, wk H4 hv4, p6⟩
      revert yy step
      cases src.get i with
      | inl v =>
        rintro step ⟨rfl, rfl⟩
        exact hgv _ _ G2 _ _ _ _ hv2 step fin
      | inr vs =>
        rintro step ⟨T, rfl, hT, rfl⟩
        exact hgt T vs _ G2 _ _ _ _ hv2 hT step fin
    · have e : i = src.n := by omega
      subst e
      exact .inl ⟨go.stop _ G2 M2 H2 hv2' ok (Nat.le_refl _), hR _ _ _ _ hv2 (pend acc G2 M2 D p2 hacc fD)⟩) only [↓now_true]
variable {elt it : Expr} {ifs : List Expr} {scope : Scope} {own : List (Str × Nat)} {spos py : Pos}
theorem je_comp {ti : KI} {g : KG} {gr : TG} {tt : KT} {te : KE} (hc : X.calm = true) (hN : X.N.Nodup) (hi : JI X W tg it ti) (ok : BlkOk X.N X.env.scope scope own)
    (hg : ∀ (s : Shared) (H : Hp) (C : Addr) (cl : List (Str × Addr)) (fp : List Addr), JG (X.blk s H scope (compEnvC scope cl C X.env) fp) tg g gr) (ht : ∀ (s : Shared) (H : Hp) (C : Addr) (cl : List (Str × Addr)) (fp : List Addr), JTs (X.blk s H scope (compEnvC scope cl C X.env) fp) W0 ifs tt)
    (he : ∀ (s : Shared) (H : Hp) (C : Addr) (cl : List (Str × Addr)) (fp : List Addr), JE (X.blk s H scope (compEnvC scope cl C X.env) fp) W0 elt te) (hs : ∀ x, foldedSetIterable it X.env x = pure x := by intro _; rfl) :
    JE X W (.ListComp elt [⟨tg, it, ifs, 0⟩] scope pos) (kComp ti g tt te (own.map (·.2))) :=
  pe_mono (pe_lc hc hN hi ok (fun s H C cl fp => (hg s H C cl fp).pg) ht he hs) fun σ H Q h =>
    comp_sim (K := X.K) (fun v σ G M R H Q hv => ((hg X.s_0 H 0 [] []).val v σ G M R H Q hv)) (fun T vs σ G M R H Q hv => ((hg X.s_0 H 0 [] []).tup T vs σ G M R H Q hv)) h
end
/-! ### a def -/
/-- what is known may be weakened at the end -/
def wkR (R : KR) : KR := fun v G M => ∀ H, Hv G M H → ∃ G' M', Hv G' M' H ∧ R v G' M'
def wkX (Z : KX) : KX := fun c d G M => ∃ G' M', Wk G M G' M' ∧ Z c d G' M'
theorem ret0 {R : KR} {v : V} {G : Hp} {M : Mem} (h : R v G M) : wkR R v G M := fun _ hv => ⟨G, M, hv, h⟩
theorem retW {R : KR} {v : V} {G G' : Hp} {M M' : Mem} (w : Wk G M G' M') (h : R v G' M') : wkR R v G M := fun H hv => ⟨G', M', w H hv, h⟩
section
variable {P : Program} {w : World} {K : PySem.W.Frag} {mg : Str → Option Value} {base : Heap}
theorem fn_ok {x qual : Str} {st : Stmt} {f : Addr} {fd : FuncData} {N ps : List Str} {k : Nat} {S : KSp} (F : Fun K x qual st f fd) (sc : FnScope N ps (defScope st)) (len : ∀ vs G M R X, S vs G M R X → vs.length = ps.length)
    (hbody : ∀ (cdv : Value) (A : Around) (outer : List Env) (s : Shared) (H : Hp) (E : XK), Room k (A.deeper (envOfC qual (defScope st) s.heap.objs.size f cdv)) →
      ∃ t, JSs (cxOf (L2.CX P w) P w K mg base N qual (defScope st) f cdv A outer s H E) (fun c d _ H => E c d H) (defBody st) t ∧
        ∀ vs G M R Z, S vs G M R Z → t { nx := fun _ G M => wkR R .non G M, rt := wkR R, xc := fun c d _ G M => wkX Z c d G M } (start N vs) G M) : FnOk P w K mg base (L2.CX P w) (k + 1) f fd ps (lift S) := by
  refine of_now ?_
  simp (disch := with_unfolding_all
    refine F.okX sc (fun vs H Q E ⟨G, M, R, Z, _, h, _⟩ => len vs G M R Z h) fun cdv A outer s H vs Q E hr ⟨G, M, R, Z, hv, h, hR, hZ⟩ => ?_
    obtain ⟨t, j, q⟩ := hbody cdv A outer s H E hr
    exact ⟨_, j, G, M, _, hv, q vs G M R Z h, ⟨fun σ G M H hv h => (h H hv).elim fun G' h => h.elim fun M' h => hR _ G' M' H h.1 h.2, fun v G M H hv h => (h H hv).elim fun G' h => h.elim fun M' h => hR _ G' M' H h.1 h.2, fun _ _ _ _ _ z => z.elim, fun _ _ _ _ _ z => z.elim, fun c a σ G M H hv ⟨G', M', w, q⟩ => hZ c a G' M' H (w H hv) q⟩⟩) only [↓now_true]
/-- a def that keeps its promise -/
structure Def (P : Program) (w : World) (K : PySem.W.Frag) (mg : Str → Option Value) (base : Heap) (lev : Nat) (x : Str) (ps : List Str) (S : KSp) : Prop where
  ex : ∃ f fd, FnOk P w K mg base (L2.CX P w) lev f fd ps (lift S) ∧ mg x = some (.ref f) ∧ PySem.W.keepIn K (.ref f) = true ∧ Binds K fd ps []
end
section
variable {X : Cx} {W : WX} {pos p : Pos} {e : Expr} {es : List Expr} {x : Str} {k lev : Nat} {ps : List Str} {S : KSp} {t : KA}
theorem je_callD (D : Def X.prog X.w X.K X.mg X.base lev x ps S) (hr : Room k X.A) (tk : Takes X W) (ha : JA X W (e :: es) t) (hl : lev ≤ k := by decide) (hg : Gl X x := by rfl)
    (hdb : (x == ("__debug__" : Str)) = false := by decide) (he : starEach (e :: es) X.env = (false, eval e X.env) :: starEach es X.env := by rfl) (hpl : (backTo pos (starEach es X.env)).any (·.1) = false := by rfl) :
    JE X W (.Call (.Name x p) (e :: es) [] pos) (kCall S t) := by
  refine of_now ?_
  simp (disch := with_unfolding_all
    obtain ⟨f, fd, F, hm, hk, hb⟩ := D.ex
    exact je_call (F.mono hl) hr tk hm hk hb ha hg hdb he hpl) only [↓now_true]
end
end BT
set_option Elab.async false
set_option linter.all false
set_option maxRecDepth 100000
set_option maxHeartbeats 4000000
namespace BT
open PySem PySem.Spec L2
open PyProof.Rows hiding St
/-! ### promises by the number of arguments -/
def sp1 (f : V → Hp → Mem → KR → KX → Prop) : KSp := fun vs G M R Z => match vs with
  | [x] => f x G M R Z
  | _ => False
def sp2 (f : V → V → Hp → Mem → KR → KX → Prop) : KSp := fun vs G M R Z => match vs with
  | [x, y] => f x y G M R Z
  | _ => False
def sp3 (f : V → V → V → Hp → Mem → KR → KX → Prop) : KSp := fun vs G M R Z => match vs with
  | [x, y, z] => f x y z G M R Z
  | _ => False
def sp4 (f : V → V → V → V → Hp → Mem → KR → KX → Prop) : KSp := fun vs G M R Z => match vs with
  | [x, y, z, u] => f x y z u G M R Z
  | _ => False
section
variable {vs : List V} {G : Hp} {M : Mem} {R : KR} {Z : KX}
theorem sp1_of {f} (h : sp1 f vs G M R Z) : ∃ x, vs = [x] ∧ f x G M R Z := by
  refine of_now ?_
  simp (disch := with_unfolding_all
    match vs, h with
    | [x], h => exact ⟨x, rfl, h⟩) only [↓now_true]
theorem sp2_of {f} (h : sp2 f vs G M R Z) : ∃ x y, vs = [x, y] ∧ f x y G M R Z := by
  refine of_now ?_
  simp (disch := with_unfolding_all
    match vs, h with
    | [x, y], h => exact ⟨x, y, rfl, h⟩) only [↓now_true]
theorem sp3_of {f} (h : sp3 f vs G M R Z) : ∃ x y z, vs = [x, y, z] ∧ f x y z G M R Z := by
  refine of_now ?_
  simp (disch := with_unfolding_all
    match vs, h with
    | [x, y, z], h => exact ⟨x, y, z, rfl, h⟩) only [↓now_true]
theorem sp4_of {f} (h : sp4 f vs G M R Z) : ∃ x y z u, vs = [x, y, z, u] ∧ f x y z u G M R Z := by
  refine of_now ?_
  simp (disch := with_unfolding_all
    match vs, h with
    | [x, y, z, u], h => exact ⟨x, y, z, u, rfl, h⟩) only [↓now_true]
theorem sp_len1 {f} (h : sp1 f vs G M R Z) : vs.length = 1 := by obtain ⟨_, rfl, _⟩ := sp1_of h; rfl
theorem sp_len2 {f} (h : sp2 f vs G M R Z) : vs.length = 2 := by obtain ⟨_, _, rfl, _⟩ := sp2_of h; rfl
theorem sp_len3 {f} (h : sp3 f vs G M R Z) : vs.length = 3 := by obtain ⟨_, _, _, rfl, _⟩ := sp3_of h; rfl
theorem sp_len4 {f} (h : sp4 f vs G M R Z) : vs.length = 4 := by obtain ⟨_, _, _, _, rfl, _⟩ := sp4_of h; rfl
end
/-- what a body has at its ends -/
abbrev ends (R : KR) (Z : KX) : Kd := { nx := fun _ G M => wkR R .non G M, rt := wkR R, xc := fun c d _ G M => wkX Z c d G M }
/-! ### small helps -/
section
variable {K : PySem.W.Frag} {G : Hp} {M : Mem} {a p : Addr} {xs : List V} {o : HO} {n : Nat}
theorem lst_n (h : M[n]? = some (a, .lst xs)) : SeqAt' K G M a xs := .inl (.inl (List.mem_of_getElem? h))
theorem lat_n (h : M[n]? = some (a, .lst xs)) : LstAt K G M a xs := .inl (List.mem_of_getElem? h)
theorem lst_g (h : SqL K G a xs) : SeqAt' K G M a xs := .inl (.inr h)
theorem tup_g (h : SqT K G a xs) : SeqAt' K G M a xs := .inr h
theorem at_n (h : M[n]? = some (a, o)) : At G M a o := .inl (List.mem_of_getElem? h)
theorem set_n {x : Addr × HO} (h : M[n]? = some (p, o)) : (M.set n x)[n]? = some x := List.getElem?_set_self (List.getElem?_eq_some_iff.mp h).1
theorem sqt_new {xs : List V} : SqT K (upd G p (.tup xs)) p xs := .inl (.inl upd_same)
theorem sql_new {xs : List V} : SqL K (upd G p (.lst xs)) p xs := .inl (.inl upd_same)
theorem ite2' {c : Bool} {A B : Prop} (h1 : c = true → A) (h2 : c = false → B) : if c = true then A else B := by
  refine of_now ?_
  simp (disch := with_unfolding_all
    cases c with
    | true => rw [if_pos rfl]; exact h1 rfl
    | false => rw [if_neg Bool.false_ne_true]; exact h2 rfl) only [↓now_true]
theorem sz {n : Nat} (h : n ≤ 16777216) : n ≤ sizeLine := h
theorem tyl_n (h : M[n]? = some (a, .lst xs)) : ∀ H, Hv G M H → tyV K "list" (.ref a) H := fun H hv => .inl ⟨rfl, xs, .inl (.inl (hv.get h))⟩
end
/-! ### the law's pool of numbers -/
def pool (c s : Int) : HO := .lst [.int c, .int s]
def PoolOk (s : Int) : Prop := 0 ≤ s ∧ s < 2147483647
def S_law_take (K : PySem.W.Frag) : KSp := sp2 fun x y G M R Z => ∃ (p : Addr) (m : Int) (n : Nat) (c s : Int), x = .ref p ∧ y = .int m ∧ M[n]? = some (p, pool c s) ∧ PoolOk s ∧ 0 < m ∧ m < 2 ^ 200 ∧
  ∀ r c' s', 0 ≤ r → r < m → PoolOk s' → R (.int r) G (M.set n (p, pool c' s'))
def S_law_pool (K : PySem.W.Frag) : KSp := sp2 fun x y G M R Z => ∃ (a : Addr) (ns : List Int) (k : Int), x = .ref a ∧ y = .int k ∧ SqL K G a (ns.map V.int) ∧ 0 ≤ k ∧ k ≤ 100 ∧ ns.length ≤ 63 ∧
  ∀ p c s, Fr G M p → PoolOk s → R (.ref p) G ((p, pool c s) :: M)
end BT
set_option Elab.async false
set_option linter.all false
set_option maxRecDepth 100000
set_option maxHeartbeats 4000000
namespace BT
open PySem PySem.Spec L2
open PyProof.Rows hiding St
/-! ### shapes of data -/
inductive Shp : Nat → PyData → Prop
  | non {n} : Shp n .none
  | bl {n b} : Shp n (.bool b)
  | int {n i} : Shp n (.int i)
  | str {n x} : PyData.strOk x = true → Shp n (.str x)
  | list {n ds} : (∀ d, d ∈ ds → Shp n d) → Shp (n + 1) (.list ds)
  | tuple {n ds} : (∀ d, d ∈ ds → Shp n d) → Shp (n + 1) (.tuple ds)
theorem shp_all {n : Nat} (ih : ∀ d, Shp n d → d.canLay0 = true ∧ d.depth ≤ n) : ∀ ds : List PyData, (∀ d, d ∈ ds → Shp n d) → PyData.canLayAll0 ds = true ∧ PyData.depthAll ds ≤ n
  | [], _ => by
    refine ⟨by simp [PyData.canLayAll0], by simp [PyData.depthAll]⟩
  | d :: ds, h => by
    obtain ⟨a, b⟩ := ih d (h d List.mem_cons_self)
    obtain ⟨c, e⟩ := shp_all ih ds fun x hx => h x (List.mem_cons_of_mem _ hx)
    refine ⟨by simp [PyData.canLayAll0, a, c], ?_⟩
    show max d.depth (PyData.depthAll ds) ≤ n
    omega
theorem shp_of : ∀ (n : Nat) (d : PyData), Shp n d → d.canLay0 = true ∧ d.depth ≤ n
  | n, _, .non => by refine ⟨by simp [PyData.canLay0], by simp [PyData.depth]⟩
  | n, _, .bl => by refine ⟨by simp [PyData.canLay0], by simp [PyData.depth]⟩
  | n, _, .int => by refine ⟨by simp [PyData.canLay0], by simp [PyData.depth]⟩
  | n, _, .str h => by refine ⟨by simp [PyData.canLay0, h], by simp [PyData.depth]⟩
  | n + 1, .list ds, .list h => by
    obtain ⟨a, b⟩ := shp_all (shp_of n) ds h
    refine ⟨by simp [PyData.canLay0, a], ?_⟩
    show PyData.depthAll ds + 1 ≤ n + 1
    omega
  | n + 1, .tuple ds, .tuple h => by
    obtain ⟨a, b⟩ := shp_all (shp_of n) ds h
    refine ⟨by simp [PyData.canLay0, a], ?_⟩
    show PyData.depthAll ds + 1 ≤ n + 1
    omega
theorem Shp.shaped {n : Nat} {d : PyData} (h : Shp n d) (hn : n ≤ 64) : SeqAt.shaped d = true := by
  refine of_now ?_
  simp (disch := with_unfolding_all
    obtain ⟨a, b⟩ := shp_of n d h
    unfold SeqAt.shaped
    rw [a, decide_eq_true (Nat.le_trans b hn)]; rfl) only [↓now_true]
theorem Shp.refl {n : Nat} {d : PyData} (h : Shp n d) : PyData.eqv d d = true := by
  refine of_now ?_
  simp (disch := with_unfolding_all
    obtain ⟨a, b⟩ := shp_of n d h
    exact SeqAt.eqv_refl d a) only [↓now_true]
/-! ### data known -/
section
variable {K : PySem.W.Frag} {G G' : Hp} {M : Mem} {a : Addr} {v : V} {d : PyData} {vs : List V} {ds : List PyData}
def DatAll (K : PySem.W.Frag) (G : Hp) (M : Mem) (vs : List V) (ds : List PyData) : Prop := ∀ H, Hv G M H → DpAll K H vs ds
theorem dat_g (h : Dp K G v d) : DatAt K G M v d := fun H hv => ex_d hv.exx d h
theorem dats_g (h : DpAll K G vs ds) : DatAll K G M vs ds := fun H hv => ex_ds hv.exx ds h
theorem dat_list (h : LstAt K G M a vs) (hs : DatAll K G M vs ds) : DatAt K G M (.ref a) (.list ds) := fun H hv => .lst (hv.lst h) (hs H hv)
theorem dat_tup (h : SqT K G a vs) (hs : DatAll K G M vs ds) : DatAt K G M (.ref a) (.tuple ds) := fun H hv => .tup (hv.tup h) (hs H hv)
theorem dat_int {i : Int} : DatAt K G M (.int i) (.int i) := fun H hv => .int i
theorem dat_non : DatAt K G M .non .none := fun H hv => .non
theorem dat_str {i : Str} : DatAt K G M (.str i) (.str i) := fun H hv => .str i
theorem dats_nil : DatAll K G M [] [] := fun H hv => .nil
theorem dats_cons (h : DatAt K G M v d) (hs : DatAll K G M vs ds) : DatAll K G M (v :: vs) (d :: ds) := fun H hv => .cons (h H hv) (hs H hv)
theorem dpall_len : ∀ {vs : List V} {ds : List PyData}, DpAll K G vs ds → vs.length = ds.length
  | _, _, .nil => rfl
  | _, _, .cons _ b => by simp [dpall_len b]
theorem dpall_get : ∀ {vs : List V} {ds : List PyData} {i : Nat} {d : PyData}, DpAll K G vs ds → ds[i]? = some d → ∃ v, vs[i]? = some v ∧ Dp K G v d
  | _, _, _, _, .nil, e => by simp at e
  | _, _, 0, _, .cons a _, e => by
    rw [List.getElem?_cons_zero] at e
    cases e; exact ⟨_, rfl, a⟩
  | _, _, i + 1, d, .cons _ b, e => by
    obtain ⟨v, h1, h2⟩ := dpall_get (i := i) (d := d) b (by simpa using e)
    exact ⟨v, by simpa using h1, h2⟩
theorem dp_tup_inv (h : Dp K G v (.tuple ds)) : ∃ t xs, v = .ref t ∧ SqT K G t xs ∧ DpAll K G xs ds := by
  refine of_now ?_
  simp (disch := with_unfolding_all
    cases h with
    | tup s a => exact ⟨_, _, rfl, s, a⟩) only [↓now_true]
end
/-! ### pairs of ints -/
/-! ### lists of ints by place -/
section
theorem atI_int {ns : List Int} {k : Int} (h0 : 0 ≤ k) (h1 : k < ns.length) : atI (ns.map V.int) k = some (.int (ns.getD k.toNat 0)) := by
  refine of_now ?_
  simp (disch := with_unfolding_all
    obtain ⟨j, rfl⟩ : ∃ j : Nat, k = j := ⟨k.toNat, by omega⟩
    have hj : j < ns.length := by omega
    refine atI_nat ?_
    rw [List.getElem?_map, List.getElem?_eq_getElem hj, Int.toNat_natCast, List.getD_eq_getElem?_getD, List.getElem?_eq_getElem hj]; rfl) only [↓now_true]
theorem ixN_int {n : Nat} {k : Int} (h0 : 0 ≤ k) (h1 : k < n) : ixN n k = some k.toNat := by
  refine of_now ?_
  simp (disch := with_unfolding_all
    unfold ixN
    rw [if_pos h0, if_pos h1]) only [↓now_true]
theorem lat_cons {K : PySem.W.Frag} {G : Hp} {M : Mem} {a : Addr} {xs : List V} {x : Addr × HO} (h : LstAt K G M a xs) : LstAt K G (x :: M) a xs := by
  refine of_now ?_
  simp (disch := with_unfolding_all
    rcases h with h | h
    · exact .inl (List.mem_cons_of_mem _ h)
    · exact .inr h) only [↓now_true]
theorem lat_ex {K : PySem.W.Frag} {G G' : Hp} {M : Mem} {a : Addr} {xs : List V} (e : Ex G G') (h : LstAt K G M a xs) : LstAt K G' M a xs := by
  refine of_now ?_
  simp (disch := with_unfolding_all
    rcases h with h | h
    · exact .inl h
    · exact .inr (ex_l e h)) only [↓now_true]
theorem lat_0 {K : PySem.W.Frag} {G : Hp} {M : Mem} {a : Addr} {xs : List V} : LstAt K G ((a, .lst xs) :: M) a xs := .inl List.mem_cons_self
theorem mul_l {i j : Int} (h0 : -(2 ^ 64) < i) (h1 : i < 2 ^ 64) : MulOk i j := .inl (.inl ⟨h0, h1⟩)
theorem mul_r {i j : Int} (h0 : -(2 ^ 64) < j) (h1 : j < 2 ^ 64) : MulOk i j := .inl (.inr ⟨h0, h1⟩)
theorem divW {m : Int} (h0 : 0 < m) (h1 : m < 2 ^ 200) (c : Int) : CDivW c m := wide_div (b := 200) h0 (by omega) (by decide) (by decide)
theorem sz0 : (0 : Nat) ≤ sizeLine := by decide
theorem sz1 : (1 : Nat) ≤ sizeLine := by decide
theorem sz2 : (2 : Nat) ≤ sizeLine := by decide
theorem pow10_18 : CPow 10 18 := ⟨by decide, by decide, by decide⟩
end
end BT
namespace BT
open PySem PySem.Spec L2
section
variable {K : PySem.W.Frag} {G : Hp} {M : Mem} {a b : Addr} {vs ws : List V} {i : Nat} {v u : V} {g : KG} {σ : St} {R : St → Hp → Mem → Prop}
theorem asg_L (h : vs[i]? = some v) (q : g.val v σ G M R) : asg g ((srcL K a vs).get i) σ G M R := by
  refine of_now ?_
  simp (disch := with_unfolding_all
    show g.val (vs.getD i .non) σ G M R
    rw [getD_of h]; exact q) only [↓now_true]
theorem asg_E (h : vs[i]? = some v) (q : g.tup [.int i, v] σ G M R) : asg g ((srcE K a vs).get i) σ G M R := by
  refine of_now ?_
  simp (disch := with_unfolding_all
    show g.tup [.int i, vs.getD i .non] σ G M R
    rw [getD_of h]; exact q) only [↓now_true]
theorem asg_Z (h : vs[i]? = some v) (h2 : ws[i]? = some u) (q : g.tup [v, u] σ G M R) : asg g ((srcZ K a b vs ws).get i) σ G M R := by
  refine of_now ?_
  simp (disch := with_unfolding_all
    show g.tup [vs.getD i .non, ws.getD i .non] σ G M R
    rw [getD_of h, getD_of h2]; exact q) only [↓now_true]
end
end BT
namespace BT
open PySem PySem.Spec L2
/-- a cell becomes frozen -/
theorem frz {G : Hp} {M : Mem} {p : Addr} (o : HO) (h : Fr G M p) : ∃ G', Ex G G' ∧ G' p = some o ∧ Wk G ((p, o) :: M) G' M ∧ ∀ q M0, Fr G M0 q → q ≠ p → Fr G' M0 q :=
  ⟨upd G p o, Ex.new h, upd_same, Wk.frz0, fun q M0 f hq => ⟨by rw [upd_ne hq]; exact f.1, f.2⟩⟩
theorem Wk.nil' {G : Hp} {M : Mem} : Wk G M G [] := fun H h => ⟨h.ex, fun _ z => (nomatch z), List.nodup_nil, fun _ z => (nomatch z)⟩
theorem sql_of {K : PySem.W.Frag} {G : Hp} {a : Addr} {xs : List V} (h : G a = some (.lst xs)) : SqL K G a xs := .inl (.inl h)
theorem sqt_of {K : PySem.W.Frag} {G : Hp} {a : Addr} {xs : List V} (h : G a = some (.tup xs)) : SqT K G a xs := .inl (.inl h)
theorem Fr.cons {G : Hp} {M : Mem} {p : Addr} {x : Addr × HO} (h : Fr G (x :: M) p) : Fr G M p := ⟨h.1, fun y hy => h.2 y (List.mem_cons_of_mem _ hy)⟩
end BT
set_option Elab.async false
set_option linter.all false
set_option maxRecDepth 100000
set_option maxHeartbeats 4000000
namespace BT
open PySem PySem.Spec L2
open PyProof.Rows hiding St
/-- the slots at a body's start -/
def sta (n : Nat) (vs : List V) : St := vs.map some ++ List.replicate (n - vs.length) none
/-! ### ranges with a step -/
theorem rg_down {i j : Int} (hi : -1000000000000 < i) (hi2 : i < 1000000000000) (hj : -1000000000000 < j) (hj2 : j < 1000000000000) : RgC i j (-1) (i - j).toNat :=
  RgC.neg (by omega) (by omega) (by omega) (by omega)
section
variable {X : Cx} {W : WX} {pos : Pos} {a b c e : Expr} {es : List Expr}
/-! ### sorted, xs[::-1] -/
/-! ### in, not in: flat things in a list or a tuple -/
def kIn (neg : Bool) (K : PySem.W.Frag) : KR2 := fun x y G M R => match y with
  | .ref a => ∃ xs, SeqAt' K G M a xs ∧ flatV x = true ∧ xs.all flatV = true ∧ R (.bl (if neg then !inV x xs else inV x xs)) G M
  | _ => False
/-! ### list.index, list.insert, tuple(xs), bool(x), list(range) -/
def kIndex (K : PySem.W.Frag) : KM := fun x vs G M R => match x, vs with
  | .ref a, [y] => ∃ ys j z, LstAt K G M a ys ∧ flatV y = true ∧ ys.all flatV = true ∧ ys[j]? = some z ∧ eqV z y = true ∧ (∀ m z', m < j → ys[m]? = some z' → eqV z' y = false) ∧ R (.int (j : Nat)) G M
  | _, _ => False
end
end BT
namespace BT
open PySem PySem.Spec L2
open PyProof.Rows hiding St
theorem cx_none {P : Program} {w : World} {l : List Env} {H : Hp} {s : Shared} {e : Value} {s' : Shared} (h : L2.CX P w l H s (fun _ _ _ => False) e s') : False := by
  refine of_now ?_
  simp (disch := with_unfolding_all
    obtain ⟨_, _, _, _, _, _, _, _, _, _, _, _, z⟩ := h
    exact z.elim) only [↓now_true]
/-- a law's promise -/
def S_law (K : PySem.W.Frag) : KSp := sp1 fun x G M R Z => ∃ (a : Addr) (ns : List Int), x = .ref a ∧ SqL K G a (ns.map V.int) ∧ ns.length ≤ 63 ∧ ∀ G' M', R (.bl true) G' M'
theorem law_start {K : PySem.W.Frag} {H : Hp} {a : Addr} {ns : List Int} (hl : ns.length ≤ 63) (hS : SqL K H a (ns.map V.int)) : lift (S_law K) [.ref a] H (fun v _ => v = .bl true) fun _ _ _ => False :=
  ⟨H, [], fun v _ _ => v = .bl true, fun _ _ _ _ => False, Hv.self H, ⟨a, ns, rfl, hS, hl, fun _ _ => rfl⟩, fun _ _ _ _ _ h => h, fun _ _ _ _ _ _ z => z⟩
end BT
namespace BT
open PySem PySem.Spec L2
open PyProof.Rows hiding St
/-! ### is of None and of truths -/
def kIs2 (neg : Bool) : KR2 := fun x y G M R => match x, y with
  | .bl a, .bl b => R (.bl (if neg then !decide (a = b) else decide (a = b))) G M
  | x, .non => R (.bl (if neg then !decide (x = .non) else decide (x = .non))) G M
  | _, _ => False
theorem kop_is2 {X : Cx} : KOp X (compareOp .Is) (kIs2 false) := fun pins s σ H x y v u Q G M R I rx ry hv h hR => by
  cases y <;> cases x <;> first
    | exact op_isBl pins s σ H _ _ v u Q I rx ry ⟨_, _, rfl, rfl, hR _ G M H hv h⟩
    | exact op_isN pins s σ H _ _ v u Q I rx ry ⟨rfl, hR _ G M H hv h⟩
    | exact h.elim
/-! ### types of values -/
inductive PT | int | bool | non | str | list | tuple | dict
  deriving DecidableEq
def PT.name : PT → String
  | .int => "int" | .bool => "bool" | .non => "NoneType" | .str => "str" | .list => "list" | .tuple => "tuple" | .dict => "dict"
def TyK (K : PySem.W.Frag) (G : Hp) (M : Mem) (x : V) (T : PT) : Prop := ∀ H, Hv G M H → TyX K H x (.type T.name)
section
variable {K : PySem.W.Frag} {G : Hp} {M : Mem} {a : Addr} {xs : List V} {n : Nat}
theorem ty_int {i : Int} : TyK K G M (.int i) .int := fun H hv => .base (.int i)
theorem ty_non : TyK K G M .non .non := fun H hv => .base .non
theorem ty_lst (h : LstAt K G M a xs) : TyK K G M (.ref a) .list := fun H hv => by
  rcases hv.lst h with (z | ⟨o, z⟩) | ⟨o, its, m, z1, z2, _⟩
  · exact .base (.lst z)
  · exact .base (.frz z)
  · exact .kList z1 z2
theorem ty_tup (h : SqT K G a xs) : TyK K G M (.ref a) .tuple := fun H hv => by
  rcases hv.tup h with (z | ⟨o, z⟩) | ⟨o, its, m, z1, z2, _⟩
  · exact .base (.tup z)
  · exact .fTuple z
  · exact .kTuple z1 z2
/-- isinstance(x, T): both answers -/
def isaB (T U : PT) : Bool := T == U || (T == .bool && U == .int)
theorem kit_pt (T U : PT) : PySem.W.kitOne K (.type T.name) (.type U.name) = some (isaB T U) := by
  cases T <;> cases U <;> exact kit_ty (by decide +kernel)
theorem isi_pt {x : V} {T : PT} {R : KR} (U : PT) (h : TyK K G M x T) (q : R (.bl (isaB T U)) G M) : kIsi K [x, .ty U.name] G M R :=
  ⟨.type T.name, .type U.name, _, .ty U.name, h, kit_pt T U, q⟩
end
end BT
namespace BT
open PySem PySem.Spec L2
/-! ### steps by name -/
section
variable {D : Kd} {σ : St} {G : Hp} {M : Mem} {i : Nat} {te ta tb : KE}
end
end BT
set_option Elab.async false
set_option linter.all false
set_option maxRecDepth 100000
set_option maxHeartbeats 4000000
namespace BT
open PySem PySem.Spec L2
open PyProof.Rows hiding St
/-! ### own errors: raised, caught, held -/
/-- the address of a class, by its name -/
def cl (K : PySem.W.Frag) (x : Str) : Addr := match PySem.W.nsIn K mainGlobals x with
  | some (some (.ref a)) => a
  | _ => 0
theorem cl_of {K : PySem.W.Frag} {x : Str} {C : Addr} (a : PySem.W.nsIn K mainGlobals x = some (some (.ref C))) : cl K x = C := by
  refine of_now ?_
  simp (disch := with_unfolding_all
    unfold cl
    rw [a]) only [↓now_true]
/-- a class that is known -/
structure XG (K : PySem.W.Frag) (mg : Str → Option Value) (x : Str) : Prop where
  g : mg x = some (.ref (cl K x))
  k : PySem.W.keepIn K (.ref (cl K x)) = true
/-- a class without own __init__ under ValueError, to be raised -/
structure XR (K : PySem.W.Frag) (x : Str) : Prop where
  n : PySem.W.excIn K (cl K x) [.type "ValueError", .type "Exception", .type "BaseException", .type "object"] "ValueError.__new__" = true
  b : PySem.W.subIn K (.ref (cl K x)) (.type "BaseException") = some true
  t : PySem.W.typeIn K (.ref (cl K x)) = some (.type "type")
theorem xg_mk {K : PySem.W.Frag} {mg : Str → Option Value} {h : Heap} {x : Str} {C : Addr} (X : K.In h) (G : h.Ns mainGlobals mg) (a : PySem.W.nsIn K mainGlobals x = some (some (.ref C))) (k : PySem.W.keepIn K (.ref C) = true) : XG K mg x := by
  refine of_now ?_
  simp (disch := with_unfolding_all
    have e := cl_of a
    exact ⟨by rw [e]; exact PySem.W.mg_of X G a, by rw [e]; exact k⟩) only [↓now_true]
theorem xr_mk {K : PySem.W.Frag} {x : Str} {C : Addr} (a : PySem.W.nsIn K mainGlobals x = some (some (.ref C)))
    (q : PySem.W.excIn K C [.type "ValueError", .type "Exception", .type "BaseException", .type "object"] "ValueError.__new__" = true)
    (b : PySem.W.subIn K (.ref C) (.type "BaseException") = some true) (t : PySem.W.typeIn K (.ref C) = some (.type "type")) : XR K x := by
  refine of_now ?_
  simp (disch := with_unfolding_all
    have e := cl_of a
    exact ⟨by rw [e]; exact q, by rw [e]; exact b, by rw [e]; exact t⟩) only [↓now_true]
section
variable {X : Cx} {W : WX} {pos : Pos}
/-- raise C('m') -/
def kRaise (K : PySem.W.Frag) (x : Str) : KS := fun D σ G M => D.xc (.ref (cl K x)) none σ G M
theorem js_raise {x m : Str} {j : Nat} {p p2 pos2 : Pos} (g : XG X.K X.mg x) (r : XR X.K x) (tk : Takes X W) (hc : X.calm = true := by rfl) (hg : Gl X x := by rfl) (hdb : (x == ("__debug__" : Str)) = false := by decide) :
    JS X W (.Raise (some (.Call (.Name x p) [.Constant (.str m) j p2] [] pos2)) none pos) (kRaise X.K x) :=
  ps_mono (ps_raise hc tk (pmk_own PySem.F.excBase_ValueError r.n g.g g.k (raises_own r.b r.t) hg hdb)) fun D σ H ⟨G, M, d, hv, h, en⟩ => en.xc _ _ _ _ _ _ hv h

end

section
variable {X : Cx} {x n y : Str} {c : Value} {i j : Nat} {body : List Stmt} {np pos pos' q1 q2 q3 : Pos} {tb : WX → TS} {Wout : WX}
end
/-! ### the readings -/
section
variable {X : Cx} {W : WX} {pos : Pos}
end
end BT
set_option Elab.async false
set_option linter.all false
set_option maxRecDepth 100000
set_option maxHeartbeats 4000000
namespace BT
open PySem PySem.Spec L2
open PyProof.Rows hiding St
section
variable {X : Cx} {W : WX} {pos p : Pos} {a b : Expr}
/-! ### list(range(..)) -/
def rgL (i j : Int) (G : Hp) (M : Mem) (R : KR) : Prop := RgOk i j ∧ ∀ q, Fr G M q → R (.ref q) G ((q, .lst (rgV i j)) :: M)
def kListR1 (t : KE) : KE := fun σ G M R E => t σ G M (fun x G M => match x with
  | .int n => rgL 0 n G M R
  | _ => False) E
theorem je_listR1 {t : KE} {p2 pos2 : Pos} (hl : X.mg "list" = none) (hr : X.mg "range" = none) (ha : JE X W a t) (hc : X.calm = true := by rfl) (h1 : Gl X "list" := by rfl) (h2 : Gl X "range" := by rfl)
    (na : starEach [a] X.env = (false, eval a X.env) :: starEach [] X.env := by rfl) (nb : starEach [.Call (.Name "range" p2) [a] [] pos2] X.env = (false, eval (.Call (.Name "range" p2) [a] [] pos2) X.env) :: starEach [] X.env := by rfl) :
    JE X W (.Call (.Name "list" p) [.Call (.Name "range" p2) [a] [] pos2] [] pos) (kListR1 t) :=
  pe_mono (pe_listRg hc h1 hl (prg_1 h2 hr ha na) nb) fun σ H Q ⟨G, M, R, E, hv, h, hR, hE⟩ => ⟨G, M, _, E, hv, h, fun x G1 M1 H1 hv1 q => by
    match x, q with
    | .int n, ⟨q1, q2⟩ => exact ⟨n, rfl, q1, fun w hw => hR _ G1 _ _ (hv1.newM hw) (q2 w (hv1.fr hw))⟩, hE⟩
/-! ### an empty dict -/
/-! ### constants of the module -/
theorem je_const {x : Str} {v : V} (h : ∃ u, X.mg x = some u ∧ RelV v u) (hg : Gl X x := by rfl) (hd : (x == ("__debug__" : Str)) = false := by decide) : JE X W (.Name x pos) (kC v) := by
  refine of_now ?_
  simp (disch := with_unfolding_all
    obtain ⟨u, hm, r⟩ := h
    exact je_glob hm r hg hd) only [↓now_true]
structure XT (K : PySem.W.Frag) (mg : Str → Option Value) (x : Str) (xs : List V) : Prop where
  g : mg x = some (.ref (cl K x))
  s : ∀ H, SqT K H (cl K x) xs
end
/-! ### sum of a tuple -/
section
variable {prog : Program} {w : World} {A : Around} {E : Value → Shared → Prop} {s : Shared} {l : Addr} {its : List Value} {ns : List Int} {Q : Value → Shared → Prop}
end
section
variable {X : Cx}
end
end BT
set_option Elab.async false
set_option linter.all false
set_option maxRecDepth 100000
set_option maxHeartbeats 4000000
namespace BT
open PySem PySem.Spec L2
open PyProof.Rows hiding St
/-! ### len(set(xs)) of ints -/
theorem dedup_len : ∀ (l acc : List Int), (l.foldl step_dedup acc).length ≤ acc.length + l.length
  | [], acc => Nat.le_refl _
  | x :: l, acc => by
    have h := dedup_len l (step_dedup acc x)
    rw [step_length] at h
    rw [List.foldl_cons, List.length_cons]
    split at h <;> omega
theorem dedup_eq : ∀ (l acc : List Int), (l.foldl step_dedup acc).length = acc.length + l.length ↔ (l.Nodup ∧ ∀ x, x ∈ l → x ∉ acc)
  | [], acc => by simp
  | x :: l, acc => by
    rw [List.foldl_cons, List.length_cons]
    by_cases hx : acc.any (· == x) = true
    · have hm : x ∈ acc := by simpa using hx
      have h := dedup_len l (step_dedup acc x)
      rw [step_length, if_pos hx] at h
      constructor
      · intro e; omega
      · intro e; exact absurd hm (e.2 x List.mem_cons_self)
    · have hm : x ∉ acc := by simpa using hx
      have e1 : step_dedup acc x = acc ++ [x] := by unfold step_dedup; rw [if_neg hx]
      have ih := dedup_eq l (acc ++ [x])
      rw [List.length_append, List.length_singleton] at ih
      rw [e1, show acc.length + (l.length + 1) = acc.length + 1 + l.length by omega, ih, List.nodup_cons]
      constructor
      · rintro ⟨a, b⟩
        refine ⟨⟨fun z => b x z (by simp), a⟩, fun y hy => ?_⟩
        rcases List.mem_cons.mp hy with rfl | hy
        · exact hm
        · exact fun z => b y hy (List.mem_append.mpr (.inl z))
      · rintro ⟨⟨a, b⟩, c⟩
        refine ⟨b, fun y hy z => ?_⟩
        rcases List.mem_append.mp z with z | z
        · exact c y (List.mem_cons_of_mem _ hy) z
        · have : y = x := by simpa using z
          subst this; exact a hy
theorem range_getD (ns : List Int) : (List.range ns.length).map (fun i => ns.getD i 0) = ns := by
  refine of_now ?_
  simp (disch := with_unfolding_all
    apply List.ext_getElem (by simp)
    intro i h1 h2
    simp [List.getD_eq_getElem?_getD, List.getElem?_eq_getElem h2]) only [↓now_true]
section
variable {X : Cx} {W : WX}
def kLenSet (K : PySem.W.Frag) (t : KE) : KE := fun σ G M R E => t σ G M (fun x G M => match x with
  | .ref a => ∃ ns : List Int, LstAt K G M a (ns.map V.int) ∧ ns.length ≤ 4000 ∧ ∀ m : Nat, m ≤ ns.length → (m = ns.length ↔ ns.Nodup) → R (.int m) G M
  | _ => False) E
theorem je_lenSet {a : Expr} {ta : KE} {p p2 q pos : Pos} (hm : X.mg "len" = none) (hm2 : X.mg "set" = none) (ha : JE X W a ta) (hc : X.calm = true := by rfl) (hg : Gl X "len" := by rfl) (hg2 : Gl X "set" := by rfl)
    (na : starEach [a] X.env = (false, eval a X.env) :: starEach [] X.env := by rfl) : JE X W (.Call (.Name "len" p) [.Call (.Name "set" p2) [a] [] q] [] pos) (kLenSet X.K ta) := by
  refine ⟨fun pins s σ H Q I ⟨G, M, R, E, hv, h, hR, hE⟩ => ?_⟩
  refine Call_ (ld_blt I hg hm PySem.boot_len ?_)
  refine PyProof.Rows.callWith_builtin1 (PyProof.Rows.args_cons ?_ rfl) rfl rfl
  refine Call_ (ld_blt I hg2 hm2 PyProof.Rows.boot_set ?_)
  refine PyProof.Rows.callWith_type1 (PyProof.Rows.args_cons (thn (ha.run pins s σ H (fun x H1 => ∃ (l : Addr) (ns : List Int), x = V.ref l ∧ SqL X.K H1 l (ns.map V.int) ∧ ns.length ≤ 4000 ∧ ∀ m : Nat, m ≤ ns.length → (m = ns.length ↔ ns.Nodup) → Q (.int m) H1) I ?_) fun v s1 ⟨x, H1, I1, r1, q1⟩ => PyProof.Rows.args_nil ?_) na) na rfl
  · refine ⟨G, M, _, E, hv, h, fun x G1 M1 H1 hv1 q => ?_, hE⟩
    match x, q with
    | .ref a, ⟨ns, q1, q2, q3⟩ => exact ⟨a, ns, rfl, hv1.lst q1, q2, fun m e1 e2 => hR _ G1 M1 H1 hv1 (q3 m e1 e2)⟩
  obtain ⟨l, ns, rfl, hq, h1, q1⟩ := q1
  cases r1
  obtain ⟨its, r, pl, hz⟩ := I1.list hq
  have hl : its.toArray.size = ns.length := by rw [List.size_toArray, ← r.length, List.length_map]
  refine call_set_list (I1.ok.hd hc) pl.isList (ns := ns) (by simpa using r.ints) (by unfold scanBound; omega) fun h' tk hS hk => ?_
  rw [hl] at hS
  have em : firstMet (fun i => ns.getD i 0) ns.length = ns.foldl step_dedup [] := by
    unfold firstMet; rw [range_getD]
  rw [em] at hS
  have hle := dedup_len ns []
  have heq := dedup_eq ns []
  rw [List.length_nil, Nat.zero_add] at hle heq
  refine PyProof.Rows.args_nil ?_
  obtain ⟨o, es, ep, t, ho, hex, hd, _, _, _, hf, hn⟩ := hS
  have I2 : Inv X pins σ H1 { s1 with heap := h', toks := tk } := I1.kept fun b o e => hk b o (Heap.lt_size e) e
  refine call_len_set ho hex hd hf (by rw [hn] <;> omega) ⟨.int _, H1, I2.tok _, ⟨_, by rw [hn]⟩, q1 _ hle (heq.trans ⟨fun z => z.1, fun z => ⟨z, fun x _ => by simp⟩⟩)⟩
/-! ### reversed(range(..)) -/
def revR (i j : Int) (R : Src → Hp → Mem → Prop) (G : Hp) (M : Mem) : Prop := (-(2 ^ 62) ≤ i ∧ i < 2 ^ 62 ∧ -(2 ^ 62) ≤ j ∧ j < 2 ^ 62) ∧ R (srcC (i + (((j - i).toNat : Nat) : Int) - 1) (-1) (j - i).toNat) G M
def kiRv2 (t u : KE) : KI := fun σ G M R E => t σ G M (fun x G M => u σ G M (fun y G M => match x, y with
  | .int i, .int j => revR i j R G M
  | _, _ => False) E) E
theorem ji_rv2 {a b tg : Expr} {t u : KE} {p p2 pos pos2 : Pos} (hv : X.mg "reversed" = none) (hr : X.mg "range" = none) (ha : JE X W a t) (hb : JE X W b u) (h1 : Gl X "reversed" := by rfl) (h2 : Gl X "range" := by rfl)
    (na : starEach [a, b] X.env = (false, eval a X.env) :: starEach [b] X.env := by rfl) (nb : starEach [b] X.env = (false, eval b X.env) :: starEach [] X.env := by rfl) (hp : (backTo pos2 (starEach [b] X.env)).any (·.1) = false := by rfl)
    (nc : starEach [.Call (.Name "range" p2) [a, b] [] pos2] X.env = (false, eval (.Call (.Name "range" p2) [a, b] [] pos2) X.env) :: starEach [] X.env := by rfl) :
    JI X W tg (.Call (.Name "reversed" p) [.Call (.Name "range" p2) [a, b] [] pos2] [] pos) (kiRv2 t u) :=
  pi_mono (pi_revR h1 hv (prg_2 h2 hr ha hb na nb hp) nc) fun σ H Q ⟨G, M, R, E, hv, h, hR, hE⟩ => ⟨G, M, _, E, hv, h, fun x G1 M1 H1 hv1 q => ⟨G1, M1, _, E, hv1, q, fun y G2 M2 H2 hv2 q => by
    match x, y, q with
    | .int i, .int j, ⟨⟨q1, q2, q3, q4⟩, q5⟩ => exact ⟨i, j, rfl, rfl, q1, q2, q3, q4, hR _ G2 M2 H2 hv2 q5 _ goes_C⟩, hE⟩, hE⟩
/-! ### index, insert, pop, clear, tuple(), bool() -/
theorem km_index : KMt X "list.index" (kIndex X.K) := kmt_of mt_index fun x vs G M R H Q hv h hR => by
  match x, vs, h with
  | .ref a, [y], ⟨ys, j, z, h1, h2, h3, h4, h5, h6, h7⟩ => exact ⟨a, ys, y, j, z, rfl, rfl, hv.lst h1, h2, h3, h4, h5, h6, hR _ G M H hv h7⟩
def kInsert : KM := fun x vs G M R => match x, vs with
  | .ref a, [.int i, y] => ∃ n xs, M[n]? = some (a, .lst xs) ∧ xs.length < sizeLine ∧ 0 ≤ i ∧ i < 2 ^ 63 ∧ R .non G (M.set n (a, .lst (xs.take i.toNat ++ [y] ++ xs.drop i.toNat)))
  | _, _ => False
theorem km_insert : KMt X "list.insert" kInsert := kmt_of mt_insert fun x vs G M R H Q hv h hR => by
  match x, vs, h with
  | .ref a, [.int i, y], ⟨n, xs, h1, h2, h3, h4, h5⟩ => exact ⟨a, xs, i, y, rfl, rfl, hv.get h1, h2, h3, h4, hR _ G _ _ (hv.set h1) h5⟩
def kTuple (K : PySem.W.Frag) : KC := fun vs G M R => match vs with
  | [.ref a] => (∃ xs, LstAt K G M a xs ∧ ∀ p, Fr G M p → R (.ref p) (upd G p (.tup xs)) M) ∨ ∃ xs, SqT K G a xs ∧ R (.ref a) G M
  | _ => False
def kPopAt : KM := fun x vs G M R => match x, vs with
  | .ref a, [.int i] => ∃ n xs k y, M[n]? = some (a, .lst xs) ∧ -(2 ^ 63) ≤ i ∧ i < 2 ^ 63 ∧ seqIndex? i xs.length = some k ∧ xs[k]? = some y ∧ R y G (M.set n (a, .lst (xs.eraseIdx k)))
  | _, _ => False
def kPop : KM := fun x vs G M R => match x, vs with
  | .ref a, [] => ∃ n xs y, M[n]? = some (a, .lst xs) ∧ xs[xs.length - 1]? = some y ∧ R y G (M.set n (a, .lst xs.dropLast))
  | _, _ => False
def kClear : KM := fun x vs G M R => match x, vs with
  | .ref a, [] => ∃ n xs, M[n]? = some (a, .lst xs) ∧ R .non G (M.set n (a, .lst []))
  | _, _ => False
theorem km_popAt : KMt X "list.pop" kPopAt := kmt_of mt_popAt fun x vs G M R H Q hv h hR => by
  match x, vs, h with
  | .ref a, [.int i], ⟨n, xs, k, y, h1, h2, h3, h4, h5, h6⟩ => exact ⟨a, xs, i, k, y, rfl, rfl, hv.get h1, h2, h3, h4, h5, hR _ G _ _ (hv.set h1) h6⟩
theorem km_pop : KMt X "list.pop" kPop := kmt_of mt_pop fun x vs G M R H Q hv h hR => by
  match x, vs, h with
  | .ref a, [], ⟨n, xs, y, h1, h2, h3⟩ => exact ⟨a, xs, y, rfl, rfl, hv.get h1, h2, hR _ G _ _ (hv.set h1) h3⟩
theorem km_clear : KMt X "list.clear" kClear := kmt_of mt_clear fun x vs G M R H Q hv h hR => by
  match x, vs, h with
  | .ref a, [], ⟨n, xs, h1, h3⟩ => exact ⟨a, xs, rfl, rfl, hv.get h1, hR _ G _ _ (hv.set h1) h3⟩
/-! ### {k: v, ..} -/
end
end BT
namespace BT
open PySem PySem.Spec L2
/-- what is walked, behind which something may be forgotten -/
def kiW (t : KI) : KI := fun σ G M R E => t σ G M (fun src G M => ∃ G' M', Wk G M G' M' ∧ R src G' M') E
theorem ji_w {X : Cx} {W : WX} {tg it : Expr} {t : KI} (h : JI X W tg it t) : JI X W tg it (kiW t) := pi_mono h fun σ H Q ⟨G, M, R, E, hv, h, hR, hE⟩ =>
  ⟨G, M, _, E, hv, h, fun src G1 M1 H1 hv1 ⟨G2, M2, w, q⟩ J go => hR src G2 M2 H1 (w H1 hv1) q J go, hE⟩
end BT
set_option Elab.async false
set_option linter.all false
set_option maxRecDepth 100000
set_option maxHeartbeats 4000000
namespace BT
open PySem PySem.Spec L2
open PyProof.Rows hiding St
/-! ### objects: the program's classes by number, their attributes by place -/
def clsN : Nat → Str × List Str
  | 0 => ("Plain", ["words"])
  | 1 => ("Keeper", ["log"])
  | 2 => ("Shelf", ["keeper", "number", "things"])
  | 3 => ("Scan", ["cells", "limit", "draws", "keeper", "made", "shelf"])
  | 4 => ("Spare", ["cells", "limit", "draws", "keeper", "made", "side", "order", "shelf", "hand"])
  | 5 => ("Stairs", ["cells", "limit", "draws", "keeper", "made", "climb", "hand", "shelves", "orders"])
  | 6 => ("Tree", ["cells", "limit", "draws", "keeper", "made", "body", "table"])
  | 7 => ("Grove", ["cells", "limit", "draws", "keeper", "made", "highs", "bodies", "start", "table"])
  | 8 => ("Body", ["shelf", "high", "firsts", "hand"])
  | 9 => ("Climb", ["cells", "last", "full", "drawn", "home", "held"])
  | 10 => ("Runner", ["program", "slates", "place"])
  | _ => ("Desk", ["stores"])
def Ob (K : PySem.W.Frag) (k : Nat) (dx : Addr) (vs : List V) : HO := .ins (cl K (clsN k).1) dx ((clsN k).2.zip vs)
/-- what of the text a class must have -/
structure CK (K : PySem.W.Frag) (k : Nat) : Prop where
  cls : Cls K (cl K (clsN k).1)
  na : ∀ f ∈ (clsN k).2, NoAttr K (cl K (clsN k).1) f
section
variable {X : Cx} {W : WX} {pos : Pos}
/-- a method that keeps its promise, of the class k -/
structure MDef (P : Program) (w : World) (K : PySem.W.Frag) (mg : Str → Option Value) (base : Heap) (lev : Nat) (k : Nat) (m : Str) (S : KSp) : Prop where
  ex : ∃ f fd ps, FnOk P w K mg base (L2.CX P w) lev f fd ps (lift S) ∧ Meth K (cl K (clsN k).1) m f ∧ Binds K fd ps []
  ck : CK K k
  no : m ∉ (clsN k).2
theorem MDef.mono {P : Program} {w : World} {K : PySem.W.Frag} {mg : Str → Option Value} {base : Heap} {lev lev' k : Nat} {m : Str} {S : KSp} (D : MDef P w K mg base lev k m S) (h : lev ≤ lev') : MDef P w K mg base lev' k m S := by
  refine of_now ?_
  simp (disch := with_unfolding_all
    obtain ⟨⟨f, fd, ps, F, a, b⟩, c, d⟩ := D
    exact ⟨⟨f, fd, ps, F.mono h, a, b⟩, c, d⟩) only [↓now_true]
/-! C(..) -/
structure CDef (P : Program) (w : World) (K : PySem.W.Frag) (mg : Str → Option Value) (base : Heap) (lev : Nat) (k : Nat) (x : Str) (S : KSp) : Prop where
  ex : ∃ f fd ps, FnOk P w K mg base (L2.CX P w) lev f fd ps (lift S) ∧ Mk K (cl K (clsN k).1) f ∧ Binds K fd ps []
  g : mg x = some (.ref (cl K (clsN k).1))
/-! C.m(self, ..), m a def of the class C -/
structure FDef (P : Program) (w : World) (K : PySem.W.Frag) (mg : Str → Option Value) (base : Heap) (lev : Nat) (x m : Str) (S : KSp) : Prop where
  ex : ∃ f fd ps, FnOk P w K mg base (L2.CX P w) lev f fd ps (lift S) ∧ PySem.W.findCls K (.ref (cl K x)) (.type "type") m = some (.val (.ref f)) ∧ Binds K fd ps [] ∧ PySem.W.keepIn K (.ref f) = true
  g : mg x = some (.ref (cl K x))
  rd : PySem.W.readsIn K (cl K x) (.type "type") = true
  ga : PySem.W.specialIn K (.ref (cl K x)) "__getattribute__" = some (some (.builtin "type.__getattribute__"))
end
end BT
namespace BT
open PySem PySem.Spec L2
open PyProof.Rows hiding St
section
variable {P : Program} {w : World} {K : PySem.W.Frag} {mg : Str → Option Value} {base : Heap} {k lev : Nat} {C f : Addr} {fd : FuncData} {ps : List Str} {S : KSp} {x m : Str}
end
end BT
set_option Elab.async false
set_option linter.all false
set_option maxRecDepth 100000
set_option maxHeartbeats 4000000
namespace BT
open PySem PySem.Spec L2
open PyProof.Rows hiding St
/-! ### dicts whose keys are ints and texts -/
section
variable {X : Cx} {W : WX} {pos : Pos} {o i e f : Expr}
end
end BT
set_option Elab.async false
set_option linter.all false
set_option maxRecDepth 100000
set_option maxHeartbeats 4000000
namespace BT
open PySem PySem.Spec L2
open PyProof.Rows hiding St
/-! ### slices and sums of tuples, unpacked lists -/
section
variable {X : Cx} {W : WX} {pos : Pos} {o i e f : Expr}
/-- a tuple's slice; the whole of it is the tuple itself -/
def cutT (K : PySem.W.Frag) (x : V) (lo hi : Option Int) (G : Hp) (M : Mem) (R : KR) : Prop := match x with
  | .ref a => ∃ xs, SqT K G a xs ∧ (HT.sIx xs.length 0 lo = 0 ∧ HT.sIx xs.length xs.length hi = xs.length → R (.ref a) G M) ∧ (¬ (HT.sIx xs.length 0 lo = 0 ∧ HT.sIx xs.length xs.length hi = xs.length) → ∀ p, Fr G M p → R (.ref p) (upd G p (.tup (cutV xs lo hi))) M)
  | _ => False
def kSlT (K : PySem.W.Frag) (t : KE) (tl th : KO) : KE := fun σ G M R E => t σ G M (fun x G M => tl σ G M (fun l G M => th σ G M (fun u G M => cutT K x l u G M R) E) E) E
theorem je_slT {t : KE} {lo hi : Option Expr} {tl th : KO} {p2 : Pos} (he : JE X W e t) (hl : JO X W lo tl) (hu : JO X W hi th) : JE X W (.Subscript e (.Slice lo hi none p2) pos) (kSlT X.K t tl th) :=
  pe_mono (pe_slice sl_tupA he hl hu) fun σ H Q ⟨G, M, R, E, hv, h, hR, hE⟩ => ⟨G, M, _, E, hv, h, fun x G1 M1 H1 hv1 h1 => ⟨G1, M1, _, E, hv1, h1, fun l G2 M2 H2 hv2 h2 => ⟨G2, M2, _, E, hv2, h2, fun u G3 M3 H3 hv3 h3 => by
    match x, h3 with
    | .ref a, ⟨xs, q1, q2, q3⟩ => exact ⟨_, xs, rfl, hv3.tup q1, fun z => hR _ G3 M3 H3 hv3 (q2 z), fun z p hp => hR _ _ _ _ (hv3.newG hp) (q3 z p (hv3.fr hp))⟩, hE⟩, hE⟩, hE⟩
end
end BT
set_option Elab.async false
set_option linter.all false
set_option maxRecDepth 100000
set_option maxHeartbeats 4000000
namespace BT
open PySem PySem.Spec L2
open PyProof.Rows hiding St
/-! ### isinstance(err, (C, D, ..)); except C without a name -/
def orTab (a b : List (Str × Bool)) : List (Str × Bool) := a.zipWith (fun p q => (p.1, p.2 || q.2)) b
theorem orTab_mem : ∀ {a b : List (Str × Bool)}, a.map (·.1) = b.map (·.1) → ∀ p, p ∈ orTab a b → ∃ x y, (p.1, x) ∈ a ∧ (p.1, y) ∈ b ∧ p.2 = (x || y)
  | [], _, _, p, h => by simp [orTab] at h
  | _ :: _, [], _, p, h => by simp [orTab] at h
  | u :: a, v :: b, e, p, h => by
    have e1 : u.1 = v.1 := by simpa using (List.cons.inj e).1
    rcases List.mem_cons.mp (show p ∈ (u.1, u.2 || v.2) :: orTab a b from h) with rfl | h
    · exact ⟨u.2, v.2, List.mem_cons_self, by rw [e1]; exact List.mem_cons_self, rfl⟩
    · obtain ⟨x, y, h1, h2, h3⟩ := orTab_mem (List.cons.inj e).2 p h
      exact ⟨x, y, List.mem_cons_of_mem _ h1, List.mem_cons_of_mem _ h2, h3⟩
structure IsT (K : PySem.W.Frag) (cs : List V) (us : List Value) (tab : List (Str × Bool)) : Prop where
  p : Paired ClsV cs us
  n : PySem.W.kitAny K (.type "NoneType") us = some false
  t : ∀ p ∈ tab, ExcC K (cl K p.1) ∧ PySem.W.kitAny K (.ref (cl K p.1)) us = some p.2
theorem IsT.cons {K : PySem.W.Frag} {c : V} {u : Value} {cs : List V} {us : List Value} {tab tab1 : List (Str × Bool)} (hc : ClsV c u) (hn : PySem.W.kitOne K (.type "NoneType") u = some false)
    (ht : ∀ p ∈ tab1, ExcC K (cl K p.1) ∧ PySem.W.kitOne K (.ref (cl K p.1)) u = some p.2) (h : IsT K cs us tab) (e : tab1.map (·.1) = tab.map (·.1) := by rfl) : IsT K (c :: cs) (u :: us) (orTab tab1 tab) :=
  ⟨.cons hc h.p, kitAny_cons hn (fun _ => h.n) (fun z => nomatch z), fun p hp => by
    obtain ⟨x, y, h1, h2, h3⟩ := orTab_mem e p hp
    obtain ⟨q1, q2⟩ := ht _ h1
    refine ⟨q1, kitAny_cons q2 (fun z => ?_) (fun z => ?_)⟩
    · rw [h3, show x = false from z]
      exact (h.t _ h2).2
    · rw [h3, show x = true from z]; rfl⟩
theorem IsT.one {K : PySem.W.Frag} {c : V} {u : Value} {tab1 : List (Str × Bool)} (hc : ClsV c u) (hn : PySem.W.kitOne K (.type "NoneType") u = some false)
    (ht : ∀ p ∈ tab1, ExcC K (cl K p.1) ∧ PySem.W.kitOne K (.ref (cl K p.1)) u = some p.2) : IsT K [c] [u] tab1 :=
  ⟨.cons hc .nil, kitAny_cons hn (fun _ => rfl) (fun z => nomatch z), fun p hp => by
    obtain ⟨q1, q2⟩ := ht p hp
    exact ⟨q1, kitAny_cons q2 (fun z => by rw [z]; rfl) (fun z => z)⟩⟩
section
variable {X : Cx} {W : WX} {pos : Pos}
end
end BT
namespace PySem.SeqAt
open AutoSeq1 (wpAny_loadPart')
open MeetsSeq
end PySem.SeqAt
namespace BT
open PySem PySem.Spec L2
open PyProof.Rows hiding St
end BT
set_option Elab.async false
set_option linter.all false
set_option maxRecDepth 100000
set_option maxHeartbeats 4000000
namespace BT
open PySem PySem.Spec L2
open PyProof.Rows hiding St
/-! ### written data: what a display of constants lays -/
inductive XD where
  | non
  | bl (b : Bool)
  | int (i : Int)
  | str (s : Str)
  | list (l : List XD)
  | tup (l : List XD)
  | dict
mutual
inductive Rp (K : PySem.W.Frag) (G : Hp) (Mx : Mem) : V → XD → Prop where
  | non : Rp K G Mx .non .non
  | bl (b : Bool) : Rp K G Mx (.bl b) (.bl b)
  | int (i : Int) : Rp K G Mx (.int i) (.int i)
  | str (s : Str) : Rp K G Mx (.str s) (.str s)
  | list {a : Addr} {vs : List V} {ds : List XD} : ((a, HO.lst vs) ∈ Mx ∨ G a = some (.lst vs)) → RpA K G Mx vs ds → Rp K G Mx (.ref a) (.list ds)
  | tup {a : Addr} {vs : List V} {ds : List XD} : SqT K G a vs → RpA K G Mx vs ds → Rp K G Mx (.ref a) (.tup ds)
  | dict {a : Addr} : ((a, HO.dK []) ∈ Mx ∨ G a = some (.dK [])) → Rp K G Mx (.ref a) .dict
inductive RpA (K : PySem.W.Frag) (G : Hp) (Mx : Mem) : List V → List XD → Prop where
  | nil : RpA K G Mx [] []
  | cons {v : V} {d : XD} {vs : List V} {ds : List XD} : Rp K G Mx v d → RpA K G Mx vs ds → RpA K G Mx (v :: vs) (d :: ds)
end
section
variable {K : PySem.W.Frag} {G G' : Hp} {Mx My M : Mem}
mutual
theorem Rp.mono (f : ∀ a o, ((a, o) ∈ Mx ∨ G a = some o) → ((a, o) ∈ My ∨ G' a = some o)) (e : Ex G G') : ∀ {v : V} {d : XD}, Rp K G Mx v d → Rp K G' My v d
  | _, _, .non => .non
  | _, _, .bl b => .bl b
  | _, _, .int b => .int b
  | _, _, .str b => .str b
  | _, _, .list h hs => .list (f _ _ h) (RpA.mono f e hs)
  | _, _, .tup h hs => .tup (ex_t e h) (RpA.mono f e hs)
  | _, _, .dict h => .dict (f _ _ h)
theorem RpA.mono (f : ∀ a o, ((a, o) ∈ Mx ∨ G a = some o) → ((a, o) ∈ My ∨ G' a = some o)) (e : Ex G G') : ∀ {vs : List V} {ds : List XD}, RpA K G Mx vs ds → RpA K G' My vs ds
  | _, _, .nil => .nil
  | _, _, .cons h hs => .cons (Rp.mono f e h) (RpA.mono f e hs)
end
theorem Rp.up {v : V} {d : XD} (e : Ex G G') (s : ∀ x, x ∈ Mx → x ∈ My) (h : Rp K G Mx v d) : Rp K G' My v d := h.mono (fun a o q => q.elim (fun z => .inl (s _ z)) (fun z => .inr (e _ _ z))) e
theorem RpA.up {v : List V} {d : List XD} (e : Ex G G') (s : ∀ x, x ∈ Mx → x ∈ My) (h : RpA K G Mx v d) : RpA K G' My v d := h.mono (fun a o q => q.elim (fun z => .inl (s _ z)) (fun z => .inr (e _ _ z))) e
theorem Rp.ex {v : V} {d : XD} (e : Ex G G') (h : Rp K G Mx v d) : Rp K G' Mx v d := h.up e fun _ z => z
theorem RpA.ex {v : List V} {d : List XD} (e : Ex G G') (h : RpA K G Mx v d) : RpA K G' Mx v d := h.up e fun _ z => z
theorem RpA.len : ∀ {vs : List V} {ds : List XD}, RpA K G Mx vs ds → vs.length = ds.length
  | _, _, .nil => rfl
  | _, _, .cons _ hs => by rw [List.length_cons, List.length_cons, hs.len]
theorem RpA.app : ∀ {vs ws : List V} {ds es : List XD}, RpA K G Mx vs ds → RpA K G Mx ws es → RpA K G Mx (vs ++ ws) (ds ++ es)
  | _, _, _, _, .nil, h => h
  | _, _, _, _, .cons a b, h => .cons a (b.app h)
theorem RpA.get : ∀ {vs : List V} {ds : List XD} {i : Nat}, RpA K G Mx vs ds → i < vs.length → ∃ v d, vs[i]? = some v ∧ ds[i]? = some d ∧ Rp K G Mx v d
  | _, _, _, .nil, h => by simp at h
  | _, _, 0, .cons a _, _ => ⟨_, _, rfl, rfl, a⟩
  | _, _, i + 1, .cons _ b, h => by
    obtain ⟨v, d, h1, h2, h3⟩ := RpA.get (i := i) b (by simpa using h)
    exact ⟨v, d, by simpa using h1, by simpa using h2, h3⟩
/-- cells of its own -/
def NewC (G : Hp) (Mx : Mem) : Prop := (∀ x, x ∈ Mx → G x.1 = none) ∧ (Mx.map (·.1)).Nodup
theorem NewC.nil : NewC G [] := ⟨fun _ z => (nomatch z), List.nodup_nil⟩
def frzA (G : Hp) (Mx : Mem) : Hp := Mx.foldr (fun x g => upd g x.1 x.2) G
theorem frzA_ne : ∀ {Mx : Mem} {G : Hp} {a : Addr}, (∀ x, x ∈ Mx → x.1 ≠ a) → frzA G Mx a = G a
  | [], _, _, _ => rfl
  | x :: Mx, G, a, h => by
    show upd (frzA G Mx) x.1 x.2 a = _
    rw [upd_ne (Ne.symm (h x List.mem_cons_self))]
    exact frzA_ne fun y hy => h y (List.mem_cons_of_mem _ hy)
theorem frzA_ex (h : NewC G Mx) : Ex G (frzA G Mx) := fun a o e => by
  rw [frzA_ne]
  · exact e
  · intro x hx z
    rw [← z, h.1 x hx] at e
    cases e
theorem frzA_at : ∀ {Mx : Mem} {G : Hp}, (Mx.map (·.1)).Nodup → ∀ x, x ∈ Mx → frzA G Mx x.1 = some x.2
  | [], _, _, _, h => nomatch h
  | y :: Mx, G, hn, x, h => by
    rw [List.map_cons, List.nodup_cons] at hn
    show upd (frzA G Mx) y.1 y.2 x.1 = _
    rcases List.mem_cons.mp h with rfl | h
    · exact upd_same
    · rw [upd_ne (fun z => hn.1 (by rw [← z]; exact List.mem_map.mpr ⟨x, h, rfl⟩))]
      exact frzA_at hn.2 x h
theorem Rp.frz {v : V} {d : XD} (n : NewC G Mx) (h : Rp K G Mx v d) : Rp K (frzA G Mx) [] v d := h.mono (fun a o q => q.elim (fun z => .inr (frzA_at n.2 (a, o) z)) (fun z => .inr (frzA_ex n _ _ z))) (frzA_ex n)
theorem RpA.frz {v : List V} {d : List XD} (n : NewC G Mx) (h : RpA K G Mx v d) : RpA K (frzA G Mx) [] v d := h.mono (fun a o q => q.elim (fun z => .inr (frzA_at n.2 (a, o) z)) (fun z => .inr (frzA_ex n _ _ z))) (frzA_ex n)
/-- a cell more, a tuple more -/
theorem NewC.cell {p : Addr} {o : HO} (h : NewC G Mx) (f : Fr G (Mx ++ M) p) : NewC G ((p, o) :: Mx) := by
  refine ⟨fun x hx => ?_, ?_⟩
  · rcases List.mem_cons.mp hx with rfl | hx
    · exact f.1
    · exact h.1 x hx
  · rw [List.map_cons, List.nodup_cons]
    refine ⟨fun z => ?_, h.2⟩
    obtain ⟨y, hy, e⟩ := List.mem_map.mp z
    exact f.2 y (List.mem_append.mpr (.inl hy)) e
theorem NewC.tup {p : Addr} {o : HO} (h : NewC G Mx) (f : Fr G (Mx ++ M) p) : NewC (upd G p o) Mx :=
  ⟨fun x hx => by rw [upd_ne (f.2 x (List.mem_append.mpr (.inl hx)))]; exact h.1 x hx, h.2⟩
end
section
variable {K : PySem.W.Frag} {σ : St} {G : Hp} {te ta tb : KE} {tas : KA} {ds es : List XD} {d : XD}
end
/-! what is known of written things -/
def XD.ty : XD → PT
  | .non => .non | .bl _ => .bool | .int _ => .int | .str _ => .str | .list _ => .list | .tup _ => .tuple | .dict => .dict
mutual
def XD.toD : XD → Option PyData
  | .non => some .none
  | .bl b => some (.bool b)
  | .int i => some (.int i)
  | .str s => some (.str s)
  | .list l => (XD.toDs l).map .list
  | .tup l => (XD.toDs l).map .tuple
  | .dict => none
def XD.toDs : List XD → Option (List PyData)
  | [] => some []
  | x :: l => match x.toD, XD.toDs l with
    | some d, some ds => some (d :: ds)
    | _, _ => none
end
mutual
theorem rp_dp {K : PySem.W.Frag} {G : Hp} : ∀ {v : V} {d : XD} {e : PyData}, Rp K G [] v d → d.toD = some e → Dp K G v e
  | _, _, _, .non, h => by cases h; exact .non
  | _, _, _, .bl b, h => by cases h; exact .bl b
  | _, _, _, .int b, h => by cases h; exact .int b
  | _, _, _, .str b, h => by cases h; exact .str b
  | _, _, e, .list (ds := ds) ha hs, h => by
    have h : (XD.toDs ds).map PyData.list = some e := h
    obtain ⟨es, h1, rfl⟩ := Option.map_eq_some_iff.mp h
    rcases ha with z | z
    · cases z
    · exact .lst (sql_of z) (rpa_dp hs h1)
  | _, _, e, .tup (ds := ds) ha hs, h => by
    have h : (XD.toDs ds).map PyData.tuple = some e := h
    obtain ⟨es, h1, rfl⟩ := Option.map_eq_some_iff.mp h
    exact .tup ha (rpa_dp hs h1)
  | _, _, _, .dict _, h => by cases h
theorem rpa_dp {K : PySem.W.Frag} {G : Hp} : ∀ {vs : List V} {ds : List XD} {es : List PyData}, RpA K G [] vs ds → XD.toDs ds = some es → DpAll K G vs es
  | _, _, _, .nil, h => by cases h; exact .nil
  | _, _, es, .cons (d := d) (ds := ds) a b, h => by
    have h : (match d.toD, XD.toDs ds with | some d, some ds => some (d :: ds) | _, _ => none) = some es := h
    split at h
    · rename_i d' ds' e1 e2
      cases h
      exact .cons (rp_dp a e1) (rpa_dp b e2)
    · cases h
end
end BT
namespace BT
open PySem PySem.Spec L2
theorem Wk.dropP {G : Hp} (Mx : Mem) {M : Mem} : Wk G (Mx ++ M) G M := fun H hv => ⟨hv.ex, fun x hx => hv.mu x (List.mem_append.mpr (.inr hx)), hv.nd.sublist ((List.sublist_append_right Mx M).map _), fun x hx => hv.dj x (List.mem_append.mpr (.inr hx))⟩
end BT
set_option Elab.async false
set_option linter.all false
set_option maxRecDepth 100000
set_option maxHeartbeats 4000000
namespace BT
open PySem PySem.Spec L2
open PyProof.Rows hiding St
/-! ### dicts that are walked: locked while it goes on -/
section
variable {X : Cx} {W : WX} {pos : Pos} {o i e f tg : Expr}
/-! what is walked -/
end
end BT
set_option Elab.async false
set_option linter.all false
set_option maxRecDepth 100000
set_option maxHeartbeats 4000000
namespace BT
open PySem PySem.Spec L2
open PyProof.Rows hiding St
/-! ### a statement at which some heap is known to be as told -/
/-- a cell may be frozen -/
theorem Hv.fz {G : Hp} {M : Mem} {p : Addr} {o : HO} (h : ∃ H, Hv G ((p, o) :: M) H) : Ex G (upd G p o) := by
  refine of_now ?_
  simp (disch := with_unfolding_all
    obtain ⟨H, hv⟩ := h
    exact Ex.new' (hv.dj (p, o) List.mem_cons_self)) only [↓now_true]
theorem Hv.no {G : Hp} {M : Mem} {x : Addr × HO} (h : ∃ H, Hv G M H) (hx : x ∈ M) : G x.1 = none := by
  refine of_now ?_
  simp (disch := with_unfolding_all
    obtain ⟨H, hv⟩ := h
    exact hv.dj x hx) only [↓now_true]
theorem Hv.ne {G : Hp} {M : Mem} {x y : Addr × HO} {i j : Nat} (h : ∃ H, Hv G M H) (hx : M[i]? = some x) (hy : M[j]? = some y) (n : i ≠ j) : x.1 ≠ y.1 := fun e => by
  obtain ⟨H, hv⟩ := h
  exact n (nodup_at M j y.1 y.2 x i hv.nd hy hx e)
end BT
namespace BT
open PySem PySem.Spec L2
end BT
set_option Elab.async false
set_option linter.all false
set_option maxRecDepth 100000
set_option maxHeartbeats 4000000
namespace BT
open PySem PySem.Spec L2
open PyProof.Rows hiding St
/-! ### defs that are called where no guard stands; repr -/
structure GFn (P : Program) (w : World) (K : PySem.W.Frag) (mg : Str → Option Value) (base : Heap) (k : Nat) (f : Addr) (fd : FuncData) (ps : List Str) (sp : Sp) : Prop where
  len : ∀ vs H Q E, sp vs H Q E → vs.length = ps.length
  go : ∀ {A : Around} {outer : List Env} {s : Shared} {H : Hp} {args : Args} {us : List Value} {vs : List V} {Q : VK} {E : XK}, A.guards = some [] → Room k A → Env0 P w K mg base A outer s H → BindsTo s fd args (ps.zip us) → Vals vs us → sp vs H Q E →
    codeAny (model P w) A (.call (.ref f) args) (CR (L2.CX P w) outer P w H s Q E) s
section
variable {P : Program} {w : World} {K : PySem.W.Frag} {mg : Str → Option Value} {base : Heap} {k : Nat} {f : Addr} {fd : FuncData} {ps : List Str} {sp : Sp}
theorem GFn.mono {j : Nat} (F : GFn P w K mg base j f fd ps sp) (h : j ≤ k) : GFn P w K mg base k f fd ps sp := ⟨F.len, fun g r => F.go g (r.mono h)⟩
theorem gfn_mk {x qual : Str} {st : Stmt} {N : List Str} (F : Fun K x qual st f fd) (sc : FnScope N ps (defScope st)) (len : ∀ vs H Q E, sp vs H Q E → vs.length = ps.length)
    (hbd : ∀ (cdv : Value) (A : Around) (outer : List Env) (s : Shared) (H : Hp) (vs : List V) (Q : VK) (E : XK), A.guards = some [] → Room k (A.deeper (envOfC qual (defScope st) s.heap.objs.size f cdv)) → sp vs H Q E →
      ∃ t, PSs (cxOf (L2.CX P w) P w K mg base N qual (defScope st) f cdv A outer s H E) (defBody st) t ∧ t { nx := fun _ H' => Q .non H', rt := Q } (start N vs) H) : GFn P w K mg base (k + 1) f fd ps sp := by
  obtain ⟨o1, o2, o3, o4, o5, o6, cdv, o8, o9, rfl, lk, hcd⟩ := F.ex
  refine ⟨len, fun {A outer s H args us vs Q E} gd rm en bd rv hsp => ?_⟩
  have hln := len _ _ _ _ hsp
  have inK : K.In s.heap := en.mod.kin.keeps fun a u z => (en.bs a u z).1
  have nolim : s.heap.NoLimit := en.mod.nolimit.keeps fun a u z => (en.bs a u z).1
  have kinds : ∀ z ∈ ps.zip us, (defScope st).names.lookup z.1 = some .local ∨ ((defScope st).names.lookup z.1 = some .cell ∧ ((cellsFrom (s.heap.objs.size + 1) (defScope st).names []).lookup z.1).isSome = true) := fun z hz => by
    obtain ⟨n, u⟩ := z
    rcases sc.par n (List.of_mem_zip hz).1 with h | h
    · exact .inl h
    · exact .inr ⟨h, PySem.W.cellsFrom_some _ _ _ (.inl h)⟩
  refine codeAny_call_function rm.depth (inK _ _ lk) rfl sc.co sc.gen rfl (PySem.W.codeRec_of inK hcd) (bd _ _ _ _ ?_)
  refine wpAny_newFunctionEnv_cells sc.kind kinds fun env hen s1 x => ?_
  subst hen
  refine ⟨nolim.keeps x.toInCall.keep, codeAny_func ?_⟩
  obtain ⟨t, ht, hq⟩ := hbd cdv A outer s H vs Q E gd (rm.deeper _) hsp
  have I := inv_start (CX := L2.CX P w) (E := E) sc rm.hd en hln rv x
  have fin : ∀ {σ' : St} {H' : Hp} {v : V} {u : Value} {s' : Shared}, Inv (cxOf (L2.CX P w) P w K mg base N qual (defScope st) f cdv A outer s H E) [] σ' H' s' → RelV v u → Q v H' → CE outer P w H s Q u s' := fun J r2 q => ⟨_, _, J.os, J.bare, J.base, J.hok, r2, q⟩
  refine wpAny_mono (ht.run [] s1 (start N vs) H _ I hq) (fun fl s' hs => ?_) fun e s' hs => hs
  match fl, hs with
  | .ret u, ⟨v, σ', H', J, r2, q⟩ => exact fin J r2 q
  | .next, ⟨σ', H', J, q⟩ => exact fin (v := V.non) (u := Value.none) J rfl q
  | .brk, ⟨_, _, _, z⟩ => exact z.elim
  | .cont, ⟨_, _, _, z⟩ => exact z.elim
/-- a def with its promise, of this kind -/
theorem gfn_ok {x qual : Str} {st : Stmt} {N : List Str} {S : KSp} (F : Fun K x qual st f fd) (sc : FnScope N ps (defScope st)) (len : ∀ vs G M R X, S vs G M R X → vs.length = ps.length)
    (hbody : ∀ (cdv : Value) (A : Around) (outer : List Env) (s : Shared) (H : Hp) (E : XK), A.guards = some [] → Room k (A.deeper (envOfC qual (defScope st) s.heap.objs.size f cdv)) →
      ∃ t, JSs (cxOf (L2.CX P w) P w K mg base N qual (defScope st) f cdv A outer s H E) (fun c d _ H => E c d H) (defBody st) t ∧
        ∀ vs G M R Z, S vs G M R Z → t { nx := fun _ G M => wkR R .non G M, rt := wkR R, xc := fun c d _ G M => wkX Z c d G M } (start N vs) G M) : GFn P w K mg base (k + 1) f fd ps (lift S) := by
  refine gfn_mk F sc (fun vs H Q E ⟨G, M, R, Z, _, h, _⟩ => len vs G M R Z h) fun cdv A outer s H vs Q E hg hr ⟨G, M, R, Z, hv, h, hR, hZ⟩ => ?_
  obtain ⟨t, j, q⟩ := hbody cdv A outer s H E hg hr
  exact ⟨_, j, G, M, _, hv, q vs G M R Z h, ⟨fun σ G M H hv h => (h H hv).elim fun G' h => h.elim fun M' h => hR _ G' M' H h.1 h.2, fun v G M H hv h => (h H hv).elim fun G' h => h.elim fun M' h => hR _ G' M' H h.1 h.2, fun _ _ _ _ _ z => z.elim, fun _ _ _ _ _ z => z.elim, fun c a σ G M H hv ⟨G', M', w, q⟩ => hZ c a G' M' H (w H hv) q⟩⟩
structure DefG (P : Program) (w : World) (K : PySem.W.Frag) (mg : Str → Option Value) (base : Heap) (lev : Nat) (x : Str) (ps : List Str) (S : KSp) : Prop where
  ex : ∃ f fd, GFn P w K mg base lev f fd ps (lift S) ∧ mg x = some (.ref f) ∧ PySem.W.keepIn K (.ref f) = true ∧ Binds K fd ps []
end
section
variable {X : Cx} {W : WX} {pos p : Pos} {e : Expr} {es : List Expr} {x : Str} {k lev : Nat} {ps : List Str} {S : KSp} {t : KA}
theorem je_callG (D : DefG X.prog X.w X.K X.mg X.base lev x ps S) (hg0 : X.A.guards = some []) (hr : Room k X.A) (tk : Takes X W) (ha : JA X W (e :: es) t) (hl : lev ≤ k := by decide) (hg : Gl X x := by rfl)
    (hdb : (x == ("__debug__" : Str)) = false := by decide) (he : starEach (e :: es) X.env = (false, eval e X.env) :: starEach es X.env := by rfl) (hpl : (backTo pos (starEach es X.env)).any (·.1) = false := by rfl) :
    JE X W (.Call (.Name x p) (e :: es) [] pos) (kCall S t) := by
  obtain ⟨f, fd, F, hm, hk, hb⟩ := D.ex
  have F := F.mono hl
  refine ⟨fun pins s σ H Q I ⟨G, M, R, E, hv, h, hR, hE⟩ => ?_⟩
  refine wpAny_Call_Name_kw (ld_glob I hg hm ?_ hdb)
  refine PySem.W.callWith_K (h₀ := X.base) I.ok.mod.kin hk (thn (ha.run pos pins s σ H (fun vs H1 => lift S vs H1 Q (WE W σ)) I ?_) fun us s1 ⟨vs, H1, I1, r, q⟩ => ⟨I1.kIn, ?_⟩) he hpl
  · exact ⟨G, M, _, E, hv, h, fun vs G1 M1 H1 hv1 q => ⟨G1, M1, R, E, hv1, q, hR, hE⟩, hE⟩
  have hl : us.length = ps.length := by rw [← r.length]; exact F.len _ _ _ _ q
  have b := hb s1 us I1.kIn (by rw [List.append_nil]; exact hl)
  rw [List.append_nil] at b
  refine wpAny_call (codeAny_mono (F.go (args := ⟨us, []⟩) hg0 hr I1.env0 b r q) fun r s' hq => ?_)
  match r, hq with
  | .error e, hq => exact passAt tk σ pins H1 s1 e s' I1 hq
  | .ok (.ret u), hq => exact I1.after hq
  | .ok .next, hq => exact False.elim hq
  | .ok .brk, hq => exact False.elim hq
  | .ok .cont, hq => exact False.elim hq
/-- repr of data -/
def kRepr (K : PySem.W.Frag) : KC := fun vs G M R => match vs with
  | [x] => ∃ (d : PyData), DatAt K G M x d ∧ d.showable = true ∧ d.hasDict = false ∧ d.depth ≤ 30 ∧ d.shown.length ≤ sizeLine ∧ R (.str d.shown) G M
  | _ => False
theorem kc_repr (hg : X.A.guards = some []) (hu : X.A.units + 64 < cLine) : KCall X (.builtin "repr") (kRepr X.K) := by
  intro pins s σ H vs us Q I r h
  obtain ⟨G, M, R, hv, h, hR⟩ := h
  match vs, h with
  | [x], ⟨d, h1, h2, h3, h4, h5, h6⟩ =>
    have hd := hv.dat h1
    cases r with
    | @cons _ u _ _ rx rr =>
      cases rr
      have fin : ∀ (h' : Heap) (t : Tok) (tk : Tok), (∀ b o, s.heap.get? b = some o → h'.get? b = some o) → EP X pins σ Q (.str d.shown t) { s with heap := h', toks := tk } := fun h' t tk hk => ⟨.str d.shown, H, I.kept hk, ⟨t, rfl⟩, hR _ _ _ _ hv h6⟩
      cases hd with
      | non =>
        obtain rfl : u = Value.none := rx
        exact PySem.P.repr_of_none (fin _ _ _ fun _ _ z => z)
      | bl b =>
        obtain rfl : u = Value.bool b := rx
        exact PySem.P.repr_of_bool (fin _ _ _ fun _ _ z => z)
      | int i =>
        obtain ⟨t, rfl⟩ := (show ∃ t, u = Value.int i t from rx)
        exact PySem.P.repr_of_int (of_decide_eq_true (by simpa [PyData.showable] using h2)) (fin _ _ _ fun _ _ z => z)
      | str z =>
        obtain ⟨t, rfl⟩ := (show ∃ t, u = Value.str z t from rx)
        exact PySem.P.repr_of_str (fin _ _ _ fun _ _ z => z) h5
      | @lst a xs ds h7 h8 =>
        obtain rfl : u = Value.ref a := rx
        obtain ⟨as, rd⟩ := Dp.reads I (.list ds) (.ref a) (.ref a) (.lst h7 h8) rfl
        exact repr_of_reads' rd h2 (fun z => by rw [h3] at z; cases z) hg (by omega) (fun _ _ z => z) (fun h' u tk hk => fin _ _ _ hk) h5
      | @tup a xs ds h7 h8 =>
        obtain rfl : u = Value.ref a := rx
        obtain ⟨as, rd⟩ := Dp.reads I (.tuple ds) (.ref a) (.ref a) (.tup h7 h8) rfl
        exact repr_of_reads' rd h2 (fun z => by rw [h3] at z; cases z) hg (by omega) (fun _ _ z => z) (fun h' u tk hk => fin _ _ _ hk) h5
end
end BT
namespace BT
open PySem PySem.Spec L2
open PyProof.Rows hiding St
/-- the law's own call, where nothing but the script is known of the heap -/
theorem call_known {P : Program} {w : World} {K : PySem.W.Frag} {mg mb : Str → Option Value} {k : Nat} {fa a : Addr} {fd : FuncData} {x : Str} {sp : Sp} {s : Shared} {us : List Value} {ns : List Int} (inK : K.In s.heap) (gl : s.heap.Ns mainGlobals mg) (bi : s.heap.Ns builtinsNs mb) (boot : ∀ x : Str, x ≠ "__name__" → mb x = bootBuiltins x)
    (nolim : s.heap.NoLimit) (gens : s.gens = #[]) (hobj : s.heap.get? a = some { cls := .type "list", data := .seq us.toArray }) (rm : Room k callerA) (F : ∀ base : Heap, K.In base → base.Ns mainGlobals mg → GFn P w K mg base k fa fd [x] sp) (bd : ∀ (s : Shared) (u : Value), BindsTo s fd ⟨[u], []⟩ [(x, u)])
    (H : Hp) (only : L2.Only H) (hs : sp [.ref a] H (fun v _ => v = .bl true) fun _ _ _ => False) (hok : HOk P w H s.heap) (one : ∀ b, H b ≠ none → b = a) (own : H a ≠ none → K.lookup a = none) :
    codeAny (model P w) callerA (.call (.ref fa) ⟨[.ref a], []⟩) (fun r s' => r = .ok (.ret (.bool true)) ∧ OldK s.heap s'.heap ∧ s'.os = s.os ∧ AllBare s'.gens) s := by
  have seen : ∀ {b : Addr} {o : Obj}, s.heap.get? b = some o → H b = none → (hidT s.heap H).get? b = some o := fun e z => hidT_get e z
  have nodict : ∀ {b : Addr} {o : Obj} {es : Array DictEntry} {ep : Nat}, s.heap.get? b = some o → o.data = .dict es ep → H b = none := fun {b o es ep} e dd => by
    apply Classical.byContradiction
    intro z
    have ba := one b z
    subst ba
    rw [hobj] at e
    cases e
    exact absurd (show Data.seq us.toArray _ = Data.dict es ep from dd) (by intro y; cases y)
  have ns2 : ∀ {b : Addr} {m : Str → Option Value}, s.heap.Ns b m → (hidT s.heap H).Ns b m := fun ⟨o, es, ep, e, dd, r⟩ => ⟨o, es, ep, seen e (nodict e dd), dd, r⟩
  have inB : K.In (hidT s.heap H) := fun b o e => seen (inK b o e) (by
    apply Classical.byContradiction
    intro z
    have ba := one b z
    subst ba
    rw [own z] at e
    cases e)
  obtain ⟨mc, l1, l2⟩ := nolim
  have md : Mod K mg (hidT s.heap H) := ⟨inB, ns2 gl, ⟨mb, ns2 bi, boot⟩, ⟨mc, ns2 l1, l2⟩⟩
  have en : Env0 P w K mg (hidT s.heap H) callerA [] s H := ⟨rfl, md, fun b o e => of_hidT e, Nat.le_of_eq (hidT_size _ _), trivial, (fun b z => nomatch z), hok, .of_eq gens⟩
  refine codeAny_mono ((F _ inB (ns2 gl)).go (args := ⟨[.ref a], []⟩) (us := [.ref a]) (vs := [.ref a]) rfl rm en (bd s (.ref a)) (.cons rfl .nil) hs) fun r s' h => ?_
  match r, h with
  | .error e, h => exact (cx_none h).elim
  | .ok .next, h => exact False.elim h
  | .ok .brk, h => exact False.elim h
  | .ok .cont, h => exact False.elim h
  | .ok (.ret u), ⟨v, H', h1, h2, un, h3, h4, h5⟩ =>
    have e5 : v = .bl true := h5
    subst e5
    obtain rfl : u = Value.bool true := h4
    refine ⟨rfl, OldK.of_keep fun b o e => ?_, h1, h2⟩
    by_cases z : H b = none
    · exact un.keep b o e z (fun y => nomatch y) (by simp)
    · rcases only b with y | ⟨ob, xs, y⟩
      · exact (z y).elim
      · obtain ⟨e1, _⟩ := hok b _ y
        obtain ⟨e2, _⟩ := h3 b _ (un.frzs b ob _ y)
        rw [e] at e1
        cases e1
        exact e2
theorem law_callG {P : Program} {w : World} {K : PySem.W.Frag} {mg mb : Str → Option Value} {k : Nat} {fa a : Addr} {fd : FuncData} {x : Str} {sp : Sp} {s : Shared} {us : List Value} {ns : List Int} (inK : K.In s.heap) (gl : s.heap.Ns mainGlobals mg) (bi : s.heap.Ns builtinsNs mb) (boot : ∀ x : Str, x ≠ "__name__" → mb x = bootBuiltins x)
    (nolim : s.heap.NoLimit) (gens : s.gens = #[]) (hobj : s.heap.get? a = some { cls := .type "list", data := .seq us.toArray }) (hi : IntsAre us ns) (hl : ns.length ≤ sizeLine) (rm : Room k callerA) (F : ∀ base : Heap, K.In base → base.Ns mainGlobals mg → GFn P w K mg base k fa fd [x] sp)
    (bd : ∀ (s : Shared) (u : Value), BindsTo s fd ⟨[u], []⟩ [(x, u)]) (hs : ∀ H : Hp, L2.Only H → SqL K H a (ns.map V.int) → sp [.ref a] H (fun v _ => v = .bl true) fun _ _ _ => False) :
    codeAny (model P w) callerA (.call (.ref fa) ⟨[.ref a], []⟩) (fun r s' => r = .ok (.ret (.bool true)) ∧ OldK s.heap s'.heap ∧ s'.os = s.os ∧ AllBare s'.gens) s := by
  have rv := L2.vals_ints hi
  by_cases own : K.lookup a = none
  · obtain ⟨H, hH⟩ : ∃ H : Hp, H = fun b => if b = a then some (.frz { cls := .type "list", data := .seq us.toArray } (.lst (ns.map V.int))) else none := ⟨_, rfl⟩
    have at_ : ∀ b, (b = a ∧ H b = some (.frz { cls := .type "list", data := .seq us.toArray } (.lst (ns.map V.int)))) ∨ (b ≠ a ∧ H b = none) := fun b => by
      rw [hH]
      by_cases z : b = a
      · exact .inl ⟨z, if_pos z⟩
      · exact .inr ⟨z, if_neg z⟩
    have atA : H a = some (.frz { cls := .type "list", data := .seq us.toArray } (.lst (ns.map V.int))) := by
      rcases at_ a with h | h
      · exact h.2
      · exact (h.1 rfl).elim
    have only : L2.Only H := fun b => (at_ b).elim (fun h => .inr ⟨_, _, h.2⟩) fun h => .inl h.2
    refine call_known (ns := ns) inK gl bi boot nolim gens hobj rm F bd H only (hs H only (.inl (.inr ⟨_, atA⟩))) (fun b u z => ?_) (fun b z => ?_) fun _ => own
    · rcases at_ b with h | h
      · rw [h.2] at z
        cases z
        rw [h.1]
        exact ⟨hobj, by rw [List.length_map]; exact hl, us, _, rv, hobj⟩
      · rw [h.2] at z
        cases z
    · rcases at_ b with h | h
      · exact h.1
      · exact (z h.2).elim
  · obtain ⟨o, ho⟩ : ∃ o, K.lookup a = some o := by
      cases e : K.lookup a with
      | none => exact (own e).elim
      | some o => exact ⟨o, rfl⟩
    have e := inK a o ho
    rw [hobj] at e
    cases e
    refine call_known (ns := ns) inK gl bi boot nolim gens hobj rm F bd (fun _ => none) (fun _ => .inl rfl) (hs _ (fun _ => .inl rfl) (.inr ⟨_, us.toArray, _, ho, rfl, rfl, rfl, ?_, by simpa using rv⟩)) (fun b u z => nomatch (show (none : Option HO) = some u from z)) (fun b z => (z rfl).elim) fun z => (z rfl).elim
    rw [List.size_toArray, hi.length]
    exact hl
theorem walk_ofG {l : PySem.W.OpenLaw} {n k : Nat} {q : Program} {loose : List Str} {XP : (Str → Option Value) → Heap → Prop} {YP : World → Heap → Prop} {d : DefRec} {K : Params → PySem.W.Frag} {sp : World → Sp} {x : Str} (hn : l.most = some n) (hn2 : n ≤ sizeLine) (hdf : d.params.defaults = []) (rm : Room k callerA)
    (hY : ∀ (w : World) (h : Heap), YP w h → (K w.params).In h) (F : ∀ (w : World) (mg : Str → Option Value) (fa : Addr) (h : Heap), (K w.params).In h → h.Ns mainGlobals mg → mg d.name = some (.ref fa) → ∃ fd : FuncData, (∀ (s : Shared) (u : Value), BindsTo s fd ⟨[u], []⟩ [(x, u)]) ∧ ∀ base : Heap, (K w.params).In base → base.Ns mainGlobals mg → GFn l.prog w (K w.params) mg base k fa fd [x] (sp w))
    (hsp : ∀ (w : World) (H : Hp) (a : Addr) (ns : List Int), ns.length ≤ n → L2.Only H → SqL (K w.params) H a (ns.map V.int) → sp w [.ref a] H (fun v _ => v = .bl true) fun _ _ _ => False) : PySem.W.WalkO q loose XP YP l.row.toRowW d [] (fun f vs => PySem.call f vs) := by
  refine Att.attach_call hn hdf fun w s₀ s₁ mg mb fa o pm cd doc a vs ns G Y ho hd hcd hmg hobj hints hlen hg => ?_
  obtain ⟨fd, hb, hF⟩ := F w mg fa _ (hY w _ Y) G.T.g hmg
  exact law_callG (hY w _ Y) G.T.g G.T.b G.T.builtins G.T.nolimit hg hobj hints (Nat.le_trans hlen hn2) rm hF hb fun H hO hS => hsp w H a ns hlen hO hS
end BT
namespace BT
open PySem PySem.Spec L2
/-! ### data that may be shown -/
structure Sho (p w : Nat) (d : PyData) : Prop where
  s : d.showable = true
  n : d.hasDict = false
  l : d.leavesShort 25 = true
  p : d.depth ≤ p
  w : d.weight ≤ w
theorem Sho.up {p p' w w' : Nat} {d : PyData} (h : Sho p w d) (hp : p ≤ p') (hw : w ≤ w') : Sho p' w' d := ⟨h.s, h.n, h.l, Nat.le_trans h.p hp, Nat.le_trans h.w hw⟩
end BT
set_option Elab.async false
set_option linter.all false
set_option maxRecDepth 100000
set_option maxHeartbeats 4000000
/-! sorted(set(xs)), xs a list of ints -/
namespace BT
open PySem PySem.Spec L2
open PyProof.Rows hiding St
section
variable {P : Program} {w : World} {A : Around} {E : Value → Shared → Prop} {s : Shared}
set_option maxHeartbeats 3200000 in
end
section
variable {X : Cx} {W : WX}
end
end BT
set_option Elab.async false
set_option linter.all false
set_option maxRecDepth 100000
set_option maxHeartbeats 4000000
/-! texts: str(int), sep.join(list), text.split(sep), f-strings, x or y for texts -/
namespace BT
open PySem PySem.Spec L2
open PyProof.Rows hiding St
section
variable {X : Cx} {W : WX} {e o a b : Expr} {pos apos : Pos} {rest : List Expr}
inductive JJ (X : Cx) (W : WX) : List Expr → List KE → Prop where
  | nil : JJ X W [] []
  | cons {e : Expr} {t : KE} {es : List Expr} {ts : List KE} (h : JE X W e t) (r : JJ X W es ts) : JJ X W (e :: es) (t :: ts)
end
end BT
set_option Elab.async false
set_option linter.all false
set_option maxRecDepth 100000
set_option maxHeartbeats 4000000
/-! texts that are walked, measured, cut, read as numbers; a thing in a list of data -/
namespace BT
open PySem PySem.Spec L2
open PyProof.Rows hiding St
section
variable {X : Cx} {W : WX} {e tg : Expr} {pos p2 : Pos}
def kLenS : KC := fun vs G M R => match vs with
  | [.str z] => z.length ≤ sizeLine ∧ R (.int z.length) G M
  | _ => False
theorem kc_lenS : KCall X (.builtin "len") kLenS := kcall_of call_len fun vs G M R H Q hv h hR => by
  match vs, h with
  | [.str z], ⟨h1, h2⟩ => exact ⟨_, _, rfl, ⟨h1, rfl⟩, hR _ G M H hv h2⟩
end
end BT
set_option Elab.async false
set_option linter.all false
set_option maxRecDepth 100000
set_option maxHeartbeats 4000000
/-! dicts whose keys are tuples -/
namespace BT
open PySem PySem.Spec L2
open PyProof.Rows hiding St
section
variable {X : Cx} {W : WX} {pos : Pos} {o i e f : Expr}
def kDNewT : KE := fun _ G M R _ => ∀ q, Fr G M q → R (.ref q) G ((q, .dT []) :: M)
theorem je_dnewT : JE X W (.Dict [] [] pos) kDNewT := pe_mono pe_dnewT fun σ H Q ⟨G, M, R, E, hv, h, hR, hE⟩ => fun w hw => hR _ G _ _ (hv.newM hw) (h w (hv.fr hw))
/-- d[k] -/
def kDGetT : KR2 := fun x y G M R => match x, y with
  | .ref a, .ref b => ∃ (kvs : List (List Key × V)) (k : List Key) (v : V), At G M a (.dT kvs) ∧ G b = some (.tup (k.map kV)) ∧ valV kvs k = some v ∧ R v G M
  | _, _ => False
theorem je_dgetT {ta tb : KE} (hu : X.A.units + 64 < cLine) (ha : JE X W o ta) (hb : JE X W i tb) (hs : NoSl i := by exact fun _ _ => rfl) : JE X W (.Subscript o i pos) (kBin kDGetT ta tb) :=
  pe_mono (pe_dget (by omega) ha hb hs) fun σ H Q ⟨G, M, R, E, hv, h, hR, hE⟩ => ⟨G, M, _, E, hv, h, fun x G1 M1 H1 hv1 q1 => ⟨G1, M1, _, E, hv1, q1, fun y G2 M2 H2 hv2 q2 => by
    match x, y, q2 with
    | .ref a, .ref b, ⟨kvs, k, v, q3, q4, q5, q6⟩ =>
      refine ⟨a, v, rfl, ?_, hR _ G2 M2 H2 hv2 q6⟩
      rw [← q5]; exact DGet.t (hv2.at q3) (hv2.ex _ _ q4), hE⟩, hE⟩
/-- d[k] = v -/
def kDSetT (td ty tv : KE) : KS := fun D σ G M => tv σ G M (fun v G M => td σ G M (fun x G M => ty σ G M (fun y G M => match x, y with
  | .ref a, .ref b => ∃ (n : Nat) (kvs : List (List Key × V)) (k : List Key), M[n]? = some (a, .dT kvs) ∧ G b = some (.tup (k.map kV)) ∧ kvs.length < sizeLine ∧ D.nx σ G (M.set n (a, .dT (putK kvs k v)))
  | _, _ => False) (D.x σ)) (D.x σ)) (D.x σ)
theorem js_dsetT {td ty tv : KE} {value : Expr} {pos' : Pos} (hu : X.A.units + 64 < cLine) (ho : JE X W o td) (hi : JE X W i ty) (hv : JE X W value tv) (hs : swapsWith value (some (.Subscript o i pos')) pos.line X.env = pure false := by rfl) :
    JS X W (.Assign [.Subscript o i pos'] value pos) (kDSetT td ty tv) := ps_mono (ps_dput (by omega) ho hi hv hs) fun D σ H ⟨G, M, d, hv, h, en⟩ =>
  ⟨G, M, _, _, hv, h, fun v G1 M1 H1 hv1 q => ⟨G1, M1, _, _, hv1, q, fun x G2 M2 H2 hv2 q2 => ⟨G2, M2, _, _, hv2, q2, fun y G3 M3 H3 hv3 q3 => by
    match x, y, q3 with
    | .ref a, .ref b, ⟨n, kvs, k, q4, q5, q6, q7⟩ => exact ⟨a, _, rfl, DPut.t (hv3.get q4) (hv3.ex _ _ q5) q6, en.nx _ G3 _ _ (hv3.set q4) q7⟩, fun c a G' M' H' hv' q => en.xc c a σ G' M' H' hv' q⟩, fun c a G' M' H' hv' q => en.xc c a σ G' M' H' hv' q⟩, fun c a G' M' H' hv' q => en.xc c a σ G' M' H' hv' q⟩
/-- d.get(k, x) -/
def kDGet2T (td ty tx : KE) : KE := fun σ G M R E => td σ G M (fun x G M => match x with
  | .ref a => (∃ kvs, At G M a (.dT kvs)) ∧ ty σ G M (fun y G M => tx σ G M (fun z G M => ∃ (kvs : List (List Key × V)) (k : List Key) (b : Addr), At G M a (.dT kvs) ∧ y = .ref b ∧ G b = some (.tup (k.map kV)) ∧ R ((valV kvs k).getD z) G M) E) E
  | _ => False) E
theorem je_dget2T {td ty tx : KE} {apos cpos : Pos} (hu : X.A.units + 64 < cLine) (ho : JE X W o td) (he : JE X W e ty) (hf : JE X W f tx) (m : M2 X o "get" apos e f cpos := by exact ⟨rfl, rfl, rfl, rfl⟩) : JE X W (.Call (.Attribute o "get" apos) [e, f] [] cpos) (kDGet2T td ty tx) :=
  pe_mono (pe_dget2 (by omega) ho he hf m) fun σ H Q ⟨G, M, R, E, hv, h, hR, hE⟩ => ⟨G, M, _, E, hv, h, fun x G1 M1 H1 hv1 q1 => by
    match x, q1 with
    | .ref a, ⟨⟨kvs, q2⟩, q3⟩ => exact ⟨a, rfl, .inr ⟨kvs, .inl (hv1.at q2)⟩, G1, M1, _, E, hv1, q3, fun y G2 M2 H2 hv2 q4 => ⟨G2, M2, _, E, hv2, q4, fun z G3 M3 H3 hv3 q5 => by
        obtain ⟨kvs, k, b, q6, q7, q8, q9⟩ := q5
        subst q7
        exact ⟨_, DGet.t (hv3.at q6) (hv3.ex _ _ q8), hR _ G3 M3 H3 hv3 q9⟩, hE⟩, hE⟩, hE⟩
end
end BT
set_option Elab.async false
set_option linter.all false
set_option maxRecDepth 100000
set_option maxHeartbeats 4000000
/-! dict(list of pairs), list.remove -/
namespace BT
open PySem PySem.Spec L2
open PyProof.Rows hiding St
section
variable {X : Cx}
end
end BT
set_option Elab.async false
set_option linter.all false
set_option maxRecDepth 100000
set_option maxHeartbeats 4000000
namespace BT
open PySem PySem.Spec L2
open PyProof.Rows hiding St
/-! d.setdefault(k, x) at a dict whose keys are tuples -/
section
variable {X : Cx} {pins : List (Addr × Obj)} {σ : L2.St} {H : Hp} {s : Shared} {a b : Addr} {r : Value} {d : V} {k : List Key} {A : Around} {E : Value → Shared → Prop}
theorem d_setdT {kvs : List (List Key × V)} {Q : Value → Shared → Prop} (hu : A.units + 1 < cLine) (I : Inv X pins σ H s) (e : H a = some (.dT kvs)) (eb : H b = some (.tup (k.map kV))) (rd : RelV d r) (hl : kvs.length < sizeLine)
    (h1 : ∀ v, valV kvs k = some v → ∀ (w' : Value) (s' : Shared), Inv X pins σ H s' → RelV v w' → Q w' s') (h2 : valV kvs k = none → ∀ (w' : Value) (s' : Shared), Inv X pins σ (upd H a (.dT (putK kvs k d))) s' → RelV d w' → Q w' s') :
    wpAny (model X.prog X.w) A (call (.builtin "dict.setdefault") [.ref a, .ref b, r]) Q E s := by
  obtain ⟨z, hd, xs, rel, dd⟩ := dt_of I.hok e
  have hz : xs.length ≤ sizeLine := by rw [← Paired.length rel]; exact z
  refine call_meetsIn PySem.F.slot_dict_setdefault dd.typeIs PySem.F.entry_dict_setdefault (PySem.F.args_dict_setdefault_3 _ _ _) (meetsH_dict_setdefault (tupleKind (mixKind X.prog X.w)) a b hd r)
    ⟨tupleKind_room_in1 hu, k, xs, key_of I.hok eb, dd, hz, fun p hp => ?_, fun hn h' dd' hs => ?_⟩
  · have q := rel.val k
    rw [hp] at q
    cases ev : valV kvs k with
    | none =>
      rw [ev] at q
      exact (show False from q).elim
    | some v0 =>
      rw [ev] at q
      exact h1 v0 ev _ _ (I.tok _) q
  · have q := rel.val k
    rw [hn] at q
    cases ev : valV kvs k with
    | some v0 =>
      rw [ev] at q
      exact (show False from q).elim
    | none =>
      have hl2 : (putK kvs k d).length ≤ sizeLine := by have := length_putK kvs k d; omega
      obtain ⟨q, es, ep, hq, h3, h4, h5, _, h6⟩ := dd'
      refine h2 ev _ _ (d_write I (by rw [e]; exact True.intro) hs ⟨q, hq⟩ ⟨hl2, hd, _, (rel.put k eb rd).keeps fun c ys ec => ?_, q, es, ep, hq, h3, h4, h5, h6⟩) rd
      rw [upd_ne (ne_of ec e (fun z => nomatch z))]
      exact ec
end
def tDSetdT (td ty tx : TE) : TE := fun σ H Q => td σ H fun x H1 => ∃ a, x = .ref a ∧ IsD H1 a ∧ ty σ H1 fun y H2 => tx σ H2 fun z H3 => ∃ (kvs : List (List Key × V)) (k : List Key) (b : Addr), H3 a = some (.dT kvs) ∧ y = .ref b ∧ H3 b = some (.tup (k.map kV)) ∧ kvs.length < sizeLine ∧
  (∀ v, valV kvs k = some v → Q v H3) ∧ (valV kvs k = none → Q z (upd H3 a (.dT (putK kvs k z))))
section
variable {X : Cx} {o e f : Expr} {td ty tx : TE} {apos cpos : Pos}
theorem pe_dsetdT (hu : X.A.units + 64 < cLine) (ho : PE X o td) (he : PE X e ty) (hf : PE X f tx) (m : M2 X o "setdefault" apos e f cpos) : PE X (.Call (.Attribute o "setdefault" apos) [e, f] [] cpos) (tDSetdT td ty tx) := by
  refine ⟨fun pins s σ H Q I h => ?_⟩
  refine wpAny_Call_method m.base m.few m.line PySem.F.plainAttrs_dict PySem.F.slot_dict_setdefault PySem.F.type_dict_setdefault (thn (ho.run pins s σ H _ I h) fun u s1 ⟨x, H1, I1, rx, a, ex, d, q1⟩ => ?_)
  subst ex
  obtain rfl : u = Value.ref a := rx
  obtain ⟨t1, t2, _⟩ := isD_at I1 d
  refine ⟨t1, t2, ?_⟩
  rw [m.trees]
  refine Calls.callWith_builtin rfl (Calls.evalArgs_plain (Calls.spliced_cons (thn (he.run pins s1 σ H1 _ I1 q1) fun iv s2 ⟨y, H2, I2, ry, q2⟩ =>
    Calls.spliced_cons (thn (hf.run pins s2 σ H2 _ I2 q2) fun fv s3 ⟨z, H3, I3, rz, kvs, k, b, ea, ey, eb, hl, q3, q4⟩ => Calls.spliced_nil ?_))))
  subst ey
  cases (show iv = Value.ref b from ry)
  exact d_setdT (by omega) I3 ea eb rz hl (fun v hv w' s4 I4 rw' => ⟨v, _, I4, rw', q3 v hv⟩) fun hn w' s4 I4 rw' => ⟨z, _, I4, rw', q4 hn⟩
end
section
variable {X : Cx} {W : WX} {o e f : Expr} {td ty tx : KE} {apos cpos : Pos}
def kDSetdT (td ty tx : KE) : KE := fun σ G M R E => td σ G M (fun x G M => match x with
  | .ref a => (∃ kvs, At G M a (.dT kvs)) ∧ ty σ G M (fun y G M => tx σ G M (fun z G M => ∃ (n : Nat) (kvs : List (List Key × V)) (k : List Key) (b : Addr), M[n]? = some (a, .dT kvs) ∧ y = .ref b ∧ G b = some (.tup (k.map kV)) ∧ kvs.length < sizeLine ∧ (∀ v, valV kvs k = some v → R v G M) ∧ (valV kvs k = none → R z G (M.set n (a, .dT (putK kvs k z))))) E) E
  | _ => False) E
theorem je_dsetdT (hu : X.A.units + 64 < cLine) (ho : JE X W o td) (he : JE X W e ty) (hf : JE X W f tx) (m : M2 X o "setdefault" apos e f cpos := by exact ⟨rfl, rfl, rfl, rfl⟩) : JE X W (.Call (.Attribute o "setdefault" apos) [e, f] [] cpos) (kDSetdT td ty tx) :=
  pe_mono (pe_dsetdT hu ho he hf m) fun σ H Q ⟨G, M, R, E, hv, h, hR, hE⟩ => ⟨G, M, _, E, hv, h, fun x G1 M1 H1 hv1 q1 => by
    match x, q1 with
    | .ref a, ⟨⟨kvs, q2⟩, q3⟩ => exact ⟨a, rfl, .inr ⟨kvs, .inl (hv1.at q2)⟩, G1, M1, _, E, hv1, q3, fun y G2 M2 H2 hv2 q4 => ⟨G2, M2, _, E, hv2, q4, fun z G3 M3 H3 hv3 q5 => by
        obtain ⟨n, kvs, k, b, q6, q7, qb, q8, q9, q10⟩ := q5
        exact ⟨kvs, k, b, hv3.get q6, q7, hv3.ex _ _ qb, q8, fun v hv => hR _ G3 M3 H3 hv3 (q9 v hv), fun hv => hR _ G3 _ _ (hv3.set q6) (q10 hv)⟩, hE⟩, hE⟩, hE⟩
end
end BT
namespace BT
open PySem PySem.Spec L2
open PyProof.Rows hiding St
/-! ### whole numbers -/
def isIntV : V → Bool
  | .int _ => true
  | _ => false
def withinV (x : V) (lo hi : Int) : Bool := match x with
  | .int i => decide (lo ≤ i) && decide (i ≤ hi)
  | _ => false
def S_is_whole (K : PySem.W.Frag) : KSp := sp1 fun x G M R Z => ∃ T : PT, TyK K G M x T ∧ R (.bl (T == .int)) G M
def S_is_within (K : PySem.W.Frag) : KSp := sp3 fun x y z G M R Z => ∃ (T : PT) (lo hi : Int), y = .int lo ∧ z = .int hi ∧ TyK K G M x T ∧ (T == .int) = isIntV x ∧ R (.bl (withinV x lo hi)) G M
def isStrV : V → Bool
  | .str _ => true
  | _ => false

/-! ### things whose type is known -/
def WOk (K : PySem.W.Frag) (G : Hp) (w : V) : Prop := ∃ S : PT, (∀ M, TyK K G M w S) ∧ (S == .str) = isStrV w
def IOk (K : PySem.W.Frag) (G : Hp) (x : V) : Prop := ∃ T : PT, (∀ M, TyK K G M x T) ∧ (T == .int) = isIntV x

/-! ### kinds and draws -/
structure Kn where
  leaf : Bool
  n : Nat
def Kn.txt (k : Kn) : Str := if k.leaf then "leaf" else "shuffle"
def KnOk (k : Kn) : Prop := k.n ≤ 64 ∧ (k.leaf = true → k.n ≤ 6) ∧ (k.leaf = false → 1 ≤ k.n)
def knD (k : Kn) : PyData := .tuple [.str k.txt, .int k.n]
/-- a draw: a leaf's number, or a row -/
inductive Dr | leaf (n : Nat) | row (l : List Nat)
def natsV (l : List Nat) : List V := l.map fun (n : Nat) => V.int (n : Int)
inductive A2 {α β : Type} (r : α → β → Prop) : List α → List β → Prop
  | nil : A2 r [] []
  | cons {a : α} {b : β} {as : List α} {bs : List β} : r a b → A2 r as bs → A2 r (a :: as) (b :: bs)
def DrV (K : PySem.W.Frag) (G : Hp) (M : Mem) (v : V) (d : Dr) : Prop := match d with
  | .leaf n => v = .int n
  | .row l => ∃ b, v = .ref b ∧ LstAt K G M b (natsV l)
def KnAt (K : PySem.W.Frag) (G : Hp) (M : Mem) (a : Addr) (ks : List Kn) : Prop := ∃ us, LstAt K G M a us ∧ DpAll K G us (ks.map knD) ∧ (∀ k, k ∈ ks → KnOk k) ∧ ks.length ≤ 1000
def DrAt (K : PySem.W.Frag) (G : Hp) (M : Mem) (a : Addr) (ds : List Dr) : Prop := ∃ us, LstAt K G M a us ∧ A2 (DrV K G M) us ds
def DrOk (k : Kn) (d : Dr) : Prop := match d with
  | .leaf n => k.leaf = true ∧ n < 2 ^ k.n
  | .row l => k.leaf = false ∧ l.length = k.n ∧ ∀ (i v : Nat), l[i]? = some v → v ≤ i
/-! ### sizes and needs -/
def highN (m : Nat) : Nat := ((List.range 6).filter fun k => decide (2 ^ k < m)).length
def lastN (m : Nat) : Nat := highN m - 1
def sideN (m : Nat) : Nat := ((List.range 7).filter fun k => decide (1 ≤ k) && decide (m ≤ k * k)).headD 0
def stairN (m p : Nat) : Nat := ((List.range 6).filter fun k => decide (k = lastN m) || decide (p % (2 * 2 ^ k) ≠ 0)).headD 0
def slotA (m st : Nat) : Nat := if st = lastN m then m else 2 * 2 ^ st
def trN : Nat → Nat → List Nat
  | 0, m => [m]
  | f + 1, m => if 4 < m then m :: trN f ((m + 3) / 4) else [m]
def treesN (m : Nat) : List Nat := trN 3 m
/-! ### orders and rows: what they are -/
def swapL (l : List Nat) (i j : Nat) : List Nat := (l.set i (l.getD j 0)).set j (l.getD i 0)
def walkO (r : Nat → Nat) : Nat → List Nat → List Nat
  | 0, o => o
  | m + 1, o => walkO r m (swapL o (m + 1) (r (m + 1)))
def orderOf (l : List Nat) : List Nat := walkO (fun i => l.getD i 0) (l.length - 1) (List.range l.length)
def walkR (o : Nat → Nat) : Nat → List Nat → List Nat → List Nat
  | 0, _, row => row
  | m + 1, left, row => walkR o m (swapL left (m + 1) (left.idxOf (o (m + 1)))) (row.set (m + 1) (left.idxOf (o (m + 1))))
def rowOf (o : List Nat) : List Nat := walkR (fun i => o.getD i 0) (o.length - 1) (List.range o.length) (List.replicate o.length 0)
/-- a shuffle's row -/
def RowOk (l : List Nat) : Prop := ∀ (i v : Nat), l[i]? = some v → v ≤ i
/-- an order of n -/
structure OrdOk (n : Nat) (o : List Nat) : Prop where
  len : o.length = n
  nd : o.Nodup
  lt : ∀ x, x ∈ o → x < n
/-- the ints of a list of things, where all are -/
def intOf : V → Int
  | .int i => i
  | _ => 0
def orderB (xs : List V) : Bool := decide (1 ≤ xs.length) && decide (xs.length ≤ 64) && xs.all (fun x => withinV x 0 ((xs.length : Int) - 1)) && decide ((xs.map intOf).Nodup)
def ItemsTy (K : PySem.W.Frag) (G : Hp) (M : Mem) (xs : List V) : Prop := ∀ x, x ∈ xs → ∃ T : PT, TyK K G M x T ∧ (T == .int) = isIntV x
/-- a thing that may be an order -/
def ordV (K : PySem.W.Frag) (G : Hp) (M : Mem) (x : V) (b : Bool) : Prop := (∃ T : PT, TyK K G M x T ∧ T ≠ .list ∧ b = false) ∨ ∃ (a : Addr) (xs : List V), x = .ref a ∧ LstAt K G M a xs ∧ xs.length ≤ 1000 ∧ ItemsTy K G M xs ∧ b = orderB xs
def S_is_order (K : PySem.W.Frag) : KSp := sp1 fun x G M R Z => ∃ b, ordV K G M x b ∧ R (.bl b) G M
def S_exchange (K : PySem.W.Frag) : KSp := sp3 fun x y z G M R Z => ∃ (a : Addr) (n : Nat) (l : List Nat) (i j : Nat), x = .ref a ∧ y = .int i ∧ z = .int j ∧ M[n]? = some (a, .lst (natsV l)) ∧ i < l.length ∧ j < l.length ∧ R .non G (M.set n (a, .lst (natsV (swapL l i j))))
def S_order_of (K : PySem.W.Frag) : KSp := sp1 fun x G M R Z => ∃ (a : Addr) (l : List Nat), x = .ref a ∧ LstAt K G M a (natsV l) ∧ RowOk l ∧ l.length ≤ 1000 ∧ ∀ t, Fr G M t → R (.ref t) G ((t, .lst (natsV (orderOf l))) :: M)
def S_row_of (K : PySem.W.Frag) : KSp := sp1 fun x G M R Z => (ordV K G M x false ∧ Z (.ref (cl K "NoOrder")) none G M) ∨ ∃ (a : Addr) (o : List Nat), x = .ref a ∧ LstAt K G M a (natsV o) ∧ OrdOk o.length o ∧ 1 ≤ o.length ∧ o.length ≤ 64 ∧ ∀ t, Fr G M t → R (.ref t) G ((t, .lst (natsV (rowOf o))) :: M)

/-! ### asks -/
inductive Deed | read (c : Nat) | write (c w : Nat)
def Deed.cell : Deed → Nat
  | .read c => c
  | .write c _ => c
def Deed.vs : Deed → List V
  | .read c => [.str "read", .int c]
  | .write c w => [.str "write", .int c, .int w]
def Deed.upd (ws : List Nat) : Deed → List Nat
  | .read _ => ws
  | .write c w => ws.set c w
def Deed.put (told : Nat) : Deed → Nat
  | .read _ => told
  | .write _ w => w
def DeedOk (m : Nat) (d : Deed) : Prop := d.cell < m ∧ match d with
  | .read _ => True
  | .write _ w => w ≤ 999999999999999999
def DeedAt (K : PySem.W.Frag) (G : Hp) (v : V) (d : Deed) : Prop := ∃ t, v = .ref t ∧ SqT K G t d.vs
/-- a thing whose first item may be compared with a text -/
def HeadOk (K : PySem.W.Frag) (G : Hp) (M : Mem) (x : V) : Prop := match x with
  | .ref a => (∃ d, DatAt K G M x d ∧ SeqAt.shaped d = true ∧ ∀ s, PyData.eqv d (.str s) = false) ∨ ∃ kvs, G a = some (.dK kvs)
  | .non => True
  | .int _ => True
  | .bl _ => True
  | .str _ => True
  | _ => False
def askB (m : Int) (xs : List V) : Bool := match xs with
  | x0 :: x1 :: r => withinV x1 0 (m - 1) && (match r with
    | [] => decide (x0 = .str "read")
    | [x2] => decide (x0 = .str "write") && withinV x2 0 999999999999999999
    | _ => false)
  | _ => false
def AskV (K : PySem.W.Frag) (G : Hp) (M : Mem) (m : Int) (y : V) (b : Bool) : Prop := (∃ T : PT, TyK K G M y T ∧ T ≠ .tuple ∧ b = false) ∨
  ∃ (t : Addr) (xs : List V), y = .ref t ∧ SqT K G t xs ∧ xs.length ≤ 1000 ∧ (∀ x, x ∈ xs → ∃ T : PT, TyK K G M x T ∧ (T == .int) = isIntV x) ∧ (∀ x, xs[0]? = some x → HeadOk K G M x) ∧ b = askB m xs
/-- a thing that is no ask, wherever it is looked at -/
def NoAskG (K : PySem.W.Frag) (G : Hp) (m : Int) (v : V) : Prop := ∀ G2 M2, Ex G G2 → AskV K G2 M2 m v false

/-! ### looks at draws -/
/-- draws that are frozen -/
def DrsG (K : PySem.W.Frag) (G : Hp) (p : Addr) (ds : List Dr) : Prop := ∃ us, SqL K G p us ∧ A2 (DrV K G []) us ds
/-! ### keepers and shelves -/
structure Tch where
  lay : Bool
  shelf : Nat
  room : Nat
  deriving DecidableEq
def Tch.txt (t : Tch) : Str := if t.lay then "lay" else "look"
def tchD (t : Tch) : PyData := .tuple [.str t.txt, .int t.shelf, .int t.room]
/-- a list of touches, as it lies -/
def LogC (K : PySem.W.Frag) (G : Hp) (ts : List Tch) (o : HO) : Prop := ∃ vs, o = .lst vs ∧ DpAll K G vs (ts.map tchD)
structure KeepAt (K : PySem.W.Frag) (G : Hp) (M : Mem) (kp dk lg : Addr) (j l : Nat) (o : HO) (ts : List Tch) : Prop where
  k : M[j]? = some (kp, Ob K 1 dk [.ref lg])
  l : M[l]? = some (lg, o)
  c : LogC K G ts o
structure ShelfAt (K : PySem.W.Frag) (M : Mem) (a dx kp th : Addr) (num n i : Nat) (xs : List V) : Prop where
  s : M[n]? = some (a, Ob K 2 dx [.ref kp, .int num, .ref th])
  t : M[i]? = some (th, .lst xs)
/-- a list that is another cell than the one at n, or frozen -/
def LstN (K : PySem.W.Frag) (G : Hp) (M : Mem) (n : Nat) (b : Addr) (xs : List V) : Prop := (∃ i, n ≠ i ∧ M[i]? = some (b, .lst xs)) ∨ SqL K G b xs
/-! ### what stores of all ways have -/
structure StoreF where
  cells : Nat
  limit : Nat
  draws : Addr
  keeper : Addr
  made : Nat
def StoreF.vs (f : StoreF) : List V := [.int f.cells, .int f.limit, .ref f.draws, .ref f.keeper, .int f.made]
def Deed.word : Deed → V
  | .read _ => .non
  | .write _ w => .int w
/-! ### scans -/
structure ScanA where
  s : Addr
  ds : Addr
  dr : Addr
  kp : Addr
  dk : Addr
  lg : Addr
  sh : Addr
  dh : Addr
  th : Addr
def scanB (K : PySem.W.Frag) (A : ScanA) (m lim made : Nat) (o : HO) (ws : List Nat) : Mem := [(A.s, Ob K 3 A.ds (StoreF.vs ⟨m, lim, A.dr, A.kp, made⟩ ++ [.ref A.sh])), (A.kp, Ob K 1 A.dk [.ref A.lg]), (A.lg, o), (A.sh, Ob K 2 A.dh [.ref A.kp, .int 0, .ref A.th]), (A.th, .lst (natsV ws))]
def scanT (m : Nat) : List Tch := (List.range m).flatMap fun r => [⟨false, 0, r⟩, ⟨true, 0, r⟩]
/-! ### nets: what they are -/
def joinL : Nat → Int → Int → List (Int × Int)
  | 0, f, s => [(f, f + s)]
  | j + 1, f, s => joinL j f (2 * s) ++ joinL j (f + s) (2 * s) ++ (List.range (2 ^ (j + 1) - 1)).map fun (i : Nat) => (f + s + (i : Int) * (2 * s), f + s + (i : Int) * (2 * s) + s)
def sortL : Nat → Int → List (Int × Int)
  | 0, _ => []
  | j + 1, f => sortL j f ++ sortL j (f + 2 ^ j) ++ joinL j f 1
def lg (n : Int) : Nat := if n ≤ 1 then 0 else if n ≤ 2 then 1 else if n ≤ 4 then 2 else if n ≤ 8 then 3 else if n ≤ 16 then 4 else if n ≤ 32 then 5 else 6
def netL (n : Int) : List (Int × Int) := (sortL (lg n) 0).filter fun p => decide (p.2 < n)
/-! ### the run of a net -/
/-! ### a shuffled shelf with spare rooms: what it is -/
structure Tri where
  mark : Nat
  item : Nat
  word : Nat
def triD (t : Tri) : PyData := .tuple [.int t.mark, .int t.item, .int t.word]
/-- each item lies, marked, in its room -/
structure Laid (ord W : List Nat) (tr : List Tri) : Prop where
  len : tr.length = ord.length
  at_ : ∀ i, i < ord.length → tr[ord.getD i 0]? = some ⟨ord.getD i 0, i, W.getD i 0⟩
/-- what is in hand -/
def hGet (h : List (Nat × Nat)) (c : Nat) : Option Nat := (h.find? fun p => decide (p.1 = c)).map (·.2)
def hPut (h : List (Nat × Nat)) (c w : Nat) : List (Nat × Nat) := if (hGet h c).isSome then h.map (fun p => if p.1 = c then (p.1, w) else p) else h ++ [(c, w)]
def handK (h : List (Nat × Nat)) : List (Key × V) := h.map fun p => (Sum.inl (p.1 : Int), V.int (p.2 : Int))
def pairT (p : Int × Int) : List Tch := [⟨false, 0, p.1.toNat⟩, ⟨false, 0, p.2.toNat⟩, ⟨true, 0, p.1.toNat⟩, ⟨true, 0, p.2.toNat⟩]
def mendT (n : Nat) : List Tch := scanT n ++ (netL (n : Int)).flatMap pairT
/-- the words of all items behind a mending -/
def wordsM (n : Nat) (W : List Nat) (h : List (Nat × Nat)) : List Nat := (List.range n).map fun i => (hGet h i).getD (W.getD i 0)
def HandOk (m : Nat) (h : List (Nat × Nat)) : Prop := (h.map (·.1)).Nodup ∧ ∀ p, p ∈ h → p.1 < m
def spareB (K : PySem.W.Frag) (A : ScanA) (m lim made : Nat) (od hd : Addr) (o : HO) (xs : List V) (h : List (Nat × Nat)) : Mem :=
  [(A.s, Ob K 4 A.ds (StoreF.vs ⟨m, lim, A.dr, A.kp, made⟩ ++ [.int (sideN m), .ref od, .ref A.sh, .ref hd])), (A.kp, Ob K 1 A.dk [.ref A.lg]), (A.lg, o), (A.sh, Ob K 2 A.dh [.ref A.kp, .int 0, .ref A.th]), (A.th, .lst xs), (hd, .dK (handK h))]
/-- a spare store's orders, words and hand -/
structure SpM where
  ord : List Nat
  W : List Nat
  hnd : List (Nat × Nat)
def spPre (m made : Nat) (rows : List (List Nat)) (s : SpM) : SpM := if made % sideN m = 0 ∧ 0 < made then ⟨orderOf (rows.getD (made / sideN m) []), wordsM (m + sideN m) s.W s.hnd, []⟩ else s
def spPreT (m made : Nat) : List Tch := if made % sideN m = 0 ∧ 0 < made then mendT (m + sideN m) else []
def spItem (m made c : Nat) (s : SpM) : Nat := if (hGet s.hnd c).isSome then m + made % sideN m else c
def spTold (m made c : Nat) (s : SpM) : Nat := (hGet s.hnd c).getD (s.W.getD (spItem m made c s) 0)
def spAsk (m made : Nat) (rows : List (List Nat)) (d : Deed) (s : SpM) : SpM := { spPre m made rows s with hnd := hPut (spPre m made rows s).hnd d.cell (d.put (spTold m made d.cell (spPre m made rows s))) }
def spAskT (m made : Nat) (rows : List (List Nat)) (d : Deed) (s : SpM) : List Tch := spPreT m made ++ [⟨false, 0, (spPre m made rows s).ord.getD (spItem m made d.cell (spPre m made rows s)) 0⟩, ⟨true, 0, (spPre m made rows s).ord.getD (spItem m made d.cell (spPre m made rows s)) 0⟩]
structure SpareInv (K : PySem.W.Frag) (G : Hp) (A : ScanA) (m lim : Nat) (rows : List (List Nat)) (s : SpM) (od : Addr) (o : HO) (xs : List V) (ts : List Tch) : Prop where
  log : LogC K G ts o
  ord : SqL K G od (natsV s.ord)
  ok : OrdOk (m + sideN m) s.ord
  lay : ∃ tr, DpAll K G xs (tr.map triD) ∧ Laid s.ord s.W tr
  hk : HandOk m s.hnd
  drs : DrsG K G A.dr (rows.map Dr.row)
  rl : rows.length = (lim + sideN m - 1) / sideN m
  rk : ∀ row, row ∈ rows → row.length = m + sideN m ∧ RowOk row
  m0 : 1 ≤ m
  m1 : m ≤ 32
inductive Frs' (G : Hp) (M : Mem) : Mem → Prop
  | nil : Frs' G M []
  | cons {p : Addr} {o : HO} {Mx : Mem} : Fr G (Mx ++ M) p → Frs' G M Mx → Frs' G M ((p, o) :: Mx)
/-! ### stores, seen from without -/
def plainW (m : Nat) (ds : List Deed) : List Nat := ds.foldl (fun ws d => d.upd ws) (List.replicate m 0)
/-- what every law needs to see of a store's cells -/
structure Seen (K : PySem.W.Frag) (w m lim made : Nat) (ts : List Tch) (G : Hp) (a : Addr) (B : Mem) : Prop where
  ex : ∃ (dx dr kp dk lg : Addr) (o : HO) (r : List V), (a, Ob K w dx (StoreF.vs ⟨m, lim, dr, kp, made⟩ ++ r)) ∈ B ∧ (kp, Ob K 1 dk [.ref lg]) ∈ B ∧ (lg, o) ∈ B ∧ LogC K G ts o
/-! ### a shuffled shelf, seen from without -/
def spGo (m : Nat) (rows : List (List Nat)) : Nat → List Deed → SpM → SpM
  | _, [], s => s
  | i, d :: ds, s => spGo m rows (i + 1) ds (spAsk m i rows d s)
def spGoT (m : Nat) (rows : List (List Nat)) : Nat → List Deed → SpM → List Tch
  | _, [], _ => []
  | i, d :: ds, s => spAskT m i rows d s ++ spGoT m rows (i + 1) ds (spAsk m i rows d s)
def spFirst (m : Nat) (rows : List (List Nat)) : SpM := ⟨if rows = [] then List.range (m + sideN m) else orderOf (rows.headD []), List.replicate (m + sideN m) 0, []⟩
def spS (m : Nat) (rows : List (List Nat)) (ds : List Deed) : SpM := spGo m rows 0 ds (spFirst m rows)
def spTs (m : Nat) (rows : List (List Nat)) (ds : List Deed) : List Tch := spGoT m rows 0 ds (spFirst m rows)
/-- the cells of a spare store, asked these -/
def St4 (K : PySem.W.Frag) (m lim : Nat) (rows : List (List Nat)) (G : Hp) (ds : List Deed) (a : Addr) (B : Mem) : Prop := ∃ (A : ScanA) (od hd : Addr) (o : HO) (xs : List V), a = A.s ∧ B = spareB K A m lim ds.length od hd o xs (spS m rows ds).hnd ∧ SpareInv K G A m lim rows (spS m rows ds) od o xs (spTs m rows ds) ∧ ds.length ≤ lim ∧ lim ≤ 60 ∧ ∀ d, d ∈ ds → DeedOk m d

/-! ### trees of rooms -/
/-- what is in hand: words and leaves by cells -/
abbrev HF := Nat → Option (Nat × Nat)
def HF.put (f : HF) (c : Nat) (p : Nat × Nat) : HF := fun x => if x = c then some p else f x
/-- what lies in the rooms -/
abbrev Th := List (Option (Nat × Nat × Nat))
def entD : Option (Nat × Nat × Nat) → PyData
  | none => .none
  | some e => .tuple [.int e.1, .int e.2.1, .int e.2.2]
def nodeN (high d leaf : Nat) : Nat := 2 ^ d - 1 + leaf / 2 ^ (high - d)
def fitB (high d node : Nat) (f : HF) (c : Nat) : Bool := match f c with
  | some p => decide (nodeN high d p.2 = node)
  | none => false
def fitsN (m high d node : Nat) (f : HF) : List Nat := ((List.range m).filter (fitB high d node f)).take 2
def lookR (th : Th) (f : HF) (r : Nat) : HF := match th.getD r none with
  | some e => f.put e.1 e.2
  | none => f
def lookW (th : Th) (high leaf : Nat) (f : HF) (k : Nat) : HF := (List.range k).foldl (fun f d => lookR th (lookR th f (2 * nodeN high d leaf)) (2 * nodeN high d leaf + 1)) f
def lookT (num high leaf k : Nat) : List Tch := (List.range k).flatMap fun d => [⟨false, num, 2 * nodeN high d leaf⟩, ⟨false, num, 2 * nodeN high d leaf + 1⟩]
def takeC (f : HF) (cs : List Nat) (s : Nat) : Option (Nat × Nat × Nat) := match cs[s]? with
  | some c => (f c).map fun p => (c, p)
  | none => none
def layD (m high leaf : Nat) (s : Th × HF) (d : Nat) : Th × HF :=
  ((s.1.set (2 * nodeN high d leaf) (takeC s.2 (fitsN m high d (nodeN high d leaf) s.2) 0)).set (2 * nodeN high d leaf + 1) (takeC s.2 (fitsN m high d (nodeN high d leaf) s.2) 1), fun x => if x ∈ fitsN m high d (nodeN high d leaf) s.2 then none else s.2 x)
def layW (m high leaf : Nat) (s : Th × HF) (k : Nat) : Th × HF := (List.range k).foldl (fun s i => layD m high leaf s (high - i)) s
def layT (num high leaf k : Nat) : List Tch := (List.range k).flatMap fun i => [⟨true, num, 2 * nodeN high (high - i) leaf⟩, ⟨true, num, 2 * nodeN high (high - i) leaf + 1⟩]
def wayT (num high leaf : Nat) : List Tch := lookT num high leaf (high + 1) ++ layT num high leaf (high + 1)
structure HandF (K : PySem.W.Frag) (G : Hp) (m : Nat) (hv : List (Key × V)) (f : HF) : Prop where
  nd : (hv.map (·.1)).Nodup
  key : ∀ p, p ∈ hv → ∃ c : Nat, c < m ∧ p.1 = Sum.inl (c : Int)
  non : ∀ c : Nat, f c = none → valV hv (Sum.inl (c : Int)) = none
  val : ∀ (c : Nat) (p : Nat × Nat), f c = some p → ∃ v, valV hv (Sum.inl (c : Int)) = some v ∧ Dp K G v (.tuple [.int p.1, .int p.2])
structure BodyA where
  b : Addr
  db : Addr
  sh : Addr
  dh : Addr
  th : Addr
  fs : Addr
  hd : Addr
def bodyB (K : PySem.W.Frag) (A : BodyA) (kp : Addr) (num high : Nat) (xs : List V) (hv : List (Key × V)) : Mem :=
  [(A.b, Ob K 8 A.db [.ref A.sh, .int high, .ref A.fs, .ref A.hd]), (A.sh, Ob K 2 A.dh [.ref kp, .int num, .ref A.th]), (A.th, .lst xs), (A.hd, .dK hv)]
def keepB (K : PySem.W.Frag) (kp dk lg : Addr) (o : HO) : Mem := [(kp, Ob K 1 dk [.ref lg]), (lg, o)]
structure BodyI (K : PySem.W.Frag) (G : Hp) (A : BodyA) (m high : Nat) (fs : List Nat) (th : Th) (f : HF) (xs : List V) (hv : List (Key × V)) : Prop where
  sf : SqL K G A.fs (natsV fs)
  fl : fs.length = m
  sx : DpAll K G xs (th.map entD)
  sv : HandF K G m hv f
  tl : th.length = 2 * (2 * 2 ^ high - 1)
  tm : ∀ (r : Nat) (e : Nat × Nat × Nat), th[r]? = some (some e) → e.1 < m
  hi : high ≤ 6
  m1 : m ≤ 32
/-! ### a tree as a store -/
structure TreeA where
  s : Addr
  ds : Addr
  dr : Addr
  kp : Addr
  dk : Addr
  lg : Addr
  tb : Addr
  b : BodyA
def treeB (K : PySem.W.Frag) (A : TreeA) (m lim made high : Nat) (o : HO) (xs : List V) (hv : List (Key × V)) (tb : List Nat) : Mem :=
  bodyB K A.b A.kp 0 high xs hv ++ (keepB K A.kp A.dk A.lg o ++ [(A.s, Ob K 6 A.ds (StoreF.vs ⟨m, lim, A.dr, A.kp, made⟩ ++ [.ref A.b.b, .ref A.tb])), (A.tb, .lst (natsV tb))])
/-- what a tree is: rooms, hand, leaves -/
structure TrM where
  th : Th
  f : HF
  tb : List Nat
def trKeep (m : Nat) (d : Deed) (fresh : Nat) (s : TrM) : HF := (lookW s.th (highN m) (s.tb.getD d.cell 0) s.f (highN m + 1)).put d.cell ((match lookW s.th (highN m) (s.tb.getD d.cell 0) s.f (highN m + 1) d.cell with | some p => d.put p.1 | none => d.put 0), fresh)
def trAsk (m : Nat) (d : Deed) (fresh : Nat) (s : TrM) : TrM :=
  ⟨(layW m (highN m) (s.tb.getD d.cell 0) (s.th, trKeep m d fresh s) (highN m + 1)).1, (layW m (highN m) (s.tb.getD d.cell 0) (s.th, trKeep m d fresh s) (highN m + 1)).2, s.tb.set d.cell fresh⟩
def trAskT (m : Nat) (d : Deed) (s : TrM) : List Tch := wayT 0 (highN m) (s.tb.getD d.cell 0)
structure TreeI (K : PySem.W.Frag) (G : Hp) (A : TreeA) (m lim : Nat) (drs : List Nat) (s : TrM) (o : HO) (xs : List V) (hv : List (Key × V)) (ts : List Tch) : Prop where
  bd : BodyI K G A.b m (highN m) (List.replicate m 0) s.th s.f xs hv
  log : LogC K G ts o
  dr : SqL K G A.dr (natsV drs)
  dl : drs.length = m + lim
  dk : ∀ x, x ∈ drs → x < 2 ^ highN m
  tl : s.tb.length = m
  tk : ∀ x, x ∈ s.tb → x < 2 ^ highN m
  m0 : 1 ≤ m
  m1 : m ≤ 32
/-- a tree, asked these -/
def trGo (m : Nat) (drs : List Nat) : Nat → List Deed → TrM → TrM
  | _, [], s => s
  | i, d :: ds, s => trGo m drs (i + 1) ds (trAsk m d (drs.getD (m + i) 0) s)
def trGoT (m : Nat) (drs : List Nat) : Nat → List Deed → TrM → List Tch
  | _, [], _ => []
  | i, d :: ds, s => trAskT m d s ++ trGoT m drs (i + 1) ds (trAsk m d (drs.getD (m + i) 0) s)
def trFirst (m : Nat) (drs : List Nat) : TrM := ⟨List.replicate (2 * (2 * 2 ^ highN m - 1)) none, fun _ => none, drs.take m⟩
def trS (m : Nat) (drs : List Nat) (ds : List Deed) : TrM := trGo m drs 0 ds (trFirst m drs)
def trTs (m : Nat) (drs : List Nat) (ds : List Deed) : List Tch := trGoT m drs 0 ds (trFirst m drs)
def St6 (K : PySem.W.Frag) (m lim : Nat) (drs : List Nat) (G : Hp) (ds : List Deed) (a : Addr) (B : Mem) : Prop := ∃ (A : TreeA) (o : HO) (xs : List V) (hv : List (Key × V)), a = A.s ∧ B = treeB K A m lim ds.length (highN m) o xs hv (trS m drs ds).tb ∧ TreeI K G A m lim drs (trS m drs ds) o xs hv (trTs m drs ds) ∧ ds.length ≤ lim ∧ lim ≤ 60 ∧ ∀ d, d ∈ ds → DeedOk m d

/-! ### the words that a body holds, its first words and the new ones any -/
def bTold (high : Nat) (fs : List Nat) (c : Nat) (s : TrM) : Nat := match lookW s.th high (s.tb.getD c 0) s.f (high + 1) c with
  | some p => p.1
  | none => fs.getD c 0
def bKeep (high : Nat) (fs : List Nat) (c : Nat) (w : Nat → Nat) (fresh : Nat) (s : TrM) : HF := (lookW s.th high (s.tb.getD c 0) s.f (high + 1)).put c (w (bTold high fs c s), fresh)
def bAsk (m high : Nat) (fs : List Nat) (c : Nat) (w : Nat → Nat) (fresh : Nat) (s : TrM) : TrM :=
  ⟨(layW m high (s.tb.getD c 0) (s.th, bKeep high fs c w fresh s) (high + 1)).1, (layW m high (s.tb.getD c 0) (s.th, bKeep high fs c w fresh s) (high + 1)).2, s.tb.set c fresh⟩
structure BI (m : Nat) (fs W : List Nat) (s : TrM) : Prop where
  len : s.th.length = 2 * (2 * 2 ^ highN m - 1)
  wl : W.length = m
  tl : s.tb.length = m
  tk : ∀ x, x ∈ s.tb → x < 2 ^ highN m
  i1 : ∀ (r : Nat) (e : Nat × Nat × Nat), s.th[r]? = some (some e) → e.1 < m ∧ e.2.1 = W.getD e.1 0 ∧ e.2.2 = s.tb.getD e.1 0 ∧ (∃ d, d ≤ highN m ∧ r / 2 = nodeN (highN m) d e.2.2) ∧ s.f e.1 = none ∧ ∀ (r' : Nat) (e' : Nat × Nat × Nat), s.th[r']? = some (some e') → e'.1 = e.1 → r' = r
  i2 : ∀ (c : Nat) (p : Nat × Nat), s.f c = some p → p.1 = W.getD c 0 ∧ p.2 = s.tb.getD c 0 ∧ c < m
  i3 : ∀ c, c < m → s.f c = none → (∀ (r : Nat) (e : Nat × Nat × Nat), s.th[r]? = some (some e) → e.1 ≠ c) → W.getD c 0 = fs.getD c 0

/-! ### leaves packed into words -/
def packN (h : Nat) : List Nat → Nat
  | [] => 0
  | x :: l => x + 2 ^ h * packN h l
def leafIn (w h p : Nat) : Nat := w / 2 ^ (h * p) % 2 ^ h
/-- a word with another leaf at a place -/
def withN (w h p x : Nat) : Nat := ((w : Int) + ((x : Int) - (leafIn w h p : Int)) * 2 ^ (h * p)).toNat
def chunk (l : List Nat) (i : Nat) : List Nat := (l.drop (4 * i)).take 4
def wordsN (h : Nat) (l : List Nat) : List Nat := (List.range ((l.length + 3) / 4)).map fun i => packN h (chunk l i)
/-! ### groves: what they are -/
structure GroveA where
  s : Addr
  ds : Addr
  dr : Addr
  kp : Addr
  dk : Addr
  lg : Addr
  hs : Addr
  bs : Addr
  tb : Addr
  b : Nat → BodyA
structure GrV where
  o : HO
  xs : Nat → List V
  hv : Nat → List (Key × V)
abbrev GrM := Nat → TrM
def msN (ms : List Nat) (i : Nat) : Nat := ms.getD i 0
def bodG (K : PySem.W.Frag) (A : GroveA) (ms : List Nat) (v : GrV) (i : Nat) : Mem := bodyB K (A.b i) A.kp i (highN (msN ms i)) (v.xs i) (v.hv i)
def bodsB (K : PySem.W.Frag) (A : GroveA) (ms : List Nat) (v : GrV) : Mem := (List.range ms.length).flatMap (bodG K A ms v)
def groveB (K : PySem.W.Frag) (A : GroveA) (m lim made : Nat) (ms : List Nat) (v : GrV) (tb : List Nat) : Mem :=
  keepB K A.kp A.dk A.lg v.o ++ ((A.s, Ob K 7 A.ds (StoreF.vs ⟨m, lim, A.dr, A.kp, made⟩ ++ [.ref A.hs, .ref A.bs, .int ms.sum, .ref A.tb])) :: (A.tb, .lst (natsV tb)) :: bodsB K A ms v)
def cellI (c i : Nat) : Nat := c / 2 ^ (2 * i)
/-- the draws of an ask -/
def freshN (ms drs : List Nat) (made i : Nat) : Nat := drs.getD (ms.sum + made * ms.length + i) 0
/-- what is written in a tree -/
def newW (ms : List Nat) (d : Deed) (fr : Nat → Nat) (i : Nat) (old : Nat) : Nat := match i with
  | 0 => d.put old
  | j + 1 => withN old (highN (msN ms j)) (cellI d.cell j % 4) (fr j)
def grStep (ms : List Nat) (fs : Nat → List Nat) (d : Deed) (fr : Nat → Nat) (i : Nat) (s : TrM) : TrM := bAsk (msN ms i) (highN (msN ms i)) (fs i) (cellI d.cell i) (newW ms d fr i) (fr i) s
def grAsk (ms : List Nat) (fs : Nat → List Nat) (d : Deed) (fr : Nat → Nat) (s : GrM) : GrM := fun i => grStep ms fs d fr i (s i)
def grWayT (ms : List Nat) (d : Deed) (s : GrM) (i : Nat) : List Tch := wayT i (highN (msN ms i)) ((s i).tb.getD (cellI d.cell i) 0)
def grAskT (ms : List Nat) (d : Deed) (s : GrM) : List Tch := (List.range ms.length).reverse.flatMap (grWayT ms d s)
/-- the words of a tree -/
def wordG (ms : List Nat) (W : List Nat) (s : GrM) (i : Nat) : List Nat := match i with
  | 0 => W
  | j + 1 => wordsN (highN (msN ms j)) (s j).tb
def startG (ms : List Nat) (t : Nat) : Nat := (ms.take t).sum
/-- the draws of a grove -/
structure GrD (ms drs : List Nat) (lim : Nat) : Prop where
  len : drs.length = ms.sum + lim * ms.length
  fst : ∀ i, i < ms.length → ∀ x, x ∈ (drs.drop (startG ms i)).take (msN ms i) → x < 2 ^ highN (msN ms i)
  ask : ∀ i n, i < ms.length → n < lim → freshN ms drs n i < 2 ^ highN (msN ms i)
/-- the trees of a grove: each lesser one a fourth of the one ahead -/
structure MsOk (ms : List Nat) (m : Nat) : Prop where
  l0 : 1 ≤ ms.length
  l3 : ms.length ≤ 3
  hd : msN ms 0 = m
  ok : ∀ i, i < ms.length → 1 ≤ msN ms i ∧ msN ms i ≤ 32
  nx : ∀ i, i + 1 < ms.length → msN ms (i + 1) = (msN ms i + 3) / 4
structure GroveI (K : PySem.W.Frag) (G : Hp) (A : GroveA) (m lim : Nat) (ms drs : List Nat) (fs : Nat → List Nat) (W : List Nat) (s : GrM) (v : GrV) (ts : List Tch) : Prop where
  bd : ∀ i, i < ms.length → BodyI K G (A.b i) (msN ms i) (highN (msN ms i)) (fs i) (s i).th (s i).f (v.xs i) (v.hv i)
  bi : ∀ i, i < ms.length → BI (msN ms i) (fs i) (wordG ms W s i) (s i)
  log : LogC K G ts v.o
  dr : SqL K G A.dr (natsV drs)
  dd : GrD ms drs lim
  hs : SqL K G A.hs (natsV (ms.map highN))
  bs : SqL K G A.bs ((List.range ms.length).map fun i => .ref (A.b i).b)
  mo : MsOk ms m
/-- the leaves at first, and the first words -/
def tab0 (ms drs : List Nat) (i : Nat) : List Nat := (drs.drop (startG ms i)).take (msN ms i)
def fs0 (ms drs : List Nat) (m : Nat) (i : Nat) : List Nat := match i with
  | 0 => List.replicate m 0
  | j + 1 => wordsN (highN (msN ms j)) (tab0 ms drs j)
def grFirst (ms drs : List Nat) : GrM := fun i => ⟨List.replicate (2 * (2 * 2 ^ highN (msN ms i) - 1)) none, fun _ => none, tab0 ms drs i⟩
/-! ### dicts whose keys are numbers: what they hold, as a function -/
structure DicF {α : Type} (P : V → α → Prop) (n : Nat) (hv : List (Key × V)) (f : Nat → Option α) : Prop where
  nd : (hv.map (·.1)).Nodup
  key : ∀ p, p ∈ hv → ∃ c : Nat, c < n ∧ p.1 = Sum.inl (c : Int)
  non : ∀ c : Nat, f c = none → valV hv (Sum.inl (c : Int)) = none
  val : ∀ (c : Nat) (a : α), f c = some a → ∃ v, valV hv (Sum.inl (c : Int)) = some v ∧ P v a
def putF {α : Type} (f : Nat → Option α) (c : Nat) (a : α) : Nat → Option α := fun x => if x = c then some a else f x
def dropF {α : Type} (f : Nat → Option α) (c : Nat) : Nat → Option α := fun x => if x = c then none else f x
def intP (v : V) (a : Nat) : Prop := v = .int a
def trueP (v : V) (_ : Unit) : Prop := v = .bl true
def pairP (K : PySem.W.Frag) (G : Hp) (v : V) (p : Nat × Nat) : Prop := Dp K G v (.tuple [.int p.1, .int p.2])
def ordP (K : PySem.W.Frag) (G : Hp) (v : V) (o : List Nat) : Prop := ∃ a, v = .ref a ∧ SqL K G a (natsV o)

/-! ### climbs: what they are -/
structure ClM where
  fu : Nat → Option Nat
  dr : Nat → Option Nat
  ho : Nat → Option (Nat × Nat)
  he : Nat → Option Unit
def clFirst (m : Nat) : ClM := ⟨putF (fun _ => none) (lastN m) 0, putF (fun _ => none) (lastN m) 0, fun c => if c < m then some (lastN m, c) else none, fun _ => none⟩
def takenN (m p : Nat) (s : ClM) : List Nat := ((List.range (stairN m p)).filter fun st => (s.fu st).isSome) ++ if stairN m p = lastN m then [stairN m p] else []
def inT (m p : Nat) (s : ClM) (c : Nat) : Bool := match s.ho c with
  | some q => decide (q.1 ∈ takenN m p s)
  | none => false
def pouredN (m p : Nat) (s : ClM) : List Nat := (List.range m).filter fun c => (s.he c).isSome || inT m p s c
def clFill (m p n : Nat) (s : ClM) : ClM := ⟨fun st => if st = stairN m p then some n else if st ∈ takenN m p s then none else s.fu st, putF s.dr (stairN m p) p,
  fun c => if c ∈ pouredN m p s then some (stairN m p, (pouredN m p s).idxOf c) else s.ho c, fun _ => none⟩
def slotC (m c n st k : Nat) (s : ClM) : Nat := match s.ho c with
  | some q => if q.1 = st then q.2 else slotA m st + n - k
  | none => slotA m st + n - k
def slotsN (m c n : Nat) (s : ClM) : List (Nat × Nat) := (List.range (lastN m + 1)).filterMap fun st => (s.fu st).map fun k => (st, slotC m c n st k s)
def clTake (c : Nat) (s : ClM) : ClM := ⟨s.fu, s.dr, dropF s.ho c, putF s.he c ()⟩
structure ClimbA where
  c : Addr
  dc : Addr
  fu : Addr
  dr : Addr
  ho : Addr
  he : Addr
def climbB (K : PySem.W.Frag) (A : ClimbA) (m : Nat) (fv dv hov hev : List (Key × V)) : Mem :=
  [(A.c, Ob K 9 A.dc [.int m, .int (lastN m), .ref A.fu, .ref A.dr, .ref A.ho, .ref A.he]), (A.fu, .dK fv), (A.dr, .dK dv), (A.ho, .dK hov), (A.he, .dK hev)]
structure ClimbI (K : PySem.W.Frag) (G : Hp) (m : Nat) (s : ClM) (fv dv hov hev : List (Key × V)) : Prop where
  fu : DicF intP 5 fv s.fu
  dr : DicF intP 5 dv s.dr
  ho : DicF (pairP K G) m hov s.ho
  he : DicF trueP m hev s.he
  m0 : 1 ≤ m
  m1 : m ≤ 32
/-! ### stairs: what they are -/
def roomsN (m st : Nat) : Nat := slotA m st + 2 * 2 ^ st
def optV : Option Nat → V
  | some w => .int w
  | none => .non
structure StairsA where
  s : Addr
  ds : Addr
  dr : Addr
  kp : Addr
  dk : Addr
  lg : Addr
  hd : Addr
  shs : Addr
  ods : Addr
  cl : ClimbA
  sh : Nat → Addr
  dsh : Nat → Addr
  th : Nat → Addr
abbrev Ths := Nat → List (Option Nat)
def shsB (K : PySem.W.Frag) (A : StairsA) (th : Ths) : Nat → Nat → Mem
  | _, 0 => []
  | i, k + 1 => (A.sh i, Ob K 2 (A.dsh i) [.ref A.kp, .int i, .ref (A.th i)]) :: (A.th i, .lst ((th i).map optV)) :: shsB K A th (i + 1) k
structure StV where
  fv : List (Key × V)
  dv : List (Key × V)
  hov : List (Key × V)
  hev : List (Key × V)
  hnv : List (Key × V)
  odv : List (Key × V)
  o : HO
  th : Ths
def headB (K : PySem.W.Frag) (A : StairsA) (m lim made : Nat) (v : StV) : Mem :=
  climbB K A.cl m v.fv v.dv v.hov v.hev ++ (keepB K A.kp A.dk A.lg v.o ++ [(A.s, Ob K 5 A.ds (StoreF.vs ⟨m, lim, A.dr, A.kp, made⟩ ++ [.ref A.cl.c, .ref A.hd, .ref A.shs, .ref A.ods])), (A.hd, .dK v.hnv), (A.shs, .lst ((List.range (lastN m + 1)).map fun i => .ref (A.sh i))), (A.ods, .dK v.odv)])
def stairsB (K : PySem.W.Frag) (A : StairsA) (m lim made : Nat) (v : StV) : Mem := headB K A m lim made v ++ shsB K A v.th 0 (lastN m + 1)
def ordN (rows : List (List Nat)) (s : ClM) (st : Nat) : List Nat := orderOf (rows.getD ((s.dr st).getD 0) [])
/-- the draws' sizes -/
structure RowsK (m lim : Nat) (rows : List (List Nat)) : Prop where
  len : rows.length = (lim + 1) / 2
  ok : ∀ (i : Nat) (row : List Nat), rows[i]? = some row → RowOk row ∧ row.length = roomsN m (if i = 0 then lastN m else stairN m i)
structure StairsI (K : PySem.W.Frag) (G : Hp) (A : StairsA) (m lim : Nat) (rows : List (List Nat)) (s : ClM) (hf : Nat → Option Nat) (W : Nat → Nat) (v : StV) (ts : List Tch) : Prop where
  ci : ClimbI K G m s v.fv v.dv v.hov v.hev
  hd : DicF intP m v.hnv hf
  od : DicF (ordP K G) 5 v.odv (fun st => if lim = 0 then none else (s.dr st).map fun p => orderOf (rows.getD p []))
  wd : 0 < lim → ∀ c st sl, s.ho c = some (st, sl) → (v.th st)[(ordN rows s st).getD sl 0]? = some (some (W c))
  tl : ∀ st, st ≤ lastN m → (v.th st).length = roomsN m st
  log : LogC K G ts v.o
  dr : DrsG K G A.dr (rows.map Dr.row)
  rk : RowsK m lim rows
def fullN (L q st : Nat) : Option Nat := if st < L then (if (q / 2 ^ st) % 2 = 1 then some (2 * (q / 2 ^ st * 2 ^ st)) else none) else if st = L then some (2 * (q / 2 ^ L * 2 ^ L)) else none
/-- a climb behind q pours, with at most h cells in hand -/
structure ClMI (m q h : Nat) (s : ClM) : Prop where
  fu : ∀ st, s.fu st = fullN (lastN m) q st
  dr : ∀ st k, s.fu st = some k → s.dr st = some (k / 2)
  dk : ∀ st p, s.dr st = some p → p ≤ q ∧ st = (if p = 0 then lastN m else stairN m p)
  ho : ∀ c st sl, s.ho c = some (st, sl) → c < m ∧ (s.fu st).isSome ∧ sl < slotA m st ∧ s.he c = none
  he : ∀ c, c < m → s.ho c = none → (s.he c).isSome
  hl : ∀ c, (s.he c).isSome → c < m
  inj : ∀ c c' x, s.ho c = some x → s.ho c' = some x → c = c'
  hn : ((List.range m).filter fun c => (s.he c).isSome).length ≤ h
def handF (s : ClM) (W : Nat → Nat) : Nat → Option Nat := fun c => if (s.he c).isSome then some (W c) else none
def allT (b : Bool) (m st : Nat) : List Tch := (List.range (roomsN m st)).map fun r => ⟨b, st, r⟩
def pourT (m p : Nat) (s : ClM) : List Tch := ((takenN m p s).flatMap fun st => allT false m st) ++ allT true m (stairN m p)
def clPre (m n : Nat) (s : ClM) : ClM := if 0 < n ∧ n % 2 = 0 then clFill m (n / 2) n s else s
def clAsk (m n c : Nat) (s : ClM) : ClM := clTake c (clPre m n s)
def askT (m n c : Nat) (rows : List (List Nat)) (s : ClM) : List Tch := (slotsN m c n s).flatMap fun q => [⟨false, q.1, (ordN rows s q.1).getD q.2 0⟩, ⟨true, q.1, (ordN rows s q.1).getD q.2 0⟩]
def srAskT (m n c : Nat) (rows : List (List Nat)) (s : ClM) : List Tch := (if 0 < n ∧ n % 2 = 0 then pourT m (n / 2) s else []) ++ askT m n c rows (clPre m n s)
/-! ### stairs, seen from without -/
def clGo (m : Nat) : Nat → List Deed → ClM → ClM
  | _, [], s => s
  | i, d :: ds, s => clGo m (i + 1) ds (clAsk m i d.cell s)
def srGoT (m : Nat) (rows : List (List Nat)) : Nat → List Deed → ClM → List Tch
  | _, [], _ => []
  | i, d :: ds, s => srAskT m i d.cell rows s ++ srGoT m rows (i + 1) ds (clAsk m i d.cell s)
def clS (m : Nat) (ds : List Deed) : ClM := clGo m 0 ds (clFirst m)
def srTs (m : Nat) (rows : List (List Nat)) (ds : List Deed) : List Tch := srGoT m rows 0 ds (clFirst m)
def wordF (m : Nat) (ds : List Deed) : Nat → Nat := fun c => (plainW m ds).getD c 0
def St5 (K : PySem.W.Frag) (m lim : Nat) (rows : List (List Nat)) (G : Hp) (ds : List Deed) (a : Addr) (B : Mem) : Prop := ∃ (A : StairsA) (v : StV), a = A.s ∧ B = stairsB K A m lim ds.length v ∧ StairsI K G A m lim rows (clS m ds) (handF (clS m ds) (wordF m ds)) (wordF m ds) v (srTs m rows ds) ∧ 1 ≤ m ∧ m ≤ 32 ∧ ds.length ≤ lim ∧ lim ≤ 60 ∧ ∀ d, d ∈ ds → DeedOk m d

/-! ### all five ways, seen from without -/
inductive Wy | scan | spare | stairs | tree | grove
  deriving DecidableEq
def Wy.str : Wy → Str
  | .scan => "scan" | .spare => "spare" | .stairs => "stairs" | .tree => "tree" | .grove => "grove"
def Wy.num : Wy → Nat
  | .scan => 3 | .spare => 4 | .stairs => 5 | .tree => 6 | .grove => 7
def rowsOf (ds : List Dr) : List (List Nat) := ds.map fun d => match d with
  | .row l => l
  | .leaf _ => []
def leafsOf (ds : List Dr) : List Nat := ds.map fun d => match d with
  | .row _ => 0
  | .leaf n => n
def scTs (m n : Nat) : List Tch := (List.replicate n (scanT m)).flatten
def St3 (K : PySem.W.Frag) (m lim : Nat) (G : Hp) (ds : List Deed) (a : Addr) (B : Mem) : Prop := ∃ (A : ScanA) (o : HO), a = A.s ∧ B = scanB K A m lim ds.length o (plainW m ds) ∧ LogC K G (scTs m ds.length) o ∧ 1 ≤ m ∧ m ≤ 32 ∧ ds.length ≤ lim ∧ lim ≤ 60 ∧ ∀ d, d ∈ ds → DeedOk m d
/-- a grove, asked these -/
def grGo (m : Nat) (drs : List Nat) : Nat → List Deed → GrM → GrM
  | _, [], s => s
  | i, d :: ds, s => grGo m drs (i + 1) ds (grAsk (treesN m) (fs0 (treesN m) drs m) d (freshN (treesN m) drs i) s)
def grGoT (m : Nat) (drs : List Nat) : Nat → List Deed → GrM → List Tch
  | _, [], _ => []
  | i, d :: ds, s => grAskT (treesN m) d s ++ grGoT m drs (i + 1) ds (grAsk (treesN m) (fs0 (treesN m) drs m) d (freshN (treesN m) drs i) s)
def grS (m : Nat) (drs : List Nat) (ds : List Deed) : GrM := grGo m drs 0 ds (grFirst (treesN m) drs)
def grTs (m : Nat) (drs : List Nat) (ds : List Deed) : List Tch := grGoT m drs 0 ds (grFirst (treesN m) drs)
def St7 (K : PySem.W.Frag) (m lim : Nat) (drs : List Nat) (G : Hp) (ds : List Deed) (a : Addr) (B : Mem) : Prop := ∃ (A : GroveA) (v : GrV), a = A.s ∧ B = groveB K A m lim ds.length (treesN m) v (grS m drs ds ((treesN m).length - 1)).tb ∧ GroveI K G A m lim (treesN m) drs (fs0 (treesN m) drs m) (plainW m ds) (grS m drs ds) v (grTs m drs ds) ∧ ds.length ≤ lim ∧ lim ≤ 60 ∧ ∀ d, d ∈ ds → DeedOk m d
def StA (K : PySem.W.Frag) (w : Wy) (m lim : Nat) (drs : List Dr) (G : Hp) (ds : List Deed) (a : Addr) (B : Mem) : Prop := match w with
  | .scan => St3 K m lim G ds a B
  | .spare => St4 K m lim (rowsOf drs) G ds a B
  | .stairs => St5 K m lim (rowsOf drs) G ds a B
  | .tree => St6 K m lim (leafsOf drs) G ds a B
  | .grove => St7 K m lim (leafsOf drs) G ds a B
/-! ### many stores at once -/
structure SD where
  w : Wy
  m : Nat
  drs : List Dr
  ds : List Deed
def StsA (K : PySem.W.Frag) (lim : Nat) (G : Hp) (dt : List SD) (la : List (Addr × Mem)) : Prop := A2 (fun (d : SD) (x : Addr × Mem) => StA K d.w d.m lim d.drs G d.ds x.1 x.2) dt la
/-! ### a law's ways and draws -/
def S_law_draw (K : PySem.W.Frag) : KSp := sp2 fun x y G M R Z => ∃ (p : Addr) (n : Nat) (c s : Int) (k : Kn), x = .ref p ∧ M[n]? = some (p, pool c s) ∧ PoolOk s ∧ Dp K G y (knD k) ∧ KnOk k ∧
  ∀ (v : V) (d : Dr) (c' s' : Int) (G' : Hp), Ex G G' → DrV K G' [] v d → DrOk k d → PoolOk s' → R v G' (M.set n (p, pool c' s'))
/-- draws of kinds that are frozen; they are frozen, too -/
def S_law_draws (K : PySem.W.Frag) : KSp := sp2 fun x y G M R Z => ∃ (p : Addr) (n : Nat) (c s : Int) (a : Addr) (us : List V) (ks : List Kn), x = .ref p ∧ y = .ref a ∧ M[n]? = some (p, pool c s) ∧ PoolOk s ∧ LstN K G M n a us ∧ DpAll K G us (ks.map knD) ∧ (∀ k, k ∈ ks → KnOk k) ∧ ks.length ≤ 1000 ∧
  ∀ (t : Addr) (ds : List Dr) (c' s' : Int) (G' : Hp), Ex G G' → DrsG K G' t ds → A2 DrOk ks ds → PoolOk s' → R (.ref t) G' (M.set n (p, pool c' s'))

/-! ### signs: what they are -/
inductive Sg
  | room (lay : Bool) (sh r : Nat)
  | item (lay : Bool) (sh dr it : Nat)
  | way (lay : Bool) (sh dr dep sd : Nat)
  deriving DecidableEq
def deedS (b : Bool) : Str := if b then "lay" else "look"
def Sg.vs : Sg → List V
  | .room b s r => [.str "room", .str (deedS b), .int s, .int r]
  | .item b s d i => [.str "item", .str (deedS b), .int s, .int d, .int i]
  | .way b s d p e => [.str "way", .str (deedS b), .int s, .int d, .int p, .int e]
def sgD : Sg → PyData
  | .room b s r => .tuple [.str "room", .str (deedS b), .int s, .int r]
  | .item b s d i => .tuple [.str "item", .str (deedS b), .int s, .int d, .int i]
  | .way b s d p e => .tuple [.str "way", .str (deedS b), .int s, .int d, .int p, .int e]
def AsksAt (K : PySem.W.Frag) (G : Hp) (M : Mem) (a : Addr) (ds : List Deed) : Prop := ∃ us, LstAt K G M a us ∧ A2 (fun v d => DeedAt K G v d) us ds
/-- a grove's trees hold an ask's cells -/
structure TreesOk (ts : List Nat) (m : Nat) : Prop where
  len : ts.length ≤ 3
  ok : ∀ t, t ∈ ts → 1 ≤ t ∧ t ≤ 32
  le : ∀ t, t < ts.length → ∀ c, c < m → c / 2 ^ (2 * t) < ts.getD t 0
/-! ### signs of shuffled shelves and stairs, of all ways; touches of signs -/
/-! touches of signs -/
def rowD : Dr → List Nat
  | .row l => l
  | .leaf _ => []
def leafD : Dr → Nat
  | .leaf n => n
  | .row _ => 0
def tchOf (ks : List Kn) (drs : List Dr) : Sg → Tch
  | .room b s r => ⟨b, s, r⟩
  | .item b s d i => ⟨b, s, (orderOf (rowD (drs.getD d (.leaf 0)))).getD i 0⟩
  | .way b s d p e => ⟨b, s, 2 * nodeN (ks.getD d ⟨true, 0⟩).n p (leafD (drs.getD d (.leaf 0))) + e⟩
def SgOk (ks : List Kn) : Sg → Prop
  | .room _ _ _ => True
  | .item _ _ d i => ∃ n, ks[d]? = some ⟨false, n⟩ ∧ i < n
  | .way _ _ d p e => ∃ h, ks[d]? = some ⟨true, h⟩ ∧ p ≤ h ∧ e < 2
/-- orders of shuffles, and leaves -/
def ToldV (K : PySem.W.Frag) (G : Hp) (v : V) (d : Dr) : Prop := match d with
  | .leaf n => v = .int n
  | .row l => ∃ b, v = .ref b ∧ SqL K G b (natsV (orderOf l))
/-! ### how many touches an ask makes -/
/-- a draw in hand: a row is a cell of its own -/
inductive Dc | leaf (n : Nat) | row (b : Addr) (l : List Nat)
def Dc.v : Dc → V
  | .leaf n => .int (n : Int)
  | .row b _ => .ref b
def Dc.dr : Dc → Dr
  | .leaf n => .leaf n
  | .row _ l => .row l
def Dc.cells : Dc → Mem
  | .leaf _ => []
  | .row b l => [(b, .lst (natsV l))]

/-! ### leadings -/
structure Pp where
  src : Nat
  turn : Option (List Nat)
def TurnM (K : PySem.W.Frag) (G : Hp) (M : Mem) (w : V) (t : Option (List Nat)) : Prop := match t with
  | none => w = .non
  | some l => ∃ b, w = .ref b ∧ LstAt K G M b (natsV l)
def PpM (K : PySem.W.Frag) (G : Hp) (M : Mem) (v : V) (pp : Pp) : Prop := ∃ (T : Addr) (w : V), v = .ref T ∧ SqT K G T [.int (pp.src : Nat), w] ∧ TurnM K G M w pp.turn
/-- a paper as it lies -/
def PapM (K : PySem.W.Frag) (G : Hp) (M : Mem) (p : Addr) (ps : List Pp) : Prop := ∃ us, LstAt K G M p us ∧ A2 (PpM K G M) us ps
/-- what a part must be -/
def PpOk (ks : List Kn) (k : Kn) (pp : Pp) : Prop := ks[pp.src]? = some k ∧ (k.leaf = true → pp.turn = none) ∧ (k.leaf = false → ∃ l, pp.turn = some l ∧ OrdOk k.n l)
structure PapOk (ks : List Kn) (ps : List Pp) : Prop where
  ok : A2 (PpOk ks) ks ps
  nd : (ps.map (·.src)).Nodup
def srcOf (ps : List Pp) (d : Nat) : Nat := (ps.getD d ⟨0, none⟩).src
def turnOf (ps : List Pp) (d : Nat) : List Nat := ((ps.getD d ⟨0, none⟩).turn).getD []
def ledB (ps : List Pp) : Sg → Sg → Bool
  | .room b s r, .room b' s' r' => decide (b = b') && (decide (s = s') && decide (r = r'))
  | .item b s d i, .item b' s' d' i' => decide (b = b') && (decide (s = s') && (decide (srcOf ps d' = d) && decide ((turnOf ps d').getD i' 0 = i)))
  | .way b s d p e, .way b' s' d' p' e' => decide (b = b') && (decide (s = s') && (decide (srcOf ps d' = d) && (decide (p = p') && decide (e = e'))))
  | _, _ => false
def leadB (ps : List Pp) (one other : List Sg) : Bool := decide (one.length = other.length) && (List.zipWith (ledB ps) one other).all id
def ledP (ds : List Dr) (pp : Pp) : Dr := match pp.turn with
  | none => ds.getD pp.src (.leaf 0)
  | some l => .row (rowOf (l.map fun j => (orderOf (rowD (ds.getD pp.src (.leaf 0)))).getD j 0))
def ledD (ps : List Pp) (ds : List Dr) : List Dr := ps.map (ledP ds)
def invN (l : List Nat) : List Nat := (List.range l.length).map fun i => l.idxOf i
def backP (ps : List Pp) : List Pp := (List.range ps.length).map fun s => ⟨(ps.map (·.src)).idxOf s, ((ps.getD ((ps.map (·.src)).idxOf s) ⟨0, none⟩).turn).map invN⟩
/-- a thing that may be an order of a size -/
def OrdN (K : PySem.W.Frag) (G : Hp) (M : Mem) (n : Nat) (w : V) (b : Bool) : Prop := (∃ T : PT, TyK K G M w T ∧ T ≠ .list ∧ b = false) ∨ ∃ (a : Addr) (xs : List V), w = .ref a ∧ LstAt K G M a xs ∧ xs.length ≤ 1000 ∧ ItemsTy K G M xs ∧ b = (orderB xs && decide (xs.length = n))
/-- a thing that may be a part -/
def PartV (K : PySem.W.Frag) (G : Hp) (M : Mem) (ks : List Kn) (k : Kn) (z : V) (b : Bool) : Prop := (∃ T : PT, TyK K G M z T ∧ T ≠ .tuple ∧ b = false) ∨ ∃ (t : Addr) (xs : List V), z = .ref t ∧ SqT K G t xs ∧ xs.length ≤ 100 ∧ ((xs.length ≠ 2 ∧ b = false) ∨
  ∃ (u w : V), xs = [u, w] ∧ (∃ T : PT, TyK K G M u T ∧ (T == .int) = isIntV u) ∧ ((withinV u 0 ((ks.length : Int) - 1) = false ∧ b = false) ∨
    ∃ (s : Nat) (k' : Kn), u = .int (s : Nat) ∧ ks[s]? = some k' ∧ ((k' ≠ k ∧ b = false) ∨ (k' = k ∧ (k.leaf = true → b = decide (w = .non)) ∧ (k.leaf = false → OrdN K G M k.n w b)))))
def PaperV (K : PySem.W.Frag) (G : Hp) (M : Mem) (ks : List Kn) (z : V) (b : Bool) : Prop := (∃ T : PT, TyK K G M z T ∧ T ≠ .list ∧ b = false) ∨ ∃ (a : Addr) (zs : List V), z = .ref a ∧ LstAt K G M a zs ∧ zs.length ≤ 1000 ∧ ((zs.length ≠ ks.length ∧ b = false) ∨
  ∃ bs : List Bool, zs.length = ks.length ∧ bs.length = ks.length ∧ (∀ (i : Nat) (k : Kn) (v : V) (c : Bool), ks[i]? = some k → zs[i]? = some v → bs[i]? = some c → PartV K G M ks k v c) ∧ ((bs.all id = false ∧ b = false) ∨
    ∃ ss : List Nat, bs.all id = true ∧ A2 (fun v (s : Nat) => ∃ T w, v = V.ref T ∧ SqT K G T [.int (s : Nat), w]) zs ss ∧ b = decide ss.Nodup))
def S_is_part (K : PySem.W.Frag) : KSp := sp3 fun x y z G M R Z => ∃ (a : Addr) (ks : List Kn) (i : Nat) (k : Kn) (b : Bool), x = .ref a ∧ KnAt K G M a ks ∧ y = .int (i : Nat) ∧ ks[i]? = some k ∧ PartV K G M ks k z b ∧ R (.bl b) G M
def S_is_paper (K : PySem.W.Frag) : KSp := sp2 fun x z G M R Z => ∃ (a : Addr) (ks : List Kn) (b : Bool), x = .ref a ∧ KnAt K G M a ks ∧ PaperV K G M ks z b ∧ R (.bl b) G M
def S_is_led (K : PySem.W.Frag) : KSp := sp3 fun x y z G M R Z => ∃ (T1 T2 p : Addr) (s1 s2 : Sg) (ks : List Kn) (ps : List Pp), x = .ref T1 ∧ y = .ref T2 ∧ z = .ref p ∧ SqT K G T1 s1.vs ∧ SqT K G T2 s2.vs ∧ PapM K G M p ps ∧ PapOk ks ps ∧ SgOk ks s1 ∧ SgOk ks s2 ∧ ∀ G', Ex G G' → R (.bl (ledB ps s1 s2)) G' M
def S_is_leading (K : PySem.W.Frag) : KSp := sp4 fun x y z w G M R Z => ∃ (a o1 o2 : Addr) (ks : List Kn) (us1 us2 : List V) (one other : List Sg), x = .ref a ∧ y = .ref o1 ∧ z = .ref o2 ∧ KnAt K G M a ks ∧ LstAt K G M o1 us1 ∧ DpAll K G us1 (one.map sgD) ∧ LstAt K G M o2 us2 ∧ DpAll K G us2 (other.map sgD) ∧
  one.length ≤ 1000000 ∧ other.length ≤ 1000000 ∧ (∀ s, s ∈ one → SgOk ks s) ∧ (∀ s, s ∈ other → SgOk ks s) ∧ ((PaperV K G M ks w false ∧ R (.bl false) G M) ∨ ∃ (p : Addr) (ps : List Pp), w = .ref p ∧ PapM K G M p ps ∧ PapOk ks ps ∧ ∀ G', Ex G G' → R (.bl (leadB ps one other)) G' M)
def S_led_draw (K : PySem.W.Frag) : KSp := sp2 fun x y G M R Z => ∃ (b : Addr) (k : Kn) (ks : List Kn) (pp : Pp) (ds : List Dr), y = .ref b ∧ PpM K G M x pp ∧ KnOk k ∧ PpOk ks k pp ∧ DrAt K G M b ds ∧ A2 DrOk ks ds ∧ ∀ c : Dc, c.dr = ledP ds pp → (∀ x, x ∈ c.cells → Fr G M x.1) → R c.v G (c.cells ++ M)
def S_inverse (K : PySem.W.Frag) : KSp := sp1 fun x G M R Z => ∃ (a : Addr) (l : List Nat), x = .ref a ∧ LstAt K G M a (natsV l) ∧ OrdOk l.length l ∧ l.length ≤ 1000 ∧ ∀ t, Fr G M t → R (.ref t) G ((t, .lst (natsV (invN l))) :: M)
/-! ### leadings told for two rows of asks -/
theorem kn_eta : ∀ {a b : Kn}, a.leaf = b.leaf → a.n = b.n → a = b
  | ⟨_, _⟩, ⟨_, _⟩, rfl, rfl => rfl
instance decKn : DecidableEq Kn := fun a b => decidable_of_iff (a.leaf = b.leaf ∧ a.n = b.n) ⟨fun h => kn_eta h.1 h.2, fun h => h ▸ ⟨rfl, rfl⟩⟩
def drN : Sg → Option Nat
  | .room _ _ _ => none
  | .item _ _ d _ => some d
  | .way _ _ d _ _ => some d
/-- the sources of shown draws -/
def linkS : List (Sg × Sg) → List (Nat × Nat) → List (Nat × Nat)
  | [], h => h
  | p :: t, h => linkS t (match drN p.2, drN p.1 with
    | some d2, some d1 => hPut h d2 d1
    | _, _ => h)
/-- of a draw of the other signs: which items are led to which -/
def turnL (d : Nat) : List (Sg × Sg) → List (Nat × Nat) → List (Nat × Nat)
  | [], h => h
  | p :: t, h => turnL d t (match p.1, p.2 with
    | .item _ _ _ i1, .item _ _ d2 i2 => if d2 = d then hPut h i2 i1 else h
    | _, _ => h)
/-- a map that can be filled up to an order -/
structure FOk (n : Nat) (kd : Nat → Option Kn) (F : Nat → Option Nat) : Prop where
  lt : ∀ i b, F i = some b → i < n ∧ b < n ∧ kd b = kd i
  inj : ∀ i j b, F i = some b → F j = some b → i = j
/-- signs by labels in the stead of draws and items -/
def relS (f : Nat → Nat) (u : Nat → Nat → Nat) : Sg → Sg
  | .room b s r => .room b s r
  | .item b s d i => .item b s (f d) (u d i)
  | .way b s d p e => .way b s (f d) p e
/-- two rows of signs that go by the same pattern -/
def Lk (ks : List Kn) (one other : List Sg) : Prop := ∃ (lb : List Sg) (f g : Nat → Nat) (u v : Nat → Nat → Nat), one = lb.map (relS f u) ∧ other = lb.map (relS g v) ∧
  (∀ s s' d d', s ∈ lb → s' ∈ lb → drN s = some d → drN s' = some d' → (f d = f d' → d = d') ∧ (g d = g d' → d = d')) ∧
  (∀ b s d i b' s' i', Sg.item b s d i ∈ lb → Sg.item b' s' d i' ∈ lb → (u d i = u d i' → i = i') ∧ (v d i = v d i' → i = i')) ∧
  (∀ s d, s ∈ lb → drN s = some d → ks[f d]? = ks[g d]?) ∧ (∀ s, s ∈ one → SgOk ks s) ∧ (∀ s, s ∈ other → SgOk ks s)
/-- a part of a leading in hand -/
structure Pc where
  T : Addr
  src : Nat
  tn : Option (Addr × List Nat)
def Pc.cells (c : Pc) : Mem := match c.tn with
  | none => []
  | some p => [(p.1, .lst (natsV p.2))]
def Pc.pp (c : Pc) : Pp := ⟨c.src, c.tn.map (·.2)⟩
def Pc.w (c : Pc) : V := match c.tn with
  | none => .non
  | some p => .ref p.1
def Pc.at (K : PySem.W.Frag) (G : Hp) (c : Pc) : Prop := SqT K G c.T [.int (c.src : Nat), c.w]
def cellsP (cs : List Pc) : Mem := cs.flatMap Pc.cells
/-- a told leading, in hand -/
def PcR (K : PySem.W.Frag) (G : Hp) (M : Mem) (ps : List Pp) (R : KR) : Prop := ∀ (q : Addr) (cs : List Pc) (G' : Hp), Ex G G' → (∀ c, c ∈ cs → c.at K G') → cs.map Pc.pp = ps → R (.ref q) G' ((q, .lst (cs.map fun c => .ref c.T)) :: (cellsP cs ++ M))
/-! ### leadings one behind the other -/
def joinP (a b : List Pp) : List Pp := b.map fun pp => ⟨srcOf a pp.src, pp.turn.map fun l => l.map fun j => (turnOf a pp.src).getD j 0⟩
def S_joined (K : PySem.W.Frag) : KSp := sp2 fun x y G M R Z => ∃ (p q : Addr) (ks : List Kn) (ps qs : List Pp), x = .ref p ∧ y = .ref q ∧ PapM K G M p ps ∧ PapOk ks ps ∧ PapM K G M q qs ∧ PapOk ks qs ∧ (∀ k, k ∈ ks → KnOk k) ∧ ks.length ≤ 1000 ∧ PcR K G M (joinP ps qs) R

/-- kinds that are frozen, each a plain tuple -/
def KnF (K : PySem.W.Frag) (G : Hp) (a : Addr) (ks : List Kn) : Prop := ∃ us, SqL K G a us ∧ A2 (fun v k => ∃ T, v = V.ref T ∧ G T = some (.tup [.str k.txt, .int (Kn.n k : Nat)])) us ks
def SgsG (K : PySem.W.Frag) (G : Hp) (a : Addr) (sg : List Sg) : Prop := ∃ us, SqL K G a us ∧ DpAll K G us (sg.map sgD)
/-- a pool, alone among the cells -/
def S_law_kinds (K : PySem.W.Frag) : KSp := sp3 fun x y z G M R Z => ∃ (p : Addr) (n : Nat) (c s : Int), x = .ref p ∧ y = .int 6 ∧ z = .int 64 ∧ M[n]? = some (p, pool c s) ∧ PoolOk s ∧
  ∀ (a : Addr) (ks : List Kn) (c' s' : Int) (G' : Hp), Ex G G' → KnF K G' a ks → (∀ k, k ∈ ks → KnOk k) → ks.length ≤ 6 → PoolOk s' → R (.ref a) G' (M.set n (p, pool c' s'))
def S_law_turn (K : PySem.W.Frag) : KSp := sp2 fun x y G M R Z => ∃ (p : Addr) (n : Nat) (c s : Int) (m : Nat), x = .ref p ∧ y = .int (m : Nat) ∧ m ≤ 64 ∧ M[n]? = some (p, pool c s) ∧ PoolOk s ∧
  ∀ (t : Addr) (l : List Nat) (c' s' : Int), OrdOk m l → PoolOk s' → Fr G M t → R (.ref t) G ((t, .lst (natsV l)) :: M.set n (p, pool c' s'))
def S_law_paper (K : PySem.W.Frag) : KSp := sp2 fun x y G M R Z => ∃ (p : Addr) (n : Nat) (c s : Int) (a : Addr) (ks : List Kn), x = .ref p ∧ y = .ref a ∧ M[n]? = some (p, pool c s) ∧ PoolOk s ∧ KnF K G a ks ∧ (∀ k, k ∈ ks → KnOk k) ∧ ks.length ≤ 6 ∧
  ∀ (q : Addr) (ps : List Pp) (c' s' : Int) (G' : Hp), Ex G G' → PapM K G' [] q ps → PapOk ks ps → PoolOk s' → R (.ref q) G' (M.set n (p, pool c' s'))
def S_law_whole (K : PySem.W.Frag) : KSp := sp1 fun x G M R Z => ∃ T : PT, TyK K G M x T ∧ R (.bl (T == .int)) G M
def S_law_order (K : PySem.W.Frag) : KSp := sp1 fun x G M R Z => ∃ (a : Addr) (l : List Nat), x = .ref a ∧ LstAt K G M a (natsV l) ∧ RowOk l ∧ l.length ≤ 1000 ∧ ∀ t, Fr G M t → R (.ref t) G ((t, .lst (natsV (orderOf l))) :: M)
def ordD : Dr → Dr
  | .leaf n => .leaf n
  | .row l => .row (orderOf l)
def S_law_orders (K : PySem.W.Frag) : KSp := sp2 fun x y G M R Z => ∃ (a b : Addr) (ks : List Kn) (ds : List Dr), x = .ref a ∧ y = .ref b ∧ KnF K G a ks ∧ DrAt K G M b ds ∧ A2 DrOk ks ds ∧ (∀ k, k ∈ ks → KnOk k) ∧ ks.length ≤ 1000 ∧ ∀ (q : Addr) (cs : List Dc), cs.map Dc.dr = ds.map ordD → R (.ref q) G ((q, .lst (cs.map Dc.v)) :: (cs.flatMap Dc.cells ++ M))
def S_law_led (K : PySem.W.Frag) : KSp := sp3 fun x y z G M R Z => ∃ (a p b : Addr) (ks : List Kn) (ps : List Pp) (ds : List Dr), x = .ref a ∧ y = .ref p ∧ z = .ref b ∧ KnF K G a ks ∧ PapM K G M p ps ∧ PapOk ks ps ∧ (∀ k, k ∈ ks → KnOk k) ∧ ks.length ≤ 1000 ∧ DrAt K G M b ds ∧ A2 DrOk ks ds ∧ ∀ (q : Addr) (cs : List Dc), cs.map Dc.dr = (ledD ps ds).map ordD → R (.ref q) G ((q, .lst (cs.map Dc.v)) :: (cs.flatMap Dc.cells ++ M))
def S_law_are_draws (K : PySem.W.Frag) : KSp := sp2 fun x y G M R Z => ∃ (a b : Addr) (ks : List Kn) (ds : List Dr), x = .ref a ∧ y = .ref b ∧ KnF K G a ks ∧ DrAt K G M b ds ∧ A2 DrOk ks ds ∧ (∀ k, k ∈ ks → KnOk k) ∧ ks.length ≤ 1000 ∧ R (.bl true) G M
def S_law_sharing (K : PySem.W.Frag) : KSp := sp2 fun x y G M R Z => ∃ (a p : Addr) (ks : List Kn) (ps : List Pp), x = .ref a ∧ y = .ref p ∧ KnF K G a ks ∧ PapM K G [] p ps ∧ PapOk ks ps ∧ ks.length ≤ 1000 ∧ ∀ (q : Addr) (qs : List Pp) (G' : Hp), Ex G G' → PapM K G' [] q qs → PapOk ks qs → R (.ref q) G' M
def S_law_drawn_paper (K : PySem.W.Frag) : KSp := sp2 fun x y G M R Z => ∃ (p : Addr) (n : Nat) (c s : Int) (a : Addr) (ks : List Kn), x = .ref p ∧ y = .ref a ∧ M[n]? = some (p, pool c s) ∧ PoolOk s ∧ KnF K G a ks ∧ (∀ k, k ∈ ks → KnOk k) ∧ ks.length ≤ 6 ∧
  ∀ (q : Addr) (ps : List Pp) (c' s' : Int) (G' : Hp), Ex G G' → PapM K G' [] q ps → PapOk ks ps → PoolOk s' → R (.ref q) G' (M.set n (p, pool c' s'))
def S_law_other_draws (K : PySem.W.Frag) : KSp := sp3 fun x y z G M R Z => ∃ (p : Addr) (n : Nat) (c s : Int) (a b : Addr) (ks : List Kn) (ds : List Dr), x = .ref p ∧ y = .ref a ∧ z = .ref b ∧ M[n]? = some (p, pool c s) ∧ PoolOk s ∧ KnF K G a ks ∧ (∀ k, k ∈ ks → KnOk k) ∧ ks.length ≤ 6 ∧ ks ≠ [] ∧ DrsG K G b ds ∧ A2 DrOk ks ds ∧
  ∀ (q : Addr) (es : List Dr) (c' s' : Int) (G' : Hp), Ex G G' → DrsG K G' q es → A2 DrOk ks es → PoolOk s' → R (.ref q) G' (M.set n (p, pool c' s'))
def S_led (K : PySem.W.Frag) : KSp := sp3 fun x y z G M R Z => ∃ (p b : Addr) (ks : List Kn) (ps : List Pp) (ds : List Dr), y = .ref p ∧ z = .ref b ∧ PapM K G M p ps ∧ PapOk ks ps ∧ (∀ k, k ∈ ks → KnOk k) ∧ ks.length ≤ 1000 ∧ DrAt K G M b ds ∧ A2 DrOk ks ds ∧ ∀ (q : Addr) (cs : List Dc), cs.map Dc.dr = ledD ps ds → R (.ref q) G ((q, .lst (cs.map Dc.v)) :: (cs.flatMap Dc.cells ++ M))
def S_back (K : PySem.W.Frag) : KSp := sp1 fun x G M R Z => ∃ (p : Addr) (ks : List Kn) (ps : List Pp), x = .ref p ∧ PapM K G M p ps ∧ PapOk ks ps ∧ (∀ k, k ∈ ks → KnOk k) ∧ ks.length ≤ 1000 ∧ PcR K G M (backP ps) R
/-- data that repr shows -/
def Rpb (d : PyData) : Prop := d.showable = true ∧ d.hasDict = false ∧ d.depth ≤ 30 ∧ d.shown.length ≤ sizeLine
/-- a list of its own within a told one -/
def PpA (K : PySem.W.Frag) (G : Hp) (M : Mem) (q : Addr) (d : PyData) (y : V) : Prop := ∃ (b : Addr) (xs : List V) (X : Mem) (d' : PyData), y = .ref b ∧ M.Perm ((b, .lst xs) :: X) ∧ xs.length ≤ 1000 ∧ DatAt K G ((b, .lst (xs ++ [.int 7])) :: X) (.ref q) d' ∧ Rpb d' ∧ d'.shown.length ≤ d.shown.length + 3
def PartA (K : PySem.W.Frag) (G : Hp) (M : Mem) (q : Addr) (d : PyData) (v : V) : Prop := (∃ T : PT, TyK K G M v T ∧ T ≠ .list ∧ T ≠ .tuple) ∨ PpA K G M q d v ∨ ∃ (T : Addr) (u y : V), v = .ref T ∧ SqT K G T [u, y] ∧ ((∃ S : PT, TyK K G M y S ∧ S ≠ .list) ∨ PpA K G M q d y)
def S_law_apart (K : PySem.W.Frag) : KSp := sp1 fun x G M R Z => ∃ (q : Addr) (ws : List V) (d : PyData), x = .ref q ∧ LstAt K G M q ws ∧ DatAt K G M (.ref q) d ∧ Rpb d ∧ (∀ v, v ∈ ws → PartA K G M q d v) ∧ R (.bl true) G M
def S_law_as_ahead (K : PySem.W.Frag) : KSp := sp3 fun x y z G M R Z => ∃ (p b : Addr) (ks : List Kn) (ps : List Pp) (ds : List Dr), y = .ref p ∧ z = .ref b ∧ PapM K G M p ps ∧ PapOk ks ps ∧ (∀ k, k ∈ ks → KnOk k) ∧ ks.length ≤ 1000 ∧ DrsG K G b ds ∧ A2 DrOk ks ds ∧ ∀ G', Ex G G' → R (.bl true) G' M
def S_law_right (K : PySem.W.Frag) : KSp := sp1 fun x G M R Z => ∃ (p : Addr) (c s : Int), x = .ref p ∧ M = [(p, pool c s)] ∧ PoolOk s ∧ ∀ G' M', Ex G G' → R (.bl true) G' M'
/-! readings of the defs, printed by gen.py -/
/-- law_pool(_law_script, _law_k); slots 0 _law_script, 1 _law_k, 2 _law_cell, 3 _law_seed -/
def rd_law_pool_4 (K : PySem.W.Frag) : KS :=
  kSeq (kRet (kLst (kCons (kVar 2) (kCons (kVar 3) (kNil))))) (kNext)
def rd_law_pool_3 (K : PySem.W.Frag) : KS :=
  kSeq (kIf (kT (kBin (kI0 fun i j => .bl (decide (i < j))) (kVar 2) (kBin (kI CPow fun i j => .int (i ^ j.toNat)) (kC (.int 10)) (kC (.int 18))))) (kSeq (kSet 2 (kC (.int 0))) (kNext)) (kNext)) (rd_law_pool_4 K)
def rd_law_pool_2 (K : PySem.W.Frag) : KS :=
  kSeq (kSet 3 (kBin (kI (fun _ j => 0 < j) fun i j => .int (i % j)) (kBin (kMul) (kBin (kAdd) (kBin (kAdd) (kBin (kI (fun _ j => 0 < j) fun i j => .int (i % j)) (kVar 2) (kC (.int 1000000007))) (kBin (kMul) (kBin (kMul) (kC (.int 15485863)) (kVar 1)) (kVar 1))) (kC (.int 3))) (kC (.int 39373))) (kC (.int 2147483647)))) (rd_law_pool_3 K)
def rd_law_pool_1 (K : PySem.W.Frag) : KS :=
  kSeq (kIf (kT (kBin (kI0 fun i j => .bl (decide (i < j))) (kVar 1) (kCB (kLen K) (kCons (kVar 0) (kNil))))) (kSeq (kSet 2 (kBin (kIx K) (kVar 0) (kVar 1))) (kNext)) (kNext)) (rd_law_pool_2 K)
def rd_law_pool (K : PySem.W.Frag) : KS :=
  kSeq (kSet 2 (kC (.int 0))) (rd_law_pool_1 K)
/-- law_take(_law_pool_here, _law_many); slots 0 _law_pool_here, 1 _law_many, 2 _law_found -/
def rd_law_take_2 (K : PySem.W.Frag) : KS :=
  kSeq (kRet (kBin (kI (fun _ j => 0 < j) fun i j => .int (i % j)) (kBin (kI CDivW fun i j => .int (i / j)) (kBin (kI (fun _ j => 0 < j) fun i j => .int (i % j)) (kBin (kMul) (kBin (kIx K) (kVar 0) (kC (.int 1))) (kBin (kIx K) (kVar 0) (kC (.int 1)))) (kC (.int 2147483629))) (kC (.int 64))) (kVar 1))) (kNext)
def rd_law_take_1 (K : PySem.W.Frag) : KS :=
  kSeq (kAsg (kBin (kI (fun _ j => 0 < j) fun i j => .int (i % j)) (kBin (kAdd) (kBin (kMul) (kBin (kIx K) (kVar 0) (kC (.int 1))) (kC (.int 48271))) (kC (.int 11))) (kC (.int 2147483647))) (kgIx (kVar 0) (kC (.int 1)))) (rd_law_take_2 K)
def rd_law_take (K : PySem.W.Frag) : KS :=
  kSeq (kIf (kT (kBin (kI0 fun i j => .bl (decide (j < i))) (kBin (kIx K) (kVar 0) (kC (.int 0))) (kC (.int 0)))) (kSeq (kSet 2 (kBin (kI (fun _ j => 0 < j) fun i j => .int (i % j)) (kBin (kIx K) (kVar 0) (kC (.int 0))) (kVar 1))) (kSeq (kAsg (kBin (kI CDivW fun i j => .int (i / j)) (kBin (kIx K) (kVar 0) (kC (.int 0))) (kVar 1)) (kgIx (kVar 0) (kC (.int 0)))) (kSeq (kRet (kVar 2)) (kNext)))) (kNext)) (rd_law_take_1 K)
/-- law_kinds(_law_pool_here, _law_most, _law_far); slots 0 _law_pool_here, 1 _law_most, 2 _law_far, 3 _law_kinds_here, 4 _law_k -/
def rd_law_kinds_b0 (K : PySem.W.Frag) : KS :=
  kSeq (kIf (kT (kBin (kEqv false K) (kCall (S_law_take K) (kCons (kVar 0) (kCons (kC (.int 2)) (kNil)))) (kC (.int 0)))) (kSeq (kExpr (kBM K "list" (kAppend) (kVar 3) (kCons (kTup (kCons (kC (.str "leaf")) (kCons (kCall (S_law_take K) (kCons (kVar 0) (kCons (kC (.int 7)) (kNil)))) (kNil)))) (kNil)))) (kNext)) (kSeq (kExpr (kBM K "list" (kAppend) (kVar 3) (kCons (kTup (kCons (kC (.str "shuffle")) (kCons (kBin (kAdd) (kC (.int 1)) (kCall (S_law_take K) (kCons (kVar 0) (kCons (kBin (kIx K) (kLst (kCons (kC (.int 6)) (kCons (kVar 2) (kNil)))) (kCall (S_law_take K) (kCons (kVar 0) (kCons (kC (.int 2)) (kNil))))) (kNil))))) (kNil)))) (kNil)))) (kNext))) (kNext)
def rd_law_kinds_2 (K : PySem.W.Frag) : KS :=
  kSeq (kRet (kVar 3)) (kNext)
def rd_law_kinds_1 (K : PySem.W.Frag) : KS :=
  kSeq (kFor (kiR1 (kCons (kCall (S_law_take K) (kCons (kVar 0) (kCons (kBin (kAdd) (kVar 1) (kC (.int 1))) (kNil)))) (kNil))) (kgName 4) (rd_law_kinds_b0 K)) (rd_law_kinds_2 K)
def rd_law_kinds (K : PySem.W.Frag) : KS :=
  kSeq (kSet 3 (kLst (kNil))) (rd_law_kinds_1 K)
/-- law_draw(_law_pool_here, _law_kind); slots 0 _law_pool_here, 1 _law_kind, 2 _law_k -/
def rd_law_draw_1 (K : PySem.W.Frag) : KS :=
  kSeq (kRet (kComp (kiR1 (kCons (kBin (kIx K) (kVar 1) (kC (.int 1))) (kNil))) (kgName 2) (kYes) (kCall (S_law_take K) (kCons (kVar 0) (kCons (kBin (kAdd) (kVar 2) (kC (.int 1))) (kNil)))) [2])) (kNext)
def rd_law_draw (K : PySem.W.Frag) : KS :=
  kSeq (kIf (kT (kBin (kEqv false K) (kBin (kIx K) (kVar 1) (kC (.int 0))) (kC (.str "leaf")))) (kSeq (kRet (kCall (S_law_take K) (kCons (kVar 0) (kCons (kBin (kI CPow fun i j => .int (i * 2 ^ j.toNat)) (kC (.int 1)) (kBin (kIx K) (kVar 1) (kC (.int 1)))) (kNil))))) (kNext)) (kNext)) (rd_law_draw_1 K)
/-- law_draws(_law_pool_here, _law_kinds_here); slots 0 _law_pool_here, 1 _law_kinds_here, 2 _law_kind -/
def rd_law_draws (K : PySem.W.Frag) : KS :=
  kSeq (kRet (kComp (kiSeq K (kVar 1)) (kgName 2) (kYes) (kCall (S_law_draw K) (kCons (kVar 0) (kCons (kVar 2) (kNil)))) [2])) (kNext)
/-- law_turn(_law_pool_here, _law_size); slots 0 _law_pool_here, 1 _law_size, 2 _law_order_here, 3 _law_k -/
def rd_law_turn_b0 (K : PySem.W.Frag) : KS :=
  kSeq (kExpr (kBM K "list" (kInsert) (kVar 2) (kCons (kCall (S_law_take K) (kCons (kVar 0) (kCons (kBin (kAdd) (kVar 3) (kC (.int 1))) (kNil)))) (kCons (kVar 3) (kNil))))) (kNext)
def rd_law_turn_2 (K : PySem.W.Frag) : KS :=
  kSeq (kRet (kVar 2)) (kNext)
def rd_law_turn_1 (K : PySem.W.Frag) : KS :=
  kSeq (kFor (kiR1 (kCons (kVar 1) (kNil))) (kgName 3) (rd_law_turn_b0 K)) (rd_law_turn_2 K)
def rd_law_turn (K : PySem.W.Frag) : KS :=
  kSeq (kSet 2 (kLst (kNil))) (rd_law_turn_1 K)
/-- law_paper(_law_pool_here, _law_kinds_here); slots 0 _law_pool_here, 1 _law_kinds_here, 2 _law_places, 3 _law_k, 4 _law_paper_here, 5 _law_kind, 6 _law_free, 7 _law_source, 8 _law_turn_here -/
def rd_law_paper_b0 (K : PySem.W.Frag) : KS :=
  kSeq (kDSetT (kVar 2) (kBin (kIx K) (kVar 1) (kVar 3)) (kBin (kAdd) (kDGet2T (kVar 2) (kBin (kIx K) (kVar 1) (kVar 3)) (kLst (kNil))) (kLst (kCons (kVar 3) (kNil))))) (kNext)
def rd_law_paper_b1_4 (K : PySem.W.Frag) : KS :=
  kSeq (kExpr (kBM K "list" (kAppend) (kVar 4) (kCons (kTup (kCons (kVar 7) (kCons (kVar 8) (kNil)))) (kNil)))) (kNext)
def rd_law_paper_b1_3 (K : PySem.W.Frag) : KS :=
  kSeq (kIf (kT (kBin (kEqv false K) (kBin (kIx K) (kVar 5) (kC (.int 0))) (kC (.str "shuffle")))) (kSeq (kSet 8 (kCall (S_law_turn K) (kCons (kVar 0) (kCons (kBin (kIx K) (kVar 5) (kC (.int 1))) (kNil))))) (kNext)) (kNext)) (rd_law_paper_b1_4 K)
def rd_law_paper_b1_2 (K : PySem.W.Frag) : KS :=
  kSeq (kSet 8 (kC .non)) (rd_law_paper_b1_3 K)
def rd_law_paper_b1_1 (K : PySem.W.Frag) : KS :=
  kSeq (kSet 7 (kBM K "list" (kPopAt) (kVar 6) (kCons (kCall (S_law_take K) (kCons (kVar 0) (kCons (kCB (kLen K) (kCons (kVar 6) (kNil))) (kNil)))) (kNil)))) (rd_law_paper_b1_2 K)
def rd_law_paper_b1 (K : PySem.W.Frag) : KS :=
  kSeq (kSet 6 (kBin kDGetT (kVar 2) (kVar 5))) (rd_law_paper_b1_1 K)
def rd_law_paper_4 (K : PySem.W.Frag) : KS :=
  kSeq (kRet (kVar 4)) (kNext)
def rd_law_paper_3 (K : PySem.W.Frag) : KS :=
  kSeq (kFor (kiSeq K (kVar 1)) (kgName 5) (rd_law_paper_b1 K)) (rd_law_paper_4 K)
def rd_law_paper_2 (K : PySem.W.Frag) : KS :=
  kSeq (kSet 4 (kLst (kNil))) (rd_law_paper_3 K)
def rd_law_paper_1 (K : PySem.W.Frag) : KS :=
  kSeq (kFor (kiR1 (kCons (kCB (kLen K) (kCons (kVar 1) (kNil))) (kNil))) (kgName 3) (rd_law_paper_b0 K)) (rd_law_paper_2 K)
def rd_law_paper (K : PySem.W.Frag) : KS :=
  kSeq (kSet 2 (kDNewT)) (rd_law_paper_1 K)
/-- law_sharing(_law_kinds_here, _law_paper_here); slots 0 _law_kinds_here, 1 _law_paper_here, 2 _law_turns, 3 _law_found, 4 _law_kind, 5 _law_part -/
def rd_law_sharing_b0_1 (K : PySem.W.Frag) : KS :=
  kSeq (kExpr (kBM K "list" (kAppend) (kVar 3) (kCons (kTup (kCons (kBin (kIx K) (kVar 5) (kC (.int 0))) (kCons (kBin kDGetT (kVar 2) (kVar 4)) (kNil)))) (kNil)))) (kNext)
def rd_law_sharing_b0 (K : PySem.W.Frag) : KS :=
  kSeq (kExpr (kDSetdT (kVar 2) (kVar 4) (kBin (kIx K) (kVar 5) (kC (.int 1))))) (rd_law_sharing_b0_1 K)
def rd_law_sharing_3 (K : PySem.W.Frag) : KS :=
  kSeq (kRet (kVar 3)) (kNext)
def rd_law_sharing_2 (K : PySem.W.Frag) : KS :=
  kSeq (kFor (kiZip K (kCons (kVar 0) (kCons (kVar 1) (kNil)))) (kgTup K 2 (kgsCons (kgName 4) (kgsCons (kgName 5) (kgsNil)))) (rd_law_sharing_b0 K)) (rd_law_sharing_3 K)
def rd_law_sharing_1 (K : PySem.W.Frag) : KS :=
  kSeq (kSet 3 (kLst (kNil))) (rd_law_sharing_2 K)
def rd_law_sharing (K : PySem.W.Frag) : KS :=
  kSeq (kSet 2 (kDNewT)) (rd_law_sharing_1 K)
/-- law_drawn_paper(_law_pool_here, _law_kinds_here); slots 0 _law_pool_here, 1 _law_kinds_here, 2 _law_paper_here -/
def rd_law_drawn_paper_2 (K : PySem.W.Frag) : KS :=
  kSeq (kRet (kVar 2)) (kNext)
def rd_law_drawn_paper_1 (K : PySem.W.Frag) : KS :=
  kSeq (kIf (kT (kBin (kEqv false K) (kCall (S_law_take K) (kCons (kVar 0) (kCons (kC (.int 4)) (kNil)))) (kC (.int 3)))) (kSeq (kRet (kCall (S_law_sharing K) (kCons (kVar 1) (kCons (kVar 2) (kNil))))) (kNext)) (kNext)) (rd_law_drawn_paper_2 K)
def rd_law_drawn_paper (K : PySem.W.Frag) : KS :=
  kSeq (kSet 2 (kCall (S_law_paper K) (kCons (kVar 0) (kCons (kVar 1) (kNil))))) (rd_law_drawn_paper_1 K)
/-- exchange(row, one, other); slots 0 row, 1 one, 2 other -/
def rd_exchange (K : PySem.W.Frag) : KS :=
  kSeq (kAsg (kTup (kCons (kBin (kIx K) (kVar 0) (kVar 2)) (kCons (kBin (kIx K) (kVar 0) (kVar 1)) (kNil)))) (kgTup K 2 (kgsCons (kgIx (kVar 0) (kVar 1)) (kgsCons (kgIx (kVar 0) (kVar 2)) (kgsNil))))) (kNext)
/-- order_of(row); slots 0 row, 1 order, 2 place -/
def rd_order_of_b0 (K : PySem.W.Frag) : KS :=
  kSeq (kExpr (kCall (S_exchange K) (kCons (kVar 1) (kCons (kVar 2) (kCons (kBin (kIx K) (kVar 0) (kVar 2)) (kNil)))))) (kNext)
def rd_order_of_2 (K : PySem.W.Frag) : KS :=
  kSeq (kRet (kVar 1)) (kNext)
def rd_order_of_1 (K : PySem.W.Frag) : KS :=
  kSeq (kFor (kiR3 (kCons (kBin (kI0 fun i j => .int (i - j)) (kCB (kLen K) (kCons (kVar 0) (kNil))) (kC (.int 1))) (kCons (kC (.int 0)) (kCons (kUn kNeg (kC (.int 1))) (kNil))))) (kgName 2) (rd_order_of_b0 K)) (rd_order_of_2 K)
def rd_order_of (K : PySem.W.Frag) : KS :=
  kSeq (kSet 1 (kListR1 (kCB (kLen K) (kCons (kVar 0) (kNil))))) (rd_order_of_1 K)
/-- is_whole(thing); slots 0 thing -/
def rd_is_whole (K : PySem.W.Frag) : KS :=
  kSeq (kRet (kAndV (kCB (kIsi K) (kCons (kVar 0) (kCons (kC (.ty "int")) (kNil)))) (kNotV (kCB (kIsi K) (kCons (kVar 0) (kCons (kC (.ty "bool")) (kNil))))))) (kNext)
/-- is_within(thing, least, most); slots 0 thing, 1 least, 2 most -/
def rd_is_within (K : PySem.W.Frag) : KS :=
  kSeq (kRet (kAndV (kCall (S_is_whole K) (kCons (kVar 0) (kNil))) (kChain (kI0 fun i j => .bl (decide (i ≤ j))) (kI0 fun i j => .bl (decide (i ≤ j))) (kVar 1) (kVar 0) (kVar 2)))) (kNext)
/-- is_order(thing); slots 0 thing, 1 number -/
def rd_is_order_2 (K : PySem.W.Frag) : KS :=
  kSeq (kRet (kBin (kEqv false K) (kLenSet K (kVar 0)) (kCB (kLen K) (kCons (kVar 0) (kNil))))) (kNext)
def rd_is_order_1 (K : PySem.W.Frag) : KS :=
  kSeq (kIf (kNot (kT (kCB (kAll K) (kCons (kComp (kiSeq K (kVar 0)) (kgName 1) (kYes) (kCall (S_is_within K) (kCons (kVar 1) (kCons (kC (.int 0)) (kCons (kBin (kI0 fun i j => .int (i - j)) (kCB (kLen K) (kCons (kVar 0) (kNil))) (kC (.int 1))) (kNil))))) [1]) (kNil))))) (kSeq (kRet (kC (.bl false))) (kNext)) (kNext)) (rd_is_order_2 K)
def rd_is_order (K : PySem.W.Frag) : KS :=
  kSeq (kIf (kOr (kNot (kT (kCB (kIsi K) (kCons (kVar 0) (kCons (kC (.ty "list")) (kNil)))))) (kOr (kT (kBin (kI0 fun i j => .bl (decide (i < j))) (kCB (kLen K) (kCons (kVar 0) (kNil))) (kC (.int 1)))) (kT (kBin (kI0 fun i j => .bl (decide (j < i))) (kCB (kLen K) (kCons (kVar 0) (kNil))) (kC (.int 64)))))) (kSeq (kRet (kC (.bl false))) (kNext)) (kNext)) (rd_is_order_1 K)
/-- row_of(order); slots 0 order, 1 row, 2 left, 3 place -/
def rd_row_of_b0_1 (K : PySem.W.Frag) : KS :=
  kSeq (kExpr (kCall (S_exchange K) (kCons (kVar 2) (kCons (kVar 3) (kCons (kBin (kIx K) (kVar 1) (kVar 3)) (kNil)))))) (kNext)
def rd_row_of_b0 (K : PySem.W.Frag) : KS :=
  kSeq (kAsg (kBM K "list" (kIndex K) (kVar 2) (kCons (kBin (kIx K) (kVar 0) (kVar 3)) (kNil))) (kgIx (kVar 1) (kVar 3))) (rd_row_of_b0_1 K)
def rd_row_of_4 (K : PySem.W.Frag) : KS :=
  kSeq (kRet (kVar 1)) (kNext)
def rd_row_of_3 (K : PySem.W.Frag) : KS :=
  kSeq (kFor (kiR3 (kCons (kBin (kI0 fun i j => .int (i - j)) (kCB (kLen K) (kCons (kVar 0) (kNil))) (kC (.int 1))) (kCons (kC (.int 0)) (kCons (kUn kNeg (kC (.int 1))) (kNil))))) (kgName 3) (rd_row_of_b0 K)) (rd_row_of_4 K)
def rd_row_of_2 (K : PySem.W.Frag) : KS :=
  kSeq (kSet 2 (kListR1 (kCB (kLen K) (kCons (kVar 0) (kNil))))) (rd_row_of_3 K)
def rd_row_of_1 (K : PySem.W.Frag) : KS :=
  kSeq (kSet 1 (kBin (kMul) (kLst (kCons (kC (.int 0)) (kNil))) (kCB (kLen K) (kCons (kVar 0) (kNil))))) (rd_row_of_2 K)
def rd_row_of (K : PySem.W.Frag) : KS :=
  kSeq (kIf (kNot (kT (kCall (S_is_order K) (kCons (kVar 0) (kNil))))) (kSeq (kRaise K "NoOrder") (kNext)) (kNext)) (rd_row_of_1 K)
/-- led_draw(part, draws); slots 0 part, 1 draws, 2 source, 3 turn, 4 order, 5 place -/
def rd_led_draw_3 (K : PySem.W.Frag) : KS :=
  kSeq (kRet (kCall (S_row_of K) (kCons (kComp (kiSeq K (kVar 3)) (kgName 5) (kYes) (kBin (kIx K) (kVar 4) (kVar 5)) [5]) (kNil)))) (kNext)
def rd_led_draw_2 (K : PySem.W.Frag) : KS :=
  kSeq (kSet 4 (kCall (S_order_of K) (kCons (kBin (kIx K) (kVar 1) (kVar 2)) (kNil)))) (rd_led_draw_3 K)
def rd_led_draw_1 (K : PySem.W.Frag) : KS :=
  kSeq (kIf (kT (kBin (kIs2 false) (kVar 3) (kC .non))) (kSeq (kRet (kBin (kIx K) (kVar 1) (kVar 2))) (kNext)) (kNext)) (rd_led_draw_2 K)
def rd_led_draw (K : PySem.W.Frag) : KS :=
  kSeq (kAsg (kVar 0) (kgTup K 2 (kgsCons (kgName 2) (kgsCons (kgName 3) (kgsNil))))) (rd_led_draw_1 K)
/-- led(kinds, leading, draws); slots 0 kinds, 1 leading, 2 draws, 3 part -/
def rd_led (K : PySem.W.Frag) : KS :=
  kSeq (kRet (kComp (kiSeq K (kVar 1)) (kgName 3) (kYes) (kCall (S_led_draw K) (kCons (kVar 3) (kCons (kVar 2) (kNil)))) [3])) (kNext)
/-- law_whole(_law_found); slots 0 _law_found -/
def rd_law_whole (K : PySem.W.Frag) : KS :=
  kSeq (kRet (kAndV (kCB (kIsi K) (kCons (kVar 0) (kCons (kC (.ty "int")) (kNil)))) (kNotV (kCB (kIsi K) (kCons (kVar 0) (kCons (kC (.ty "bool")) (kNil))))))) (kNext)
/-- law_are_draws(_law_kinds_here, _law_thing); slots 0 _law_kinds_here, 1 _law_thing, 2 _law_kind, 3 _law_draw_here, 4 _law_k -/
def rd_law_are_draws_b0 (K : PySem.W.Frag) : KS :=
  kSeq (kIf (kT (kBin (kEqv false K) (kBin (kIx K) (kVar 2) (kC (.int 0))) (kC (.str "leaf")))) (kSeq (kIf (kOr (kNot (kT (kCall (S_law_whole K) (kCons (kVar 3) (kNil))))) (kNot (kT (kChain (kI0 fun i j => .bl (decide (i ≤ j))) (kI0 fun i j => .bl (decide (i < j))) (kC (.int 0)) (kVar 3) (kBin (kI CPow fun i j => .int (i * 2 ^ j.toNat)) (kC (.int 1)) (kBin (kIx K) (kVar 2) (kC (.int 1)))))))) (kSeq (kRet (kC (.bl false))) (kNext)) (kNext)) (kNext)) (kSeq (kIf (kOr (kNot (kT (kCB (kIsi K) (kCons (kVar 3) (kCons (kC (.ty "list")) (kNil)))))) (kT (kBin (kEqv true K) (kCB (kLen K) (kCons (kVar 3) (kNil))) (kBin (kIx K) (kVar 2) (kC (.int 1)))))) (kSeq (kRet (kC (.bl false))) (kNext)) (kSeq (kIf (kT (kBin (kEqv true K) (kComp (kiR1 (kCons (kBin (kIx K) (kVar 2) (kC (.int 1))) (kNil))) (kgName 4) (kOr (kNot (kT (kCall (S_law_whole K) (kCons (kBin (kIx K) (kVar 3) (kVar 4)) (kNil))))) (kNot (kT (kChain (kI0 fun i j => .bl (decide (i ≤ j))) (kI0 fun i j => .bl (decide (i ≤ j))) (kC (.int 0)) (kBin (kIx K) (kVar 3) (kVar 4)) (kVar 4))))) (kVar 4) [4]) (kLst (kNil)))) (kSeq (kRet (kC (.bl false))) (kNext)) (kNext)) (kNext))) (kNext))) (kNext)
def rd_law_are_draws_2 (K : PySem.W.Frag) : KS :=
  kSeq (kRet (kC (.bl true))) (kNext)
def rd_law_are_draws_1 (K : PySem.W.Frag) : KS :=
  kSeq (kFor (kiZip K (kCons (kVar 0) (kCons (kVar 1) (kNil)))) (kgTup K 2 (kgsCons (kgName 2) (kgsCons (kgName 3) (kgsNil)))) (rd_law_are_draws_b0 K)) (rd_law_are_draws_2 K)
def rd_law_are_draws (K : PySem.W.Frag) : KS :=
  kSeq (kIf (kOr (kNot (kT (kCB (kIsi K) (kCons (kVar 1) (kCons (kC (.ty "list")) (kNil)))))) (kT (kBin (kEqv true K) (kCB (kLen K) (kCons (kVar 1) (kNil))) (kCB (kLen K) (kCons (kVar 0) (kNil)))))) (kSeq (kRet (kC (.bl false))) (kNext)) (kNext)) (rd_law_are_draws_1 K)
/-- law_order(_law_row); slots 0 _law_row, 1 _law_order_here, 2 _law_k, 3 _law_one -/
def rd_law_order_b0_2 (K : PySem.W.Frag) : KS :=
  kSeq (kAsg (kVar 3) (kgIx (kVar 1) (kBin (kIx K) (kVar 0) (kVar 2)))) (kNext)
def rd_law_order_b0_1 (K : PySem.W.Frag) : KS :=
  kSeq (kAsg (kBin (kIx K) (kVar 1) (kBin (kIx K) (kVar 0) (kVar 2))) (kgIx (kVar 1) (kVar 2))) (rd_law_order_b0_2 K)
def rd_law_order_b0 (K : PySem.W.Frag) : KS :=
  kSeq (kSet 3 (kBin (kIx K) (kVar 1) (kVar 2))) (rd_law_order_b0_1 K)
def rd_law_order_2 (K : PySem.W.Frag) : KS :=
  kSeq (kRet (kVar 1)) (kNext)
def rd_law_order_1 (K : PySem.W.Frag) : KS :=
  kSeq (kFor (kiRv2 (kC (.int 1)) (kCB (kLen K) (kCons (kVar 0) (kNil)))) (kgName 2) (rd_law_order_b0 K)) (rd_law_order_2 K)
def rd_law_order (K : PySem.W.Frag) : KS :=
  kSeq (kSet 1 (kListR1 (kCB (kLen K) (kCons (kVar 0) (kNil))))) (rd_law_order_1 K)
/-- law_orders(_law_kinds_here, _law_draws_here); slots 0 _law_kinds_here, 1 _law_draws_here, 2 _law_kind, 3 _law_draw_here -/
def rd_law_orders (K : PySem.W.Frag) : KS :=
  kSeq (kRet (kComp (kiZip K (kCons (kVar 0) (kCons (kVar 1) (kNil)))) (kgTup K 2 (kgsCons (kgName 2) (kgsCons (kgName 3) (kgsNil)))) (kYes) (kIte (kT (kBin (kEqv false K) (kBin (kIx K) (kVar 2) (kC (.int 0))) (kC (.str "leaf")))) (kVar 3) (kCall (S_law_order K) (kCons (kVar 3) (kNil)))) [2, 3])) (kNext)
/-- law_led(_law_kinds_here, _law_paper_here, _law_draws_here); slots 0 _law_kinds_here, 1 _law_paper_here, 2 _law_draws_here, 3 _law_found, 4 _law_kind, 5 _law_part, 6 _law_order_here, 7 _law_item -/
def rd_law_led_b0 (K : PySem.W.Frag) : KS :=
  kSeq (kIf (kT (kBin (kEqv false K) (kBin (kIx K) (kVar 4) (kC (.int 0))) (kC (.str "leaf")))) (kSeq (kExpr (kBM K "list" (kAppend) (kVar 3) (kCons (kBin (kIx K) (kVar 2) (kBin (kIx K) (kVar 5) (kC (.int 0)))) (kNil)))) (kNext)) (kSeq (kSet 6 (kCall (S_law_order K) (kCons (kBin (kIx K) (kVar 2) (kBin (kIx K) (kVar 5) (kC (.int 0)))) (kNil)))) (kSeq (kExpr (kBM K "list" (kAppend) (kVar 3) (kCons (kComp (kiSeq K (kBin (kIx K) (kVar 5) (kC (.int 1)))) (kgName 7) (kYes) (kBin (kIx K) (kVar 6) (kVar 7)) [7]) (kNil)))) (kNext)))) (kNext)
def rd_law_led_2 (K : PySem.W.Frag) : KS :=
  kSeq (kRet (kVar 3)) (kNext)
def rd_law_led_1 (K : PySem.W.Frag) : KS :=
  kSeq (kFor (kiZip K (kCons (kVar 0) (kCons (kVar 1) (kNil)))) (kgTup K 2 (kgsCons (kgName 4) (kgsCons (kgName 5) (kgsNil)))) (rd_law_led_b0 K)) (rd_law_led_2 K)
def rd_law_led (K : PySem.W.Frag) : KS :=
  kSeq (kSet 3 (kLst (kNil))) (rd_law_led_1 K)
/-- inverse(order); slots 0 order, 1 places, 2 place, 3 number -/
def rd_inverse_b0 (K : PySem.W.Frag) : KS :=
  kSeq (kAsg (kVar 2) (kgIx (kVar 1) (kVar 3))) (kNext)
def rd_inverse_2 (K : PySem.W.Frag) : KS :=
  kSeq (kRet (kVar 1)) (kNext)
def rd_inverse_1 (K : PySem.W.Frag) : KS :=
  kSeq (kFor (kiEnum K (kCons (kVar 0) (kNil))) (kgTup K 2 (kgsCons (kgName 2) (kgsCons (kgName 3) (kgsNil)))) (rd_inverse_b0 K)) (rd_inverse_2 K)
def rd_inverse (K : PySem.W.Frag) : KS :=
  kSeq (kSet 1 (kBin (kMul) (kLst (kCons (kC (.int 0)) (kNil))) (kCB (kLen K) (kCons (kVar 0) (kNil))))) (rd_inverse_1 K)
/-- back(leading); slots 0 leading, 1 found, 2 place, 3 part, 4 source, 5 turn -/
def rd_back_b0_1 (K : PySem.W.Frag) : KS :=
  kSeq (kAsg (kTup (kCons (kVar 2) (kCons (kIte (kT (kBin (kIs2 false) (kVar 5) (kC .non))) (kC .non) (kCall (S_inverse K) (kCons (kVar 5) (kNil)))) (kNil)))) (kgIx (kVar 1) (kVar 4))) (kNext)
def rd_back_b0 (K : PySem.W.Frag) : KS :=
  kSeq (kAsg (kVar 3) (kgTup K 2 (kgsCons (kgName 4) (kgsCons (kgName 5) (kgsNil))))) (rd_back_b0_1 K)
def rd_back_2 (K : PySem.W.Frag) : KS :=
  kSeq (kRet (kVar 1)) (kNext)
def rd_back_1 (K : PySem.W.Frag) : KS :=
  kSeq (kFor (kiEnum K (kCons (kVar 0) (kNil))) (kgTup K 2 (kgsCons (kgName 2) (kgsCons (kgName 3) (kgsNil)))) (rd_back_b0 K)) (rd_back_2 K)
def rd_back (K : PySem.W.Frag) : KS :=
  kSeq (kSet 1 (kBin (kMul) (kLst (kCons (kC .non) (kNil))) (kCB (kLen K) (kCons (kVar 0) (kNil))))) (rd_back_1 K)
/-- joined(first, second); slots 0 first, 1 second, 2 found, 3 middle, 4 turn, 5 source, 6 ahead, 7 place -/
def rd_joined_b0_1 (K : PySem.W.Frag) : KS :=
  kSeq (kExpr (kBM K "list" (kAppend) (kVar 2) (kCons (kTup (kCons (kVar 5) (kCons (kIte (kT (kBin (kIs2 false) (kVar 4) (kC .non))) (kC .non) (kComp (kiSeq K (kVar 4)) (kgName 7) (kYes) (kBin (kIx K) (kVar 6) (kVar 7)) [7])) (kNil)))) (kNil)))) (kNext)
def rd_joined_b0 (K : PySem.W.Frag) : KS :=
  kSeq (kAsg (kBin (kIx K) (kVar 0) (kVar 3)) (kgTup K 2 (kgsCons (kgName 5) (kgsCons (kgName 6) (kgsNil))))) (rd_joined_b0_1 K)
def rd_joined_2 (K : PySem.W.Frag) : KS :=
  kSeq (kRet (kVar 2)) (kNext)
def rd_joined_1 (K : PySem.W.Frag) : KS :=
  kSeq (kFor (kiSeq K (kVar 1)) (kgTup K 2 (kgsCons (kgName 3) (kgsCons (kgName 4) (kgsNil)))) (rd_joined_b0 K)) (rd_joined_2 K)
def rd_joined (K : PySem.W.Frag) : KS :=
  kSeq (kSet 2 (kLst (kNil))) (rd_joined_1 K)
/-- is_part(kinds, place, thing); slots 0 kinds, 1 place, 2 thing, 3 kind -/
def rd_is_part_4 (K : PySem.W.Frag) : KS :=
  kSeq (kRet (kAndV (kCall (S_is_order K) (kCons (kBin (kIx K) (kVar 2) (kC (.int 1))) (kNil))) (kBin (kEqv false K) (kCB (kLen K) (kCons (kBin (kIx K) (kVar 2) (kC (.int 1))) (kNil))) (kBin (kIx K) (kVar 3) (kC (.int 1)))))) (kNext)
def rd_is_part_3 (K : PySem.W.Frag) : KS :=
  kSeq (kIf (kT (kBin (kEqv false K) (kBin (kIx K) (kVar 3) (kC (.int 0))) (kC (.str "leaf")))) (kSeq (kRet (kBin (kIs2 false) (kBin (kIx K) (kVar 2) (kC (.int 1))) (kC .non))) (kNext)) (kNext)) (rd_is_part_4 K)
def rd_is_part_2 (K : PySem.W.Frag) : KS :=
  kSeq (kIf (kT (kBin (kEqv true K) (kBin (kIx K) (kVar 0) (kBin (kIx K) (kVar 2) (kC (.int 0)))) (kVar 3))) (kSeq (kRet (kC (.bl false))) (kNext)) (kNext)) (rd_is_part_3 K)
def rd_is_part_1 (K : PySem.W.Frag) : KS :=
  kSeq (kSet 3 (kBin (kIx K) (kVar 0) (kVar 1))) (rd_is_part_2 K)
def rd_is_part (K : PySem.W.Frag) : KS :=
  kSeq (kIf (kOr (kNot (kT (kCB (kIsi K) (kCons (kVar 2) (kCons (kC (.ty "tuple")) (kNil)))))) (kOr (kT (kBin (kEqv true K) (kCB (kLen K) (kCons (kVar 2) (kNil))) (kC (.int 2)))) (kNot (kT (kCall (S_is_within K) (kCons (kBin (kIx K) (kVar 2) (kC (.int 0))) (kCons (kC (.int 0)) (kCons (kBin (kI0 fun i j => .int (i - j)) (kCB (kLen K) (kCons (kVar 0) (kNil))) (kC (.int 1))) (kNil))))))))) (kSeq (kRet (kC (.bl false))) (kNext)) (kNext)) (rd_is_part_1 K)
/-- is_paper(kinds, thing); slots 0 kinds, 1 thing, 2 place, 3 part -/
def rd_is_paper_b0 (K : PySem.W.Frag) : KS :=
  kSeq (kIf (kNot (kT (kCall (S_is_part K) (kCons (kVar 0) (kCons (kVar 2) (kCons (kBin (kIx K) (kVar 1) (kVar 2)) (kNil))))))) (kSeq (kRet (kC (.bl false))) (kNext)) (kNext)) (kNext)
def rd_is_paper_2 (K : PySem.W.Frag) : KS :=
  kSeq (kRet (kBin (kEqv false K) (kLenSet K (kComp (kiSeq K (kVar 1)) (kgName 3) (kYes) (kBin (kIx K) (kVar 3) (kC (.int 0))) [3])) (kCB (kLen K) (kCons (kVar 1) (kNil))))) (kNext)
def rd_is_paper_1 (K : PySem.W.Frag) : KS :=
  kSeq (kFor (kiR1 (kCons (kCB (kLen K) (kCons (kVar 0) (kNil))) (kNil))) (kgName 2) (rd_is_paper_b0 K)) (rd_is_paper_2 K)
def rd_is_paper (K : PySem.W.Frag) : KS :=
  kSeq (kIf (kOr (kNot (kT (kCB (kIsi K) (kCons (kVar 1) (kCons (kC (.ty "list")) (kNil)))))) (kT (kBin (kEqv true K) (kCB (kLen K) (kCons (kVar 1) (kNil))) (kCB (kLen K) (kCons (kVar 0) (kNil)))))) (kSeq (kRet (kC (.bl false))) (kNext)) (kNext)) (rd_is_paper_1 K)
/-- is_led(one, other, paper); slots 0 one, 1 other, 2 paper, 3 source, 4 turn -/
def rd_is_led_5 (K : PySem.W.Frag) : KS :=
  kSeq (kRet (kBin (kEqv false K) (kSlT K (kVar 0) (kPart (kC (.int 4))) (kNoP)) (kSlT K (kVar 1) (kPart (kC (.int 4))) (kNoP)))) (kNext)
def rd_is_led_4 (K : PySem.W.Frag) : KS :=
  kSeq (kIf (kT (kBin (kEqv false K) (kBin (kIx K) (kVar 0) (kC (.int 0))) (kC (.str "item")))) (kSeq (kRet (kBin (kEqv false K) (kBin (kIx K) (kVar 4) (kBin (kIx K) (kVar 1) (kC (.int 4)))) (kBin (kIx K) (kVar 0) (kC (.int 4))))) (kNext)) (kNext)) (rd_is_led_5 K)
def rd_is_led_3 (K : PySem.W.Frag) : KS :=
  kSeq (kIf (kT (kBin (kEqv true K) (kVar 3) (kBin (kIx K) (kVar 0) (kC (.int 3))))) (kSeq (kRet (kC (.bl false))) (kNext)) (kNext)) (rd_is_led_4 K)
def rd_is_led_2 (K : PySem.W.Frag) : KS :=
  kSeq (kAsg (kBin (kIx K) (kVar 2) (kBin (kIx K) (kVar 1) (kC (.int 3)))) (kgTup K 2 (kgsCons (kgName 3) (kgsCons (kgName 4) (kgsNil))))) (rd_is_led_3 K)
def rd_is_led_1 (K : PySem.W.Frag) : KS :=
  kSeq (kIf (kT (kBin (kEqv false K) (kBin (kIx K) (kVar 0) (kC (.int 0))) (kC (.str "room")))) (kSeq (kRet (kBin (kEqv false K) (kBin (kIx K) (kVar 0) (kC (.int 3))) (kBin (kIx K) (kVar 1) (kC (.int 3))))) (kNext)) (kNext)) (rd_is_led_2 K)
def rd_is_led (K : PySem.W.Frag) : KS :=
  kSeq (kIf (kOr (kT (kBin (kEqv true K) (kBin (kIx K) (kVar 0) (kC (.int 0))) (kBin (kIx K) (kVar 1) (kC (.int 0))))) (kT (kBin (kEqv true K) (kSlT K (kVar 0) (kPart (kC (.int 1))) (kPart (kC (.int 3)))) (kSlT K (kVar 1) (kPart (kC (.int 1))) (kPart (kC (.int 3))))))) (kSeq (kRet (kC (.bl false))) (kNext)) (kNext)) (rd_is_led_1 K)
/-- is_leading(kinds, one, other, thing); slots 0 kinds, 1 one, 2 other, 3 thing, 4 here, 5 there -/
def rd_is_leading_1 (K : PySem.W.Frag) : KS :=
  kSeq (kRet (kCB (kAll K) (kCons (kComp (kiZip K (kCons (kVar 1) (kCons (kVar 2) (kNil)))) (kgTup K 2 (kgsCons (kgName 4) (kgsCons (kgName 5) (kgsNil)))) (kYes) (kCall (S_is_led K) (kCons (kVar 4) (kCons (kVar 5) (kCons (kVar 3) (kNil))))) [4, 5]) (kNil)))) (kNext)
def rd_is_leading (K : PySem.W.Frag) : KS :=
  kSeq (kIf (kOr (kNot (kT (kCall (S_is_paper K) (kCons (kVar 0) (kCons (kVar 3) (kNil)))))) (kT (kBin (kEqv true K) (kCB (kLen K) (kCons (kVar 1) (kNil))) (kCB (kLen K) (kCons (kVar 2) (kNil)))))) (kSeq (kRet (kC (.bl false))) (kNext)) (kNext)) (rd_is_leading_1 K)
/-- law_apart(_law_told); slots 0 _law_told, 1 _law_part, 2 _law_own, 3 _law_kept, 4 _law_longer -/
def rd_law_apart_b0_2 (K : PySem.W.Frag) : KS :=
  kSeq (kIf (kT (kCB (kIsi K) (kCons (kVar 2) (kCons (kC (.ty "list")) (kNil))))) (kSeq (kSet 3 (kCB (kLenS) (kCons (kCB (kRepr K) (kCons (kVar 0) (kNil))) (kNil)))) (kSeq (kExpr (kBM K "list" (kAppend) (kVar 2) (kCons (kC (.int 7)) (kNil)))) (kSeq (kSet 4 (kBin (kI0 fun i j => .int (i - j)) (kCB (kLenS) (kCons (kCB (kRepr K) (kCons (kVar 0) (kNil))) (kNil))) (kVar 3))) (kSeq (kExpr (kBM0 K "list" (kPop) (kVar 2))) (kSeq (kIf (kT (kBin (kI0 fun i j => .bl (decide (j < i))) (kVar 4) (kC (.int 3)))) (kSeq (kRet (kC (.bl false))) (kNext)) (kNext)) (kNext)))))) (kNext)) (kNext)
def rd_law_apart_b0_1 (K : PySem.W.Frag) : KS :=
  kSeq (kIf (kT (kCB (kIsi K) (kCons (kVar 1) (kCons (kC (.ty "tuple")) (kNil))))) (kSeq (kSet 2 (kBin (kIx K) (kVar 1) (kUn kNeg (kC (.int 1))))) (kNext)) (kNext)) (rd_law_apart_b0_2 K)
def rd_law_apart_b0 (K : PySem.W.Frag) : KS :=
  kSeq (kSet 2 (kVar 1)) (rd_law_apart_b0_1 K)
def rd_law_apart_1 (K : PySem.W.Frag) : KS :=
  kSeq (kRet (kC (.bl true))) (kNext)
def rd_law_apart (K : PySem.W.Frag) : KS :=
  kSeq (kFor (kiSeq K (kVar 0)) (kgName 1) (rd_law_apart_b0 K)) (rd_law_apart_1 K)
/-- law_other_draws(_law_pool_here, _law_kinds_here, _law_draws_here); slots 0 _law_pool_here, 1 _law_kinds_here, 2 _law_draws_here, 3 _law_at, 4 _law_other, 5 _law_place, 6 _law_row -/
def rd_law_other_draws_3 (K : PySem.W.Frag) : KS :=
  kSeq (kRet (kVar 4)) (kNext)
def rd_law_other_draws_2 (K : PySem.W.Frag) : KS :=
  kSeq (kIf (kT (kBin (kEqv false K) (kBin (kIx K) (kBin (kIx K) (kVar 1) (kVar 3)) (kC (.int 0))) (kC (.str "leaf")))) (kSeq (kAsg (kBin (kI (fun _ j => 0 < j) fun i j => .int (i % j)) (kBin (kAdd) (kBin (kAdd) (kBin (kIx K) (kVar 2) (kVar 3)) (kC (.int 1))) (kCall (S_law_take K) (kCons (kVar 0) (kCons (kBin (kI CPow fun i j => .int (i * 2 ^ j.toNat)) (kC (.int 1)) (kBin (kIx K) (kBin (kIx K) (kVar 1) (kVar 3)) (kC (.int 1)))) (kNil))))) (kBin (kI CPow fun i j => .int (i * 2 ^ j.toNat)) (kC (.int 1)) (kBin (kIx K) (kBin (kIx K) (kVar 1) (kVar 3)) (kC (.int 1))))) (kgIx (kVar 4) (kVar 3))) (kNext)) (kSeq (kSet 5 (kCall (S_law_take K) (kCons (kVar 0) (kCons (kBin (kIx K) (kBin (kIx K) (kVar 1) (kVar 3)) (kC (.int 1))) (kNil))))) (kSeq (kSet 6 (kCB (kList K) (kCons (kBin (kIx K) (kVar 2) (kVar 3)) (kNil)))) (kSeq (kAsg (kBin (kI (fun _ j => 0 < j) fun i j => .int (i % j)) (kBin (kAdd) (kBin (kIx K) (kVar 6) (kVar 5)) (kC (.int 1))) (kBin (kAdd) (kVar 5) (kC (.int 1)))) (kgIx (kVar 6) (kVar 5))) (kSeq (kAsg (kVar 6) (kgIx (kVar 4) (kVar 3))) (kNext)))))) (rd_law_other_draws_3 K)
def rd_law_other_draws_1 (K : PySem.W.Frag) : KS :=
  kSeq (kSet 4 (kCB (kList K) (kCons (kVar 2) (kNil)))) (rd_law_other_draws_2 K)
def rd_law_other_draws (K : PySem.W.Frag) : KS :=
  kSeq (kSet 3 (kCall (S_law_take K) (kCons (kVar 0) (kCons (kCB (kLen K) (kCons (kVar 1) (kNil))) (kNil))))) (rd_law_other_draws_1 K)
/-- law_as_ahead(_law_kinds_here, _law_paper_here, _law_draws_here); slots 0 _law_kinds_here, 1 _law_paper_here, 2 _law_draws_here, 3 _law_same, 4 _law_row -/
def rd_law_as_ahead_b0 (K : PySem.W.Frag) : KS :=
  kSeq (kIf (kT (kCB (kIsi K) (kCons (kVar 4) (kCons (kC (.ty "list")) (kNil))))) (kSeq (kExpr (kBM0 K "list" (kClear) (kVar 4))) (kNext)) (kNext)) (kNext)
def rd_law_as_ahead_3 (K : PySem.W.Frag) : KS :=
  kSeq (kRet (kC (.bl true))) (kNext)
def rd_law_as_ahead_2 (K : PySem.W.Frag) : KS :=
  kSeq (kFor (kiSeq K (kVar 3)) (kgName 4) (rd_law_as_ahead_b0 K)) (rd_law_as_ahead_3 K)
def rd_law_as_ahead_1 (K : PySem.W.Frag) : KS :=
  kSeq (kIf (kT (kBin (kEqv true K) (kVar 3) (kVar 2))) (kSeq (kRet (kC (.bl false))) (kNext)) (kNext)) (rd_law_as_ahead_2 K)
def rd_law_as_ahead (K : PySem.W.Frag) : KS :=
  kSeq (kSet 3 (kCall (S_led K) (kCons (kVar 0) (kCons (kCall (S_joined K) (kCons (kVar 1) (kCons (kCall (S_back K) (kCons (kVar 1) (kNil))) (kNil)))) (kCons (kVar 2) (kNil)))))) (rd_law_as_ahead_1 K)
/-- law_right(_law_pool_here); slots 0 _law_pool_here, 1 _law_kinds_here, 2 _law_draws_here, 3 _law_first, 4 _law_second, 5 _law_kept, 6 _law_found, 7 _law_turned, 8 _law_both, 9 _law_told, 10 _law_part, 11 _law_other -/
def rd_law_right_b1 (K : PySem.W.Frag) : KS :=
  kSeq (kIf (kT (kCB (kIsi K) (kCons (kBin (kIx K) (kVar 10) (kC (.int 1))) (kCons (kC (.ty "list")) (kNil))))) (kSeq (kExpr (kBM0 K "list" (kReverse) (kBin (kIx K) (kVar 10) (kC (.int 1))))) (kNext)) (kNext)) (kNext)
def rd_law_right_b0_1 (K : PySem.W.Frag) : KS :=
  kSeq (kExpr (kBM K "list" (kAppend) (kVar 9) (kCons (kC .non) (kNil)))) (kNext)
def rd_law_right_b0 (K : PySem.W.Frag) : KS :=
  kSeq (kFor (kiSeq K (kVar 9)) (kgName 10) (rd_law_right_b1 K)) (rd_law_right_b0_1 K)
def rd_law_right_16 (K : PySem.W.Frag) : KS :=
  kSeq (kRet (kAndV (kCall (S_law_as_ahead K) (kCons (kVar 1) (kCons (kVar 3) (kCons (kVar 2) (kNil))))) (kBin (kEqv false K) (kVar 5) (kCB (kRepr K) (kCons (kLst (kCons (kVar 1) (kCons (kVar 2) (kCons (kVar 3) (kCons (kVar 4) (kNil)))))) (kNil)))))) (kNext)
def rd_law_right_15 (K : PySem.W.Frag) : KS :=
  kSeq (kIf (kT (kBin (kEqv true K) (kVar 1) (kLst (kNil)))) (kSeq (kSet 11 (kCall (S_law_other_draws K) (kCons (kVar 0) (kCons (kVar 1) (kCons (kVar 2) (kNil)))))) (kSeq (kIf (kT (kBin (kEqv true K) (kBin (kEqv false K) (kCall (S_led K) (kCons (kVar 1) (kCons (kVar 3) (kCons (kVar 11) (kNil))))) (kVar 6)) (kBin (kEqv false K) (kVar 11) (kVar 2)))) (kSeq (kRet (kC (.bl false))) (kNext)) (kNext)) (kNext))) (kNext)) (rd_law_right_16 K)
def rd_law_right_14 (K : PySem.W.Frag) : KS :=
  kSeq (kIf (kOr (kT (kBin (kEqv true K) (kVar 5) (kCB (kRepr K) (kCons (kLst (kCons (kVar 1) (kCons (kVar 2) (kCons (kVar 3) (kCons (kVar 4) (kNil)))))) (kNil))))) (kT (kBin (kEqv true K) (kCall (S_led K) (kCons (kVar 1) (kCons (kCall (S_back K) (kCons (kVar 3) (kNil))) (kCons (kVar 6) (kNil))))) (kVar 2)))) (kSeq (kRet (kC (.bl false))) (kNext)) (kNext)) (rd_law_right_15 K)
def rd_law_right_13 (K : PySem.W.Frag) : KS :=
  kSeq (kFor (kiW (kiSeq K (kLst (kCons (kVar 7) (kCons (kVar 8) (kNil)))))) (kgName 9) (rd_law_right_b0 K)) (rd_law_right_14 K)
def rd_law_right_12 (K : PySem.W.Frag) : KS :=
  kSeq (kIf (kOr (kT (kBin (kEqv true K) (kCall (S_led K) (kCons (kVar 1) (kCons (kVar 8) (kCons (kVar 2) (kNil))))) (kCall (S_led K) (kCons (kVar 1) (kCons (kVar 4) (kCons (kVar 6) (kNil))))))) (kT (kBin (kEqv true K) (kVar 5) (kCB (kRepr K) (kCons (kLst (kCons (kVar 1) (kCons (kVar 2) (kCons (kVar 3) (kCons (kVar 4) (kNil)))))) (kNil)))))) (kSeq (kRet (kC (.bl false))) (kNext)) (kNext)) (rd_law_right_13 K)
def rd_law_right_11 (K : PySem.W.Frag) : KS :=
  kSeq (kIf (kOr (kT (kBin (kEqv true K) (kCall (S_led K) (kCons (kVar 1) (kCons (kVar 7) (kCons (kVar 6) (kNil))))) (kVar 2))) (kT (kBin (kEqv true K) (kCall (S_led K) (kCons (kVar 1) (kCons (kVar 3) (kCons (kCall (S_led K) (kCons (kVar 1) (kCons (kVar 7) (kCons (kVar 2) (kNil))))) (kNil))))) (kVar 2)))) (kSeq (kRet (kC (.bl false))) (kNext)) (kNext)) (rd_law_right_12 K)
def rd_law_right_10 (K : PySem.W.Frag) : KS :=
  kSeq (kIf (kOr (kNot (kT (kCall (S_law_apart K) (kCons (kVar 7) (kNil))))) (kOr (kNot (kT (kCall (S_law_apart K) (kCons (kVar 8) (kNil))))) (kNot (kT (kCall (S_law_apart K) (kCons (kVar 6) (kNil))))))) (kSeq (kRet (kC (.bl false))) (kNext)) (kNext)) (rd_law_right_11 K)
def rd_law_right_9 (K : PySem.W.Frag) : KS :=
  kSeq (kIf (kOr (kNot (kT (kCall (S_is_leading K) (kCons (kVar 1) (kCons (kLst (kNil)) (kCons (kLst (kNil)) (kCons (kVar 7) (kNil)))))))) (kNot (kT (kCall (S_is_leading K) (kCons (kVar 1) (kCons (kLst (kNil)) (kCons (kLst (kNil)) (kCons (kVar 8) (kNil))))))))) (kSeq (kRet (kC (.bl false))) (kNext)) (kNext)) (rd_law_right_10 K)
def rd_law_right_8 (K : PySem.W.Frag) : KS :=
  kSeq (kSet 8 (kCall (S_joined K) (kCons (kVar 3) (kCons (kVar 4) (kNil))))) (rd_law_right_9 K)
def rd_law_right_7 (K : PySem.W.Frag) : KS :=
  kSeq (kSet 7 (kCall (S_back K) (kCons (kVar 3) (kNil)))) (rd_law_right_8 K)
def rd_law_right_6 (K : PySem.W.Frag) : KS :=
  kSeq (kIf (kOr (kNot (kT (kCall (S_law_are_draws K) (kCons (kVar 1) (kCons (kVar 6) (kNil)))))) (kT (kBin (kEqv true K) (kCall (S_law_orders K) (kCons (kVar 1) (kCons (kVar 6) (kNil)))) (kCall (S_law_led K) (kCons (kVar 1) (kCons (kVar 3) (kCons (kVar 2) (kNil)))))))) (kSeq (kRet (kC (.bl false))) (kNext)) (kNext)) (rd_law_right_7 K)
def rd_law_right_5 (K : PySem.W.Frag) : KS :=
  kSeq (kSet 6 (kCall (S_led K) (kCons (kVar 1) (kCons (kVar 3) (kCons (kVar 2) (kNil)))))) (rd_law_right_6 K)
def rd_law_right_4 (K : PySem.W.Frag) : KS :=
  kSeq (kSet 5 (kCB (kRepr K) (kCons (kLst (kCons (kVar 1) (kCons (kVar 2) (kCons (kVar 3) (kCons (kVar 4) (kNil)))))) (kNil)))) (rd_law_right_5 K)
def rd_law_right_3 (K : PySem.W.Frag) : KS :=
  kSeq (kSet 4 (kCall (S_law_drawn_paper K) (kCons (kVar 0) (kCons (kVar 1) (kNil))))) (rd_law_right_4 K)
def rd_law_right_2 (K : PySem.W.Frag) : KS :=
  kSeq (kSet 3 (kCall (S_law_drawn_paper K) (kCons (kVar 0) (kCons (kVar 1) (kNil))))) (rd_law_right_3 K)
def rd_law_right_1 (K : PySem.W.Frag) : KS :=
  kSeq (kSet 2 (kCall (S_law_draws K) (kCons (kVar 0) (kCons (kVar 1) (kNil))))) (rd_law_right_2 K)
def rd_law_right (K : PySem.W.Frag) : KS :=
  kSeq (kSet 1 (kCall (S_law_kinds K) (kCons (kVar 0) (kCons (kC (.int 6)) (kCons (kC (.int 64)) (kNil)))))) (rd_law_right_1 K)
/-- law(_law_script); slots 0 _law_script, 1 _law_k -/
def rd_law_b0 (K : PySem.W.Frag) : KS :=
  kSeq (kIf (kNot (kT (kCall (S_law_right K) (kCons (kCall (S_law_pool K) (kCons (kVar 0) (kCons (kVar 1) (kNil)))) (kNil))))) (kSeq (kRet (kC (.bl false))) (kNext)) (kNext)) (kNext)
def rd_law_1 (K : PySem.W.Frag) : KS :=
  kSeq (kRet (kC (.bl true))) (kNext)
def rd_law (K : PySem.W.Frag) : KS :=
  kSeq (kFor (kiR1 (kCons (kCB (kMax2) (kCons (kC (.int 1)) (kCons (kCB (kMin2) (kCons (kCB (kLen K) (kCons (kVar 0) (kNil))) (kCons (kC (.int 40)) (kNil)))) (kNil)))) (kNil))) (kgName 1) (rd_law_b0 K)) (rd_law_1 K)
section
variable {K : PySem.W.Frag} {vs : List V} {G : Hp} {M : Mem} {R : KR} {Z : KX}
theorem pf_law_take (h : S_law_take K vs G M R Z) : rd_law_take K (ends R Z) (sta 3 vs) G M := by
  refine of_now ?_
  simp (disch := with_unfolding_all
    obtain ⟨_, _, rfl, p, m, n, c, s, rfl, rfl, hn, hs, hm0, hm1, q⟩ := sp2_of h
    have hS : SeqAt' K G M p [.int c, .int s] := lst_n hn
    refine ⟨G, M, Wk.refl, _, _, hS, rfl, ite2' (fun e => ?_) (fun e => ?_)⟩
    · refine ⟨G, M, Wk.refl, _, _, hS, rfl, hm0, ?_⟩
      refine ⟨G, M, Wk.refl, _, _, hS, rfl, divW hm0 hm1 c, n, _, 0, hn, rfl, ?_⟩
      refine ⟨G, _, Wk.refl, ?_⟩
      exact ret0 (q _ _ _ (Int.emod_nonneg _ (by omega)) (Int.emod_lt_of_pos _ hm0) hs)
    · obtain ⟨s0, s1⟩ := hs
      have hs' : PoolOk ((s * 48271 + 11) % 2147483647) := ⟨Int.emod_nonneg _ (by decide), Int.emod_lt_of_pos _ (by decide)⟩
      refine ⟨G, M, Wk.refl, _, _, hS, rfl, mul_r (by decide) (by decide), (by show (0 : Int) < _; decide), n, _, 1, hn, rfl, ?_⟩
      have hn' : (M.set n (p, pool c ((s * 48271 + 11) % 2147483647)))[n]? = some (p, pool c ((s * 48271 + 11) % 2147483647)) := set_n hn
      have hS' : SeqAt' K G (M.set n (p, pool c ((s * 48271 + 11) % 2147483647))) p [.int c, .int ((s * 48271 + 11) % 2147483647)] := lst_n hn'
      refine ⟨G, _, Wk.refl, _, _, hS', rfl, _, _, hS', rfl, mul_l (by have := hs'.1; omega) (by have := hs'.2; omega), (by show (0 : Int) < _; decide), divW (by decide) (by decide) _, hm0, ?_⟩
      exact ret0 (q _ _ _ (Int.emod_nonneg _ (by omega)) (Int.emod_lt_of_pos _ hm0) hs')) only [↓now_true]
end

section
variable {K : PySem.W.Frag} {vs : List V} {G : Hp} {M : Mem} {R : KR} {Z : KX}
theorem set_self {α : Type} {l : List α} {n : Nat} {x : α} (h : l[n]? = some x) : l.set n x = l := by
  refine of_now ?_
  simp (disch := with_unfolding_all
    apply List.ext_getElem? 
    intro i
    rw [List.getElem?_set]
    by_cases e : n = i
    · subst e
      rw [if_pos rfl, if_pos (List.getElem?_eq_some_iff.mp h).1, h]
    · rw [if_neg e]) only [↓now_true]
end

section
variable {K : PySem.W.Frag} {vs : List V} {G : Hp} {M : Mem} {R : KR} {Z : KX}
theorem pf_is_whole (h : S_is_whole K vs G M R Z) : rd_is_whole K (ends R Z) (sta 1 vs) G M := by
  refine of_now ?_
  simp (disch := with_unfolding_all
    obtain ⟨x, rfl, T, hT, q⟩ := sp1_of h
    refine ⟨G, M, Wk.refl, .type T.name, .type "int", _, .ty "int", hT, kit_pt T .int, ite2' (fun e => ?_) (fun e => ?_)⟩
    · refine ⟨.type T.name, .type "bool", _, .ty "bool", hT, kit_pt T .bool, ret0 ?_⟩
      have e2 : (!isaB T .bool) = (T == .int) := by revert e; cases T <;> decide
      rw [e2]; exact q
    · have e2 : false = (T == .int) := by revert e; cases T <;> decide
      refine ret0 ?_
      rw [e2]; exact q) only [↓now_true]
theorem pf_is_within (h : S_is_within K vs G M R Z) : rd_is_within K (ends R Z) (sta 3 vs) G M := by
  refine of_now ?_
  simp (disch := with_unfolding_all
    obtain ⟨x, _, _, rfl, T, lo, hi, rfl, rfl, hT, hx, q⟩ := sp3_of h
    refine ⟨G, M, Wk.refl, T, hT, ite2' (fun e => ?_) (fun e => ?_)⟩
    · rw [e] at hx
      cases x with
      | int i =>
        have q : R (.bl (decide (lo ≤ i) && decide (i ≤ hi))) G M := q
        refine ite2' (fun e1 => ?_) (fun e1 => ?_)
        · rw [e1, Bool.true_and] at q; exact ret0 q
        · rw [e1, Bool.false_and] at q; exact ret0 q
      | _ => cases hx
    · rw [e] at hx
      have e2 : withinV x lo hi = false := by cases x <;> first | rfl | cases hx
      rw [e2] at q
      exact ret0 q) only [↓now_true]
end

section
variable {K : PySem.W.Frag} {vs : List V} {G : Hp} {M : Mem} {R : KR} {Z : KX}
section
variable {α β : Type} {r : α → β → Prop}
theorem A2.len {as : List α} {bs : List β} (h : A2 r as bs) : as.length = bs.length := by
  refine of_now ?_
  simp (disch := with_unfolding_all
    induction h with
    | nil => rfl
    | cons _ _ ih => simp [ih]) only [↓now_true]
theorem A2.app {as as' : List α} {bs bs' : List β} (h : A2 r as bs) (h' : A2 r as' bs') : A2 r (as ++ as') (bs ++ bs') := by
  refine of_now ?_
  simp (disch := with_unfolding_all
    induction h with
    | nil => exact h'
    | cons a _ ih => exact .cons a ih) only [↓now_true]
theorem A2.get {as : List α} {bs : List β} (h : A2 r as bs) : ∀ {i : Nat} {b : β}, bs[i]? = some b → ∃ a, as[i]? = some a ∧ r a b := by
  induction h with
  | nil => intro i b e; simp at e
  | cons a _ ih =>
    intro i b e
    cases i with
    | zero => cases e; exact ⟨_, rfl, a⟩
    | succ i => exact ih e
theorem A2.get' {as : List α} {bs : List β} (h : A2 r as bs) : ∀ {i : Nat} {a : α}, as[i]? = some a → ∃ b, bs[i]? = some b ∧ r a b := by
  induction h with
  | nil => intro i b e; simp at e
  | cons a _ ih =>
    intro i b e
    cases i with
    | zero => cases e; exact ⟨_, rfl, a⟩
    | succ i => exact ih e
theorem A2.mono {r' : α → β → Prop} (m : ∀ a b, r a b → r' a b) {as : List α} {bs : List β} (h : A2 r as bs) : A2 r' as bs := by
  refine of_now ?_
  simp (disch := with_unfolding_all
    induction h with
    | nil => exact .nil
    | cons a _ ih => exact .cons (m _ _ a) ih) only [↓now_true]
end
theorem dp_kn_inv {v : V} {k : Kn} (h : Dp K G v (knD k)) : ∃ t, v = .ref t ∧ SqT K G t [.str k.txt, .int k.n] := by
  refine of_now ?_
  simp (disch := with_unfolding_all
    obtain ⟨t, xs, rfl, s, a⟩ := dp_tup_inv h
    refine ⟨t, rfl, ?_⟩
    cases a with
    | cons a b =>
      cases b with
      | cons b c =>
        cases c
        cases a
        cases b
        exact s) only [↓now_true]
theorem dp_kn {t : Addr} {k : Kn} (h : SqT K G t [.str k.txt, .int k.n]) : Dp K G (.ref t) (knD k) := .tup h (.cons (.str _) (.cons (.int _) .nil))
theorem shp_kns {n : Nat} (ks : List Kn) : Shp (n + 2) (.list (ks.map knD)) := .list fun d hd => by
  obtain ⟨p, _, rfl⟩ := List.mem_map.mp hd
  refine .tuple fun d hd => ?_
  rcases List.mem_cons.mp hd with rfl | hd
  · exact .str (by obtain ⟨b, n⟩ := p; cases b <;> (show PyData.strOk _ = true; first | exact (by decide +kernel : PyData.strOk ("leaf" : Str) = true) | exact (by decide +kernel : PyData.strOk ("shuffle" : Str) = true)))
  · rcases List.mem_cons.mp hd with rfl | hd
    · exact .int
    · cases hd
theorem txt_leaf (k : Kn) : decide ((V.str k.txt) = (.str "leaf")) = k.leaf := by
  refine of_now ?_
  simp (disch := with_unfolding_all
    obtain ⟨b, n⟩ := k
    cases b
    · exact decide_eq_false (by intro h; injection h with h; exact absurd (show ("shuffle" : Str) = "leaf" from h) (by decide))
    · exact decide_eq_true rfl) only [↓now_true]
/-! sizes -/
theorem take_succ' {α : Type} {l : List α} {i : Nat} {x : α} (h : l[i]? = some x) : l.take (i + 1) = l.take i ++ [x] := by
  rw [List.take_succ, h]; rfl
end

section
variable {K : PySem.W.Frag} {vs : List V} {G : Hp} {M : Mem} {R : KR} {Z : KX}
end

section
variable {K : PySem.W.Frag} {vs : List V} {G : Hp} {M : Mem} {R : KR} {Z : KX}
theorem natsV_get {l : List Nat} {i v : Nat} (h : l[i]? = some v) : (natsV l)[i]? = some (.int (v : Int)) := by
  unfold natsV; rw [List.getElem?_map, h]; rfl
theorem natsV_len (l : List Nat) : (natsV l).length = l.length := by unfold natsV; rw [List.length_map]
theorem atI_nats {l : List Nat} {i v : Nat} (h : l[i]? = some v) : atI (natsV l) (i : Int) = some (.int (v : Int)) := atI_nat (natsV_get h)
theorem ex_lat {G' : Hp} {M' : Mem} {a : Addr} {us : List V} (x : Ex G G') (hm : ∀ x, x ∈ M → x ∈ M') (h : LstAt K G M a us) : LstAt K G' M' a us := by
  refine of_now ?_
  simp (disch := with_unfolding_all
    rcases h with h | h
    · exact .inl (hm _ h)
    · exact .inr (ex_l x h)) only [↓now_true]
theorem wi_in {i lo hi : Int} (h : lo ≤ i) (h2 : i ≤ hi) : withinV (.int i) lo hi = true := by
  refine of_now ?_
  simp (disch := with_unfolding_all
    show (decide (lo ≤ i) && decide (i ≤ hi)) = true
    rw [decide_eq_true h, decide_eq_true h2]; rfl) only [↓now_true]
end

section
theorem swap_len {l : List Nat} {i j : Nat} : (swapL l i j).length = l.length := by unfold swapL; simp
theorem getD_lt {l : List Nat} {i : Nat} (h : i < l.length) : l.getD i 0 = l[i] := by rw [List.getD_eq_getElem?_getD, List.getElem?_eq_getElem h]; rfl
theorem getD_set {l : List Nat} {i j v : Nat} (h : i < l.length) : (l.set i v).getD j 0 = if j = i then v else l.getD j 0 := by
  refine of_now ?_
  simp (disch := with_unfolding_all
    rw [List.getD_eq_getElem?_getD, List.getElem?_set]
    by_cases e : i = j
    · subst e; simp [h]
    · rw [if_neg e, if_neg (Ne.symm e), List.getD_eq_getElem?_getD]) only [↓now_true]
theorem swap_getD {l : List Nat} {i j k : Nat} (hi : i < l.length) (hj : j < l.length) : (swapL l i j).getD k 0 = if k = j then l.getD i 0 else if k = i then l.getD j 0 else l.getD k 0 := by
  refine of_now ?_
  simp (disch := with_unfolding_all
    unfold swapL
    rw [getD_set (by simpa using hj), getD_set hi]) only [↓now_true]
theorem ext_getD {l m : List Nat} (hl : l.length = m.length) (h : ∀ i, i < l.length → l.getD i 0 = m.getD i 0) : l = m := by
  refine of_now ?_
  simp (disch := with_unfolding_all
    apply List.ext_getElem hl
    intro i h1 h2
    have := h i h1
    rwa [getD_lt h1, getD_lt h2] at this) only [↓now_true]
theorem nodup_getD {l : List Nat} : l.Nodup ↔ ∀ i j, i < l.length → j < l.length → l.getD i 0 = l.getD j 0 → i = j := by
  refine of_now ?_
  simp (disch := with_unfolding_all
    constructor
    · intro h i j hi hj e
      rw [getD_lt hi, getD_lt hj] at e
      exact (List.getElem_inj h).mp e
    · intro h
      rw [List.nodup_iff_pairwise_ne, List.pairwise_iff_getElem]
      intro i j hi hj hij e
      have := h i j hi hj (by rw [getD_lt hi, getD_lt hj]; exact e)
      omega) only [↓now_true]
theorem mem_getD {l : List Nat} {x : Nat} : x ∈ l ↔ ∃ i, i < l.length ∧ l.getD i 0 = x := by
  refine of_now ?_
  simp (disch := with_unfolding_all
    constructor
    · intro h
      obtain ⟨i, hi, e⟩ := List.getElem_of_mem h
      exact ⟨i, hi, by rw [getD_lt hi]; exact e⟩
    · rintro ⟨i, hi, e⟩
      rw [getD_lt hi] at e
      rw [← e]; exact List.getElem_mem hi) only [↓now_true]
theorem swap_mem {l : List Nat} {i j x : Nat} (hi : i < l.length) (hj : j < l.length) : x ∈ swapL l i j ↔ x ∈ l := by
  refine of_now ?_
  simp (disch := with_unfolding_all
    rw [mem_getD, mem_getD, swap_len]
    constructor
    · rintro ⟨k, hk, e⟩
      rw [swap_getD hi hj] at e
      by_cases e1 : k = j
      · rw [if_pos e1] at e; exact ⟨i, hi, e⟩
      · rw [if_neg e1] at e
        by_cases e2 : k = i
        · rw [if_pos e2] at e; exact ⟨j, hj, e⟩
        · rw [if_neg e2] at e; exact ⟨k, hk, e⟩
    · rintro ⟨k, hk, e⟩
      by_cases e1 : k = j
      · refine ⟨i, hi, ?_⟩
        rw [swap_getD hi hj, if_pos rfl]
        by_cases e3 : i = j
        · rw [if_pos e3, e3, ← e1, e]
        · rw [if_neg e3, ← e1, e]
      · by_cases e2 : k = i
        · exact ⟨j, hj, by rw [swap_getD hi hj, if_pos rfl, ← e2, e]⟩
        · exact ⟨k, hk, by rw [swap_getD hi hj, if_neg e1, if_neg e2, e]⟩) only [↓now_true]
theorem swap_nodup {l : List Nat} {i j : Nat} (hi : i < l.length) (hj : j < l.length) (h : l.Nodup) : (swapL l i j).Nodup := by
  refine of_now ?_
  simp (disch := with_unfolding_all
    rw [nodup_getD] at h ⊢
    rw [swap_len]
    intro a b ha hb e
    have pi : ∀ k, (swapL l i j).getD k 0 = l.getD (if k = j then i else if k = i then j else k) 0 := fun k => by
      rw [swap_getD hi hj]; split <;> first | rfl | (split <;> rfl)
    rw [pi, pi] at e
    have lt : ∀ k, k < l.length → (if k = j then i else if k = i then j else k) < l.length := fun k hk => by split <;> first | assumption | (split <;> assumption)
    have q := h _ _ (lt a ha) (lt b hb) e
    split at q <;> split at q <;> first | omega | (split at q <;> first | omega | (split at q <;> omega))) only [↓now_true]
theorem OrdOk.swap {n : Nat} {o : List Nat} {i j : Nat} (h : OrdOk n o) (hi : i < n) (hj : j < n) : OrdOk n (swapL o i j) :=
  have hi' : i < o.length := by rw [h.len]; exact hi
  have hj' : j < o.length := by rw [h.len]; exact hj
  ⟨by rw [swap_len]; exact h.len, swap_nodup hi' hj' h.nd, fun x hx => h.lt x ((swap_mem hi' hj').mp hx)⟩
theorem ord_range (n : Nat) : OrdOk n (List.range n) := ⟨List.length_range, List.nodup_range, fun x hx => List.mem_range.mp hx⟩
theorem nodup_lt_len : ∀ (m : Nat) (l : List Nat), l.Nodup → (∀ x, x ∈ l → x < m) → l.length ≤ m
  | 0, l, _, h => by
    cases l with
    | nil => exact Nat.le_refl _
    | cons x l => exact absurd (h x List.mem_cons_self) (Nat.not_lt_zero _)
  | m + 1, l, hn, h => by
    by_cases hm : m ∈ l
    · have e := List.length_erase_of_mem hm
      have ih := nodup_lt_len m (l.erase m) (hn.erase m) fun x hx => by
        have q := hn.mem_erase_iff.mp hx
        have := h x q.2
        have := q.1
        omega
      omega
    · have ih := nodup_lt_len m l hn fun x hx => by
        have := h x hx
        have : x ≠ m := fun z => hm (z ▸ hx)
        omega
      omega
/-- a list of different numbers below n, n long, has them all -/
theorem ord_has {n : Nat} {o : List Nat} (h : OrdOk n o) (x : Nat) (hx : x < n) : x ∈ o := by
  refine of_now ?_
  simp (disch := with_unfolding_all
    apply Classical.byContradiction
    intro hm
    have := nodup_lt_len n (x :: o) (List.nodup_cons.mpr ⟨hm, h.nd⟩) fun y hy => by
      rcases List.mem_cons.mp hy with rfl | hy
      · exact hx
      · exact h.lt y hy
    rw [List.length_cons, h.len] at this
    omega) only [↓now_true]
/-- the walk keeps what is behind -/
theorem walkO_ok {n : Nat} {r : Nat → Nat} (hr : ∀ i, i < n → r i ≤ i) : ∀ (m : Nat) (o : List Nat), m < n → OrdOk n o → OrdOk n (walkO r m o) ∧ ∀ j, m < j → (walkO r m o).getD j 0 = o.getD j 0
  | 0, o, _, h => ⟨h, fun _ _ => rfl⟩
  | m + 1, o, hm, h => by
    have r1 := hr (m + 1) hm
    have h1 := h.swap (i := m + 1) (j := r (m + 1)) hm (by omega)
    obtain ⟨a, b⟩ := walkO_ok hr m (swapL o (m + 1) (r (m + 1))) (by omega) h1
    refine ⟨a, fun j hj => ?_⟩
    show (walkO r m (swapL o (m + 1) (r (m + 1)))).getD j 0 = _
    rw [b j (by omega), swap_getD (by rw [h.len]; omega) (by rw [h.len]; omega), if_neg (by omega), if_neg (by omega)]
theorem rowok_getD {l : List Nat} (h : RowOk l) : ∀ i, i < l.length → l.getD i 0 ≤ i := fun i hi => h i _ (by rw [getD_lt hi, List.getElem?_eq_getElem hi])
theorem order_ok {l : List Nat} (h : RowOk l) : OrdOk l.length (orderOf l) := by
  refine of_now ?_
  simp (disch := with_unfolding_all
    unfold orderOf
    by_cases e : l.length = 0
    · rw [e]; exact ord_range 0
    · exact (walkO_ok (rowok_getD h) _ _ (by omega) (ord_range _)).1) only [↓now_true]
theorem order_len {l : List Nat} (h : RowOk l) : (orderOf l).length = l.length := (order_ok h).len
theorem idx_of_nodup {l : List Nat} {i : Nat} (h : l.Nodup) (hi : i < l.length) : l.idxOf (l.getD i 0) = i := by
  refine of_now ?_
  simp (disch := with_unfolding_all
    have hm : l.getD i 0 ∈ l := mem_getD.mpr ⟨i, hi, rfl⟩
    have hlt : l.idxOf (l.getD i 0) < l.length := List.idxOf_lt_length_iff.mpr hm
    have e : l[l.idxOf (l.getD i 0)] = l.getD i 0 := List.getElem_idxOf hlt
    exact nodup_getD.mp h _ _ hlt hi (by rw [getD_lt hlt]; exact e)) only [↓now_true]
theorem getD_idx {l : List Nat} {x : Nat} (h : x ∈ l) : l.idxOf x < l.length ∧ l.getD (l.idxOf x) 0 = x := by
  refine of_now ?_
  simp (disch := with_unfolding_all
    have hlt : l.idxOf x < l.length := List.idxOf_lt_length_iff.mpr h
    exact ⟨hlt, by rw [getD_lt hlt]; exact List.getElem_idxOf hlt⟩) only [↓now_true]
/-- the row of the order of a row -/
theorem walkR_of {n : Nat} {r : Nat → Nat} (hr : ∀ i, i < n → r i ≤ i) : ∀ (m : Nat) (o row : List Nat), m < n → OrdOk n o → row.length = n →
    (walkR (fun i => (walkO r m o).getD i 0) m o row).length = n ∧ ∀ j, j < n → (walkR (fun i => (walkO r m o).getD i 0) m o row).getD j 0 = if 1 ≤ j ∧ j ≤ m then r j else row.getD j 0
  | 0, o, row, hm, h, hl => ⟨hl, fun j hj => by rw [if_neg (by omega)]; rfl⟩
  | m + 1, o, row, hm, h, hl => by
    have r1 := hr (m + 1) hm
    have h1 := h.swap (i := m + 1) (j := r (m + 1)) hm (by omega)
    obtain ⟨a, b⟩ := walkO_ok hr m _ (by omega : m < n) h1
    have e1 : (walkO r (m + 1) o).getD (m + 1) 0 = o.getD (r (m + 1)) 0 := by
      show (walkO r m (swapL o (m + 1) (r (m + 1)))).getD (m + 1) 0 = _
      rw [b (m + 1) (by omega), swap_getD (by rw [h.len]; omega) (by rw [h.len]; omega)]
      by_cases z : m + 1 = r (m + 1)
      · rw [if_pos z, ← z]
      · rw [if_neg z, if_pos rfl]
    have e2 : o.idxOf ((walkO r (m + 1) o).getD (m + 1) 0) = r (m + 1) := by
      rw [e1]; exact idx_of_nodup h.nd (by rw [h.len]; omega)
    obtain ⟨c, d⟩ := walkR_of hr m (swapL o (m + 1) (r (m + 1))) (row.set (m + 1) (r (m + 1))) (by omega) h1 (by simpa using hl)
    have e3 : walkR (fun i => (walkO r (m + 1) o).getD i 0) (m + 1) o row = walkR (fun i => (walkO r m (swapL o (m + 1) (r (m + 1)))).getD i 0) m (swapL o (m + 1) (r (m + 1))) (row.set (m + 1) (r (m + 1))) := by
      show walkR (fun i => (walkO r (m + 1) o).getD i 0) m (swapL o (m + 1) (o.idxOf ((walkO r (m + 1) o).getD (m + 1) 0))) (row.set (m + 1) (o.idxOf ((walkO r (m + 1) o).getD (m + 1) 0))) = _
      rw [e2]; rfl
    rw [e3]
    refine ⟨c, fun j hj => ?_⟩
    rw [d j hj, getD_set (by omega)]
    by_cases z : j = m + 1
    · rw [if_neg (by omega), if_pos z, if_pos (by omega), z]
    · by_cases y : 1 ≤ j ∧ j ≤ m
      · rw [if_pos y, if_pos (by omega)]
      · rw [if_neg y, if_neg z, if_neg (by omega)]
theorem row_order {l : List Nat} (h : RowOk l) : rowOf (orderOf l) = l := by
  by_cases e : l.length = 0
  · have : l = [] := List.length_eq_zero_iff.mp e
    subst this; rfl
  have hr := rowok_getD h
  obtain ⟨a, b⟩ := walkR_of hr (l.length - 1) (List.range l.length) (List.replicate l.length 0) (by omega) (ord_range _) List.length_replicate
  have e1 : rowOf (orderOf l) = walkR (fun i => (walkO (fun i => l.getD i 0) (l.length - 1) (List.range l.length)).getD i 0) (l.length - 1) (List.range l.length) (List.replicate l.length 0) := by
    unfold rowOf
    rw [order_len h]; rfl
  rw [e1]
  refine ext_getD a fun i hi => ?_
  rw [a] at hi
  rw [b i hi]
  by_cases z : 1 ≤ i ∧ i ≤ l.length - 1
  · rw [if_pos z]
  · rw [if_neg z]
    have hi0 : i = 0 := by omega
    have := hr 0 (by omega)
    subst hi0
    rw [getD_lt (by simp; omega)]
    simp
    simp at this
    omega
/-- the order of the row of an order -/
theorem left_idx {n m : Nat} {o left : List Nat} (ho : OrdOk n o) (hl : OrdOk n left) (hm : m < n) (hj : ∀ j, m < j → j < n → left.getD j 0 = o.getD j 0) : left.idxOf (o.getD m 0) ≤ m ∧ left.getD (left.idxOf (o.getD m 0)) 0 = o.getD m 0 := by
  refine of_now ?_
  simp (disch := with_unfolding_all
    have hin : o.getD m 0 ∈ left := ord_has hl _ (ho.lt _ (mem_getD.mpr ⟨m, by rw [ho.len]; exact hm, rfl⟩))
    obtain ⟨a, b⟩ := getD_idx hin
    refine ⟨Nat.not_lt.mp fun z => ?_, b⟩
    rw [hl.len] at a
    have e := hj _ z a
    rw [b] at e
    have := nodup_getD.mp ho.nd m _ (by rw [ho.len]; exact hm) (by rw [ho.len]; exact a) e
    omega) only [↓now_true]
theorem walkR_row {n : Nat} {o : List Nat} (ho : OrdOk n o) : ∀ (m : Nat) (left row : List Nat), m < n → OrdOk n left → row.length = n → (∀ j, m < j → j < n → left.getD j 0 = o.getD j 0) →
    (walkR (fun i => o.getD i 0) m left row).length = n ∧ (∀ j, m < j → (walkR (fun i => o.getD i 0) m left row).getD j 0 = row.getD j 0) ∧ ((∀ j, j < n → row.getD j 0 ≤ j) → ∀ j, j < n → (walkR (fun i => o.getD i 0) m left row).getD j 0 ≤ j) ∧
    ∀ r : Nat → Nat, (∀ j, j < n → r j = (walkR (fun i => o.getD i 0) m left row).getD j 0) → OrdOk n (walkO r m left) ∧ ∀ j, 1 ≤ j → j < n → (walkO r m left).getD j 0 = o.getD j 0
  | 0, left, row, hm, hl, hr, hj => ⟨hr, fun _ _ => rfl, fun h => h, fun r _ => ⟨hl, fun j h1 h2 => hj j h1 h2⟩⟩
  | m + 1, left, row, hm, hl, hr, hj => by
    obtain ⟨i1, i2⟩ := left_idx ho hl hm hj
    have hs := hl.swap (i := m + 1) (j := left.idxOf (o.getD (m + 1) 0)) hm (by omega)
    obtain ⟨a, b, c, d⟩ := walkR_row ho m (swapL left (m + 1) (left.idxOf (o.getD (m + 1) 0))) (row.set (m + 1) (left.idxOf (o.getD (m + 1) 0))) (by omega) hs (by simpa using hr) (fun j h1 h2 => by
      rw [swap_getD (by rw [hl.len]; omega) (by rw [hl.len]; omega)]
      by_cases z : j = left.idxOf (o.getD (m + 1) 0)
      · have : j = m + 1 := by omega
        rw [if_pos z]
        rw [← z] at i2
        subst this; exact i2
      · rw [if_neg z]
        by_cases y : j = m + 1
        · rw [if_pos y, i2, y]
        · rw [if_neg y]; exact hj j (by omega) h2)
    refine ⟨a, fun j h1 => ?_, fun h => c fun j h2 => ?_, fun r hr2 => ?_⟩
    · show (walkR (fun i => o.getD i 0) m _ _).getD j 0 = _
      rw [b j (by omega), getD_set (by omega), if_neg (by omega)]
    · rw [getD_set (by omega)]
      by_cases y : j = m + 1
      · rw [if_pos y, y]; exact i1
      · rw [if_neg y]; exact h j h2
    · have e : r (m + 1) = left.idxOf (o.getD (m + 1) 0) := by
        rw [hr2 (m + 1) hm]
        show (walkR (fun i => o.getD i 0) m _ _).getD (m + 1) 0 = _
        rw [b (m + 1) (by omega), getD_set (by omega), if_pos rfl]
      show OrdOk n (walkO r m (swapL left (m + 1) (r (m + 1)))) ∧ ∀ j, 1 ≤ j → j < n → (walkO r m (swapL left (m + 1) (r (m + 1)))).getD j 0 = _
      rw [e]
      exact d r hr2
theorem row_ok {o : List Nat} (h : OrdOk o.length o) : (rowOf o).length = o.length ∧ RowOk (rowOf o) := by
  refine of_now ?_
  simp (disch := with_unfolding_all
    by_cases e : o.length = 0
    · have : o = [] := List.length_eq_zero_iff.mp e
      subst this
      exact ⟨rfl, fun i v q => by simp [rowOf, walkR] at q⟩
    obtain ⟨a, b, c, d⟩ := walkR_row h (o.length - 1) (List.range o.length) (List.replicate o.length 0) (by omega) (ord_range _) List.length_replicate (fun j h1 h2 => by omega)
    refine ⟨a, fun i v q => ?_⟩
    obtain ⟨hi, ev⟩ := List.getElem?_eq_some_iff.mp q
    have hi2 : i < o.length := by rw [← a]; exact hi
    have := c (fun j hj => by rw [getD_lt (by simpa using hj)]; simp) i hi2
    rw [← ev, ← getD_lt hi]; exact this) only [↓now_true]
theorem order_row {o : List Nat} (h : OrdOk o.length o) : orderOf (rowOf o) = o := by
  refine of_now ?_
  simp (disch := with_unfolding_all
    by_cases e : o.length = 0
    · have : o = [] := List.length_eq_zero_iff.mp e
      subst this; rfl
    obtain ⟨a, b, c, d⟩ := walkR_row h (o.length - 1) (List.range o.length) (List.replicate o.length 0) (by omega) (ord_range _) List.length_replicate (fun j h1 h2 => by omega)
    obtain ⟨x, y⟩ := d (fun i => (rowOf o).getD i 0) (fun _ _ => rfl)
    have e1 : orderOf (rowOf o) = walkO (fun i => (rowOf o).getD i 0) (o.length - 1) (List.range o.length) := by
      unfold orderOf
      rw [(row_ok h).1]
    rw [e1]
    refine ext_getD x.len fun i hi => ?_
    rw [x.len] at hi
    by_cases z : 1 ≤ i
    · exact y i z hi
    have hi0 : i = 0 := by omega
    subst hi0
    -- the number that is left
    have hm := ord_has x _ (h.lt _ (mem_getD.mpr ⟨0, hi, rfl⟩))
    obtain ⟨j, hj, ej⟩ := mem_getD.mp hm
    by_cases z : j = 0
    · subst z; exact ej
    · rw [x.len] at hj
      rw [y j (by omega) hj] at ej
      have := nodup_getD.mp h.nd j 0 hj hi ej
      omega) only [↓now_true]
end

section
variable {K : PySem.W.Frag} {vs : List V} {G : Hp} {M : Mem} {R : KR} {Z : KX}
theorem asg_C {lo c v : Int} {n i : Nat} {g : KG} {σ : St} {R : St → Hp → Mem → Prop} (e : lo + (i : Nat) * c = v) (q : g.val (.int v) σ G M R) : asg g ((srcC lo c n).get i) σ G M R := by subst e; exact q
theorem asg_R {lo v : Int} {n i : Nat} {g : KG} {σ : St} {R : St → Hp → Mem → Prop} (e : lo + (i : Nat) = v) (q : g.val (.int v) σ G M R) : asg g ((srcR lo n).get i) σ G M R := by subst e; exact q
theorem rgV_nats (n : Nat) : rgV 0 (n : Int) = natsV (List.range n) := by
  refine of_now ?_
  simp (disch := with_unfolding_all
    unfold rgV natsV
    rw [show ((n : Int) - 0).toNat = n by omega]
    refine List.map_congr_left fun i _ => ?_
    rw [Int.zero_add]) only [↓now_true]
theorem atI_natD {l : List Nat} {i : Nat} (h : i < l.length) : atI (natsV l) (i : Int) = some (.int (l.getD i 0 : Nat)) := atI_nats (by rw [getD_lt h, List.getElem?_eq_getElem h])
theorem ixN_nat {n i : Nat} (h : i < n) : ixN n (i : Int) = some i := by rw [ixN_int (by omega) (by omega)]; rfl
theorem natsV_set {l : List Nat} {i v : Nat} : (natsV l).set i (.int (v : Int)) = natsV (l.set i v) := by unfold natsV; rw [List.map_set]
theorem pf_exchange (h : S_exchange K vs G M R Z) : rd_exchange K (ends R Z) (sta 3 vs) G M := by
  refine of_now ?_
  simp (disch := with_unfolding_all
    obtain ⟨_, _, _, rfl, a, n, l, i, j, rfl, rfl, rfl, hn, hi, hj, q⟩ := sp3_of h
    refine ⟨G, M, Wk.refl, _, _, lst_n hn, atI_natD hj, _, _, lst_n hn, atI_natD hi, sz2, fun t ft => ⟨_, sqt_new, n, _, i, hn, ixN_nat (by rw [natsV_len]; exact hi), n, _, j, set_n hn, ixN_nat (by rw [natsV_set, natsV_len, List.length_set]; exact hj), ?_⟩⟩
    refine retW (Wk.less (Ex.new ft)) ?_
    rw [List.set_set, natsV_set, natsV_set]
    exact q) only [↓now_true]
theorem pf_order_of (h : S_order_of K vs G M R Z) : rd_order_of K (ends R Z) (sta 3 vs) G M := by
  refine of_now ?_
  simp (disch := with_unfolding_all
    obtain ⟨_, rfl, a, l, rfl, ha, hr, hl, q⟩ := sp1_of h
    refine ⟨G, M, Wk.refl, _, .inl ha, RgOk.of_le (by omega) (by rw [natsV_len]; omega) (by omega) (by omega), fun t ft => ?_⟩
    rw [natsV_len, rgV_nats]
    refine ⟨G, _, Wk.refl, _, .inl (lat_cons ha), _, rg_down (by rw [natsV_len]; omega) (by rw [natsV_len]; omega) (by omega) (by omega), fun i σ G' M' => ∃ (o : List Nat) (y2 : Option V), σ = [some (.ref a), some (.ref t), y2] ∧ G' = G ∧ M' = (t, .lst (natsV o)) :: M ∧ o.length = l.length ∧ walkO (fun i => l.getD i 0) (l.length - 1 - i) o = orderOf l, ⟨List.range l.length, none, rfl, rfl, rfl, List.length_range, rfl⟩, fun _ _ _ _ _ _ => trivial, ?_, ?_⟩
    · rintro i σ G' M' hi ⟨o, y2, rfl, rfl, rfl, ho, hw⟩
      have hi : i < (((natsV l).length : Int) - 1 - 0).toNat := hi
      rw [natsV_len] at hi
      obtain ⟨m, hm⟩ : ∃ m, l.length - 1 - i = m + 1 := ⟨l.length - 1 - i - 1, by omega⟩
      rw [hm] at hw
      have hr1 := rowok_getD hr (m + 1) (by omega)
      refine asg_C (v := ((m + 1 : Nat) : Int)) (by rw [natsV_len]; omega) ?_
      refine ⟨G', _, Wk.refl, _, _, .inl (lat_cons ha), atI_natD (by omega), t, 0, o, m + 1, l.getD (m + 1) 0, rfl, rfl, rfl, rfl, by omega, by omega, ?_⟩
      exact ⟨G', _, Wk.refl, swapL o (m + 1) (l.getD (m + 1) 0), _, rfl, rfl, rfl, by rw [swap_len]; exact ho, by rw [show l.length - 1 - (i + 1) = m by omega]; exact hw⟩
    · rintro σ G' M' ⟨o, y2, rfl, rfl, rfl, ho, hw⟩
      have hw : walkO (fun i => l.getD i 0) (l.length - 1 - (((natsV l).length : Int) - 1 - 0).toNat) o = orderOf l := hw
      rw [show l.length - 1 - (((natsV l).length : Int) - 1 - 0).toNat = 0 by rw [natsV_len]; omega] at hw
      have hw : o = orderOf l := hw
      subst hw
      exact ⟨_, _, Wk.refl, ret0 (q t ft)⟩) only [↓now_true]
theorem tyk_cons {x : V} {T : PT} {y : Addr × HO} (h : TyK K G M x T) : TyK K G (y :: M) x T := fun H hv => h H (Wk.drop0 H hv)
theorem within_int {x : V} {lo hi : Int} (h : withinV x lo hi = true) : ∃ i, x = .int i ∧ lo ≤ i ∧ i ≤ hi := by
  refine of_now ?_
  simp (disch := with_unfolding_all
    cases x with
    | int i =>
      have h : (decide (lo ≤ i) && decide (i ≤ hi)) = true := h
      rw [Bool.and_eq_true] at h
      exact ⟨i, rfl, of_decide_eq_true h.1, of_decide_eq_true h.2⟩
    | _ => cases h) only [↓now_true]
theorem map_intOf {xs : List V} {hi : Int} (h : xs.all (fun x => withinV x 0 hi) = true) : xs = (xs.map intOf).map V.int := by
  refine of_now ?_
  simp (disch := with_unfolding_all
    rw [List.map_map]
    have : ∀ x, x ∈ xs → x = (V.int ∘ intOf) x := fun x hx => by
      obtain ⟨i, rfl, _⟩ := within_int (List.all_eq_true.mp h x hx)
      rfl
    exact (List.map_id xs).symm.trans (List.map_congr_left this)) only [↓now_true]
theorem pf_is_order (h : S_is_order K vs G M R Z) : rd_is_order K (ends R Z) (sta 2 vs) G M := by
  refine of_now ?_
  simp (disch := with_unfolding_all
    obtain ⟨x, rfl, b, hx, q⟩ := sp1_of h
    rcases hx with ⟨T, hT, hne, rfl⟩ | ⟨a, xs, rfl, ha, hl, hi, rfl⟩
    · refine ⟨G, M, Wk.refl, .type T.name, .type "list", _, .ty "list", hT, kit_pt T .list, ite2' (c := !isaB T .list) (fun _ => ⟨G, M, Wk.refl, ret0 q⟩) (fun e => ?_)⟩
      exfalso; revert e hne; cases T <;> decide
    refine ⟨G, M, Wk.refl, .type PT.list.name, .type "list", _, .ty "list", ty_lst ha, kit_pt .list .list, ?_⟩
    refine ⟨xs, .inl ha, ite2' (c := decide ((xs.length : Int) < 1)) (fun e => ?_) (fun e => ?_)⟩
    · have e := of_decide_eq_true e
      have e2 : orderB xs = false := by unfold orderB; rw [decide_eq_false (p := 1 ≤ xs.length) (by omega)]; rfl
      rw [e2] at q
      exact ⟨G, M, Wk.refl, ret0 q⟩
    have e := of_decide_eq_false e
    refine ⟨xs, .inl ha, ite2' (c := decide ((64 : Int) < (xs.length : Int))) (fun f => ?_) (fun f => ?_)⟩
    · have f := of_decide_eq_true f
      have e2 : orderB xs = false := by unfold orderB; rw [decide_eq_false (p := xs.length ≤ 64) (by omega), Bool.and_false]; rfl
      rw [e2] at q
      exact ⟨G, M, Wk.refl, ret0 q⟩
    have f := of_decide_eq_false f
    refine ⟨G, M, Wk.refl, xs, ha, sz (by show xs.length ≤ _; omega), fun i acc G' M' => acc = ((xs.take i).map fun x => withinV x 0 ((xs.length : Int) - 1)).map V.bl ∧ G' = G ∧ M' = M, ⟨rfl, rfl, rfl⟩, ?_, ?_, ?_⟩
    · rintro i acc G' M' _ ⟨rfl, rfl, rfl⟩; exact ha
    · rintro i acc G' M' D hi2 _ ⟨rfl, rfl, rfl⟩ fD
      obtain ⟨v, hv⟩ : ∃ v, xs[i]? = some v := ⟨_, List.getElem?_eq_getElem hi2⟩
      obtain ⟨T, hT, ht⟩ := hi v (List.mem_of_getElem? hv)
      refine asg_L hv ⟨rfl, xs, .inl (lat_cons ha), T, 0, (xs.length : Int) - 1, rfl, rfl, tyk_cons hT, ht, _, _, Wk.refl, ?_, rfl, rfl⟩
      rw [take_succ' hv, List.map_append, List.map_append]; rfl
    rintro acc G' M' p ⟨rfl, rfl, rfl⟩ _ fp
    have hta : (xs.take xs.length) = xs := List.take_length
    obtain ⟨B, hB⟩ : ∃ B, B = ((xs.take xs.length).map fun x => withinV x 0 ((xs.length : Int) - 1)).all id := ⟨_, rfl⟩
    have hB2 : B = xs.all fun x => withinV x 0 ((xs.length : Int) - 1) := by rw [hB, hta, List.all_map]; rfl
    refine ⟨_, lat_0, ?_⟩
    show if (!(((xs.take xs.length).map fun x => withinV x 0 ((xs.length : Int) - 1)).all id)) = true then _ else _
    rw [← hB]
    refine ite2' (c := !B) (fun g => ?_) (fun g => ?_)
    · have e2 : orderB xs = false := by
        have : B = false := by simpa using g
        unfold orderB; rw [← hB2, this, Bool.and_false, Bool.false_and]
      rw [e2] at q
      exact ⟨_, _, Wk.refl, retW Wk.drop0 q⟩
    have g : B = true := by simpa using g
    rw [hB2] at g
    have hm := map_intOf g
    have hlen : (xs.map intOf).length = xs.length := List.length_map _
    refine ⟨G', M', Wk.drop0, xs.map intOf, by rw [← hm]; exact ha, by omega, fun m h1 h2 => ?_⟩
    refine ⟨xs, .inl ha, ret0 ?_⟩
    have e3 : orderB xs = decide (V.int (m : Int) = .int (xs.length : Int)) := by
      unfold orderB
      rw [g, decide_eq_true (p := 1 ≤ xs.length) (by omega), decide_eq_true (p := xs.length ≤ 64) (by omega)]
      rw [hlen] at h2
      by_cases z : (xs.map intOf).Nodup
      · rw [decide_eq_true z, decide_eq_true (by rw [h2.mpr z])]; rfl
      · rw [decide_eq_false z, decide_eq_false (fun y => z (h2.mp (by have := V.int.inj y; omega)))]; rfl
    show R (.bl (decide (V.int (m : Int) = .int (xs.length : Int)))) G' M'
    rw [← e3]; exact q) only [↓now_true]
theorem ints_ty {l : List Nat} : ItemsTy K G M (natsV l) := fun x hx => by
  obtain ⟨n, _, rfl⟩ := List.mem_map.mp hx
  exact ⟨.int, ty_int, rfl⟩
theorem nodup_natsV {l : List Nat} : ((natsV l).map intOf).Nodup ↔ l.Nodup := by
  refine of_now ?_
  simp (disch := with_unfolding_all
    unfold natsV
    rw [List.map_map]
    constructor
    · intro h
      exact (List.pairwise_map.mp h).imp fun {a b} (z : ((a : Nat) : Int) ≠ (b : Nat)) (e : a = b) => z (by rw [e])
    · intro h
      exact List.pairwise_map.mpr (h.imp fun {a b} z (e : ((a : Nat) : Int) = (b : Nat)) => z (by omega))) only [↓now_true]
theorem orderB_nats {o : List Nat} (h : OrdOk o.length o) (h1 : 1 ≤ o.length) (h2 : o.length ≤ 64) : orderB (natsV o) = true := by
  refine of_now ?_
  simp (disch := with_unfolding_all
    unfold orderB
    rw [natsV_len, decide_eq_true h1, decide_eq_true h2, decide_eq_true (nodup_natsV.mpr h.nd), List.all_eq_true.mpr]
    · rfl
    · intro x hx
      obtain ⟨n, hn, rfl⟩ := List.mem_map.mp hx
      have := h.lt n hn
      exact wi_in (by omega) (by omega)) only [↓now_true]
theorem ordV_nats {a : Addr} {o : List Nat} (ha : LstAt K G M a (natsV o)) (h : OrdOk o.length o) (h1 : 1 ≤ o.length) (h2 : o.length ≤ 64) : ordV K G M (.ref a) true :=
  .inr ⟨a, _, rfl, ha, by rw [natsV_len]; omega, ints_ty, (orderB_nats h h1 h2).symm⟩
theorem natsV_flat (l : List Nat) : (natsV l).all flatV = true := List.all_eq_true.mpr fun x hx => by
  obtain ⟨n, _, rfl⟩ := List.mem_map.mp hx
  rfl
theorem idx_before {l : List Nat} {x m : Nat} (h : m < l.idxOf x) (hl : m < l.length) : l.getD m 0 ≠ x := fun e => by
  have := List.not_of_lt_findIdx (p := fun y => y == x) (xs := l) (i := m) h
  rw [getD_lt hl] at e
  rw [e] at this
  simp at this
theorem rep_zeros (n : Nat) : (List.replicate n [V.int 0]).flatten = natsV (List.replicate n 0) := by
  refine of_now ?_
  simp (disch := with_unfolding_all
    induction n with
    | zero => rfl
    | succ n ih => rw [List.replicate_succ, List.flatten_cons, ih]; rfl) only [↓now_true]
theorem pf_row_of (h : S_row_of K vs G M R Z) : rd_row_of K (ends R Z) (sta 4 vs) G M := by
  refine of_now ?_
  simp (disch := with_unfolding_all
    obtain ⟨x, rfl, h⟩ := sp1_of h
    rcases h with ⟨hx, z⟩ | ⟨a, o, rfl, ha, ho, h1, h2, q⟩
    · exact ⟨G, M, Wk.refl, false, hx, G, M, Wk.refl, G, M, Wk.refl, z⟩
    have hol := natsV_len o
    refine ⟨G, M, Wk.refl, true, ordV_nats ha ho h1 h2, ?_⟩
    refine ⟨G, M, Wk.refl, sz1, fun d fd => ⟨_, .inl (lat_cons ha), _, .inl List.mem_cons_self, by rw [hol]; omega, by rw [hol]; omega, by rw [hol]; exact sz (by show 1 * ((o.length : Int)).toNat ≤ _; omega), fun t ft => ?_⟩⟩
    rw [hol, Int.toNat_natCast, rep_zeros]
    refine ⟨G, (t, .lst (natsV (List.replicate o.length 0))) :: M, Wk.drop1, _, .inl (lat_cons ha), RgOk.of_le (by omega) (by rw [hol]; omega) (by omega) (by omega), fun u fu => ?_⟩
    rw [hol, rgV_nats]
    refine ⟨G, _, Wk.refl, _, .inl (lat_cons (lat_cons ha)), _, rg_down (by rw [hol]; omega) (by rw [hol]; omega) (by omega) (by omega), fun i σ G' M' => ∃ (left row : List Nat) (y : Option V), σ = [some (.ref a), some (.ref t), some (.ref u), y] ∧ G' = G ∧ M' = (u, .lst (natsV left)) :: (t, .lst (natsV row)) :: M ∧ OrdOk o.length left ∧ row.length = o.length ∧
      (∀ j, o.length - 1 - i < j → j < o.length → left.getD j 0 = o.getD j 0) ∧ walkR (fun i => o.getD i 0) (o.length - 1 - i) left row = rowOf o, ⟨List.range o.length, List.replicate o.length 0, none, rfl, rfl, rfl, ord_range _, List.length_replicate, fun j _ _ => by omega, rfl⟩, fun _ _ _ _ _ _ => trivial, ?_, ?_⟩
    · rintro i σ G' M' hi ⟨left, row, y, rfl, rfl, rfl, hl, hr, hj, hw⟩
      have hi : i < (((natsV o).length : Int) - 1 - 0).toNat := hi
      rw [hol] at hi
      obtain ⟨m, hm⟩ : ∃ m, o.length - 1 - i = m + 1 := ⟨o.length - 1 - i - 1, by omega⟩
      rw [hm] at hw hj
      obtain ⟨i1, i2⟩ := left_idx ho hl (show m + 1 < o.length by omega) hj
      have hll := hl.len
      refine asg_C (v := ((m + 1 : Nat) : Int)) (by rw [hol]; omega) ?_
      have hset : ∀ D : Kd, (∀ left row, OrdOk o.length left → row.length = o.length → (∀ j, m < j → j < o.length → left.getD j 0 = o.getD j 0) → walkR (fun i => o.getD i 0) m left row = rowOf o → D.nx [some (.ref a), some (.ref t), some (.ref u), some (.int ((m + 1 : Nat) : Int))] G' ((u, .lst (natsV left)) :: (t, .lst (natsV row)) :: M)) →
          rd_row_of_b0_1 K D [some (.ref a), some (.ref t), some (.ref u), some (.int ((m + 1 : Nat) : Int))] G' ((u, .lst (natsV left)) :: (t, .lst (natsV (row.set (m + 1) (left.idxOf (o.getD (m + 1) 0))))) :: M) := by
        intro D hD
        have e0 : (row.set (m + 1) (left.idxOf (o.getD (m + 1) 0))).getD (m + 1) 0 = left.idxOf (o.getD (m + 1) 0) := by rw [getD_set (by omega), if_pos rfl]
        refine ⟨G', _, Wk.refl, _, _, .inl (lat_n (n := 1) rfl), atI_natD (i := m + 1) (by rw [List.length_set]; omega), u, 0, left, m + 1, left.idxOf (o.getD (m + 1) 0), rfl, rfl, by rw [e0], rfl, by omega, by omega, ?_⟩
        refine hD _ _ (hl.swap (by omega) (by omega)) (by rw [List.length_set]; exact hr) (fun j j1 j2 => ?_) hw
        · rw [swap_getD (by omega) (by omega)]
          by_cases z : j = left.idxOf (o.getD (m + 1) 0)
          · have : j = m + 1 := by omega
            rw [if_pos z, ← this]
            rw [← z] at i2
            rw [← this] at i2
            exact i2
          · rw [if_neg z]
            by_cases y : j = m + 1
            · rw [if_pos y, i2, y]
            · rw [if_neg y]; exact hj j (by omega) j2
      refine ⟨G', _, Wk.refl, tyl_n (n := 0) rfl, _, _, .inl (lat_cons (lat_cons ha)), atI_natD (i := m + 1) (by omega), ?_⟩
      refine ⟨natsV left, left.idxOf (o.getD (m + 1) 0), .int ((o.getD (m + 1) 0 : Nat) : Int), lat_0, rfl, natsV_flat _, ?_, ?_, ?_, ?_⟩
      · have : left.idxOf (o.getD (m + 1) 0) < left.length := by omega
        refine natsV_get (v := o.getD (m + 1) 0) ?_
        rw [List.getElem?_eq_getElem this, ← getD_lt this, i2]
      · show (((o.getD (m + 1) 0 : Nat) : Int) == ((o.getD (m + 1) 0 : Nat) : Int)) = true
        exact beq_self_eq_true _
      · intro k z hk hz
        have hkl : k < left.length := by omega
        have hz2 : (natsV left)[k]? = some (.int ((left.getD k 0 : Nat) : Int)) := natsV_get (by rw [getD_lt hkl, List.getElem?_eq_getElem hkl])
        rw [hz2] at hz
        cases hz
        show (((left.getD k 0 : Nat) : Int) == ((o.getD (m + 1) 0 : Nat) : Int)) = false
        have := idx_before hk hkl
        exact beq_false_of_ne fun e => this (by omega)
      · refine ⟨1, _, m + 1, rfl, ixN_nat (by rw [natsV_len]; omega), ?_⟩
        rw [natsV_set]
        refine hset _ fun left row h1 h2 h3 h4 => ⟨G', _, Wk.refl, left, row, _, rfl, rfl, rfl, h1, h2, ?_, ?_⟩
        · rw [show o.length - 1 - (i + 1) = m by omega]; exact h3
        · rw [show o.length - 1 - (i + 1) = m by omega]; exact h4
    · rintro σ G' M' ⟨left, row, y, rfl, rfl, rfl, hl, hr, hj, hw⟩
      have hw : walkR (fun i => o.getD i 0) (o.length - 1 - (((natsV o).length : Int) - 1 - 0).toNat) left row = rowOf o := hw
      rw [show o.length - 1 - (((natsV o).length : Int) - 1 - 0).toNat = 0 by rw [hol]; omega] at hw
      have hw : row = rowOf o := hw
      subst hw
      exact ⟨_, _, Wk.refl, retW Wk.drop0 (q t ft.cons)⟩) only [↓now_true]
end

section
variable {K : PySem.W.Frag} {vs : List V} {G : Hp} {M : Mem} {R : KR} {Z : KX}
theorem Fr.keys {M M' : Mem} {p : Addr} (h : Fr G M p) (e : M'.map (·.1) = M.map (·.1) := by rfl) : Fr G M' p := ⟨h.1, fun x hx z => by
  have : x.1 ∈ M'.map (·.1) := List.mem_map.mpr ⟨x, hx, rfl⟩
  rw [e] at this
  obtain ⟨y, hy, ey⟩ := List.mem_map.mp this
  exact h.2 y hy (ey.trans z)⟩
/-! ### cells that were just laid, frozen together -/
inductive Frs (G : Hp) (M : Mem) : Mem → Prop
  | nil : Frs G M []
  | cons {p : Addr} {o : HO} {Mx : Mem} : Fr G (Mx ++ M) p → Frs G M Mx → Frs G M ((p, o) :: Mx)
theorem Frs.key {Mx : Mem} (h : Frs G M Mx) : ∀ x, x ∈ Mx → G x.1 = none ∧ ∀ y, y ∈ M → y.1 ≠ x.1 := by
  refine of_now ?_
  simp (disch := with_unfolding_all
    induction h with
    | nil => intro x hx; cases hx
    | cons f _ ih =>
      intro x hx
      rcases List.mem_cons.mp hx with rfl | hx
      · exact ⟨f.1, fun y hy => f.2 y (List.mem_append.mpr (.inr hy))⟩
      · exact ih x hx) only [↓now_true]
theorem Frs.upd {Mx : Mem} {p : Addr} {o : HO} (h : Frs G M Mx) (f : ∀ x, x ∈ Mx → x.1 ≠ p) : Frs (upd G p o) M Mx := by
  refine of_now ?_
  simp (disch := with_unfolding_all
    induction h with
    | nil => exact .nil
    | cons f1 _ ih => exact .cons ⟨by rw [upd_ne (f _ List.mem_cons_self)]; exact f1.1, f1.2⟩ (ih fun x hx => f x (List.mem_cons_of_mem _ hx))) only [↓now_true]
theorem Frs.more {Mx : Mem} {x : Addr × HO} (h : Frs G M Mx) (f : ∀ y, y ∈ Mx → x.1 ≠ y.1) : Frs G (x :: M) Mx := by
  refine of_now ?_
  simp (disch := with_unfolding_all
    induction h with
    | nil => exact .nil
    | @cons p o Mx f1 _ ih =>
      refine .cons ⟨f1.1, fun y hy => ?_⟩ (ih fun y hy => f y (List.mem_cons_of_mem _ hy))
      rcases List.mem_append.mp hy with hy | hy
      · exact f1.2 y (List.mem_append.mpr (.inl hy))
      · rcases List.mem_cons.mp hy with rfl | hy
        · exact f _ List.mem_cons_self
        · exact f1.2 y (List.mem_append.mpr (.inr hy))) only [↓now_true]
/-! ### things whose type is known -/
theorem ty_ex {G' : Hp} {x : V} {T : PT} (e : Ex G G') (h : ∀ M, TyK K G M x T) : ∀ M, TyK K G' M x T := fun M H hv => h M H (Wk.less e H hv)
theorem WOk.ex {G' : Hp} {w : V} (e : Ex G G') (h : WOk K G w) : WOk K G' w := by
  refine of_now ?_
  simp (disch := with_unfolding_all
    obtain ⟨S, h1, h2⟩ := h
    exact ⟨S, ty_ex e h1, h2⟩) only [↓now_true]
theorem IOk.ex {G' : Hp} {w : V} (e : Ex G G') (h : IOk K G w) : IOk K G' w := by
  refine of_now ?_
  simp (disch := with_unfolding_all
    obtain ⟨S, h1, h2⟩ := h
    exact ⟨S, ty_ex e h1, h2⟩) only [↓now_true]
/-! ### slices of numbers -/
theorem natsV_take {l : List Nat} {k : Nat} : (natsV l).take k = natsV (l.take k) := by unfold natsV; rw [List.map_take]
theorem natsV_drop {l : List Nat} {k : Nat} : (natsV l).drop k = natsV (l.drop k) := by unfold natsV; rw [List.map_drop]
theorem natsV_app {l m : List Nat} : natsV l ++ natsV m = natsV (l ++ m) := by unfold natsV; rw [List.map_append]
/-- numbers as data -/
def natsD (l : List Nat) : List PyData := l.map fun (n : Nat) => PyData.int (n : Int)
theorem dp_nats : ∀ (l : List Nat), DpAll K G (natsV l) (natsD l)
  | [] => .nil
  | n :: l => .cons (.int _) (dp_nats l)
theorem shp_nats {n : Nat} (l : List Nat) : Shp (n + 1) (.list (natsD l)) := .list fun d hd => by
  obtain ⟨i, _, rfl⟩ := List.mem_map.mp hd
  exact .int
theorem dat_nats {a : Addr} {l : List Nat} (h : LstAt K G M a (natsV l)) : DatAt K G M (.ref a) (.list (natsD l)) := dat_list h (dats_g (dp_nats l))
theorem natsD_inj : ∀ {l m : List Nat}, natsD l = natsD m → l = m
  | [], [], _ => rfl
  | [], _ :: _, h => by cases h
  | _ :: _, [], h => by cases h
  | a :: l, b :: m, h => by
    have h1 := List.cons.inj h
    have := PyData.int.inj h1.1
    rw [natsD_inj h1.2]
    congr 1; omega
end

section
variable {K : PySem.W.Frag} {vs : List V} {G : Hp} {M : Mem} {R : KR} {Z : KX}
theorem pf_law_whole (h : S_law_whole K vs G M R Z) : rd_law_whole K (ends R Z) (sta 1 vs) G M := by
  obtain ⟨x, rfl, T, hT, q⟩ := sp1_of h
  refine ⟨G, M, Wk.refl, .type T.name, .type "int", _, .ty "int", hT, kit_pt T .int, ite2' (fun e => ?_) (fun e => ?_)⟩
  · refine ⟨.type T.name, .type "bool", _, .ty "bool", hT, kit_pt T .bool, ret0 ?_⟩
    have e2 : (!isaB T .bool) = (T == .int) := by revert e; cases T <;> decide
    rw [e2]; exact q
  · have e2 : false = (T == .int) := by revert e; cases T <;> decide
    refine ret0 ?_
    rw [e2]; exact q
end

section
theorem eqvA_ints : ∀ xs ys : List Int, PyData.eqvAll (xs.map .int) (ys.map .int) = decide (xs = ys)
  | [], [] => by simp [PyData.eqvAll]
  | [], _ :: _ => by simp [PyData.eqvAll]
  | _ :: _, [] => by simp [PyData.eqvAll]
  | x :: xs, y :: ys => by
    show (PyData.eqv (.int x) (.int y) && PyData.eqvAll (xs.map .int) (ys.map .int)) = _
    rw [eqvA_ints xs ys]
    have : PyData.eqv (.int x) (.int y) = decide (x = y) := by
      show (x == y) = _
      by_cases e : x = y <;> simp [e]
    rw [this]
    by_cases e1 : x = y <;> by_cases e2 : xs = ys <;> simp [e1, e2]
theorem eqvL_ints (xs ys : List Int) : PyData.eqv (.list (xs.map .int)) (.list (ys.map .int)) = decide (xs = ys) := eqvA_ints xs ys
theorem natsD_ints (l : List Nat) : natsD l = (l.map fun (n : Nat) => (n : Int)).map PyData.int := by unfold natsD; rw [List.map_map]; rfl
theorem eqvL_nats (l m : List Nat) : PyData.eqv (.list (natsD l)) (.list (natsD m)) = decide (l = m) := by
  rw [natsD_ints, natsD_ints, eqvL_ints]
  by_cases e : l = m
  · subst e; simp
  · rw [decide_eq_false e, decide_eq_false]
    intro z
    exact e (natsD_inj (by rw [natsD_ints, natsD_ints, z]))
theorem eqvL_nil (ds : List PyData) : PyData.eqv (.list ds) (.list []) = ds.isEmpty := by
  cases ds <;> rfl
end

section
variable {K : PySem.W.Frag} {vs : List V} {G : Hp} {M : Mem} {R : KR} {Z : KX}
theorem p2 (n : Nat) (a : Int) : a * 2 ^ (n : Int).toNat = a * ((2 ^ n : Nat) : Int) := by simp
end

section
variable {K : PySem.W.Frag} {vs : List V} {G : Hp} {M : Mem} {R : KR} {Z : KX}
end

section
variable {K : PySem.W.Frag} {vs : List V} {G : Hp} {M : Mem} {R : KR} {Z : KX}
theorem DeedAt.ex {G' : Hp} {v : V} {d : Deed} (e : Ex G G') (h : DeedAt K G v d) : DeedAt K G' v d := by
  refine of_now ?_
  simp (disch := with_unfolding_all
    obtain ⟨t, rfl, h⟩ := h
    exact ⟨t, rfl, ex_t e h⟩) only [↓now_true]
end

section
variable {K : PySem.W.Frag} {vs : List V} {G : Hp} {M : Mem} {R : KR} {Z : KX}
theorem NoAskG.ex {G' : Hp} {m : Int} {v : V} (e : Ex G G') (h : NoAskG K G m v) : NoAskG K G' m v := fun G2 M2 e2 => h G2 M2 (e.trans e2)
end

section
variable {K : PySem.W.Frag} {vs : List V} {G : Hp} {M : Mem} {R : KR} {Z : KX}
theorem DrV.ex {G' : Hp} {v : V} {d : Dr} (e : Ex G G') (h : DrV K G M v d) : DrV K G' M v d := by
  refine of_now ?_
  simp (disch := with_unfolding_all
    cases d with
    | leaf n => exact h
    | row l => obtain ⟨b, rfl, hb⟩ := h; exact ⟨b, rfl, lat_ex e hb⟩) only [↓now_true]
theorem DrsG.ex {G' : Hp} {p : Addr} {ds : List Dr} (e : Ex G G') (h : DrsG K G p ds) : DrsG K G' p ds := by
  refine of_now ?_
  simp (disch := with_unfolding_all
    obtain ⟨us, h1, h2⟩ := h
    exact ⟨us, ex_l e h1, h2.mono fun _ _ q => q.ex e⟩) only [↓now_true]
end

section
variable {K : PySem.W.Frag} {vs : List V} {G : Hp} {M : Mem} {R : KR} {Z : KX}
theorem LogC.ex {G' : Hp} {ts : List Tch} {o : HO} (e : Ex G G') (h : LogC K G ts o) : LogC K G' ts o := by
  refine of_now ?_
  simp (disch := with_unfolding_all
    obtain ⟨vs, rfl, h⟩ := h
    exact ⟨vs, rfl, ex_ds e _ h⟩) only [↓now_true]
theorem LstN.at {n : Nat} {b : Addr} {xs : List V} (h : LstN K G M n b xs) : LstAt K G M b xs := by
  refine of_now ?_
  simp (disch := with_unfolding_all
    rcases h with ⟨i, _, h⟩ | h
    · exact lat_n h
    · exact .inr h) only [↓now_true]
theorem LstN.set {n : Nat} {b : Addr} {xs : List V} {x : Addr × HO} (h : LstN K G M n b xs) : LstN K G (M.set n x) n b xs := by
  refine of_now ?_
  simp (disch := with_unfolding_all
    rcases h with ⟨i, e, h⟩ | h
    · exact .inl ⟨i, e, by rw [List.getElem?_set_ne e]; exact h⟩
    · exact .inr h) only [↓now_true]
end

section
variable {K : PySem.W.Frag} {vs : List V} {G : Hp} {M : Mem} {R : KR} {Z : KX}
theorem eq_ref {a b : Addr} {d : PyData} {n : Nat} {neg : Bool} (ha : DatAt K G M (.ref a) d) (hb : DatAt K G M (.ref b) d) (sh : Shp n d) (hn : n ≤ 64) (q : R (.bl (!neg)) G M) : kEqv neg K (.ref a) (.ref b) G M R := by
  refine ⟨d, d, ha, hb, sh.shaped hn, sh.shaped hn, ?_⟩
  rw [sh.refl]
  cases neg <;> exact q
theorem eq_nats {a b : Addr} {l : List Nat} {neg : Bool} (ha : LstAt K G M a (natsV l)) (hb : LstAt K G M b (natsV l)) (q : R (.bl (!neg)) G M) : kEqv neg K (.ref a) (.ref b) G M R :=
  eq_ref (dat_nats ha) (dat_nats hb) (shp_nats (n := 0) l) (by decide) q
theorem neq_self {x : V} (h : (!decide (x = x)) = true) : False := by rw [decide_eq_true rfl] at h; cases h
end

section
variable {K : PySem.W.Frag} {vs : List V} {G : Hp} {M : Mem} {R : KR} {Z : KX}
theorem DrAt.set {n : Nat} {b : Addr} {ds : List Dr} {a : Addr} {k : Nat} {dx : Addr} {ws : List V} {x : Addr × HO} (hn : M[n]? = some (a, Ob K k dx ws)) (h : DrAt K G M b ds) : DrAt K G (M.set n x) b ds := by
  refine of_now ?_
  simp (disch := with_unfolding_all
    have hl : ∀ c xs, LstAt K G M c xs → LstAt K G (M.set n x) c xs := fun c xs q => by
      rcases q with q | q
      · obtain ⟨m, hm⟩ := List.getElem?_of_mem q
        have : n ≠ m := fun z => by subst z; rw [hn] at hm; cases hm
        exact lat_n (n := m) (by rw [List.getElem?_set_ne this]; exact hm)
      · exact .inr q
    obtain ⟨us, h1, h2⟩ := h
    refine ⟨us, hl _ _ h1, h2.mono fun v d q => ?_⟩
    cases d with
    | leaf n => exact q
    | row l => obtain ⟨c, rfl, hc⟩ := q; exact ⟨c, rfl, hl _ _ hc⟩) only [↓now_true]
theorem DrAt.ex {G' : Hp} {b : Addr} {ds : List Dr} (e : Ex G G') (h : DrAt K G M b ds) : DrAt K G' M b ds := by
  refine of_now ?_
  simp (disch := with_unfolding_all
    obtain ⟨us, h1, h2⟩ := h
    exact ⟨us, lat_ex e h1, h2.mono fun v d q => q.ex e⟩) only [↓now_true]
theorem DrAt.cons {b : Addr} {ds : List Dr} {x : Addr × HO} (h : DrAt K G M b ds) : DrAt K G (x :: M) b ds := by
  refine of_now ?_
  simp (disch := with_unfolding_all
    obtain ⟨us, h1, h2⟩ := h
    refine ⟨us, lat_cons h1, h2.mono fun v d q => ?_⟩
    cases d with
    | leaf n => exact q
    | row l => obtain ⟨c, rfl, hc⟩ := q; exact ⟨c, rfl, lat_cons hc⟩) only [↓now_true]
end

section
variable {K : PySem.W.Frag} {vs : List V} {G : Hp} {M : Mem} {R : KR} {Z : KX} {d : Nat}
end

section
variable {K : PySem.W.Frag} {vs : List V} {G : Hp} {M : Mem} {R : KR} {Z : KX}
end

/-! ### the told nets sort: noughts and ones first -/
section
end

/-! ### .. then whole numbers -/
section
end

section
/-- what is in hand, as a dict -/
theorem hand_val (h : List (Nat × Nat)) (c : Nat) : valV (handK h) (Sum.inl (c : Int)) = (hGet h c).map fun (w : Nat) => V.int (w : Int) := by
  refine of_now ?_
  simp (disch := with_unfolding_all
    induction h with
    | nil => rfl
    | cons p h ih =>
      by_cases e : p.1 = c
      · rw [show handK (p :: h) = (Sum.inl (p.1 : Int), V.int (p.2 : Int)) :: handK h from rfl, valV_pos (by rw [e])]
        unfold hGet
        rw [List.find?_cons_of_pos (by rw [decide_eq_true e])]; rfl
      · rw [show handK (p :: h) = (Sum.inl (p.1 : Int), V.int (p.2 : Int)) :: handK h from rfl, valV_neg (fun z => e (by have := Sum.inl.inj z; omega)), ih]
        unfold hGet
        rw [List.find?_cons_of_neg (by rw [decide_eq_false e]; exact Bool.false_ne_true)]) only [↓now_true]
theorem hand_put (h : List (Nat × Nat)) (c w : Nat) : putK (handK h) (Sum.inl (c : Int)) (.int (w : Int)) = handK (hPut h c w) := by
  refine of_now ?_
  simp (disch := with_unfolding_all
    unfold putK hPut
    rw [valV_any, hand_val]
    have e : ((hGet h c).map fun (w : Nat) => V.int (w : Int)).isSome = (hGet h c).isSome := by cases hGet h c <;> rfl
    rw [e]
    by_cases z : (hGet h c).isSome = true
    · rw [if_pos z, if_pos z]
      unfold handK
      rw [List.map_map, List.map_map]
      refine List.map_congr_left fun p _ => ?_
      by_cases y : p.1 = c
      · simp [y]
      · have : ¬ ((p.1 : Int) = (c : Int)) := by omega
        simp [y, this]
    · rw [if_neg z, if_neg z]
      unfold handK
      rw [List.map_append]; rfl) only [↓now_true]
end

section
end

section
variable {K : PySem.W.Frag} {vs : List V} {G : Hp} {M : Mem} {R : KR} {Z : KX}
end

section
variable {K : PySem.W.Frag} {G : Hp} {M : Mem}
end

section
variable {K : PySem.W.Frag} {vs : List V} {G : Hp} {M : Mem} {R : KR} {Z : KX}
end

section
variable {K : PySem.W.Frag} {vs : List V} {G : Hp} {M : Mem} {R : KR} {Z : KX}
theorem Wk.of_eq {N : Mem} (e : M = N) : Wk G M G N := e ▸ Wk.refl
theorem natsV_app2 (a b : List Nat) : natsV (a ++ b) = natsV a ++ natsV b := by unfold natsV; rw [List.map_append]
end

section
variable {K : PySem.W.Frag} {vs : List V} {G : Hp} {M : Mem} {R : KR} {Z : KX}
theorem Frs'.keys {M' Mx : Mem} (e : M'.map (·.1) = M.map (·.1)) (h : Frs' G M Mx) : Frs' G M' Mx := by
  refine of_now ?_
  simp (disch := with_unfolding_all
    induction h with
    | nil => exact .nil
    | cons f _ ih => exact .cons (f.keys (by rw [List.map_append, List.map_append, e])) ih) only [↓now_true]
theorem rowok_snoc {l : List Nat} {v : Nat} (h : RowOk l) (hv : v ≤ l.length) : RowOk (l ++ [v]) := fun i w e => by
  by_cases z : i < l.length
  · rw [List.getElem?_append_left z] at e; exact h i w e
  · rw [List.getElem?_append_right (by omega)] at e
    have : i - l.length = 0 := by
      apply Decidable.byContradiction
      intro hn
      rw [List.getElem?_eq_none (by show 1 ≤ _; omega)] at e; cases e
    rw [this] at e
    cases e
    omega
theorem SpareInv.ex {G' : Hp} {A : ScanA} {m lim : Nat} {rows : List (List Nat)} {s : SpM} {od : Addr} {o : HO} {xs : List V} {ts : List Tch} (e : Ex G G') (h : SpareInv K G A m lim rows s od o xs ts) : SpareInv K G' A m lim rows s od o xs ts := by
  refine of_now ?_
  simp (disch := with_unfolding_all
    obtain ⟨tr, hx, hl⟩ := h.lay
    exact ⟨h.log.ex e, ex_l e h.ord, h.ok, ⟨tr, ex_ds e _ hx, hl⟩, h.hk, h.drs.ex e, h.rl, h.rk, h.m0, h.m1⟩) only [↓now_true]
theorem drs_at {b : Addr} {ds : List Dr} (h : DrsG K G b ds) : DrAt K G M b ds := by
  refine of_now ?_
  simp (disch := with_unfolding_all
    obtain ⟨us, h1, h2⟩ := h
    refine ⟨us, .inr h1, h2.mono fun v d q => ?_⟩
    cases d with
    | leaf n => exact q
    | row l =>
      obtain ⟨c, rfl, hc⟩ := q
      refine ⟨c, rfl, ?_⟩
      rcases hc with hc | hc
      · cases hc
      · exact .inr hc) only [↓now_true]
end

section
variable {K : PySem.W.Frag} {vs : List V} {G : Hp} {M : Mem} {R : KR} {Z E : KX}
end

/-! ### the words that a shuffled shelf holds -/
theorem hget_put (h : List (Nat × Nat)) (c w x : Nat) : hGet (hPut h c w) x = if x = c then some w else hGet h x := by
  refine of_now ?_
  simp (disch := with_unfolding_all
    have e1 : ∀ x, (hGet (hPut h c w) x).map (fun (w : Nat) => V.int (w : Int)) = valV (putK (handK h) (Sum.inl (c : Int)) (.int (w : Int))) (Sum.inl (x : Int)) := fun x => by rw [hand_put, hand_val]
    unfold hPut
    by_cases z : (hGet h c).isSome = true
    · rw [if_pos z]
      clear e1
      induction h with
      | nil => cases z
      | cons p h ih =>
        rw [List.map_cons]
        unfold hGet at z ⊢
        by_cases y : p.1 = c
        · by_cases xc : x = c
          · rw [if_pos y, List.find?_cons_of_pos (by rw [y, xc]; exact decide_eq_true rfl), if_pos xc]; rfl
          · rw [if_pos y, List.find?_cons_of_neg (by rw [decide_eq_false (fun q => xc (by rw [← q, y]))]; exact Bool.false_ne_true), if_neg xc, List.find?_cons_of_neg (by rw [decide_eq_false (fun q => xc (by rw [← q, y]))]; exact Bool.false_ne_true)]
            -- the rest of the hand is left alone where the name differs
            have : ∀ l : List (Nat × Nat), (l.map fun p => if p.1 = c then (p.1, w) else p).find? (fun p => decide (p.1 = x)) = l.find? (fun p => decide (p.1 = x)) := fun l => by
              induction l with
              | nil => rfl
              | cons q l ihl =>
                rw [List.map_cons]
                by_cases qc : q.1 = c
                · rw [if_pos qc, List.find?_cons_of_neg (by rw [decide_eq_false (fun k => xc (by rw [← k, qc]))]; exact Bool.false_ne_true), List.find?_cons_of_neg (by rw [decide_eq_false (fun k => xc (by rw [← k, qc]))]; exact Bool.false_ne_true), ihl]
                · rw [if_neg qc]
                  by_cases qx : q.1 = x
                  · rw [List.find?_cons_of_pos (by exact decide_eq_true qx), List.find?_cons_of_pos (by exact decide_eq_true qx)]
                  · rw [List.find?_cons_of_neg (by rw [decide_eq_false qx]; exact Bool.false_ne_true), List.find?_cons_of_neg (by rw [decide_eq_false qx]; exact Bool.false_ne_true), ihl]
            rw [this]
        · rw [if_neg y]
          by_cases px : p.1 = x
          · rw [List.find?_cons_of_pos (by exact decide_eq_true px), if_neg (fun q => y (by rw [px, q])), List.find?_cons_of_pos (by exact decide_eq_true px)]
          · rw [List.find?_cons_of_neg (by rw [decide_eq_false px]; exact Bool.false_ne_true), List.find?_cons_of_neg (by rw [decide_eq_false px]; exact Bool.false_ne_true)]
            refine ih ?_
            rw [List.find?_cons_of_neg (by rw [decide_eq_false y]; exact Bool.false_ne_true)] at z
            exact z
    · rw [if_neg z]
      have hn : hGet h c = none := by
        cases q : hGet h c with
        | none => rfl
        | some w => rw [q] at z; exact absurd rfl z
      unfold hGet at hn ⊢
      rw [List.find?_append]
      by_cases xc : x = c
      · rw [if_pos xc, xc]
        have : List.find? (fun p => decide (p.1 = c)) h = none := by
          cases q : List.find? (fun p => decide (p.1 = c)) h with
          | none => rfl
          | some w => rw [q] at hn; cases hn
        rw [this, List.find?_cons_of_pos (by exact decide_eq_true rfl)]; rfl
      · rw [if_neg xc, List.find?_cons_of_neg (by rw [decide_eq_false (fun q => xc q.symm)]; exact Bool.false_ne_true), List.find?_nil, Option.or_none]) only [↓now_true]
section
variable {K : PySem.W.Frag} {vs : List V} {G : Hp} {M : Mem} {R : KR} {Z E : KX}
theorem St4.ex {G' : Hp} {m lim : Nat} {rows : List (List Nat)} {ds : List Deed} {a : Addr} {B : Mem} (e : Ex G G') (h : St4 K m lim rows G ds a B) : St4 K m lim rows G' ds a B := by
  refine of_now ?_
  simp (disch := with_unfolding_all
    obtain ⟨A, od, hd, o, xs, rfl, rfl, hi, h2⟩ := h
    exact ⟨A, od, hd, o, xs, rfl, rfl, hi.ex e, h2⟩) only [↓now_true]
end

section
variable {K : PySem.W.Frag} {vs : List V} {G : Hp} {M : Mem} {R : KR} {Z E : KX}
end

section
variable {α : Type} {P : V → α → Prop}
theorem DicF.imp {P' : V → α → Prop} {n : Nat} {hv : List (Key × V)} {f : Nat → Option α} (h : DicF P n hv f) (e : ∀ v a, P v a → P' v a) : DicF P' n hv f :=
  ⟨h.nd, h.key, h.non, fun c p hc => by obtain ⟨v, h1, h2⟩ := h.val c p hc; exact ⟨v, h1, e _ _ h2⟩⟩
theorem DicF.nil {n : Nat} : DicF P n [] (fun _ => none) := ⟨List.nodup_nil, fun _ z => (nomatch z), fun _ _ => rfl, fun _ _ z => nomatch z⟩
theorem dic_ne {a b : Nat} (h : ¬ a = b) : ¬ ((Sum.inl (a : Int) : Key) = Sum.inl (b : Int)) := fun z => h (by have := Sum.inl.inj z; omega)
theorem dic_keys (hv : List (Key × V)) (k : Key) (v : V) : (putK hv k v).map (·.1) = if (valV hv k).isSome = true then hv.map (·.1) else hv.map (·.1) ++ [k] := by
  refine of_now ?_
  simp (disch := with_unfolding_all
    unfold putK
    rw [valV_any]
    by_cases z : (valV hv k).isSome = true
    · rw [if_pos z, if_pos z, List.map_map]
      refine List.map_congr_left fun p _ => ?_
      show (if p.1 = k then (p.1, v) else p).1 = p.1
      split <;> rfl
    · rw [if_neg z, if_neg z, List.map_append]; rfl) only [↓now_true]
theorem DicF.put {n : Nat} {hv : List (Key × V)} {f : Nat → Option α} {c : Nat} {a : α} {v : V} (h : DicF P n hv f) (hc : c < n) (hp : P v a) : DicF P n (putK hv (Sum.inl (c : Int)) v) (putF f c a) := by
  refine of_now ?_
  simp (disch := with_unfolding_all
    refine ⟨?_, fun q hq => ?_, fun x hx => ?_, fun x q hx => ?_⟩
    · rw [dic_keys]
      split
      · exact h.nd
      · rename_i z
        rw [List.nodup_append]
        refine ⟨h.nd, (List.nodup_cons.mpr ⟨fun z => (nomatch z), List.nodup_nil⟩), fun a ha b hb e => ?_⟩
        have hb : b = Sum.inl (c : Int) := by simpa using hb
        subst hb
        subst e
        have : valV hv (Sum.inl (c : Int)) = none := by
          cases q : valV hv (Sum.inl (c : Int)) with
          | none => rfl
          | some w => rw [q] at z; exact absurd rfl z
        exact valV_not this ha
    · have : q.1 ∈ (putK hv (Sum.inl (c : Int)) v).map (·.1) := List.mem_map.mpr ⟨q, hq, rfl⟩
      rw [dic_keys] at this
      split at this
      · obtain ⟨r, hr, e⟩ := List.mem_map.mp this
        obtain ⟨d, h1, h2⟩ := h.key r hr
        exact ⟨d, h1, by rw [← e]; exact h2⟩
      · rcases List.mem_append.mp this with this | this
        · obtain ⟨r, hr, e⟩ := List.mem_map.mp this
          obtain ⟨d, h1, h2⟩ := h.key r hr
          exact ⟨d, h1, by rw [← e]; exact h2⟩
        · exact ⟨c, hc, by simpa using this⟩
    · rw [valV_put]
      unfold putF at hx
      by_cases e : x = c
      · rw [if_pos e] at hx; cases hx
      · rw [if_neg e] at hx
        rw [if_neg (dic_ne e)]
        exact h.non x hx
    · rw [valV_put]
      unfold putF at hx
      by_cases e : x = c
      · rw [if_pos e] at hx
        cases hx
        rw [e, if_pos rfl]
        exact ⟨v, rfl, hp⟩
      · rw [if_neg e] at hx
        rw [if_neg (dic_ne e)]
        exact h.val x q hx) only [↓now_true]
theorem dic_drop (k j : Key) : ∀ hv : List (Key × V), valV (dropK hv k) j = if j = k then none else valV hv j
  | [] => by unfold dropK; rw [List.filter_nil, valV_nil]; split <;> rfl
  | p :: hv => by
    by_cases e : p.1 = k
    · rw [dropK_pos e, dic_drop k j hv]
      by_cases z : j = k
      · rw [if_pos z, if_pos z]
      · rw [if_neg z, if_neg z, valV_neg (fun y => z (by rw [← y, e]))]
    · rw [dropK_neg e]
      by_cases y : p.1 = j
      · rw [valV_pos y, if_neg (fun z => e (by rw [y, z])), valV_pos y]
      · rw [valV_neg y, valV_neg y, dic_drop k j hv]
theorem DicF.drop {n : Nat} {hv : List (Key × V)} {f : Nat → Option α} {c : Nat} (h : DicF P n hv f) : DicF P n (dropK hv (Sum.inl (c : Int))) (dropF f c) := by
  refine of_now ?_
  simp (disch := with_unfolding_all
    refine ⟨?_, fun q hq => h.key q (List.mem_filter.mp hq).1, fun x hx => ?_, fun x q hx => ?_⟩
    · exact h.nd.sublist ((List.filter_sublist).map _)
    · rw [dic_drop]
      unfold dropF at hx
      by_cases e : x = c
      · rw [e, if_pos rfl]
      · rw [if_neg (dic_ne e)]
        rw [if_neg e] at hx
        exact h.non x hx
    · rw [dic_drop]
      unfold dropF at hx
      by_cases e : x = c
      · rw [if_pos e] at hx; cases hx
      · rw [if_neg (dic_ne e)]
        rw [if_neg e] at hx
        exact h.val x q hx) only [↓now_true]
theorem DicF.in_ {n : Nat} {hv : List (Key × V)} {f : Nat → Option α} (h : DicF P n hv f) (c : Nat) : (valV hv (Sum.inl (c : Int))).isSome = (f c).isSome := by
  refine of_now ?_
  simp (disch := with_unfolding_all
    cases e : f c with
    | none => rw [h.non c e]; rfl
    | some p =>
      obtain ⟨v, h1, _⟩ := h.val c p e
      rw [h1]; rfl) only [↓now_true]
/-- the keys of a dict -/
theorem DicF.keys {n : Nat} {hv : List (Key × V)} {f : Nat → Option α} (h : DicF P n hv f) : ∃ ks : List Nat, hv.map (·.1) = (ks.map fun (c : Nat) => (c : Int)).map Sum.inl ∧ ks.Nodup ∧ (∀ c, c ∈ ks → c < n) ∧ (∀ c, c ∈ ks ↔ (f c).isSome = true) ∧ ks.length ≤ n := by
  refine of_now ?_
  simp (disch := with_unfolding_all
    have hk : ∀ l : List (Key × V), (∀ p, p ∈ l → ∃ c : Nat, c < n ∧ p.1 = Sum.inl (c : Int)) → ∃ ks : List Nat, l.map (·.1) = (ks.map fun (c : Nat) => (c : Int)).map Sum.inl ∧ ∀ c, c ∈ ks → c < n := fun l => by
      induction l with
      | nil => exact fun _ => ⟨[], rfl, fun _ z => nomatch z⟩
      | cons p l ih =>
        intro q
        obtain ⟨ks, h1, h2⟩ := ih fun x hx => q x (List.mem_cons_of_mem _ hx)
        obtain ⟨c, h3, h4⟩ := q p List.mem_cons_self
        exact ⟨c :: ks, by rw [List.map_cons, h1, h4]; rfl, fun x hx => by rcases List.mem_cons.mp hx with rfl | hx; exact h3; exact h2 x hx⟩
    obtain ⟨ks, h1, h2⟩ := hk hv h.key
    have hn : ks.Nodup := by
      have := h.nd
      rw [h1, List.map_map] at this
      exact List.Pairwise.of_map _ (fun a b z e => z (by rw [e])) this
    have hm : ∀ c, c ∈ ks ↔ (f c).isSome = true := fun c => by
      rw [← h.in_ c]
      constructor
      · intro hc
        have : (Sum.inl (c : Int) : Key) ∈ hv.map (·.1) := by rw [h1, List.map_map]; exact List.mem_map.mpr ⟨c, hc, rfl⟩
        cases e : valV hv (Sum.inl (c : Int)) with
        | none => exact absurd this (valV_not e)
        | some v => rfl
      · intro hc
        obtain ⟨v, e⟩ := Option.isSome_iff_exists.mp hc
        have := valV_in e
        rw [h1, List.map_map] at this
        obtain ⟨d, hd, ed⟩ := List.mem_map.mp this
        have : d = c := by have : (d : Int) = (c : Int) := Sum.inl.inj ed; omega
        rw [← this]; exact hd
    exact ⟨ks, h1, hn, h2, hm, nodup_lt_len n ks hn h2⟩) only [↓now_true]
theorem DicF.len {n : Nat} {hv : List (Key × V)} {f : Nat → Option α} (h : DicF P n hv f) : hv.length ≤ n := by
  refine of_now ?_
  simp (disch := with_unfolding_all
    obtain ⟨ks, h1, _, _, _, h5⟩ := h.keys
    have := congrArg List.length h1
    rw [List.length_map, List.length_map, List.length_map] at this
    omega) only [↓now_true]
/-- the entry at a place -/
theorem DicF.at_ {n : Nat} {hv : List (Key × V)} {f : Nat → Option α} (h : DicF P n hv f) {i : Nat} {kv : Key × V} (hi : hv[i]? = some kv) : ∃ (c : Nat) (a : α), c < n ∧ kv.1 = Sum.inl (c : Int) ∧ f c = some a ∧ P kv.2 a ∧ valV hv (Sum.inl (c : Int)) = some kv.2 := by
  refine of_now ?_
  simp (disch := with_unfolding_all
    have hm := List.mem_of_getElem? hi
    obtain ⟨c, h1, h2⟩ := h.key kv hm
    have hv2 : valV hv (Sum.inl (c : Int)) = some kv.2 := by
      rw [← h2]
      have hn := h.nd
      clear hi h h1 h2
      induction hv with
      | nil => cases hm
      | cons p l ih =>
        rw [List.map_cons, List.nodup_cons] at hn
        rcases List.mem_cons.mp hm with rfl | hm
        · exact valV_pos rfl
        · rw [valV_neg (fun z => hn.1 (by rw [z]; exact List.mem_map.mpr ⟨kv, hm, rfl⟩))]
          exact ih hm hn.2
    cases e : f c with
    | none => rw [h.non c e] at hv2; cases hv2
    | some a =>
      obtain ⟨v, q1, q2⟩ := h.val c a e
      rw [hv2] at q1
      cases q1
      exact ⟨c, a, h1, h2, e, q2, hv2⟩) only [↓now_true]
end
section
variable {K : PySem.W.Frag} {G G' : Hp}
theorem pairP.ex (e : Ex G G') {v : V} {p : Nat × Nat} (h : pairP K G v p) : pairP K G' v p := ex_d e _ h
theorem ordP.ex (e : Ex G G') {v : V} {o : List Nat} (h : ordP K G v o) : ordP K G' v o := by
  obtain ⟨a, h1, h2⟩ := h; exact ⟨a, h1, ex_l e h2⟩
theorem pairP.mk {T : Addr} {p : Nat × Nat} (s : SqT K G T [.int p.1, .int p.2]) : pairP K G (.ref T) p := .tup s (.cons (.int _) (.cons (.int _) .nil))
end

/-! ### stairs fill as figures of a number count -/
section
variable {K : PySem.W.Frag} {vs : List V} {G : Hp} {M : Mem} {R : KR} {Z : KX}
theorem ClimbI.ex {G' : Hp} {m : Nat} {s : ClM} {fv dv hov hev : List (Key × V)} (e : Ex G G') (h : ClimbI K G m s fv dv hov hev) : ClimbI K G' m s fv dv hov hev :=
  ⟨h.fu, h.dr, h.ho.imp fun _ _ z => z.ex e, h.he, h.m0, h.m1⟩
end

section
variable {K : PySem.W.Frag} {vs : List V} {G : Hp} {M : Mem} {R : KR} {Z : KX}
theorem ShelfAt.cons {x : Addr × HO} {a dx kp th : Addr} {num n i : Nat} {xs : List V} (h : ShelfAt K M a dx kp th num n i xs) : ShelfAt K (x :: M) a dx kp th num (n + 1) (i + 1) xs := ⟨h.s, h.t⟩
theorem KeepAt.cons {x : Addr × HO} {kp dk lg : Addr} {j l : Nat} {o : HO} {ts : List Tch} (h : KeepAt K G M kp dk lg j l o ts) : KeepAt K G (x :: M) kp dk lg (j + 1) (l + 1) o ts := ⟨h.k, h.l, h.c⟩
theorem StairsI.ex {G' : Hp} {A : StairsA} {m lim : Nat} {rows : List (List Nat)} {s : ClM} {hf : Nat → Option Nat} {W : Nat → Nat} {v : StV} {ts : List Tch} (e : Ex G G') (h : StairsI K G A m lim rows s hf W v ts) : StairsI K G' A m lim rows s hf W v ts :=
  ⟨h.ci.ex e, h.hd, h.od.imp fun _ _ z => z.ex e, h.wd, h.tl, h.log.ex e, h.dr.ex e, h.rk⟩
end
section
variable {K : PySem.W.Frag} {vs : List V} {G : Hp} {M : Mem} {R : KR} {Z : KX}
end
section
variable {K : PySem.W.Frag} {vs : List V} {G : Hp} {M : Mem} {R : KR} {Z : KX}
end

section
variable {K : PySem.W.Frag} {vs : List V} {G : Hp} {M : Mem} {R : KR} {Z : KX}
end
section
variable {K : PySem.W.Frag} {vs : List V} {G : Hp} {M : Mem} {R : KR} {Z : KX}
end

section
variable {K : PySem.W.Frag} {vs : List V} {G : Hp} {M : Mem} {R : KR} {Z E : KX}
theorem St5.ex {G' : Hp} {m lim : Nat} {rows : List (List Nat)} {ds : List Deed} {a : Addr} {B : Mem} (e : Ex G G') (h : St5 K m lim rows G ds a B) : St5 K m lim rows G' ds a B := by
  refine of_now ?_
  simp (disch := with_unfolding_all
    obtain ⟨A, v, rfl, rfl, hi, h2⟩ := h
    exact ⟨A, v, rfl, rfl, hi.ex e, h2⟩) only [↓now_true]
end

section
variable {K : PySem.W.Frag} {vs : List V} {G : Hp} {M : Mem} {R : KR} {Z : KX}
/-! hands -/
theorem HandF.ex {G' : Hp} {m : Nat} {hv : List (Key × V)} {f : HF} (e : Ex G G') (h : HandF K G m hv f) : HandF K G' m hv f :=
  ⟨h.nd, h.key, h.non, fun c p hc => by obtain ⟨v, h1, h2⟩ := h.val c p hc; exact ⟨v, h1, ex_d e _ h2⟩⟩
theorem HandF.nil {m : Nat} : HandF K G m [] (fun _ => none) := ⟨List.nodup_nil, fun _ z => (nomatch z), fun _ _ => rfl, fun _ _ z => nomatch z⟩
theorem inl_ne {a b : Nat} (h : ¬ a = b) : ¬ ((Sum.inl (a : Int) : Key) = Sum.inl (b : Int)) := fun z => h (by have := Sum.inl.inj z; omega)
theorem putK_keys (hv : List (Key × V)) (k : Key) (v : V) : (putK hv k v).map (·.1) = if (valV hv k).isSome = true then hv.map (·.1) else hv.map (·.1) ++ [k] := by
  refine of_now ?_
  simp (disch := with_unfolding_all
    unfold putK
    rw [valV_any]
    by_cases z : (valV hv k).isSome = true
    · rw [if_pos z, if_pos z, List.map_map]
      refine List.map_congr_left fun p _ => ?_
      show (if p.1 = k then (p.1, v) else p).1 = p.1
      split <;> rfl
    · rw [if_neg z, if_neg z, List.map_append]; rfl) only [↓now_true]
theorem HandF.put {m : Nat} {hv : List (Key × V)} {f : HF} {c : Nat} {p : Nat × Nat} {v : V} (h : HandF K G m hv f) (hc : c < m) (hv2 : Dp K G v (.tuple [.int p.1, .int p.2])) : HandF K G m (putK hv (Sum.inl (c : Int)) v) (f.put c p) := by
  refine of_now ?_
  simp (disch := with_unfolding_all
    refine ⟨?_, fun q hq => ?_, fun x hx => ?_, fun x q hx => ?_⟩
    · rw [putK_keys]
      split
      · exact h.nd
      · rename_i z
        rw [List.nodup_append]
        refine ⟨h.nd, (List.nodup_cons.mpr ⟨fun z => (nomatch z), List.nodup_nil⟩), fun a ha b hb e => ?_⟩
        have hb : b = Sum.inl (c : Int) := by simpa using hb
        subst hb
        subst e
        have : valV hv (Sum.inl (c : Int)) = none := by
          cases q : valV hv (Sum.inl (c : Int)) with
          | none => rfl
          | some w => rw [q] at z; exact absurd rfl z
        exact valV_not this ha
    · have : q.1 ∈ (putK hv (Sum.inl (c : Int)) v).map (·.1) := List.mem_map.mpr ⟨q, hq, rfl⟩
      rw [putK_keys] at this
      split at this
      · obtain ⟨r, hr, e⟩ := List.mem_map.mp this
        obtain ⟨d, h1, h2⟩ := h.key r hr
        exact ⟨d, h1, by rw [← e]; exact h2⟩
      · rcases List.mem_append.mp this with this | this
        · obtain ⟨r, hr, e⟩ := List.mem_map.mp this
          obtain ⟨d, h1, h2⟩ := h.key r hr
          exact ⟨d, h1, by rw [← e]; exact h2⟩
        · exact ⟨c, hc, by simpa using this⟩
    · rw [valV_put]
      unfold HF.put at hx
      by_cases e : x = c
      · rw [if_pos e] at hx; cases hx
      · rw [if_neg e] at hx
        rw [if_neg (inl_ne e)]
        exact h.non x hx
    · rw [valV_put]
      unfold HF.put at hx
      by_cases e : x = c
      · rw [if_pos e] at hx
        cases hx
        rw [e, if_pos rfl]
        exact ⟨v, rfl, hv2⟩
      · rw [if_neg e] at hx
        rw [if_neg (inl_ne e)]
        exact h.val x q hx) only [↓now_true]
theorem valV_drop (k j : Key) : ∀ hv : List (Key × V), valV (dropK hv k) j = if j = k then none else valV hv j
  | [] => by unfold dropK; rw [List.filter_nil, valV_nil]; split <;> rfl
  | p :: hv => by
    by_cases e : p.1 = k
    · rw [dropK_pos e, valV_drop k j hv]
      by_cases z : j = k
      · rw [if_pos z, if_pos z]
      · rw [if_neg z, if_neg z, valV_neg (fun y => z (by rw [← y, e]))]
    · rw [dropK_neg e]
      by_cases y : p.1 = j
      · rw [valV_pos y, if_neg (fun z => e (by rw [y, z])), valV_pos y]
      · rw [valV_neg y, valV_neg y, valV_drop k j hv]
theorem HandF.drop {m : Nat} {hv : List (Key × V)} {f : HF} {c : Nat} (h : HandF K G m hv f) : HandF K G m (dropK hv (Sum.inl (c : Int))) (fun x => if x = c then none else f x) := by
  refine of_now ?_
  simp (disch := with_unfolding_all
    refine ⟨?_, fun q hq => h.key q (List.mem_filter.mp hq).1, fun x hx => ?_, fun x q hx => ?_⟩
    · exact h.nd.sublist ((List.filter_sublist).map _)
    · rw [valV_drop]
      by_cases e : x = c
      · rw [e, if_pos rfl]
      · rw [if_neg (inl_ne e)]
        rw [if_neg e] at hx
        exact h.non x hx
    · rw [valV_drop]
      by_cases e : x = c
      · rw [if_pos e] at hx; cases hx
      · rw [if_neg (inl_ne e)]
        rw [if_neg e] at hx
        exact h.val x q hx) only [↓now_true]
theorem HandF.in_ {m : Nat} {hv : List (Key × V)} {f : HF} (h : HandF K G m hv f) (c : Nat) : (valV hv (Sum.inl (c : Int))).isSome = (f c).isSome := by
  refine of_now ?_
  simp (disch := with_unfolding_all
    cases e : f c with
    | none => rw [h.non c e]; rfl
    | some p =>
      obtain ⟨v, h1, _⟩ := h.val c p e
      rw [h1]; rfl) only [↓now_true]
/-- the keys of a hand, sorted -/
theorem HandF.keys {m : Nat} {hv : List (Key × V)} {f : HF} (h : HandF K G m hv f) : ∃ ks : List Nat, hv.map (·.1) = (ks.map fun (c : Nat) => (c : Int)).map Sum.inl ∧ ks.Nodup ∧ (∀ c, c ∈ ks → c < m) ∧ (∀ c, c ∈ ks ↔ (f c).isSome = true) ∧ ks.length ≤ m := by
  refine of_now ?_
  simp (disch := with_unfolding_all
    have hk : ∀ l : List (Key × V), (∀ p, p ∈ l → ∃ c : Nat, c < m ∧ p.1 = Sum.inl (c : Int)) → ∃ ks : List Nat, l.map (·.1) = (ks.map fun (c : Nat) => (c : Int)).map Sum.inl ∧ ∀ c, c ∈ ks → c < m := fun l => by
      induction l with
      | nil => exact fun _ => ⟨[], rfl, fun _ z => nomatch z⟩
      | cons p l ih =>
        intro q
        obtain ⟨ks, h1, h2⟩ := ih fun x hx => q x (List.mem_cons_of_mem _ hx)
        obtain ⟨c, h3, h4⟩ := q p List.mem_cons_self
        exact ⟨c :: ks, by rw [List.map_cons, h1, h4]; rfl, fun x hx => by rcases List.mem_cons.mp hx with rfl | hx; exact h3; exact h2 x hx⟩
    obtain ⟨ks, h1, h2⟩ := hk hv h.key
    have hn : ks.Nodup := by
      have := h.nd
      rw [h1, List.map_map] at this
      exact List.Pairwise.of_map _ (fun a b z e => z (by rw [e])) this
    have hm : ∀ c, c ∈ ks ↔ (f c).isSome = true := fun c => by
      rw [← h.in_ c]
      constructor
      · intro hc
        have : (Sum.inl (c : Int) : Key) ∈ hv.map (·.1) := by rw [h1, List.map_map]; exact List.mem_map.mpr ⟨c, hc, rfl⟩
        cases e : valV hv (Sum.inl (c : Int)) with
        | none => exact absurd this (valV_not e)
        | some v => rfl
      · intro hc
        obtain ⟨v, e⟩ := Option.isSome_iff_exists.mp hc
        have := valV_in e
        rw [h1, List.map_map] at this
        obtain ⟨d, hd, ed⟩ := List.mem_map.mp this
        have : d = c := by have : (d : Int) = (c : Int) := Sum.inl.inj ed; omega
        rw [← this]; exact hd
    exact ⟨ks, h1, hn, h2, hm, nodup_lt_len m ks hn h2⟩) only [↓now_true]
end
section
variable {K : PySem.W.Frag} {vs : List V} {G : Hp} {M : Mem} {R : KR} {Z : KX}
theorem BodyI.ex {G' : Hp} {A : BodyA} {m high : Nat} {fs : List Nat} {th : Th} {f : HF} {xs : List V} {hv : List (Key × V)} (e : Ex G G') (h : BodyI K G A m high fs th f xs hv) : BodyI K G' A m high fs th f xs hv :=
  ⟨ex_l e h.sf, h.fl, ex_ds e _ h.sx, h.sv.ex e, h.tl, h.tm, h.hi, h.m1⟩
theorem HandF.len {m : Nat} {hv : List (Key × V)} {f : HF} (h : HandF K G m hv f) : hv.length ≤ m := by
  refine of_now ?_
  simp (disch := with_unfolding_all
    obtain ⟨ks, h1, _, _, _, h5⟩ := h.keys
    have := congrArg List.length h1
    rw [List.length_map, List.length_map, List.length_map] at this
    omega) only [↓now_true]
theorem dpall_setT : ∀ {vs : List V} {ds : List PyData} {i : Nat} {v : V} {d : PyData}, DpAll K G vs ds → Dp K G v d → DpAll K G (vs.set i v) (ds.set i d)
  | _, _, _, _, _, .nil, _ => .nil
  | _, _, 0, _, _, .cons _ b, h => .cons h b
  | _, _, i + 1, _, _, .cons a b, h => .cons a (dpall_setT b h)
theorem BodyI.lay {A : BodyA} {m high r : Nat} {fs : List Nat} {th : Th} {f f' : HF} {xs : List V} {hv hv' : List (Key × V)} {e : Option (Nat × Nat × Nat)} {v : V} (hi : BodyI K G A m high fs th f xs hv) (hv2 : HandF K G m hv' f') (hd : Dp K G v (entD e)) (he : ∀ x, e = some x → x.1 < m) : BodyI K G A m high fs (th.set r e) f' (xs.set r v) hv' :=
  ⟨hi.sf, hi.fl, by rw [List.map_set]; exact dpall_setT hi.sx hd, hv2, by rw [List.length_set]; exact hi.tl, fun r' x hx => by
    rw [List.getElem?_set] at hx
    split at hx
    · split at hx
      · exact he x (Option.some.inj hx)
      · cases hx
    · exact hi.tm r' x hx, hi.hi, hi.m1⟩
end

section
variable {K : PySem.W.Frag} {vs : List V} {G : Hp} {M : Mem} {R : KR} {Z : KX}
theorem TreeI.ex {G' : Hp} {A : TreeA} {m lim : Nat} {drs : List Nat} {s : TrM} {o : HO} {xs : List V} {hv : List (Key × V)} {ts : List Tch} (e : Ex G G') (h : TreeI K G A m lim drs s o xs hv ts) : TreeI K G' A m lim drs s o xs hv ts :=
  ⟨h.bd.ex e, h.log.ex e, ex_l e h.dr, h.dl, h.dk, h.tl, h.tk, h.m0, h.m1⟩
end

section
variable {K : PySem.W.Frag} {vs : List V} {G : Hp} {M : Mem} {R : KR} {Z : KX}
/-! ### a tree, seen from without -/
theorem St6.ex {G' : Hp} {m lim : Nat} {drs : List Nat} {ds : List Deed} {a : Addr} {B : Mem} (e : Ex G G') (h : St6 K m lim drs G ds a B) : St6 K m lim drs G' ds a B := by
  refine of_now ?_
  simp (disch := with_unfolding_all
    obtain ⟨A, o, xs, hv, rfl, rfl, hi, h2⟩ := h
    exact ⟨A, o, xs, hv, rfl, rfl, hi.ex e, h2⟩) only [↓now_true]
end

/-! ### the words that a tree holds -/
structure TI (m : Nat) (W : List Nat) (s : TrM) : Prop where
  len : s.th.length = 2 * (2 * 2 ^ highN m - 1)
  wl : W.length = m
  tl : s.tb.length = m
  tk : ∀ x, x ∈ s.tb → x < 2 ^ highN m
  i1 : ∀ (r : Nat) (e : Nat × Nat × Nat), s.th[r]? = some (some e) → e.1 < m ∧ e.2.1 = W.getD e.1 0 ∧ e.2.2 = s.tb.getD e.1 0 ∧ (∃ d, d ≤ highN m ∧ r / 2 = nodeN (highN m) d e.2.2) ∧ s.f e.1 = none ∧ ∀ (r' : Nat) (e' : Nat × Nat × Nat), s.th[r']? = some (some e') → e'.1 = e.1 → r' = r
  i2 : ∀ (c : Nat) (p : Nat × Nat), s.f c = some p → p.1 = W.getD c 0 ∧ p.2 = s.tb.getD c 0 ∧ c < m
  i3 : ∀ c, c < m → s.f c = none → (∀ (r : Nat) (e : Nat × Nat × Nat), s.th[r]? = some (some e) → e.1 ≠ c) → W.getD c 0 = 0
def WayR (high leaf k r : Nat) : Prop := ∃ d, d + k ≤ high ∧ r / 2 = nodeN high d leaf
/-- while a way is laid -/
structure LJ (m : Nat) (W tb : List Nat) (leaf k : Nat) (s : Th × HF) : Prop where
  len : s.1.length = 2 * (2 * 2 ^ highN m - 1)
  j1 : ∀ (r : Nat) (e : Nat × Nat × Nat), s.1[r]? = some (some e) → ¬ WayR (highN m) leaf k r → e.1 < m ∧ e.2.1 = W.getD e.1 0 ∧ e.2.2 = tb.getD e.1 0 ∧ (∃ d, d ≤ highN m ∧ r / 2 = nodeN (highN m) d e.2.2) ∧ s.2 e.1 = none ∧ ∀ (r' : Nat) (e' : Nat × Nat × Nat), s.1[r']? = some (some e') → ¬ WayR (highN m) leaf k r' → e'.1 = e.1 → r' = r
  j2 : ∀ (c : Nat) (p : Nat × Nat), s.2 c = some p → p.1 = W.getD c 0 ∧ p.2 = tb.getD c 0 ∧ c < m
  j3 : ∀ c, c < m → s.2 c = none → (∀ (r : Nat) (e : Nat × Nat × Nat), s.1[r]? = some (some e) → ¬ WayR (highN m) leaf k r → e.1 ≠ c) → W.getD c 0 = 0
/-! ### the words that a body holds -/
/-- while a way is laid -/
structure LG (m : Nat) (fs W tb : List Nat) (leaf k : Nat) (s : Th × HF) : Prop where
  len : s.1.length = 2 * (2 * 2 ^ highN m - 1)
  j1 : ∀ (r : Nat) (e : Nat × Nat × Nat), s.1[r]? = some (some e) → ¬ WayR (highN m) leaf k r → e.1 < m ∧ e.2.1 = W.getD e.1 0 ∧ e.2.2 = tb.getD e.1 0 ∧ (∃ d, d ≤ highN m ∧ r / 2 = nodeN (highN m) d e.2.2) ∧ s.2 e.1 = none ∧ ∀ (r' : Nat) (e' : Nat × Nat × Nat), s.1[r']? = some (some e') → ¬ WayR (highN m) leaf k r' → e'.1 = e.1 → r' = r
  j2 : ∀ (c : Nat) (p : Nat × Nat), s.2 c = some p → p.1 = W.getD c 0 ∧ p.2 = tb.getD c 0 ∧ c < m
  j3 : ∀ c, c < m → s.2 c = none → (∀ (r : Nat) (e : Nat × Nat × Nat), s.1[r]? = some (some e) → ¬ WayR (highN m) leaf k r → e.1 ≠ c) → W.getD c 0 = fs.getD c 0
/-! ### leaves packed into words: what holds of them -/
section
variable {K : PySem.W.Frag} {vs : List V} {G : Hp} {M : Mem} {R : KR} {Z : KX}
end

section
variable {K : PySem.W.Frag} {vs : List V} {G : Hp} {M : Mem} {R : KR} {Z : KX}
end

section
variable {K : PySem.W.Frag} {vs : List V} {G : Hp} {M : Mem} {R : KR} {Z : KX}
theorem pf_law_pool (h : S_law_pool K vs G M R Z) : rd_law_pool K (ends R Z) (sta 4 vs) G M := by
  refine of_now ?_
  simp (disch := with_unfolding_all
    obtain ⟨_, _, rfl, a, ns, k, rfl, rfl, hS, k0, k1, hl, q⟩ := sp2_of h
    have rest : ∀ cell : Int, rd_law_pool_2 K (ends R Z) [some (.ref a), some (.int k), some (.int cell), none] G M := fun cell => by
      refine ⟨G, M, Wk.refl, (by show (0 : Int) < _; decide), mul_l (by decide) (by decide), mul_r (by omega) (by omega), mul_r (by decide) (by decide), (by show (0 : Int) < _; decide), ?_⟩
      refine ⟨G, M, Wk.refl, pow10_18, ite2' (fun e => ?_) (fun e => ?_)⟩
      · exact ⟨G, M, Wk.refl, G, M, Wk.refl, sz2, fun p fp => ret0 (q p _ _ fp ⟨Int.emod_nonneg _ (by decide), Int.emod_lt_of_pos _ (by decide)⟩)⟩
      · exact ⟨G, M, Wk.refl, sz2, fun p fp => ret0 (q p _ _ fp ⟨Int.emod_nonneg _ (by decide), Int.emod_lt_of_pos _ (by decide)⟩)⟩
    refine ⟨G, M, Wk.refl, ?_⟩
    refine ⟨G, M, Wk.refl, _, lst_g hS, ite2' (fun e => ?_) (fun e => rest _)⟩
    have e1 : k < ((ns.map V.int).length : Int) := of_decide_eq_true e
    rw [List.length_map] at e1
    exact ⟨G, M, Wk.refl, _, _, lst_g hS, atI_int k0 e1, rest _⟩) only [↓now_true]
end

section
variable {K : PySem.W.Frag} {vs : List V} {G : Hp} {M : Mem} {R : KR} {Z E : KX}
theorem GroveI.m0 {A : GroveA} {m lim : Nat} {ms drs : List Nat} {fs : Nat → List Nat} {W : List Nat} {s : GrM} {v : GrV} {ts : List Tch} (h : GroveI K G A m lim ms drs fs W s v ts) : 1 ≤ m ∧ m ≤ 32 := by
  refine of_now ?_
  simp (disch := with_unfolding_all
    have := h.mo.ok 0 (by have := h.mo.l0; omega)
    rw [h.mo.hd] at this; exact this) only [↓now_true]
theorem GroveI.ex {G' : Hp} {A : GroveA} {m lim : Nat} {ms drs : List Nat} {fs : Nat → List Nat} {W : List Nat} {s : GrM} {v : GrV} {ts : List Tch} (e : Ex G G') (h : GroveI K G A m lim ms drs fs W s v ts) : GroveI K G' A m lim ms drs fs W s v ts :=
  ⟨fun i hi => (h.bd i hi).ex e, h.bi, h.log.ex e, ex_l e h.dr, h.dd, ex_l e h.hs, ex_l e h.bs, h.mo⟩
theorem StA.ex {G' : Hp} {w : Wy} {m lim : Nat} {drs : List Dr} {ds : List Deed} {a : Addr} {B : Mem} (e : Ex G G') (h : StA K w m lim drs G ds a B) : StA K w m lim drs G' ds a B := by
  refine of_now ?_
  simp (disch := with_unfolding_all
    cases w with
    | scan =>
      obtain ⟨A, o, h1, h2, h3, h4⟩ := h
      exact ⟨A, o, h1, h2, h3.ex e, h4⟩
    | spare => exact St4.ex e h
    | stairs => exact St5.ex e h
    | tree => exact St6.ex e h
    | grove =>
      obtain ⟨A, v, h1, h2, h3, h4⟩ := h
      exact ⟨A, v, h1, h2, h3.ex e, h4⟩) only [↓now_true]
end

section
variable {K : PySem.W.Frag} {vs : List V} {G : Hp} {M : Mem} {R : KR} {Z E : KX}
end

section
variable {K : PySem.W.Frag} {vs : List V} {G : Hp} {M : Mem} {R : KR} {Z : KX}
def drD : Dr → PyData
  | .leaf n => .int n
  | .row l => .list (natsD l)
theorem shp_drs (ds : List Dr) : Shp 2 (.list (ds.map drD)) := .list fun d hd => by
  obtain ⟨x, _, rfl⟩ := List.mem_map.mp hd
  cases x with
  | leaf n => exact .int
  | row l => exact shp_nats (n := 0) l
/-! many stores -/
theorem A2.put {α β : Type} {r : α → β → Prop} : ∀ {as : List α} {bs : List β} (i : Nat) {a : α} {b : β}, A2 r as bs → r a b → A2 r (as.set i a) (bs.set i b)
  | _, _, _, _, _, .nil, _ => .nil
  | _, _, 0, _, _, .cons _ t, h => .cons h t
  | _, _, i + 1, _, _, .cons x t, h => .cons x (A2.put i t h)
theorem StsA.ex {G' : Hp} {lim : Nat} {dt : List SD} {la : List (Addr × Mem)} (e : Ex G G') (h : StsA K lim G dt la) : StsA K lim G' dt la := A2.mono (fun _ _ q => q.ex e) h
end

section
variable {K : PySem.W.Frag} {vs : List V} {G : Hp} {M : Mem} {R : KR} {Z : KX}
end

section
variable {K : PySem.W.Frag} {vs : List V} {G : Hp} {M : Mem} {R : KR} {Z : KX}
end

section
variable {K : PySem.W.Frag} {vs : List V} {G : Hp} {M : Mem} {R : KR} {Z : KX}
theorem pf_law_draw (h : S_law_draw K vs G M R Z) : rd_law_draw K (ends R Z) (sta 3 vs) G M := by
  refine of_now ?_
  simp (disch := with_unfolding_all
    obtain ⟨_, _, rfl, p, n, c, s, k, rfl, hn, hs, hd, hk, q⟩ := sp2_of h
    obtain ⟨t, rfl, ht⟩ := dp_kn_inv hd
    have hk1 := hk.1
    refine ⟨G, M, Wk.refl, _, _, tup_g ht, rfl, ?_⟩
    show if decide (V.str k.txt = .str "leaf") = true then _ else _
    rw [txt_leaf]
    refine ite2' (fun e => ?_) (fun e => ?_)
    · have h6 := hk.2.1 e
      have e2 : (1 : Int) * 2 ^ (k.n : Int).toNat = ((2 ^ k.n : Nat) : Int) := by simp
      have p0 : 0 < 2 ^ k.n := Nat.pow_pos (by decide)
      have p6 : 2 ^ k.n ≤ 64 := Nat.pow_le_pow_right (n := 2) (by decide) h6
      refine ⟨G, M, Wk.refl, _, _, tup_g ht, rfl, ⟨by omega, by omega, by decide⟩, p, _, n, c, s, rfl, rfl, hn, hs, ?_, ?_, fun r c1 s1 r0 r1 hs1 => ?_⟩
      · rw [e2]; omega
      · rw [e2]
        have : (64 : Int) < 2 ^ 200 := by decide
        omega
      · rw [e2] at r1
        obtain ⟨v, rfl⟩ := Int.eq_ofNat_of_zero_le r0
        exact ret0 (q _ (.leaf v) c1 s1 G Ex.refl rfl ⟨e, by omega⟩ hs1)
    · refine ⟨G, M, Wk.refl, ?_⟩
      refine ⟨_, _, tup_g ht, rfl, ⟨by omega, by omega⟩, sz (by show (k.n : Int).toNat ≤ _; omega), fun i acc G' M' => ∃ (l : List Nat) (c' s' : Int), G' = G ∧ M' = M.set n (p, pool c' s') ∧ PoolOk s' ∧ l.length = i ∧ acc = natsV l ∧ RowOk l,
        ⟨[], c, s, rfl, (set_self hn).symm, hs, rfl, rfl, fun i v e => by simp at e⟩, fun _ _ _ _ _ _ => trivial, ?_, ?_⟩
      · rintro i acc G' M' D hi hacc ⟨l, c1, s1, rfl, rfl, hs1, rfl, rfl, hl⟩ fD
        have hi : l.length < (k.n : Int).toNat := hi
        have e0 : (0 : Int) + (l.length : Int) = (l.length : Int) := by omega
        refine ⟨rfl, p, (0 : Int) + (l.length : Int) + 1, n + 1, c1, s1, rfl, rfl, set_n hn, hs1, by omega, ?_, fun r c2 s2 r0 r1 hs2 => ?_⟩
        · have : (100 : Int) < 2 ^ 200 := by decide
          omega
        · obtain ⟨v, rfl⟩ := Int.eq_ofNat_of_zero_le r0
          refine ⟨G', M.set n (p, pool c2 s2), Wk.of_eq (by rw [List.set_cons_succ, List.set_set]), l ++ [v], c2, s2, rfl, rfl, hs2, by rw [List.length_append]; rfl, by rw [natsV_app2]; rfl, rowok_snoc hl (by omega)⟩
      · rintro acc G' M' w ⟨l, c1, s1, rfl, rfl, hs1, hl, rfl, hlr⟩ hacc fw
        have hl : l.length = (k.n : Int).toNat := hl
        refine retW (Wk.frz0 (M := M.set n (p, pool c1 s1))) (q _ (.row l) c1 s1 _ (Ex.new fw) ⟨w, rfl, .inr sql_new⟩ ⟨?_, by omega, hlr⟩ hs1)
        cases e3 : k.leaf with
        | false => rfl
        | true => rw [e3] at e; cases e) only [↓now_true]
theorem DrV.exn {G' : Hp} {v : V} {d : Dr} (e : Ex G G') (h : DrV K G [] v d) : DrV K G' [] v d := by
  refine of_now ?_
  simp (disch := with_unfolding_all
    cases d with
    | leaf n => exact h
    | row l =>
      obtain ⟨b, rfl, hb⟩ := h
      exact ⟨b, rfl, lat_ex e hb⟩) only [↓now_true]
theorem pf_law_draws (h : S_law_draws K vs G M R Z) : rd_law_draws K (ends R Z) (sta 3 vs) G M := by
  refine of_now ?_
  simp (disch := with_unfolding_all
    obtain ⟨_, _, rfl, p, n, c, s, a, us, ks, rfl, rfl, hn, hs, hu, hd, hk, hl, q⟩ := sp2_of h
    have hul := dpall_len hd
    rw [List.length_map] at hul
    have hul2 : ∀ {G' : Hp} {x : Addr × HO}, Ex G G' → LstAt K G' (M.set n x) a us := fun {G' x} e => by
      rcases hu with ⟨i, ni, hi⟩ | hu
      · exact .inl (List.mem_of_getElem? (i := i) (by rw [List.getElem?_set_ne ni]; exact hi))
      · exact .inr (ex_l e hu)
    have hu0 : LstAt K G M a us := by
      rcases hu with ⟨i, ni, hi⟩ | hu
      · exact .inl (List.mem_of_getElem? hi)
      · exact .inr hu
    refine ⟨G, M, Wk.refl, us, hu0, sz (by show us.length ≤ _; omega), fun i acc G' M' => ∃ (ds : List Dr) (c' s' : Int), Ex G G' ∧ M' = M.set n (p, pool c' s') ∧ PoolOk s' ∧ A2 (DrV K G' []) acc ds ∧ A2 DrOk (ks.take i) ds,
      ⟨[], c, s, Ex.refl, (set_self hn).symm, hs, .nil, .nil⟩, ?_, ?_, ?_⟩
    · rintro i acc G' M' _ ⟨ds, c', s', ex, rfl, _⟩; exact hul2 ex
    · rintro i acc G' M' D hi hacc ⟨ds, c1, s1, ex, rfl, hs1, ha, hok⟩ fD
      have hi : i < us.length := hi
      obtain ⟨k, hki⟩ : ∃ k, ks[i]? = some k := ⟨_, List.getElem?_eq_getElem (by omega)⟩
      obtain ⟨v, hv, hvd⟩ := dpall_get hd (i := i) (d := knD k) (by rw [List.getElem?_map, hki]; rfl)
      refine asg_L hv ⟨rfl, p, n + 1, c1, s1, k, rfl, set_n hn, hs1, ex_d ex _ hvd, hk k (List.mem_of_getElem? hki), fun y d c2 s2 G2 e2 hy hyd hs2 => ?_⟩
      refine ⟨G2, M.set n (p, pool c2 s2), Wk.of_eq (by rw [List.set_cons_succ, List.set_set]), ds ++ [d], c2, s2, ex.trans e2, rfl, hs2, (ha.mono fun _ _ z => z.exn e2).app (.cons hy .nil), ?_⟩
      rw [take_succ' hki]
      exact hok.app (.cons hyd .nil)
    · rintro acc G' M' w ⟨ds, c1, s1, ex, rfl, hs1, ha, hok⟩ hacc fw
      have hok : A2 DrOk (ks.take us.length) ds := hok
      rw [hul, List.take_length] at hok
      exact retW (Wk.frz0 (M := M.set n (p, pool c1 s1))) (q w ds c1 s1 _ (ex.trans (Ex.new fw)) ⟨acc, sql_new, ha.mono fun _ _ z => z.exn (Ex.new fw)⟩ hok hs1)) only [↓now_true]
end

section
variable {K : PySem.W.Frag} {vs : List V} {G : Hp} {M : Mem} {R : KR} {Z : KX}
/-! ### asks as data -/
end

section
variable {K : PySem.W.Frag} {vs : List V} {G : Hp} {M : Mem} {R : KR} {Z : KX}
theorem AsksAt.ex {G' : Hp} {M' : Mem} {a : Addr} {ds : List Deed} (e : Ex G G') (hm : ∀ x, x ∈ M → x ∈ M') (h : AsksAt K G M a ds) : AsksAt K G' M' a ds := by
  refine of_now ?_
  simp (disch := with_unfolding_all
    obtain ⟨us, h1, h2⟩ := h
    exact ⟨us, ex_lat e hm h1, A2.mono (fun _ _ q => q.ex e) h2⟩) only [↓now_true]
theorem sg_inv {v : V} {s : Sg} (h : Dp K G v (sgD s)) : ∃ T, v = .ref T ∧ SqT K G T s.vs := by
  refine of_now ?_
  simp (disch := with_unfolding_all
    cases s with
    | room b s r =>
      obtain ⟨T, xs, rfl, q, a⟩ := dp_tup_inv h
      cases a with | cons a1 a => cases a1; cases a with | cons a2 a => cases a2; cases a with | cons a3 a => cases a3; cases a with | cons a4 a => cases a4; cases a; exact ⟨T, rfl, q⟩
    | item b s d i =>
      obtain ⟨T, xs, rfl, q, a⟩ := dp_tup_inv h
      cases a with | cons a1 a => cases a1; cases a with | cons a2 a => cases a2; cases a with | cons a3 a => cases a3; cases a with | cons a4 a => cases a4; cases a with | cons a5 a => cases a5; cases a; exact ⟨T, rfl, q⟩
    | way b s d p e =>
      obtain ⟨T, xs, rfl, q, a⟩ := dp_tup_inv h
      cases a with | cons a1 a => cases a1; cases a with | cons a2 a => cases a2; cases a with | cons a3 a => cases a3; cases a with | cons a4 a => cases a4; cases a with | cons a5 a => cases a5; cases a with | cons a6 a => cases a6; cases a; exact ⟨T, rfl, q⟩) only [↓now_true]
end

section
variable {K : PySem.W.Frag} {vs : List V} {G : Hp} {M : Mem} {R : KR} {Z : KX}
/-! spare -/
end

section
variable {K : PySem.W.Frag} {vs : List V} {G : Hp} {M : Mem} {R : KR} {Z : KX}
/-! stairs -/
/-! all ways -/
/-! touches of signs -/
theorem ToldV.ex {G' : Hp} {v : V} {d : Dr} (e : Ex G G') (h : ToldV K G v d) : ToldV K G' v d := by
  refine of_now ?_
  simp (disch := with_unfolding_all
    cases d with
    | leaf n => exact h
    | row l =>
      obtain ⟨b, e1, e2⟩ := h
      exact ⟨b, e1, ex_l e e2⟩) only [↓now_true]
end

section
/-! ### what stores show are the touches of their signs -/
def SeesOk (ks : List Kn) (drs : List Dr) (sg : List Sg) (ts : List Tch) : Prop := (∀ s, s ∈ sg → SgOk ks s) ∧ sg.map (tchOf ks drs) = ts
variable {ks : List Kn} {drs : List Dr}
theorem SeesOk.nil : SeesOk ks drs [] [] := ⟨fun _ z => (nomatch z), rfl⟩
theorem SeesOk.app {a b : List Sg} {ta tb : List Tch} (h1 : SeesOk ks drs a ta) (h2 : SeesOk ks drs b tb) : SeesOk ks drs (a ++ b) (ta ++ tb) := ⟨fun s hs => (List.mem_append.mp hs).elim (h1.1 s) (h2.1 s), by rw [List.map_append, h1.2, h2.2]⟩
theorem SeesOk.flat {α : Type} {f : α → List Sg} {g : α → List Tch} : ∀ l : List α, (∀ x, x ∈ l → SeesOk ks drs (f x) (g x)) → SeesOk ks drs (l.flatMap f) (l.flatMap g)
  | [], _ => .nil
  | x :: l, h => by
    rw [List.flatMap_cons, List.flatMap_cons]
    exact (h x List.mem_cons_self).app (SeesOk.flat l fun y hy => h y (List.mem_cons_of_mem _ hy))
theorem SeesOk.two {a b : Sg} {s t : Tch} (h1 : SgOk ks a) (h2 : SgOk ks b) (e1 : tchOf ks drs a = s) (e2 : tchOf ks drs b = t) : SeesOk ks drs [a, b] [s, t] :=
  ⟨fun x hx => by
    rcases List.mem_cons.mp hx with rfl | hx
    · exact h1
    · rw [List.mem_singleton.mp hx]; exact h2, by rw [← e1, ← e2]; rfl⟩
/-! scan -/
/-! spare -/
/-! stairs -/
/-! trees -/
end

section
/-! how many signs each ask has -/
end

section
variable {K : PySem.W.Frag} {vs : List V} {G : Hp} {M : Mem} {R : KR} {Z : KX}
end

section
/-! data whose shown text is short, and may be compared -/
theorem sok_of (s : String) : PyData.strOk (Str.ofString s) = true := by
  unfold PyData.strOk
  rw [Str.ofString_eq_toList]
  rw [Array.all_eq_true_iff_forall_mem]
  intro c hc
  have hc : c ∈ s.toList.map (·.toNat) := by simpa using hc
  obtain ⟨x, _, rfl⟩ := List.mem_map.mp hc
  have := x.valid
  refine decide_eq_true ?_
  have h2 : x.toNat < 1114112 := by
    rcases x.valid with h | h
    · have : x.val.toNat < 0xd800 := h
      show x.val.toNat < _; omega
    · have : x.val.toNat < 0x110000 := h.2
      show x.val.toNat < _; omega
  exact h2
theorem sok_app {a b : Str} (ha : PyData.strOk a = true) (hb : PyData.strOk b = true) : PyData.strOk (a ++ b) = true := by
  unfold PyData.strOk at ha hb ⊢
  show (a.cps ++ b.cps).all _ = true
  rw [Array.all_append, ha, hb]; rfl
theorem sok_text : ∀ (ts : List Str) (k : Nat) (acc : Str), PyData.strOk acc = true → (∀ t, t ∈ ts → PyData.strOk t = true) → PyData.strOk (textFrom k acc ts) = true
  | [], _, _, h, _ => h
  | t :: ts, k, acc, h, ht => sok_text ts (k + 1) _ (sok_app (sok_app h (sok_of _)) (ht t List.mem_cons_self)) fun x hx => ht x (List.mem_cons_of_mem _ hx)
theorem sok_join : ∀ ts : List Str, (∀ t, t ∈ ts → PyData.strOk t = true) → PyData.strOk (Str.join ", " ts) = true
  | [], _ => sok_of ""
  | [t], h => h t List.mem_cons_self
  | t :: u :: ts, h => sok_app (sok_app (h t List.mem_cons_self) (sok_of ", ")) (sok_join (u :: ts) fun x hx => h x (List.mem_cons_of_mem _ hx))
structure Shb (p w : Nat) (d : PyData) : Prop where
  s : d.showable = true
  n : d.hasDict = false
  l : d.leavesShort 13 = true
  p : d.depth ≤ p
  w : d.bulk ≤ w
  o : PyData.strOk d.shown = true
theorem Shb.up {p p' w w' : Nat} {d : PyData} (h : Shb p w d) (hp : p ≤ p') (hw : w ≤ w') : Shb p' w' d := ⟨h.s, h.n, h.l, Nat.le_trans h.p hp, Nat.le_trans h.w hw, h.o⟩
theorem shb_int {i : Int} (h0 : 0 ≤ i) (h : i < 10 ^ 12) : Shb 0 0 (.int i) := by
  have hl : i.natAbs < 2 ^ 67 := by
    have : (10 : Int) ^ 12 < 2 ^ 67 := by decide
    have e : ((i.natAbs : Nat) : Int) = i := by omega
    have : ((i.natAbs : Nat) : Int) < ((2 ^ 67 : Nat) : Int) := by rw [e]; exact Int.lt_trans h this
    exact Int.ofNat_lt.mp this
  have hlog : i.natAbs.log2 < 67 := by
    by_cases z : i.natAbs = 0
    · rw [z]; decide
    · exact (Nat.log2_lt z).mpr hl
  refine ⟨?_, rfl, ?_, Nat.le_refl _, Nat.le_refl _, sok_of _⟩
  · show decide (i.natAbs.log2 < 1920) = true
    exact decide_eq_true (by omega)
  · show decide ((PyData.shown (.int i)).length ≤ 13) = true
    have := PyProof.Rows.toString_length_le h0 (k := 12) (by decide) h
    exact decide_eq_true (Nat.le_trans this (by decide))
theorem shb_non : Shb 0 0 .none := ⟨rfl, rfl, rfl, Nat.le_refl _, Nat.le_refl _, sok_of _⟩
theorem shb_all {p w : Nat} : ∀ {ds : List PyData}, (∀ d, d ∈ ds → Shb p w d) → PyData.showableAll ds = true ∧ PyData.hasDictAll ds = false ∧ PyData.leavesShortAll 13 ds = true ∧ PyData.depthAll ds ≤ p ∧ PyData.bulkAll ds ≤ ds.length * (w + 1) ∧ ∀ t, t ∈ PyData.shownAll ds → PyData.strOk t = true
  | [], _ => ⟨rfl, rfl, rfl, Nat.zero_le _, Nat.zero_le _, fun _ z => nomatch z⟩
  | d :: ds, h => by
    obtain ⟨a1, a2, a3, a4, a5, a6⟩ := shb_all fun x hx => h x (List.mem_cons_of_mem _ hx)
    have b := h d List.mem_cons_self
    refine ⟨?_, ?_, ?_, ?_, ?_, fun t ht => ?_⟩
    · show (d.showable && PyData.showableAll ds) = true
      rw [b.s, a1]; rfl
    · show (d.hasDict || PyData.hasDictAll ds) = false
      rw [b.n, a2]; rfl
    · show (d.leavesShort 13 && PyData.leavesShortAll 13 ds) = true
      rw [b.l, a3]; rfl
    · show max d.depth (PyData.depthAll ds) ≤ p
      have := b.p; omega
    · show d.bulk + 1 + PyData.bulkAll ds ≤ (ds.length + 1) * (w + 1)
      have := b.w
      rw [Nat.succ_mul]; omega
    · rcases List.mem_cons.mp (show t ∈ d.shown :: PyData.shownAll ds from ht) with rfl | ht
      · exact b.o
      · exact a6 t ht
theorem shb_list {p w : Nat} {ds : List PyData} (h : ∀ d, d ∈ ds → Shb p w d) : Shb (p + 1) (ds.length * (w + 1)) (.list ds) := by
  obtain ⟨a1, a2, a3, a4, a5, a6⟩ := shb_all h
  exact ⟨a1, a2, a3, Nat.succ_le_succ a4, a5, sok_app (sok_text _ _ _ (sok_of _) a6) (sok_of _)⟩
theorem shb_tup {p w : Nat} {ds : List PyData} (h : ∀ d, d ∈ ds → Shb p w d) : Shb (p + 1) (ds.length * (w + 1)) (.tuple ds) := by
  obtain ⟨a1, a2, a3, a4, a5, a6⟩ := shb_all h
  exact ⟨a1, a2, a3, Nat.succ_le_succ a4, a5, sok_app (sok_app (sok_of _) (sok_join _ a6)) (sok_of _)⟩
theorem shb_leaf : Shb 0 4 (.str "leaf") := ⟨by decide +kernel, rfl, by decide +kernel, Nat.zero_le _, by decide +kernel, by decide +kernel⟩
theorem shb_shuf : Shb 0 7 (.str "shuffle") := ⟨by decide +kernel, rfl, by decide +kernel, Nat.zero_le _, by decide +kernel, by decide +kernel⟩
theorem shb_nat {n : Nat} (h : n < 10 ^ 12) : Shb 0 0 (.int (n : Int)) := shb_int (by omega) (by exact_mod_cast h)
theorem shb_kn {k : Kn} (h : k.n ≤ 64) : Shb 1 16 (knD k) := by
  refine (shb_tup (p := 0) (w := 7) fun d hd => ?_).up (Nat.le_refl _) (Nat.le_refl _)
  rcases List.mem_cons.mp hd with rfl | hd
  · obtain ⟨b, n⟩ := k
    cases b
    · exact shb_shuf
    · exact shb_leaf.up (Nat.le_refl _) (by decide)
  · rw [List.mem_singleton.mp hd]; exact (shb_nat (Nat.lt_of_le_of_lt h (by decide))).up (Nat.le_refl _) (by decide)
theorem shb_kns {ks : List Kn} (h : ∀ k, k ∈ ks → k.n ≤ 64) : Shb 2 (ks.length * 17) (.list (ks.map knD)) := by
  have := shb_list (p := 1) (w := 16) (ds := ks.map knD) fun d hd => by
    obtain ⟨k, hk, rfl⟩ := List.mem_map.mp hd
    exact shb_kn (h k hk)
  rw [List.length_map] at this
  exact this
end

section
/-! signs: how many, how great, and those of fewer asks -/
def jl : Nat → Nat
  | 0 => 1
  | j + 1 => jl j + jl j + (2 ^ (j + 1) - 1)
def sl : Nat → Nat
  | 0 => 0
  | j + 1 => sl j + sl j + jl j
end

section
theorem PapOk.len {ks : List Kn} {ps : List Pp} (h : PapOk ks ps) : ks.length = ps.length := h.ok.len
theorem PapOk.at {ks : List Kn} {ps : List Pp} (h : PapOk ks ps) {d : Nat} {k : Kn} (e : ks[d]? = some k) : ∃ pp, ps[d]? = some pp ∧ ps.getD d ⟨0, none⟩ = pp ∧ PpOk ks k pp := by
  refine of_now ?_
  simp (disch := with_unfolding_all
    obtain ⟨pp, h1, h2⟩ := h.ok.get' e
    exact ⟨pp, h1, by rw [List.getD_eq_getElem?_getD, h1]; rfl, h2⟩) only [↓now_true]
theorem src_lt {ks : List Kn} {ps : List Pp} (h : PapOk ks ps) : ∀ x, x ∈ ps.map (·.src) → x < ps.length := fun x hx => by
  obtain ⟨pp, hp, rfl⟩ := List.mem_map.mp hx
  obtain ⟨i, hi⟩ := List.getElem?_of_mem hp
  obtain ⟨k, hk, h1, _⟩ := h.ok.get hi
  have := (List.getElem?_eq_some_iff.mp h1).1
  rw [h.len] at this; exact this
theorem srcs_ord {ks : List Kn} {ps : List Pp} (h : PapOk ks ps) : OrdOk ps.length (ps.map (·.src)) := ⟨List.length_map _, h.nd, src_lt h⟩
theorem srcs_getD {ps : List Pp} {d : Nat} (h : d < ps.length) : (ps.map (·.src)).getD d 0 = srcOf ps d := by
  unfold srcOf
  rw [List.getD_eq_getElem?_getD, List.getD_eq_getElem?_getD, List.getElem?_map, List.getElem?_eq_getElem h]; rfl
theorem comp_ord {n : Nat} {l o : List Nat} (hl : OrdOk n l) (ho : OrdOk n o) : OrdOk n (l.map fun j => o.getD j 0) := by
  refine of_now ?_
  simp (disch := with_unfolding_all
    refine ⟨by rw [List.length_map, hl.len], ?_, fun x hx => ?_⟩
    · have hln := hl.nd
      rw [List.Nodup, List.pairwise_map]
      refine List.Pairwise.imp_of_mem (fun {a b} ha hb ne e => ?_) hln
      exact ne (nodup_getD.mp ho.nd a b (by rw [ho.len]; exact hl.lt a ha) (by rw [ho.len]; exact hl.lt b hb) e)
    · obtain ⟨j, hj, rfl⟩ := List.mem_map.mp hx
      have : j < o.length := by rw [ho.len]; exact hl.lt j hj
      rw [getD_lt this]
      exact ho.lt _ (List.getElem_mem this)) only [↓now_true]
theorem row_of_dr {k : Kn} {d : Dr} (h : DrOk k d) (hl : k.leaf = false) : OrdOk k.n (orderOf (rowD d)) := by
  refine of_now ?_
  simp (disch := with_unfolding_all
    cases d with
    | leaf n => obtain ⟨h1, _⟩ := h; rw [hl] at h1; cases h1
    | row l =>
      obtain ⟨_, h2, h3⟩ := h
      have := order_ok (l := l) h3
      rw [h2] at this
      exact this) only [↓now_true]
theorem drk_at {ks : List Kn} {ds : List Dr} (h : A2 DrOk ks ds) {d : Nat} {k : Kn} (e : ks[d]? = some k) : ∃ x, ds[d]? = some x ∧ ds.getD d (.leaf 0) = x ∧ DrOk k x := by
  refine of_now ?_
  simp (disch := with_unfolding_all
    obtain ⟨x, h1, h2⟩ := h.get' e
    exact ⟨x, h1, by rw [List.getD_eq_getElem?_getD, h1]; rfl, h2⟩) only [↓now_true]
theorem ledP_ok {ks : List Kn} {ds : List Dr} {k : Kn} {pp : Pp} (hd : A2 DrOk ks ds) (h : PpOk ks k pp) : DrOk k (ledP ds pp) := by
  refine of_now ?_
  simp (disch := with_unfolding_all
    obtain ⟨h1, h2, h3⟩ := h
    obtain ⟨x, hx, ex, hk⟩ := drk_at hd h1
    unfold ledP
    cases hl : k.leaf with
    | true => rw [h2 hl, ex]; exact hk
    | false =>
      obtain ⟨l, hl1, hl2⟩ := h3 hl
      rw [hl1, ex]
      have hc := comp_ord hl2 (row_of_dr hk hl)
      obtain ⟨a, b⟩ := row_ok (o := l.map fun j => (orderOf (rowD x)).getD j 0) (by rw [hc.len]; exact hc)
      exact ⟨hl, by rw [a, hc.len], b⟩) only [↓now_true]
theorem a2_map {α β γ : Type} {r : α → β → Prop} {q : α → γ → Prop} {f : β → γ} (m : ∀ a b, r a b → q a (f b)) {as : List α} {bs : List β} (h : A2 r as bs) : A2 q as (bs.map f) := by
  refine of_now ?_
  simp (disch := with_unfolding_all
    induction h with
    | nil => exact .nil
    | cons h _ ih => exact .cons (m _ _ h) ih) only [↓now_true]
theorem ledD_ok {ks : List Kn} {ds : List Dr} {ps : List Pp} (hd : A2 DrOk ks ds) (h : PapOk ks ps) : A2 DrOk ks (ledD ps ds) := a2_map (fun _ _ z => ledP_ok hd z) h.ok
theorem ledD_getD {ks : List Kn} {ds : List Dr} {ps : List Pp} {d : Nat} {k : Kn} (h : PapOk ks ps) (e : ks[d]? = some k) : ∃ pp, ps[d]? = some pp ∧ ps.getD d ⟨0, none⟩ = pp ∧ PpOk ks k pp ∧ (ledD ps ds).getD d (.leaf 0) = ledP ds pp := by
  refine of_now ?_
  simp (disch := with_unfolding_all
    obtain ⟨pp, h1, h2, h3⟩ := h.at e
    refine ⟨pp, h1, h2, h3, ?_⟩
    unfold ledD
    rw [List.getD_eq_getElem?_getD, List.getElem?_map, h1]; rfl) only [↓now_true]
/-! back -/
theorem inv_len (l : List Nat) : (invN l).length = l.length := by unfold invN; rw [List.length_map, List.length_range]
theorem inv_getD {l : List Nat} {i : Nat} (h : i < l.length) : (invN l).getD i 0 = l.idxOf i := by
  unfold invN
  rw [List.getD_eq_getElem?_getD, List.getElem?_map, List.getElem?_range h]; rfl
theorem inv_ok {n : Nat} {l : List Nat} (h : OrdOk n l) : OrdOk n (invN l) := by
  refine ⟨by rw [inv_len, h.len], nodup_getD.mpr fun i j hi hj e => ?_, fun x hx => ?_⟩
  · rw [inv_len] at hi hj
    rw [inv_getD hi, inv_getD hj] at e
    have a := (getD_idx (ord_has h i (by rw [← h.len]; exact hi))).2
    have b := (getD_idx (ord_has h j (by rw [← h.len]; exact hj))).2
    rw [e] at a
    exact a.symm.trans b
  · obtain ⟨i, hi, rfl⟩ := List.mem_map.mp hx
    have hi := List.mem_range.mp hi
    have := (getD_idx (ord_has h i (by rw [← h.len]; exact hi))).1
    rw [h.len] at this; exact this
theorem back_len (ps : List Pp) : (backP ps).length = ps.length := by unfold backP; rw [List.length_map, List.length_range]
theorem back_get {ps : List Pp} {s : Nat} (h : s < ps.length) : (backP ps)[s]? = some ⟨(ps.map (·.src)).idxOf s, ((ps.getD ((ps.map (·.src)).idxOf s) ⟨0, none⟩).turn).map invN⟩ := by
  unfold backP
  rw [List.getElem?_map, List.getElem?_range h]; rfl
theorem a2_of {α β : Type} {r : α → β → Prop} : ∀ {as : List α} {bs : List β}, as.length = bs.length → (∀ (i : Nat) (a : α) (b : β), as[i]? = some a → bs[i]? = some b → r a b) → A2 r as bs
  | [], [], _, _ => .nil
  | a :: as, b :: bs, h, f => .cons (f 0 a b rfl rfl) (a2_of (by simpa using h) fun i x y hx hy => f (i + 1) x y (by simpa using hx) (by simpa using hy))
  | [], _ :: _, h, _ => by simp at h
  | _ :: _, [], h, _ => by simp at h
theorem back_ok {ks : List Kn} {ps : List Pp} (h : PapOk ks ps) : PapOk ks (backP ps) := by
  have ho := srcs_ord h
  constructor
  · refine a2_of (by rw [back_len, h.len]) fun s k pp hk hp => ?_
    have hs : s < ps.length := by rw [← h.len]; exact (List.getElem?_eq_some_iff.mp hk).1
    rw [back_get hs] at hp
    obtain ⟨g1, g2⟩ := getD_idx (ord_has ho s hs)
    have g1' : (ps.map (·.src)).idxOf s < ps.length := by rw [List.length_map] at g1; exact g1
    have hkj : ∃ kj, ks[(ps.map (·.src)).idxOf s]? = some kj := ⟨_, List.getElem?_eq_getElem (by rw [h.len]; exact g1')⟩
    obtain ⟨kj, hkj⟩ := hkj
    obtain ⟨pj, p1, p2, ⟨p3, p4, p5⟩⟩ := h.at hkj
    rw [srcs_getD g1'] at g2
    unfold srcOf at g2
    rw [p2] at g2 hp
    rw [g2, hk] at p3
    have e : k = kj := by injection p3
    subst e
    have e : pp = ⟨(ps.map (·.src)).idxOf s, pj.turn.map invN⟩ := by injection hp with hp; exact hp.symm
    subst e
    refine ⟨hkj, fun z => ?_, fun z => ?_⟩
    · show pj.turn.map invN = none
      rw [p4 z]; rfl
    · obtain ⟨l, a, b⟩ := p5 z
      exact ⟨invN l, by show pj.turn.map invN = _; rw [a]; rfl, inv_ok b⟩
  · have e : (backP ps).map (·.src) = invN (ps.map (·.src)) := by
      unfold backP invN
      rw [List.map_map, List.length_map]; rfl
    rw [e]
    exact (inv_ok ho).nd
end

section
variable {K : PySem.W.Frag} {vs : List V} {G : Hp} {M : Mem} {R : KR} {Z : KX}
theorem eqv_si {s t : Str} {i j : Int} : PyData.eqv (.tuple [.str s, .int i]) (.tuple [.str t, .int j]) = (decide (s = t) && decide (i = j)) := by
  refine of_now ?_
  simp (disch := with_unfolding_all
    show ((s == t) && ((i == j) && true)) = _
    rw [Bool.and_true]
    by_cases e1 : s = t <;> by_cases e2 : i = j <;> simp [e1, e2]) only [↓now_true]
theorem kn_txt_inj {a b : Kn} (h : a.txt = b.txt) : a.leaf = b.leaf := by
  refine of_now ?_
  simp (disch := with_unfolding_all
    have h1 := txt_leaf a
    have h2 := txt_leaf b
    rw [h] at h1
    rw [← h1, ← h2]) only [↓now_true]
theorem kn_ext {a b : Kn} (h1 : a.leaf = b.leaf) (h2 : a.n = b.n) : a = b := by
  refine of_now ?_
  simp (disch := with_unfolding_all
    obtain ⟨x, y⟩ := a
    obtain ⟨z, w⟩ := b
    have h1 : x = z := h1
    have h2 : y = w := h2
    rw [h1, h2]) only [↓now_true]
theorem eqv_kn_ne {a b : Kn} (h : a ≠ b) : PyData.eqv (knD a) (knD b) = false := by
  refine of_now ?_
  simp (disch := with_unfolding_all
    show PyData.eqv (.tuple [.str a.txt, .int a.n]) (.tuple [.str b.txt, .int b.n]) = false
    rw [eqv_si]
    by_cases e1 : a.txt = b.txt
    · have e2 : ¬ (a.n : Int) = b.n := fun e2 => h (kn_ext (kn_txt_inj e1) (by omega))
      rw [decide_eq_false e2, Bool.and_false]
    · rw [decide_eq_false e1, Bool.false_and]) only [↓now_true]
theorem shp_kn (k : Kn) : Shp 1 (knD k) := by
  refine of_now ?_
  simp (disch := with_unfolding_all
    have h := shp_kns (n := 0) [k]
    cases h with
    | list h => exact h _ List.mem_cons_self) only [↓now_true]
theorem eqv_kn_refl (a : Kn) : PyData.eqv (knD a) (knD a) = true := (shp_kn a).refl
theorem kn_get {a : Addr} {ks : List Kn} {i : Nat} {k : Kn} (h : KnAt K G M a ks) (e : ks[i]? = some k) : ∃ us v, LstAt K G M a us ∧ us[i]? = some v ∧ Dp K G v (knD k) ∧ us.length = ks.length := by
  refine of_now ?_
  simp (disch := with_unfolding_all
    obtain ⟨us, h1, h2, _⟩ := h
    obtain ⟨v, hv, hd⟩ := dpall_get h2 (i := i) (d := knD k) (by rw [List.getElem?_map, e]; rfl)
    exact ⟨us, v, h1, hv, hd, by rw [dpall_len h2, List.length_map]⟩) only [↓now_true]
theorem pf_is_part (h : S_is_part K vs G M R Z) : rd_is_part K (ends R Z) (sta 4 vs) G M := by
  refine of_now ?_
  simp (disch := with_unfolding_all
    obtain ⟨_, _, z, rfl, a, ks, i, k, b, rfl, hk, rfl, hi, hz, q⟩ := sp3_of h
    clear h
    rcases hz with ⟨T, hT, hne, rfl⟩ | ⟨t, xs, rfl, ht, hx, hh⟩
    · refine ⟨G, M, Wk.refl, isi_pt PT.tuple hT ?_⟩
      cases T <;> first
        | exact absurd rfl hne
        | exact ⟨G, M, Wk.refl, ret0 q⟩
    obtain ⟨us, vk, hu, hvk, hdk, hul⟩ := kn_get hk hi
    refine ⟨G, M, Wk.refl, isi_pt PT.tuple (ty_tup ht) ?_⟩
    refine ⟨xs, .inr ht, ?_⟩
    show if (!decide (V.int (xs.length : Int) = .int 2)) = true then _ else _
    rcases hh with ⟨h2, rfl⟩ | ⟨u, w, rfl, ⟨T, hT, hTi⟩, hh⟩
    · have e : (!decide (V.int (xs.length : Int) = .int 2)) = true := by
        rw [decide_eq_false]; · rfl
        · intro z; injection z with z; omega
      rw [if_pos e]
      exact ⟨G, M, Wk.refl, ret0 q⟩
    have e : (!decide (V.int (([u, w] : List V).length : Int) = .int 2)) = false := by
      rw [decide_eq_true (show V.int (([u, w] : List V).length : Int) = .int 2 from rfl)]; rfl
    rw [if_neg (by rw [e]; exact Bool.false_ne_true)]
    refine ⟨[u, w], u, .inr ht, atI_nat (j := 0) rfl, us, .inl hu, T, 0, (us.length : Int) - 1, rfl, rfl, hT, hTi, ?_⟩
    show if (!withinV u 0 ((us.length : Int) - 1)) = true then _ else _
    rw [hul]
    rcases hh with ⟨hw, rfl⟩ | ⟨s, k', rfl, hs, hh⟩
    · rw [hw]; exact ⟨G, M, Wk.refl, ret0 q⟩
    have hsl := (List.getElem?_eq_some_iff.mp hs).1
    have hin : withinV (.int (s : Int)) 0 ((ks.length : Int) - 1) = true := wi_in (by omega) (by omega)
    rw [hin]
    obtain ⟨us2, vs2, hu2, hvs2, hds2, _⟩ := kn_get hk hs
    refine ⟨G, M, Wk.refl, us, vk, .inl hu, atI_nat hvk, ?_⟩
    obtain ⟨t1, rfl, ht1⟩ := dp_kn_inv hdk
    obtain ⟨t2, rfl, ht2⟩ := dp_kn_inv hds2
    refine ⟨G, M, Wk.refl, [.int (s : Int), w], .int (s : Int), .inr ht, atI_nat (j := 0) rfl, us2, .ref t2, .inl hu2, atI_nat hvs2, ?_⟩
    refine ⟨knD k', knD k, dat_g hds2, dat_g hdk, (shp_kn k').shaped (by decide), (shp_kn k).shaped (by decide), ?_⟩
    show if (!PyData.eqv (knD k') (knD k)) = true then _ else _
    rcases hh with ⟨hne, rfl⟩ | ⟨rfl, hlf, hrw⟩
    · rw [eqv_kn_ne hne]; exact ⟨G, M, Wk.refl, ret0 q⟩
    rw [eqv_kn_refl]
    refine ⟨G, M, Wk.refl, [.str k'.txt, .int k'.n], .str k'.txt, .inr ht1, atI_nat (j := 0) rfl, ?_⟩
    show if decide (V.str k'.txt = .str "leaf") = true then _ else _
    rw [txt_leaf]
    cases hl : k'.leaf with
    | true =>
      refine ⟨G, M, Wk.refl, [.int (s : Int), w], w, .inr ht, atI_nat (j := 1) rfl, ?_⟩
      have hb := hlf hl
      subst hb
      have hz : kIs2 false w .non G M (fun v G M => wkR R v G M) := by
        cases w <;> exact ret0 q
      exact hz
    | false =>
      have hb := hrw hl
      refine ⟨G, M, Wk.refl, [.int (s : Int), w], w, .inr ht, atI_nat (j := 1) rfl, ?_⟩
      rcases hb with ⟨U, hU, hnU, rfl⟩ | ⟨c, ys, rfl, hc, h1000, hit, rfl⟩
      · exact ⟨false, .inl ⟨U, hU, hnU, rfl⟩, ret0 q⟩
      · refine ⟨orderB ys, .inr ⟨c, ys, rfl, hc, h1000, hit, rfl⟩, ?_⟩
        cases ho : orderB ys with
        | false => rw [ho] at q; exact ret0 q
        | true =>
          rw [ho] at q
          refine ⟨[.int (s : Int), .ref c], .ref c, .inr ht, atI_nat (j := 1) rfl, ys, .inl hc, [.str k'.txt, .int k'.n], .int k'.n, .inr ht1, atI_nat (j := 1) rfl, ?_⟩
          show wkR R (.bl (decide (V.int (ys.length : Int) = .int (k'.n : Int)))) G M
          have e3 : decide (V.int (ys.length : Int) = .int (k'.n : Int)) = decide (ys.length = k'.n) := by
            rw [Bool.eq_iff_iff, decide_eq_true_eq, decide_eq_true_eq]
            constructor
            · intro e; injection e with e; omega
            · intro e; rw [e]
          rw [e3]
          exact ret0 q) only [↓now_true]
theorem nodup_ints (l : List Nat) : (l.map fun (n : Nat) => (n : Int)).Nodup ↔ l.Nodup := by
  refine of_now ?_
  simp (disch := with_unfolding_all
    constructor
    · intro h
      rw [List.Nodup, List.pairwise_map] at h
      exact h.imp fun {a b} ne e => ne (by rw [e])
    · intro h
      rw [List.Nodup, List.pairwise_map]
      exact List.Pairwise.imp (fun {a b} ne e => ne (by omega)) h) only [↓now_true]
theorem a2_pt {α β : Type} {r : α → β → Prop} {as : List α} {bs : List β} (h : A2 r as bs) {i : Nat} {a : α} {b : β} (ha : as[i]? = some a) (hb : bs[i]? = some b) : r a b := by
  refine of_now ?_
  simp (disch := with_unfolding_all
    obtain ⟨a', h1, h2⟩ := h.get hb
    rw [ha] at h1; cases h1; exact h2) only [↓now_true]
theorem pf_is_paper (h : S_is_paper K vs G M R Z) : rd_is_paper K (ends R Z) (sta 4 vs) G M := by
  refine of_now ?_
  simp (disch := with_unfolding_all
    obtain ⟨_, z, rfl, a, ks, b, rfl, hk, hz, q⟩ := sp2_of h
    clear h
    obtain ⟨us, hu, hd, hkn, hkl⟩ := hk
    have hul := dpall_len hd
    rw [List.length_map] at hul
    have hk : KnAt K G M a ks := ⟨us, hu, hd, hkn, hkl⟩
    rcases hz with ⟨T, hT, hne, rfl⟩ | ⟨p, zs, rfl, hp, hzl, hh⟩
    · refine ⟨G, M, Wk.refl, isi_pt PT.list hT ?_⟩
      cases T <;> first
        | exact absurd rfl hne
        | exact ⟨G, M, Wk.refl, ret0 q⟩
    refine ⟨G, M, Wk.refl, isi_pt PT.list (ty_lst hp) ⟨zs, .inl hp, us, .inl hu, ?_⟩⟩
    show if (!decide (V.int (zs.length : Int) = .int (us.length : Int))) = true then _ else _
    have eb : decide (V.int (zs.length : Int) = .int (us.length : Int)) = decide (zs.length = ks.length) := by
      rw [Bool.eq_iff_iff, decide_eq_true_eq, decide_eq_true_eq, hul]
      constructor
      · intro e; injection e with e; omega
      · intro e; rw [e]
    rw [eb]
    rcases hh with ⟨hne, rfl⟩ | ⟨bs, hl, hbl, hparts, hh⟩
    · rw [decide_eq_false hne]; exact ⟨G, M, Wk.refl, ret0 q⟩
    rw [decide_eq_true hl]
    refine ⟨G, M, Wk.refl, us, .inl hu, by omega, fun i σ G' M' => ∃ y2, σ = [some (.ref a), some (.ref p), y2, none] ∧ G' = G ∧ M' = M ∧ ∀ j c, j < i → bs[j]? = some c → c = true, ⟨none, rfl, rfl, rfl, fun _ _ z => nomatch z⟩, fun _ _ _ _ _ _ => trivial, ?_, ?_⟩
    · rintro i σ G' M' hi ⟨y2, rfl, rfl, rfl, hall⟩
      have hi : i < (us.length : Int).toNat := hi
      have h1 : ks[i]? = some ks[i] := List.getElem?_eq_getElem (by omega)
      have h2 : zs[i]? = some zs[i] := List.getElem?_eq_getElem (by omega)
      have h3 : bs[i]? = some bs[i] := List.getElem?_eq_getElem (by omega)
      refine asg_R (v := (i : Int)) (by omega) ⟨G', M', Wk.refl, zs, zs[i], .inl hp, atI_nat h2, a, ks, i, ks[i], bs[i], rfl, hk, rfl, h1, hparts i _ _ _ h1 h2 h3, ?_⟩
      show if (!bs[i]) = true then _ else _
      cases hb : bs[i] with
      | false =>
        have ef : b = false := by
          rcases hh with ⟨_, e⟩ | ⟨ss, e1, _⟩
          · exact e
          · have := List.all_eq_true.mp e1 bs[i] (List.getElem_mem _)
            rw [hb] at this; cases this
        subst ef
        exact ⟨G', M', Wk.refl, ret0 q⟩
      | true =>
        refine ⟨G', M', Wk.refl, _, rfl, rfl, rfl, fun j c hj hc => ?_⟩
        by_cases e : j = i
        · subst e
          rw [h3] at hc; cases hc; exact hb
        · exact hall j c (by omega) hc
    · rintro σ G' M' ⟨y2, rfl, rfl, rfl, hall⟩
      have ball : bs.all id = true := List.all_eq_true.mpr fun c hc => by
        obtain ⟨j, hj⟩ := List.getElem?_of_mem hc
        exact hall j c (by have := (List.getElem?_eq_some_iff.mp hj).1; show j < (us.length : Int).toNat; omega) hj
      rcases hh with ⟨e1, _⟩ | ⟨ss, _, hss, rfl⟩
      · rw [ball] at e1; cases e1
      have hsl := hss.len
      refine ⟨G', M', Wk.refl, zs, hp, sz (by show zs.length ≤ _; omega), fun i acc G2 M2 => G2 = G' ∧ M2 = M' ∧ acc = natsV (ss.take i), ⟨rfl, rfl, rfl⟩, ?_, ?_, ?_⟩
      · rintro i acc G2 M2 _ ⟨rfl, rfl, _⟩; exact hp
      · rintro i acc G2 M2 X hi hac ⟨hG, rfl, rfl⟩ fX
        subst hG
        have hi : i < zs.length := hi
        obtain ⟨s, hs⟩ : ∃ s, ss[i]? = some s := ⟨_, List.getElem?_eq_getElem (by omega)⟩
        obtain ⟨v, hv, T, w, rfl, hT⟩ := hss.get hs
        refine asg_L hv ⟨rfl, _, _, .inr hT, atI_nat (j := 0) rfl, _, _, Wk.refl, rfl, rfl, ?_⟩
        rw [take_succ' hs]
        unfold natsV; rw [List.map_append]; rfl
      · rintro acc G2 M2 y ⟨hG, rfl, rfl⟩ hac fy
        subst hG
        have en : (srcL K p zs).n = ss.length := hsl
        rw [en, List.take_length] at hac ⊢
        refine ⟨ss.map fun (n : Nat) => (n : Int), by rw [show (ss.map fun (n : Nat) => (n : Int)).map V.int = natsV ss by unfold natsV; rw [List.map_map]; rfl]; exact lat_0, by rw [List.length_map]; omega, fun m hm hiff => ?_⟩
        refine ⟨zs, .inl (lat_cons hp), ?_⟩
        show wkR R (.bl (decide (V.int (m : Int) = .int (zs.length : Int)))) _ _
        have e : decide (V.int (m : Int) = .int (zs.length : Int)) = decide ss.Nodup := by
          rw [Bool.eq_iff_iff, decide_eq_true_eq, decide_eq_true_eq]
          rw [List.length_map] at hiff
          constructor
          · intro e
            injection e with e
            have := hiff.mp (by omega)
            exact (nodup_ints ss).mp this
          · intro e
            have := hiff.mpr ((nodup_ints ss).mpr e)
            rw [this, ← hsl]
        rw [e]
        exact retW Wk.drop0 q) only [↓now_true]
theorem TurnM.more {Mx : Mem} {w : V} {t : Option (List Nat)} (h : TurnM K G M w t) : TurnM K G (Mx ++ M) w t := by
  refine of_now ?_
  simp (disch := with_unfolding_all
    cases t with
    | none => exact h
    | some l => obtain ⟨b, e, hb⟩ := h; exact ⟨b, e, hb.elim (fun z => .inl (List.mem_append.mpr (.inr z))) .inr⟩) only [↓now_true]
theorem PpM.more {Mx : Mem} {v : V} {pp : Pp} (h : PpM K G M v pp) : PpM K G (Mx ++ M) v pp := by
  refine of_now ?_
  simp (disch := with_unfolding_all
    obtain ⟨T, w, e, h1, h2⟩ := h
    exact ⟨T, w, e, h1, h2.more⟩) only [↓now_true]
theorem PapM.more {Mx : Mem} {p : Addr} {ps : List Pp} (h : PapM K G M p ps) : PapM K G (Mx ++ M) p ps := by
  refine of_now ?_
  simp (disch := with_unfolding_all
    obtain ⟨us, h1, h2⟩ := h
    exact ⟨us, h1.elim (fun z => .inl (List.mem_append.mpr (.inr z))) .inr, h2.mono fun _ _ z => z.more⟩) only [↓now_true]
theorem TurnM.ex {G' : Hp} {w : V} {t : Option (List Nat)} (e : Ex G G') (h : TurnM K G M w t) : TurnM K G' M w t := by
  refine of_now ?_
  simp (disch := with_unfolding_all
    cases t with
    | none => exact h
    | some l => obtain ⟨b, e1, hb⟩ := h; exact ⟨b, e1, lat_ex e hb⟩) only [↓now_true]
theorem PpM.ex {G' : Hp} {v : V} {pp : Pp} (e : Ex G G') (h : PpM K G M v pp) : PpM K G' M v pp := by
  refine of_now ?_
  simp (disch := with_unfolding_all
    obtain ⟨T, w, e1, h1, h2⟩ := h
    exact ⟨T, w, e1, ex_t e h1, h2.ex e⟩) only [↓now_true]
theorem PapM.ex {G' : Hp} {p : Addr} {ps : List Pp} (e : Ex G G') (h : PapM K G M p ps) : PapM K G' M p ps := by
  refine of_now ?_
  simp (disch := with_unfolding_all
    obtain ⟨us, h1, h2⟩ := h
    exact ⟨us, lat_ex e h1, h2.mono fun _ _ z => z.ex e⟩) only [↓now_true]
theorem PapM.any {p : Addr} {ps : List Pp} (h : PapM K G [] p ps) : PapM K G M p ps := by
  refine of_now ?_
  simp (disch := with_unfolding_all
    have := h.more (Mx := M)
    rwa [List.append_nil] at this) only [↓now_true]
theorem ord_nats {n : Nat} {l : List Nat} (h : OrdOk n l) (h1 : 1 ≤ n) (h2 : n ≤ 64) : orderB (natsV l) = true := orderB_nats (by rw [h.len]; exact h) (by rw [h.len]; exact h1) (by rw [h.len]; exact h2)
/-- a good paper is one -/
theorem pap_paperV {p : Addr} {ks : List Kn} {ps : List Pp} (h : PapM K G M p ps) (ho : PapOk ks ps) (hk : ∀ k, k ∈ ks → KnOk k) (h1 : ks.length ≤ 1000) : PaperV K G M ks (.ref p) true := by
  refine of_now ?_
  simp (disch := with_unfolding_all
    obtain ⟨us, hu, ha⟩ := h
    have hl := ho.len
    have hul := ha.len
    refine .inr ⟨p, us, rfl, hu, by omega, .inr ⟨List.replicate ks.length true, by omega, by rw [List.length_replicate], fun i k v c hi hv hc => ?_, .inr ⟨ps.map (·.src), ?_, ?_, ?_⟩⟩⟩
    · have hc : c = true := by
        rw [List.getElem?_replicate] at hc
        split at hc
        · cases hc; rfl
        · cases hc
      subst hc
      obtain ⟨pp, hp, hpv⟩ := ha.get' hv
      obtain ⟨a1, a2, a3⟩ := a2_pt ho.ok hi hp
      obtain ⟨T, w, rfl, hT, hw⟩ := hpv
      have kk := hk k (List.mem_of_getElem? hi)
      refine .inr ⟨T, _, rfl, hT, (by show (2 : Nat) ≤ 100; decide), .inr ⟨_, w, rfl, ⟨.int, ty_int, rfl⟩, .inr ⟨pp.src, k, rfl, a1, .inr ⟨rfl, fun z => ?_, fun z => ?_⟩⟩⟩⟩
      · rw [a2 z] at hw
        obtain rfl : w = .non := hw
        exact (decide_eq_true rfl).symm
      · obtain ⟨l, e1, e2⟩ := a3 z
        rw [e1] at hw
        obtain ⟨b, rfl, hb⟩ := hw
        refine .inr ⟨b, natsV l, rfl, hb, by rw [natsV_len, e2.len]; have := kk.1; omega, ints_ty, ?_⟩
        rw [ord_nats e2 (kk.2.2 z) kk.1, natsV_len, decide_eq_true e2.len]; rfl
    · rw [List.all_eq_true]
      intro x hx
      rw [(List.mem_replicate.mp hx).2]; rfl
    · have : A2 (fun (v : V) (s : Nat) => ∃ T w, v = V.ref T ∧ SqT K G T [.int (s : Nat), w]) us (ps.map (·.src)) := a2_map (fun _ _ ⟨T, w, e, hT, _⟩ => ⟨T, w, e, hT⟩) ha
      exact this
    · exact (decide_eq_true ho.nd).symm) only [↓now_true]
end

section
variable {K : PySem.W.Frag} {vs : List V} {G : Hp} {M : Mem} {R : KR} {Z : KX}
theorem cut13 {a b c : V} {r : List V} : cutV (a :: b :: c :: r) (some 1) (some 3) = [b, c] := by
  refine of_now ?_
  simp (disch := with_unfolding_all
    unfold cutV
    have e1 : HT.sIx (a :: b :: c :: r).length 0 (some 1) = 1 := by
      rw [show (some (1 : Int)) = some ((1 : Nat) : Int) from rfl, HT.sIx_nat]
      simp only [List.length_cons]; omega
    have e3 : HT.sIx (a :: b :: c :: r).length (a :: b :: c :: r).length (some 3) = 3 := by
      rw [show (some (3 : Int)) = some ((3 : Nat) : Int) from rfl, HT.sIx_nat]
      simp only [List.length_cons]; omega
    rw [e1, e3]; rfl) only [↓now_true]
theorem cut13_not {a b c : V} {r : List V} {A : Prop} (h : HT.sIx (a :: b :: c :: r).length 0 (some 1) = 0 ∧ HT.sIx (a :: b :: c :: r).length (a :: b :: c :: r).length (some 3) = (a :: b :: c :: r).length) : A := by
  refine of_now ?_
  simp (disch := with_unfolding_all
    have e1 : HT.sIx (a :: b :: c :: r).length 0 (some 1) = 1 := by
      rw [show (some (1 : Int)) = some ((1 : Nat) : Int) from rfl, HT.sIx_nat]
      simp only [List.length_cons]; omega
    rw [e1] at h; exact absurd h.1 (by decide)) only [↓now_true]
theorem deed_inj {a b : Bool} (h : deedS a = deedS b) : a = b := by
  refine of_now ?_
  simp (disch := with_unfolding_all
    cases a <;> cases b <;> first
      | rfl
      | exact absurd h (by decide)) only [↓now_true]
theorem strok_deed (b : Bool) : PyData.strOk (deedS b) = true := by cases b <;> decide +kernel
theorem shp_si {s : Str} {i : Int} (h : PyData.strOk s = true) : Shp 1 (.tuple [.str s, .int i]) := .tuple fun d hd => by
  rcases List.mem_cons.mp hd with rfl | hd
  · exact .str h
  · rw [List.mem_singleton.mp hd]; exact .int
/-- two signs of one sort, ahead of what is their own -/
theorem led_pre {D : Kd} {T1 T2 : Addr} {p : V} {t1 t2 : Str} {b1 b2 : Bool} {n1 n2 : Nat} {r1 r2 : List V} (h1 : SqT K G T1 (.str t1 :: .str (deedS b1) :: .int (n1 : Nat) :: r1)) (h2 : SqT K G T2 (.str t2 :: .str (deedS b2) :: .int (n2 : Nat) :: r2))
    (qf : ¬ (t1 = t2 ∧ b1 = b2 ∧ n1 = n2) → ∀ G', Ex G G' → D.rt (.bl false) G' M) (qt : t1 = t2 → b1 = b2 → n1 = n2 → ∀ G', Ex G G' → rd_is_led_1 K D [some (.ref T1), some (.ref T2), some p, none, none] G' M) :
    rd_is_led K D [some (.ref T1), some (.ref T2), some p, none, none] G M := by
  refine ⟨G, M, Wk.refl, _, _, .inr h1, atI_nat (j := 0) rfl, _, _, .inr h2, atI_nat (j := 0) rfl, ?_⟩
  show if (!decide (V.str t1 = .str t2)) = true then _ else _
  refine ite2' (fun e => ⟨G, M, Wk.refl, qf (fun z => ?_) G Ex.refl⟩) (fun e => ?_)
  · rw [z.1, decide_eq_true rfl] at e; cases e
  have et : t1 = t2 := by
    cases z : decide (V.str t1 = .str t2) with
    | false => rw [z] at e; cases e
    | true => have := of_decide_eq_true z; injection this
  refine ⟨_, h1, fun z => cut13_not z, fun _ c1 f1 => ?_⟩
  have ex1 := Ex.new (o := .tup (cutV (.str t1 :: .str (deedS b1) :: .int (n1 : Nat) :: r1) (some 1) (some 3))) f1
  refine ⟨_, ex_t ex1 h2, fun z => cut13_not z, fun _ c2 f2 => ?_⟩
  have ex2 := Ex.new (o := .tup (cutV (.str t2 :: .str (deedS b2) :: .int (n2 : Nat) :: r2) (some 1) (some 3))) f2
  obtain ⟨G', hG'⟩ : ∃ G', G' = upd (upd G c1 (.tup (cutV (.str t1 :: .str (deedS b1) :: .int (n1 : Nat) :: r1) (some 1) (some 3)))) c2 (.tup (cutV (.str t2 :: .str (deedS b2) :: .int (n2 : Nat) :: r2) (some 1) (some 3))) := ⟨_, rfl⟩
  have exG : Ex G G' := by rw [hG']; exact ex1.trans ex2
  have s1 : SqT K G' c1 [.str (deedS b1), .int (n1 : Nat)] := by
    have : SqT K (upd G c1 (.tup (cutV (.str t1 :: .str (deedS b1) :: .int (n1 : Nat) :: r1) (some 1) (some 3)))) c1 _ := sqt_new
    rw [cut13] at this
    rw [hG']
    refine ex_t ex2 ?_
    rw [cut13]; exact this
  have s2 : SqT K G' c2 [.str (deedS b2), .int (n2 : Nat)] := by
    have : SqT K G' c2 (cutV (.str t2 :: .str (deedS b2) :: .int (n2 : Nat) :: r2) (some 1) (some 3)) := by rw [hG']; exact sqt_new
    rwa [cut13] at this
  rw [← hG']
  clear hG'
  refine ⟨.tuple [.str (deedS b1), .int (n1 : Nat)], .tuple [.str (deedS b2), .int (n2 : Nat)], dat_tup s1 (dats_cons dat_str (dats_cons dat_int dats_nil)), dat_tup s2 (dats_cons dat_str (dats_cons dat_int dats_nil)), (shp_si (strok_deed b1)).shaped (by decide), (shp_si (strok_deed b2)).shaped (by decide), ?_⟩
  show if (!PyData.eqv (.tuple [.str (deedS b1), .int (n1 : Nat)]) (.tuple [.str (deedS b2), .int (n2 : Nat)])) = true then _ else _
  rw [eqv_si]
  by_cases hb : b1 = b2
  · by_cases hn : n1 = n2
    · rw [decide_eq_true (by rw [hb]), decide_eq_true (by rw [hn])]
      exact qt et hb hn G' exG
    · rw [decide_eq_false (p := (n1 : Int) = (n2 : Int)) (by omega), Bool.and_false]
      exact ⟨G', M, Wk.refl, qf (fun z => hn z.2.2) G' exG⟩
  · rw [decide_eq_false (p := deedS b1 = deedS b2) (fun z => hb (deed_inj z)), Bool.false_and]
    exact ⟨G', M, Wk.refl, qf (fun z => hb z.2.1) G' exG⟩
theorem int_dec {i j : Nat} : decide (V.int (i : Int) = .int (j : Int)) = decide (i = j) := by
  refine of_now ?_
  simp (disch := with_unfolding_all
    rw [Bool.eq_iff_iff, decide_eq_true_eq, decide_eq_true_eq]
    constructor
    · intro e; injection e with e; omega
    · intro e; rw [e]) only [↓now_true]
theorem cut4_4 {a b c d : V} {r : List V} (h : r ≠ []) : cutV (a :: b :: c :: d :: r) (some 4) none = r := by
  refine of_now ?_
  simp (disch := with_unfolding_all
    unfold cutV
    have e1 : HT.sIx (a :: b :: c :: d :: r).length 0 (some 4) = 4 := by
      rw [show (some (4 : Int)) = some ((4 : Nat) : Int) from rfl, HT.sIx_nat]
      simp only [List.length_cons]; omega
    rw [e1, HT.sIx_none]
    show (r.take ((a :: b :: c :: d :: r).length - 4)) = r
    rw [List.take_of_length_le]
    simp only [List.length_cons]; omega) only [↓now_true]
theorem cut4_not {xs : List V} {A : Prop} (h : HT.sIx xs.length 0 (some 4) = 0 ∧ HT.sIx xs.length xs.length none = xs.length) (h6 : xs.length = 6) : A := by
  refine of_now ?_
  simp (disch := with_unfolding_all
    rw [h6] at h
    exact absurd h.1 (by decide)) only [↓now_true]
theorem shp_ii {i j : Int} : Shp 1 (.tuple [.int i, .int j]) := .tuple fun d hd => by
  rcases List.mem_cons.mp hd with rfl | hd
  · exact .int
  · rw [List.mem_singleton.mp hd]; exact .int
theorem eqv_ii {i j k l : Nat} : PyData.eqv (.tuple [.int (i : Nat), .int (j : Nat)]) (.tuple [.int (k : Nat), .int (l : Nat)]) = (decide (i = k) && decide (j = l)) := by
  refine of_now ?_
  simp (disch := with_unfolding_all
    show (((i : Int) == (k : Int)) && (((j : Int) == (l : Int)) && true)) = _
    rw [Bool.and_true]
    have f : ∀ a b : Nat, ((a : Int) == (b : Int)) = decide (a = b) := fun a b => by
      rw [Bool.eq_iff_iff, beq_iff_eq, decide_eq_true_eq]; omega
    rw [f, f]) only [↓now_true]
/-- the part of a paper at a draw -/
theorem pap_at {p : Addr} {ks : List Kn} {ps : List Pp} {d : Nat} {k : Kn} (h : PapM K G M p ps) (ho : PapOk ks ps) (e : ks[d]? = some k) : ∃ us v pp, LstAt K G M p us ∧ us[d]? = some v ∧ PpM K G M v pp ∧ ps[d]? = some pp ∧ ps.getD d ⟨0, none⟩ = pp ∧ PpOk ks k pp := by
  refine of_now ?_
  simp (disch := with_unfolding_all
    obtain ⟨us, h1, h2⟩ := h
    obtain ⟨pp, a1, a2, a3⟩ := ho.at e
    obtain ⟨v, b1, b2⟩ := h2.get a1
    exact ⟨us, v, pp, h1, b1, b2, a1, a2, a3⟩) only [↓now_true]
theorem pf_is_led (h : S_is_led K vs G M R Z) : rd_is_led K (ends R Z) (sta 5 vs) G M := by
  refine of_now ?_
  simp (disch := with_unfolding_all
    obtain ⟨_, _, _, rfl, T1, T2, p, s1, s2, ks, ps, rfl, rfl, rfl, h1, h2, hp, ho, o1, o2, q⟩ := sp3_of h
    clear h
    have ne1 : ("room" : Str) ≠ "item" := by decide
    have ne2 : ("room" : Str) ≠ "way" := by decide
    have ne3 : ("item" : Str) ≠ "way" := by decide
    have fl : ∀ G', Ex G G' → ledB ps s1 s2 = false → wkR R (.bl false) G' M := fun G' ex e => by
      have := q G' ex
      rw [e] at this; exact ret0 this
    cases s1 with
    | room b s r =>
      cases s2 with
      | item b' s' d' i' => exact led_pre h1 h2 (fun _ G' ex => fl G' ex rfl) (fun e => absurd e ne1)
      | way b' s' d' p' e' => exact led_pre h1 h2 (fun _ G' ex => fl G' ex rfl) (fun e => absurd e ne2)
      | room b' s' r' =>
        refine led_pre h1 h2 (fun hn G' ex => fl G' ex ?_) (fun _ eb es G' ex => ?_)
        · cases z : ledB ps (.room b s r) (.room b' s' r') with
          | false => rfl
          | true =>
            simp only [ledB, Bool.and_eq_true, decide_eq_true_eq] at z
            exact absurd ⟨rfl, z.1, z.2.1⟩ hn
        · subst eb es
          refine ⟨G', M, Wk.refl, _, _, .inr (ex_t ex h1), atI_nat (j := 0) rfl, ?_⟩
          refine ⟨G', M, Wk.refl, _, _, .inr (ex_t ex h1), atI_nat (j := 3) rfl, _, _, .inr (ex_t ex h2), atI_nat (j := 3) rfl, ?_⟩
          show wkR R (.bl (decide (V.int (r : Int) = .int (r' : Int)))) G' M
          rw [int_dec]
          have := q G' ex
          simp only [ledB, decide_true, Bool.true_and] at this
          exact ret0 this
    | item b s d i =>
      cases s2 with
      | room b' s' r' => exact led_pre h1 h2 (fun _ G' ex => fl G' ex rfl) (fun e => absurd e.symm ne1)
      | way b' s' d' p' e' => exact led_pre h1 h2 (fun _ G' ex => fl G' ex rfl) (fun e => absurd e ne3)
      | item b' s' d' i' =>
        refine led_pre h1 h2 (fun hn G' ex => fl G' ex ?_) (fun _ eb es G' ex => ?_)
        · cases z : ledB ps (.item b s d i) (.item b' s' d' i') with
          | false => rfl
          | true =>
            simp only [ledB, Bool.and_eq_true, decide_eq_true_eq] at z
            exact absurd ⟨rfl, z.1, z.2.1⟩ hn
        · subst eb es
          obtain ⟨n, hn, hi⟩ := o2
          obtain ⟨us, v, pp, hu, hv, hpp, e1, e2, a1, a2, a3⟩ := pap_at (hp.ex ex) ho hn
          obtain ⟨l, hl, hol⟩ := a3 rfl
          obtain ⟨T, w, rfl, hT, hw⟩ := hpp
          rw [hl] at hw
          obtain ⟨c, rfl, hc⟩ := hw
          have eq0 : ledB ps (.item b s d i) (.item b s d' i') = (decide (pp.src = d) && decide (l.getD i' 0 = i)) := by
            simp only [ledB, decide_true, Bool.true_and]
            unfold srcOf turnOf
            rw [e2, hl]; rfl
          refine ⟨G', M, Wk.refl, _, _, .inr (ex_t ex h1), atI_nat (j := 0) rfl, ?_⟩
          refine ⟨G', M, Wk.refl, _, _, .inr (ex_t ex h2), atI_nat (j := 3) rfl, us, .ref T, .inl hu, atI_nat hv, _, hT, ?_⟩
          refine ⟨G', M, Wk.refl, _, _, .inr (ex_t ex h1), atI_nat (j := 3) rfl, ?_⟩
          show if (!decide (V.int (pp.src : Int) = .int (d : Int))) = true then _ else _
          rw [int_dec]
          refine ite2' (fun e => ⟨G', M, Wk.refl, fl G' ex ?_⟩) (fun e => ?_)
          · rw [eq0]
            cases z : decide (pp.src = d) with
            | false => rfl
            | true => rw [z] at e; cases e
          refine ⟨G', M, Wk.refl, _, _, .inr (ex_t ex h1), atI_nat (j := 0) rfl, ?_⟩
          have hi' : i' < l.length := by rw [hol.len]; exact hi
          refine ⟨G', M, Wk.refl, _, _, .inr (ex_t ex h2), atI_nat (j := 4) rfl, natsV l, _, .inl hc, atI_natD hi', _, _, .inr (ex_t ex h1), atI_nat (j := 4) rfl, ?_⟩
          show wkR R (.bl (decide (V.int ((l.getD i' 0 : Nat) : Int) = .int (i : Int)))) G' M
          rw [int_dec]
          have := q G' ex
          rw [eq0] at this
          have e3 : decide (pp.src = d) = true := by
            cases z : decide (pp.src = d) with
            | true => rfl
            | false => rw [z] at e; cases e
          rw [e3, Bool.true_and] at this
          exact ret0 this
    | way b s d p0 e0 =>
      cases s2 with
      | room b' s' r' => exact led_pre h1 h2 (fun _ G' ex => fl G' ex rfl) (fun e => absurd e.symm ne2)
      | item b' s' d' i' => exact led_pre h1 h2 (fun _ G' ex => fl G' ex rfl) (fun e => absurd e.symm ne3)
      | way b' s' d' p' e' =>
        refine led_pre h1 h2 (fun hn G' ex => fl G' ex ?_) (fun _ eb es G' ex => ?_)
        · cases z : ledB ps (.way b s d p0 e0) (.way b' s' d' p' e') with
          | false => rfl
          | true =>
            simp only [ledB, Bool.and_eq_true, decide_eq_true_eq] at z
            exact absurd ⟨rfl, z.1, z.2.1⟩ hn
        · subst eb es
          obtain ⟨hh, hn, hpq, heq⟩ := o2
          obtain ⟨us, v, pp, hu, hv, hpp, e1, e2, a1, a2, a3⟩ := pap_at (hp.ex ex) ho hn
          obtain ⟨T, w, rfl, hT, hw⟩ := hpp
          have eq0 : ledB ps (.way b s d p0 e0) (.way b s d' p' e') = (decide (pp.src = d) && (decide (p0 = p') && decide (e0 = e'))) := by
            simp only [ledB, decide_true, Bool.true_and]
            unfold srcOf
            rw [e2]
          refine ⟨G', M, Wk.refl, _, _, .inr (ex_t ex h1), atI_nat (j := 0) rfl, ?_⟩
          refine ⟨G', M, Wk.refl, _, _, .inr (ex_t ex h2), atI_nat (j := 3) rfl, us, .ref T, .inl hu, atI_nat hv, _, hT, ?_⟩
          refine ⟨G', M, Wk.refl, _, _, .inr (ex_t ex h1), atI_nat (j := 3) rfl, ?_⟩
          show if (!decide (V.int (pp.src : Int) = .int (d : Int))) = true then _ else _
          rw [int_dec]
          refine ite2' (fun e => ⟨G', M, Wk.refl, fl G' ex ?_⟩) (fun e => ?_)
          · rw [eq0]
            cases z : decide (pp.src = d) with
            | false => rfl
            | true => rw [z] at e; cases e
          refine ⟨G', M, Wk.refl, _, _, .inr (ex_t ex h1), atI_nat (j := 0) rfl, ?_⟩
          refine ⟨G', M, Wk.refl, _, ex_t ex h1, fun z => cut4_not z rfl, fun _ c1 f1 => ?_⟩
          have ex1 := Ex.new (o := .tup (cutV (Sg.way b s d p0 e0).vs (some 4) none)) f1
          refine ⟨_, ex_t ex1 (ex_t ex h2), fun z => cut4_not z rfl, fun _ c2 f2 => ?_⟩
          have ex2 := Ex.new (o := .tup (cutV (Sg.way b s d' p' e').vs (some 4) none)) f2
          have g1 : cutV (Sg.way b s d p0 e0).vs (some 4) none = [.int (p0 : Nat), .int (e0 : Nat)] := cut4_4 (by simp)
          have g2 : cutV (Sg.way b s d' p' e').vs (some 4) none = [.int (p' : Nat), .int (e' : Nat)] := cut4_4 (by simp)
          obtain ⟨G2, hG2⟩ : ∃ G2, G2 = upd (upd G' c1 (.tup (cutV (Sg.way b s d p0 e0).vs (some 4) none))) c2 (.tup (cutV (Sg.way b s d' p' e').vs (some 4) none)) := ⟨_, rfl⟩
          have exG : Ex G' G2 := by rw [hG2]; exact ex1.trans ex2
          have q1 : SqT K G2 c1 [.int (p0 : Nat), .int (e0 : Nat)] := by
            rw [hG2]
            refine ex_t ex2 ?_
            rw [← g1]; exact sqt_new
          have q2 : SqT K G2 c2 [.int (p' : Nat), .int (e' : Nat)] := by
            rw [hG2, ← g2]; exact sqt_new
          show kEqv false K (.ref c1) (.ref c2) (upd (upd G' c1 (.tup (cutV (Sg.way b s d p0 e0).vs (some 4) none))) c2 (.tup (cutV (Sg.way b s d' p' e').vs (some 4) none))) M _
          rw [← hG2]
          refine ⟨.tuple [.int (p0 : Nat), .int (e0 : Nat)], .tuple [.int (p' : Nat), .int (e' : Nat)], dat_tup q1 (dats_cons dat_int (dats_cons dat_int dats_nil)), dat_tup q2 (dats_cons dat_int (dats_cons dat_int dats_nil)), shp_ii.shaped (by decide), shp_ii.shaped (by decide), ?_⟩
          show wkR R (.bl (PyData.eqv (.tuple [.int (p0 : Nat), .int (e0 : Nat)]) (.tuple [.int (p' : Nat), .int (e' : Nat)]))) G2 M
          rw [eqv_ii]
          have := q G2 (ex.trans exG)
          rw [eq0] at this
          have e3 : decide (pp.src = d) = true := by
            cases z : decide (pp.src = d) with
            | true => rfl
            | false => rw [z] at e; cases e
          rw [e3, Bool.true_and] at this
          exact ret0 this) only [↓now_true]
theorem zw_get {ps : List Pp} {one other : List Sg} {i : Nat} {a b : Sg} (h1 : one[i]? = some a) (h2 : other[i]? = some b) : (List.zipWith (ledB ps) one other)[i]? = some (ledB ps a b) := by
  rw [List.getElem?_zipWith, h1, h2]
theorem pf_is_leading (h : S_is_leading K vs G M R Z) : rd_is_leading K (ends R Z) (sta 6 vs) G M := by
  refine of_now ?_
  simp (disch := with_unfolding_all
    obtain ⟨_, _, _, w, rfl, a, o1, o2, ks, us1, us2, one, other, rfl, rfl, rfl, hk, hu1, hd1, hu2, hd2, hl1, hl2, ok1, ok2, hh⟩ := sp4_of h
    clear h
    have e1 := dpall_len hd1
    have e2 := dpall_len hd2
    rw [List.length_map] at e1 e2
    rcases hh with ⟨hw, q⟩ | ⟨p, ps, rfl, hp, hpo, q⟩
    · refine ⟨G, M, Wk.refl, a, ks, false, rfl, hk, hw, ?_⟩
      exact ⟨G, M, Wk.refl, ret0 q⟩
    have hkn : ∀ k, k ∈ ks → KnOk k := hk.choose_spec.2.2.1
    have hkl : ks.length ≤ 1000 := hk.choose_spec.2.2.2
    refine ⟨G, M, Wk.refl, a, ks, true, rfl, hk, pap_paperV hp hpo hkn hkl, ?_⟩
    refine ⟨us1, .inl hu1, us2, .inl hu2, ?_⟩
    show if (!decide (V.int (us1.length : Int) = .int (us2.length : Int))) = true then _ else _
    rw [int_dec, e1, e2]
    refine ite2' (fun e => ⟨G, M, Wk.refl, ret0 ?_⟩) (fun e => ?_)
    · have := q G Ex.refl
      have z : decide (one.length = other.length) = false := by
        cases z : decide (one.length = other.length) with
        | false => rfl
        | true => rw [z] at e; cases e
      unfold leadB at this
      rw [z, Bool.false_and] at this
      exact this
    have hll : one.length = other.length := by
      cases z : decide (one.length = other.length) with
      | true => exact of_decide_eq_true z
      | false => rw [z] at e; cases e
    refine ⟨G, M, Wk.refl, us1, us2, hu1, hu2, sz (by show min us1.length us2.length ≤ _; omega), fun i acc G' M' => Ex G G' ∧ M' = M ∧ acc = ((List.zipWith (ledB ps) one other).take i).map V.bl, ⟨Ex.refl, rfl, rfl⟩, ?_, ?_, ?_⟩
    · rintro i acc G' M' _ ⟨ex, rfl, _⟩
      exact ⟨lat_ex ex hu1, lat_ex ex hu2⟩
    · rintro i acc G' M' X hi hac ⟨ex, rfl, rfl⟩ fX
      have hi : i < min us1.length us2.length := hi
      have g1 : one[i]? = some one[i] := List.getElem?_eq_getElem (by omega)
      have g2 : other[i]? = some other[i] := List.getElem?_eq_getElem (by omega)
      obtain ⟨v1, hv1, dv1⟩ := dpall_get hd1 (i := i) (d := sgD one[i]) (by rw [List.getElem?_map, g1]; rfl)
      obtain ⟨v2, hv2, dv2⟩ := dpall_get hd2 (i := i) (d := sgD other[i]) (by rw [List.getElem?_map, g2]; rfl)
      obtain ⟨T1, rfl, hT1⟩ := sg_inv dv1
      obtain ⟨T2, rfl, hT2⟩ := sg_inv dv2
      refine asg_Z hv1 hv2 ⟨rfl, T1, T2, p, one[i], other[i], ks, ps, rfl, rfl, rfl, ex_t ex hT1, ex_t ex hT2, (hp.ex ex).more (Mx := [_]), hpo, ok1 _ (List.mem_of_getElem? g1), ok2 _ (List.mem_of_getElem? g2), fun G2 ex2 => ?_⟩
      refine ⟨G2, M', Wk.refl, ex.trans ex2, rfl, ?_⟩
      rw [take_succ' (zw_get g1 g2), List.map_append]; rfl
    · rintro acc G' M' y ⟨ex, rfl, rfl⟩ hac fy
      have en : (srcZ K o1 o2 us1 us2).n = (List.zipWith (ledB ps) one other).length := by
        rw [List.length_zipWith]
        show min us1.length us2.length = _
        omega
      rw [en, List.take_length]
      refine ⟨List.zipWith (ledB ps) one other, lat_0, retW Wk.drop0 ?_⟩
      have := q G' ex
      unfold leadB at this
      rw [decide_eq_true hll, Bool.true_and] at this
      exact this) only [↓now_true]
end

section
variable {K : PySem.W.Frag} {vs : List V} {G : Hp} {M : Mem} {R : KR} {Z : KX}
theorem lat_more1 {x : Addr × HO} {a : Addr} {xs : List V} (h : LstAt K G M a xs) : LstAt K G (x :: M) a xs := h.elim (fun z => .inl (List.mem_cons_of_mem _ z)) .inr
theorem drAt_get {b : Addr} {ks : List Kn} {ds : List Dr} {d : Nat} {k : Kn} (h : DrAt K G M b ds) (ho : A2 DrOk ks ds) (e : ks[d]? = some k) : ∃ us v x, LstAt K G M b us ∧ us[d]? = some v ∧ DrV K G M v x ∧ ds[d]? = some x ∧ ds.getD d (.leaf 0) = x ∧ DrOk k x := by
  refine of_now ?_
  simp (disch := with_unfolding_all
    obtain ⟨us, h1, h2⟩ := h
    obtain ⟨x, a1, a2, a3⟩ := drk_at ho e
    obtain ⟨v, b1, b2⟩ := h2.get a1
    exact ⟨us, v, x, h1, b1, b2, a1, a2, a3⟩) only [↓now_true]
theorem pf_led_draw (h : S_led_draw K vs G M R Z) : rd_led_draw K (ends R Z) (sta 6 vs) G M := by
  refine of_now ?_
  simp (disch := with_unfolding_all
    obtain ⟨x, _, rfl, b, k, ks, pp, ds, rfl, hx, hkn, hpp, hb, hok, q⟩ := sp2_of h
    clear h
    obtain ⟨T, w, rfl, hT, hw⟩ := hx
    obtain ⟨a1, a2, a3⟩ := hpp
    obtain ⟨us, v, d, hu, hv, hvd, e1, e2, hd⟩ := drAt_get hb hok a1
    refine ⟨G, M, Wk.refl, _, hT, ?_⟩
    cases hl : k.leaf with
    | true =>
      have ht := a2 hl
      rw [ht] at hw
      obtain rfl : w = .non := hw
      refine ⟨G, M, Wk.refl, ?_⟩
      refine ⟨G, M, Wk.refl, us, v, .inl hu, atI_nat hv, ?_⟩
      cases d with
      | row l => obtain ⟨z, _⟩ := hd; rw [hl] at z; cases z
      | leaf n =>
        obtain rfl : v = .int n := hvd
        refine ret0 (q (.leaf n) ?_ fun _ z => nomatch z)
        unfold ledP; rw [ht, e2]; rfl
    | false =>
      obtain ⟨l, ht, hol⟩ := a3 hl
      rw [ht] at hw
      obtain ⟨c, rfl, hc⟩ := hw
      cases d with
      | leaf n => obtain ⟨z, _⟩ := hd; rw [hl] at z; cases z
      | row r =>
        have hord := row_of_dr hd hl
        obtain ⟨_, hrl, hrok⟩ := hd
        obtain ⟨rb, rfl, hrb⟩ := hvd
        have h64 := hkn.1
        have h11 := hkn.2.2 hl
        refine ⟨G, M, Wk.refl, ?_⟩
        refine ⟨G, M, Wk.refl, us, .ref rb, .inl hu, atI_nat hv, rb, r, rfl, hrb, hrok, by omega, fun o fo => ?_⟩
        have hol2 : (orderOf r).length = k.n := by rw [order_len hrok, hrl]
        refine ⟨G, _, Wk.refl, natsV l, lat_more1 hc, sz (by show (natsV l).length ≤ _; rw [natsV_len, hol.len]; omega), fun i acc G' M' => G' = G ∧ M' = (o, HO.lst (natsV (orderOf r))) :: M ∧ acc = natsV ((l.take i).map fun j => (orderOf r).getD j 0), ⟨rfl, rfl, rfl⟩, ?_, ?_, ?_⟩
        · rintro i acc G' M' _ ⟨rfl, rfl, _⟩; exact lat_more1 hc
        · rintro i acc G' M' X hi hac ⟨rfl, rfl, rfl⟩ fX
          have hi : i < (natsV l).length := hi
          rw [natsV_len] at hi
          obtain ⟨j, hj⟩ : ∃ j, l[i]? = some j := ⟨_, List.getElem?_eq_getElem hi⟩
          have hjl : j < (orderOf r).length := by rw [hol2]; exact hol.lt j (List.mem_of_getElem? hj)
          refine asg_L (natsV_get hj) ⟨rfl, natsV (orderOf r), _, lst_n (n := 1) rfl, atI_natD hjl, _, _, Wk.refl, rfl, rfl, ?_⟩
          rw [take_succ' hj, List.map_append]
          unfold natsV; rw [List.map_append]; rfl
        · rintro acc G' M' y ⟨rfl, rfl, rfl⟩ hac fy
          have en : (srcL K c (natsV l)).n = l.length := natsV_len _
          rw [en, List.take_length]
          have hcomp := comp_ord hol hord
          have hcl : (l.map fun j => (orderOf r).getD j 0).length = k.n := by rw [List.length_map, hol.len]
          refine .inr ⟨y, _, rfl, lat_0, by rw [hcl]; exact hcomp, by rw [hcl]; exact h11, by rw [hcl]; exact h64, fun t ft => ?_⟩
          refine retW (M' := (t, .lst (natsV (rowOf (l.map fun j => (orderOf r).getD j 0)))) :: M) (Wk.drop1.trans Wk.drop1) ?_
          refine q (.row t _) ?_ fun x hx => ?_
          · unfold ledP; rw [ht, e2]; rfl
          · rw [List.mem_singleton.mp hx]; exact ft.cons.cons) only [↓now_true]
theorem DrAt.more {Mx : Mem} {b : Addr} {ds : List Dr} (h : DrAt K G M b ds) : DrAt K G (Mx ++ M) b ds := by
  refine of_now ?_
  simp (disch := with_unfolding_all
    obtain ⟨us, h1, h2⟩ := h
    refine ⟨us, h1.elim (fun z => .inl (List.mem_append.mpr (.inr z))) .inr, h2.mono fun v d z => ?_⟩
    cases d with
    | leaf n => exact z
    | row l => obtain ⟨b, rfl, hb⟩ := z; exact ⟨b, rfl, hb.elim (fun z => .inl (List.mem_append.mpr (.inr z))) .inr⟩) only [↓now_true]
/-! inverse -/
def invP (l : List Nat) (i : Nat) : List Nat := (List.range l.length).map fun x => if l.idxOf x < i then l.idxOf x else 0
theorem invP_len (l : List Nat) (i : Nat) : (invP l i).length = l.length := by unfold invP; rw [List.length_map, List.length_range]
theorem invP_getD {l : List Nat} {i x : Nat} (h : x < l.length) : (invP l i).getD x 0 = if l.idxOf x < i then l.idxOf x else 0 := by
  unfold invP
  rw [List.getD_eq_getElem?_getD, List.getElem?_map, List.getElem?_range h]; rfl
theorem invP_0 (l : List Nat) : invP l 0 = List.replicate l.length 0 := by
  refine ext_getD (by rw [invP_len, List.length_replicate]) fun x hx => ?_
  rw [invP_len] at hx
  rw [invP_getD hx, if_neg (Nat.not_lt_zero _), List.getD_eq_getElem?_getD, List.getElem?_replicate, if_pos hx]; rfl
theorem invP_set {l : List Nat} {i x : Nat} (h : OrdOk l.length l) (hi : l[i]? = some x) : (invP l i).set x i = invP l (i + 1) := by
  have hil := (List.getElem?_eq_some_iff.mp hi).1
  have hx : l.getD i 0 = x := by rw [List.getD_eq_getElem?_getD, hi]; rfl
  have hxl : x < l.length := h.lt x (List.mem_of_getElem? hi)
  have hidx : l.idxOf x = i := by rw [← hx]; exact idx_of_nodup h.nd hil
  refine ext_getD (by rw [List.length_set, invP_len, invP_len]) fun y hy => ?_
  rw [List.length_set, invP_len] at hy
  rw [getD_set (by rw [invP_len]; exact hxl), invP_getD hy, invP_getD hy]
  by_cases e : y = x
  · subst e
    rw [if_pos rfl, hidx, if_pos (Nat.lt_succ_self _)]
  · rw [if_neg e]
    have : l.idxOf y ≠ i := fun z => by
      have := (getD_idx (ord_has h y hy)).2
      rw [z, hx] at this
      exact e this.symm
    by_cases e2 : l.idxOf y < i
    · rw [if_pos e2, if_pos (by omega)]
    · rw [if_neg e2, if_neg (by omega)]
theorem invP_full {l : List Nat} (h : OrdOk l.length l) : invP l l.length = invN l := by
  refine ext_getD (by rw [invP_len, inv_len]) fun x hx => ?_
  rw [invP_len] at hx
  rw [invP_getD hx, inv_getD hx, if_pos (getD_idx (ord_has h x hx)).1]
theorem rep_nonsL (n : Nat) : (List.replicate n [V.non]).flatten = List.replicate n V.non := by
  induction n with
  | zero => rfl
  | succ n ih => rw [List.replicate_succ, List.replicate_succ, List.flatten_cons, ih]; rfl
theorem pf_inverse (h : S_inverse K vs G M R Z) : rd_inverse K (ends R Z) (sta 4 vs) G M := by
  obtain ⟨_, rfl, a, l, rfl, ha, ho, hl, q⟩ := sp1_of h
  clear h
  refine ⟨G, M, Wk.refl, sz1, fun z fz => ⟨natsV l, .inl (lat_more1 ha), [.int 0], at_n (n := 0) rfl, by omega, by rw [natsV_len]; omega, sz (by rw [natsV_len]; show 1 * _ ≤ _; omega), fun r fr => ?_⟩⟩
  have e0 : (List.replicate ((natsV l).length : Int).toNat [V.int 0]).flatten = natsV (invP l 0) := by
    rw [rep_zeros, invP_0, natsV_len, Int.toNat_natCast]
  rw [e0]
  refine ⟨G, (r, .lst (natsV (invP l 0))) :: M, Wk.drop1, natsV l, lat_more1 ha, fun i σ G' M' => ∃ y2 y3, σ = [some (.ref a), some (.ref r), y2, y3] ∧ G' = G ∧ M' = (r, .lst (natsV (invP l i))) :: M, ⟨none, none, rfl, rfl, rfl⟩, ?_, ?_, ?_⟩
  · rintro i σ G' M' _ ⟨y2, y3, rfl, rfl, rfl⟩; exact lat_more1 ha
  · rintro i σ G' M' hi ⟨y2, y3, rfl, rfl, rfl⟩
    have hi : i < (natsV l).length := hi
    rw [natsV_len] at hi
    obtain ⟨x, hx⟩ : ∃ x, l[i]? = some x := ⟨_, List.getElem?_eq_getElem hi⟩
    have hxl : x < l.length := ho.lt x (List.mem_of_getElem? hx)
    refine asg_E (natsV_get hx) ⟨G', _, Wk.refl, 0, natsV (invP l i), x, rfl, ixN_nat (by rw [natsV_len, invP_len]; exact hxl), ?_⟩
    refine ⟨G', _, Wk.refl, _, _, rfl, rfl, ?_⟩
    rw [natsV_set, invP_set ho hx]; rfl
  · rintro σ G' M' ⟨y2, y3, rfl, rfl, rfl⟩
    have en : (srcE K a (natsV l)).n = l.length := natsV_len _
    rw [en, invP_full ho]
    exact ⟨G', _, Wk.refl, ret0 (q r fr.cons)⟩
end

/-! ### no slot of a stair is asked for twice -/
/-- the slots that were asked for, stair by stair, since it was filled -/
structure OnceI (m n : Nat) (s : ClM) (us : Nat → List Nat) : Prop where
  u : ∀ st k, s.fu st = some k → ∀ x, x ∈ us st → (x < slotA m st ∧ ∀ c sl, s.ho c = some (st, sl) → sl ≠ x) ∨ ∃ j, k ≤ j ∧ j < n ∧ x = slotA m st + (j - k)
  lt : ∀ st k, s.fu st = some k → ∀ x, x ∈ us st → x < roomsN m st
section
/-! ### filling up -/
structure GoOk (kd : Nat → Option Kn) (F : Nat → Option Nat) (left rem out : List Nat) : Prop where
  len : out.length = rem.length
  nd : out.Nodup
  mem : ∀ x, x ∈ out → x ∈ left ∨ ∃ i, i ∈ rem ∧ F i = some x
  kn : ∀ (p i x : Nat), rem[p]? = some i → out[p]? = some x → kd x = kd i
  fx : ∀ (p i b : Nat), rem[p]? = some i → F i = some b → out[p]? = some b
end

section
/-! ### what the linked signs tell -/
def PrD (ps : List (Sg × Sg)) (d2 d1 : Nat) : Prop := ∃ p, p ∈ ps ∧ drN p.2 = some d2 ∧ drN p.1 = some d1
def PrI (d : Nat) (ps : List (Sg × Sg)) (i2 i1 : Nat) : Prop := ∃ p b s d1 b' s', p ∈ ps ∧ p.1 = Sg.item b s d1 i1 ∧ p.2 = Sg.item b' s' d i2
theorem put_get {h : List (Nat × Nat)} {c w x : Nat} : hGet (hPut h c w) x = if x = c then some w else hGet h x := hget_put h c w x
theorem linkS_some : ∀ (ps : List (Sg × Sg)) (h : List (Nat × Nat)) (d b : Nat), hGet (linkS ps h) d = some b → PrD ps d b ∨ hGet h d = some b
  | [], _, _, _, e => .inr e
  | p :: t, h, d, b, e => by
    unfold linkS at e
    rcases linkS_some t _ d b e with ⟨q, hq, e1, e2⟩ | e
    · exact .inl ⟨q, List.mem_cons_of_mem _ hq, e1, e2⟩
    · split at e
      · rename_i d2 d1 e1 e2
        rw [put_get] at e
        split at e
        · rename_i z; cases e; rw [z]; exact .inl ⟨p, List.mem_cons_self, e1, e2⟩
        · exact .inr e
      · exact .inr e
theorem linkS_keep : ∀ (ps : List (Sg × Sg)) (h : List (Nat × Nat)) (d b : Nat), hGet h d = some b → ∃ c, hGet (linkS ps h) d = some c
  | [], _, _, b, e => ⟨b, e⟩
  | p :: t, h, d, b, e => by
    unfold linkS
    split
    · rename_i d2 d1 e1 e2
      by_cases z : d = d2
      · exact linkS_keep t _ d d1 (by rw [put_get, if_pos z])
      · exact linkS_keep t _ d b (by rw [put_get, if_neg z]; exact e)
    · exact linkS_keep t _ d b e
theorem linkS_has : ∀ (ps : List (Sg × Sg)) (h : List (Nat × Nat)) (d b : Nat), PrD ps d b → ∃ c, hGet (linkS ps h) d = some c
  | [], _, _, _, ⟨_, z, _⟩ => nomatch z
  | p :: t, h, d, b, ⟨q, hq, e1, e2⟩ => by
    rcases List.mem_cons.mp hq with rfl | hq
    · unfold linkS
      rw [e1, e2]
      exact linkS_keep t _ d b (by rw [put_get, if_pos rfl])
    · unfold linkS
      exact linkS_has t _ d b ⟨q, hq, e1, e2⟩
theorem turnL_some {d : Nat} : ∀ (ps : List (Sg × Sg)) (h : List (Nat × Nat)) (i b : Nat), hGet (turnL d ps h) i = some b → PrI d ps i b ∨ hGet h i = some b
  | [], _, _, _, e => .inr e
  | p :: t, h, i, b, e => by
    unfold turnL at e
    rcases turnL_some t _ i b e with ⟨q, b1, s1, d1, b2, s2, hq, e1, e2⟩ | e
    · exact .inl ⟨q, b1, s1, d1, b2, s2, List.mem_cons_of_mem _ hq, e1, e2⟩
    · split at e
      · rename_i b1 s1 d1 i1 b2 s2 d2 i2 e1 e2
        split at e
        · rename_i z
          rw [put_get] at e
          split at e
          · rename_i z2; cases e; rw [z2]; exact .inl ⟨p, b1, s1, d1, b2, s2, List.mem_cons_self, e1, by rw [e2, z]⟩
          · exact .inr e
        · exact .inr e
      · exact .inr e
theorem turnL_keep {d : Nat} : ∀ (ps : List (Sg × Sg)) (h : List (Nat × Nat)) (i b : Nat), hGet h i = some b → ∃ c, hGet (turnL d ps h) i = some c
  | [], _, _, b, e => ⟨b, e⟩
  | p :: t, h, i, b, e => by
    unfold turnL
    split
    · rename_i b1 s1 d1 i1 b2 s2 d2 i2 e1 e2
      split
      · by_cases z : i = i2
        · exact turnL_keep t _ i i1 (by rw [put_get, if_pos z])
        · exact turnL_keep t _ i b (by rw [put_get, if_neg z]; exact e)
      · exact turnL_keep t _ i b e
    · exact turnL_keep t _ i b e
theorem turnL_has {d : Nat} : ∀ (ps : List (Sg × Sg)) (h : List (Nat × Nat)) (i b : Nat), PrI d ps i b → ∃ c, hGet (turnL d ps h) i = some c
  | [], _, _, _, ⟨_, _, _, _, _, _, z, _⟩ => nomatch z
  | p :: t, h, i, b, ⟨q, b1, s1, d1, b2, s2, hq, e1, e2⟩ => by
    rcases List.mem_cons.mp hq with rfl | hq
    · unfold turnL
      rw [e1, e2]
      show ∃ c, hGet (turnL d t (if d = d then hPut h i b else h)) i = some c
      rw [if_pos rfl]
      exact turnL_keep t _ i b (by rw [put_get, if_pos rfl])
    · unfold turnL
      exact turnL_has t _ i b ⟨q, b1, s1, d1, b2, s2, hq, e1, e2⟩
theorem drN_rel {f : Nat → Nat} {u : Nat → Nat → Nat} {s : Sg} {x : Nat} (h : drN (relS f u s) = some x) : ∃ d, drN s = some d ∧ x = f d := by
  refine of_now ?_
  simp (disch := with_unfolding_all
    cases s with
    | room => cases h
    | item b s d i => cases h; exact ⟨d, rfl, rfl⟩
    | way b s d p e => cases h; exact ⟨d, rfl, rfl⟩) only [↓now_true]
theorem drN_rel' {f : Nat → Nat} {u : Nat → Nat → Nat} {s : Sg} {d : Nat} (h : drN s = some d) : drN (relS f u s) = some (f d) := by
  refine of_now ?_
  simp (disch := with_unfolding_all
    cases s with
    | room => cases h
    | item b s d i => cases h; rfl
    | way b s d p e => cases h; rfl) only [↓now_true]
theorem rel_item {f : Nat → Nat} {u : Nat → Nat → Nat} {s : Sg} {b : Bool} {sh x y : Nat} (h : relS f u s = .item b sh x y) : ∃ d i, s = .item b sh d i ∧ x = f d ∧ y = u d i := by
  refine of_now ?_
  simp (disch := with_unfolding_all
    cases s with
    | room => cases h
    | item b s d i => cases h; exact ⟨d, i, rfl, rfl, rfl⟩
    | way => cases h) only [↓now_true]
variable {ks : List Kn} {one other : List Sg}
theorem sg_lt {s : Sg} {d : Nat} (h : SgOk ks s) (e : drN s = some d) : ∃ k, ks[d]? = some k := by
  refine of_now ?_
  simp (disch := with_unfolding_all
    cases s with
    | room => cases e
    | item b s d' i => cases e; obtain ⟨n, h, _⟩ := h; exact ⟨_, h⟩
    | way b s d' p q => cases e; obtain ⟨n, h, _⟩ := h; exact ⟨_, h⟩) only [↓now_true]
theorem Lk.src (h : Lk ks one other) : FOk ks.length (fun j => ks[j]?) (hGet (linkS (one.zip other) [])) ∧ ∀ p, p ∈ one.zip other → ∀ d2 d1, drN p.2 = some d2 → drN p.1 = some d1 → hGet (linkS (one.zip other) []) d2 = some d1 := by
  refine of_now ?_
  simp (disch := with_unfolding_all
    obtain ⟨lb, f, g, u, v, rfl, rfl, hd, hi, hk, ok1, ok2⟩ := h
    rw [List.zip_map']
    obtain ⟨ps, hps⟩ : ∃ ps, ps = lb.map (fun s => (relS f u s, relS g v s)) := ⟨_, rfl⟩
    rw [← hps]
    have pr : ∀ d2 d1, PrD ps d2 d1 → ∃ s d, s ∈ lb ∧ drN s = some d ∧ d2 = g d ∧ d1 = f d := fun d2 d1 ⟨p, hp, e1, e2⟩ => by
      rw [hps] at hp
      obtain ⟨s, hs, rfl⟩ := List.mem_map.mp hp
      obtain ⟨d, e3, e4⟩ := drN_rel e1
      obtain ⟨d', e5, e6⟩ := drN_rel e2
      rw [e3] at e5; cases e5
      exact ⟨s, d, hs, e3, e4, e6⟩
    have fn : ∀ d2 a b, PrD ps d2 a → PrD ps d2 b → a = b := fun d2 a b h1 h2 => by
      obtain ⟨s, d, hs, e1, e2, e3⟩ := pr _ _ h1
      obtain ⟨s', d', hs', e1', e2', e3'⟩ := pr _ _ h2
      have := (hd s s' d d' hs hs' e1 e1').2 (by rw [← e2, ← e2'])
      rw [e3, e3', this]
    have get : ∀ i b, hGet (linkS ps []) i = some b → PrD ps i b := fun i b e => (linkS_some ps [] i b e).elim id fun z => nomatch z
    refine ⟨⟨fun i b e => ?_, fun i j b e1 e2 => ?_⟩, fun p hp d2 d1 e1 e2 => ?_⟩
    · obtain ⟨s, d, hs, e1, rfl, rfl⟩ := pr _ _ (get i b e)
      obtain ⟨k1, h1⟩ := sg_lt (ok1 _ (List.mem_map.mpr ⟨s, hs, rfl⟩)) (drN_rel' e1)
      obtain ⟨k2, h2⟩ := sg_lt (ok2 _ (List.mem_map.mpr ⟨s, hs, rfl⟩)) (drN_rel' e1)
      exact ⟨(List.getElem?_eq_some_iff.mp h2).1, (List.getElem?_eq_some_iff.mp h1).1, hk s d hs e1⟩
    · obtain ⟨s, d, hs, x1, x2, x3⟩ := pr _ _ (get i b e1)
      obtain ⟨s', d', hs', y1, y2, y3⟩ := pr _ _ (get j b e2)
      have := (hd s s' d d' hs hs' x1 y1).1 (by rw [← x3, ← y3])
      rw [x2, y2, this]
    · have hP : PrD ps d2 d1 := ⟨p, hp, e1, e2⟩
      obtain ⟨c, hc⟩ := linkS_has ps [] d2 d1 hP
      rw [hc, fn d2 c d1 (get d2 c hc) hP]) only [↓now_true]
theorem Lk.turn (h : Lk ks one other) {i n : Nat} (hkn : ks[i]? = some ⟨false, n⟩) : FOk n (fun _ => none) (hGet (turnL i (one.zip other) [])) ∧ ∀ p, p ∈ one.zip other → ∀ b s d1 i1 b' s' i2, p.1 = Sg.item b s d1 i1 → p.2 = Sg.item b' s' i i2 → hGet (turnL i (one.zip other) []) i2 = some i1 := by
  refine of_now ?_
  simp (disch := with_unfolding_all
    obtain ⟨lb, f, g, u, v, rfl, rfl, hd, hi, hk, ok1, ok2⟩ := h
    rw [List.zip_map']
    obtain ⟨ps, hps⟩ : ∃ ps, ps = lb.map (fun s => (relS f u s, relS g v s)) := ⟨_, rfl⟩
    rw [← hps]
    have pr : ∀ i2 i1, PrI i ps i2 i1 → ∃ b s d it, Sg.item b s d it ∈ lb ∧ i = g d ∧ i2 = v d it ∧ i1 = u d it := fun i2 i1 ⟨p, b1, s1, d1, b2, s2, hp, e1, e2⟩ => by
      rw [hps] at hp
      obtain ⟨s, hs, rfl⟩ := List.mem_map.mp hp
      obtain ⟨d, it, rfl, e4, e5⟩ := rel_item e2
      obtain ⟨d', it', z, e6, e7⟩ := rel_item (show relS f u (Sg.item _ _ d it) = _ from e1)
      cases z
      exact ⟨_, _, d, it, hs, e4, e5, e7⟩
    have inj : ∀ {b s d it b' s' d' it' : _}, Sg.item b s d it ∈ lb → Sg.item b' s' d' it' ∈ lb → i = g d → i = g d' → d = d' := fun h1 h2 e1 e2 => (hd _ _ _ _ h1 h2 rfl rfl).2 (by rw [← e1, ← e2])
    have fn : ∀ i2 a b, PrI i ps i2 a → PrI i ps i2 b → a = b := fun i2 a b h1 h2 => by
      obtain ⟨b1, s, d, it, hs, e1, e2, e3⟩ := pr _ _ h1
      obtain ⟨b2, s', d', it', hs', e1', e2', e3'⟩ := pr _ _ h2
      have := inj hs hs' e1 e1'
      subst this
      have := (hi _ _ _ _ _ _ _ hs hs').2 (by rw [← e2, ← e2'])
      rw [e3, e3', this]
    have get : ∀ i' b, hGet (turnL i ps []) i' = some b → PrI i ps i' b := fun i' b e => (turnL_some ps [] i' b e).elim id fun z => nomatch z
    refine ⟨⟨fun i' b e => ?_, fun i' j b e1 e2 => ?_⟩, fun p hp b s d1 i1 b' s' i2 e1 e2 => ?_⟩
    · obtain ⟨b1, s, d, it, hs, e1, rfl, rfl⟩ := pr _ _ (get i' b e)
      obtain ⟨n1, h1, l1⟩ : SgOk ks (.item b1 s (f d) (u d it)) := ok1 _ (List.mem_map.mpr ⟨_, hs, rfl⟩)
      obtain ⟨n2, h2, l2⟩ : SgOk ks (.item b1 s (g d) (v d it)) := ok2 _ (List.mem_map.mpr ⟨_, hs, rfl⟩)
      rw [hk _ _ hs rfl, ← e1, hkn] at h1
      rw [← e1, hkn] at h2
      cases h1; cases h2
      exact ⟨l2, l1, rfl⟩
    · obtain ⟨b1, s, d, it, hs, x1, x2, x3⟩ := pr _ _ (get i' b e1)
      obtain ⟨b2, s', d', it', hs', y1, y2, y3⟩ := pr _ _ (get j b e2)
      have := inj hs hs' x1 y1
      subst this
      have := (hi _ _ _ _ _ _ _ hs hs').1 (by rw [← x3, ← y3])
      rw [x2, y2, this]
    · have hP : PrI i ps i2 i1 := ⟨p, b, s, d1, b', s', hp, e1, e2⟩
      obtain ⟨c, hc⟩ := turnL_has ps [] i2 i1 hP
      rw [hc, fn i2 c i1 (get i2 c hc) hP]) only [↓now_true]
end

section
/-! ### the signs of any two rows of asks go by the same pattern -/
variable {ks : List Kn}
/-! spare -/
/-! trees -/
/-! stairs -/
end

section
variable {K : PySem.W.Frag} {vs : List V} {G : Hp} {M : Mem} {R : KR} {Z : KX}
end

section
variable {K : PySem.W.Frag} {vs : List V} {G : Hp} {M : Mem} {R : KR} {Z : KX}
end

section
variable {K : PySem.W.Frag} {vs : List V} {G : Hp} {M : Mem} {R : KR} {Z : KX}
end

section
variable {K : PySem.W.Frag} {vs : List V} {G : Hp} {M : Mem} {R : KR} {Z : KX}
theorem Pc.at_ex {G' : Hp} {c : Pc} (e : Ex G G') (h : c.at K G) : c.at K G' := ex_t e h
theorem cellsP_snoc (cs : List Pc) (c : Pc) : cellsP (cs ++ [c]) = cellsP cs ++ c.cells := by unfold cellsP; rw [List.flatMap_append, List.flatMap_cons, List.flatMap_nil, List.append_nil]
end

section
variable {ks : List Kn} {ds : List Dr} {ps qs : List Pp}
theorem papsrc_at (h : PapOk ks ps) {pp : Pp} {k : Kn} (e : ks[pp.src]? = some k) : ∃ pa, ps[pp.src]? = some pa ∧ srcOf ps pp.src = pa.src ∧ turnOf ps pp.src = pa.turn.getD [] ∧ PpOk ks k pa := by
  obtain ⟨pa, h1, h2, h3⟩ := h.at e
  exact ⟨pa, h1, by unfold srcOf; rw [h2], by unfold turnOf; rw [h2], h3⟩
theorem join_ok (h : PapOk ks ps) (g : PapOk ks qs) : PapOk ks (joinP ps qs) := by
  constructor
  · refine a2_map (fun k pp z => ?_) g.ok
    obtain ⟨z1, z2, z3⟩ := z
    obtain ⟨pa, a1, a2, a3, a4, a5, a6⟩ := papsrc_at h z1
    refine ⟨by rw [a2]; exact a4, fun hl => by rw [z2 hl]; rfl, fun hl => ?_⟩
    obtain ⟨l, l1, l2⟩ := z3 hl
    obtain ⟨l', l3, l4⟩ := a6 hl
    refine ⟨_, by rw [l1]; rfl, ?_⟩
    rw [a3, l3]
    exact comp_ord l2 l4
  · have e : (joinP ps qs).map (·.src) = (qs.map (·.src)).map fun j => (ps.map (·.src)).getD j 0 := by
      unfold joinP
      rw [List.map_map, List.map_map]
      refine List.map_congr_left fun pp hp => ?_
      have : pp.src < ps.length := by
        have := src_lt g _ (List.mem_map_of_mem hp)
        rw [← g.len, h.len] at this; exact this
      exact (srcs_getD this).symm
    rw [e]
    have o1 := srcs_ord g
    have o2 := srcs_ord h
    rw [← h.len, g.len] at o2
    exact (comp_ord o1 o2).nd
theorem map_getD {f : Nat → Nat} {l : List Nat} {j : Nat} (h : j < l.length) : (l.map f).getD j 0 = f (l.getD j 0) := by
  rw [List.getD_eq_getElem?_getD, List.getElem?_map, List.getElem?_eq_getElem h, getD_lt h]; rfl
/-- led by both, one behind the other -/
theorem join_ledD (hd : A2 DrOk ks ds) (h : PapOk ks ps) (g : PapOk ks qs) : ledD (joinP ps qs) ds = ledD qs (ledD ps ds) := by
  unfold joinP
  show ((qs.map _).map (ledP ds)) = qs.map (ledP (ledD ps ds))
  rw [List.map_map]
  refine List.map_congr_left fun pp hp => ?_
  obtain ⟨i, hi⟩ := List.getElem?_of_mem hp
  obtain ⟨k, hk, z1, z2, z3⟩ := g.ok.get hi
  obtain ⟨pa, a1, a2, a3, a4, a5, a6⟩ := papsrc_at h z1
  obtain ⟨pa', b1, _, _, b2⟩ := ledD_getD (ds := ds) h z1
  rw [a1] at b1
  cases b1
  show ledP ds ⟨srcOf ps pp.src, pp.turn.map fun l => l.map fun j => (turnOf ps pp.src).getD j 0⟩ = _
  unfold ledP
  cases hl : k.leaf with
  | true =>
    rw [z2 hl]
    show ds.getD (srcOf ps pp.src) (.leaf 0) = (ledD ps ds).getD pp.src (.leaf 0)
    rw [b2, a2]
    unfold ledP
    rw [a5 hl]
  | false =>
    obtain ⟨l, l1, l2⟩ := z3 hl
    obtain ⟨l', l3, l4⟩ := a6 hl
    rw [l1, a3, l3, a2]
    obtain ⟨x, x1, x2, x3⟩ := drk_at hd a4
    have hO := row_of_dr x3 hl
    have hc := comp_ord l4 hO
    show Dr.row (rowOf ((l.map fun j => l'.getD j 0).map fun j => (orderOf (rowD (ds.getD pa.src (.leaf 0)))).getD j 0)) = Dr.row (rowOf (l.map fun j => (orderOf (rowD ((ledD ps ds).getD pp.src (.leaf 0)))).getD j 0))
    rw [b2, x2]
    unfold ledP
    rw [l3, x2]
    show _ = Dr.row (rowOf (l.map fun j => (orderOf (rowOf (l'.map fun j => (orderOf (rowD x)).getD j 0))).getD j 0))
    rw [order_row (by rw [hc.len]; exact hc), List.map_map]
    congr 2
    refine List.map_congr_left fun j hj => ?_
    have hj : j < l'.length := by rw [l4.len]; exact l2.lt j hj
    exact (map_getD (f := fun j => (orderOf (rowD x)).getD j 0) hj).symm
theorem inv_comp {n : Nat} {l o : List Nat} (hl : OrdOk n l) (ho : OrdOk n o) : ((invN l).map fun j => (l.map fun j => o.getD j 0).getD j 0) = o ∧ (l.map fun j => ((invN l).map fun j => o.getD j 0).getD j 0) = o := by
  constructor
  · refine ext_getD (by rw [List.length_map, inv_len, hl.len, ho.len]) fun i hi => ?_
    rw [List.length_map, inv_len] at hi
    have hi' : i < n := by rw [← hl.len]; exact hi
    obtain ⟨g1, g2⟩ := getD_idx (ord_has hl i hi')
    rw [map_getD (by rw [inv_len]; exact hi), inv_getD hi, map_getD g1, g2]
  · refine ext_getD (by rw [List.length_map, hl.len, ho.len]) fun i hi => ?_
    rw [List.length_map] at hi
    have hx : l.getD i 0 < l.length := by rw [getD_lt hi, hl.len]; exact hl.lt _ (List.getElem_mem hi)
    rw [map_getD hi, map_getD (by rw [inv_len]; exact hx), inv_getD hx, idx_of_nodup hl.nd hi]
theorem drs_ext {n : Nat} {as bs : List Dr} (ha : as.length = n) (hb : bs.length = n) (h : ∀ i, i < n → as.getD i (.leaf 0) = bs.getD i (.leaf 0)) : as = bs := by
  refine List.ext_getElem (by omega) fun i h1 h2 => ?_
  have := h i (by omega)
  rw [List.getD_eq_getElem?_getD, List.getD_eq_getElem?_getD, List.getElem?_eq_getElem h1, List.getElem?_eq_getElem h2] at this
  exact this
theorem ledD_len : (ledD ps ds).length = ps.length := List.length_map ..
theorem back_at (h : PapOk ks ps) {s : Nat} {k : Kn} (e : ks[s]? = some k) : ∃ (j : Nat) (pp : Pp), ks[j]? = some k ∧ ps[j]? = some pp ∧ PpOk ks k pp ∧ pp.src = s ∧ (backP ps)[s]? = some ⟨j, pp.turn.map invN⟩ := by
  have hs : s < ps.length := by rw [← h.len]; exact (List.getElem?_eq_some_iff.mp e).1
  obtain ⟨g1, g2⟩ := getD_idx (ord_has (srcs_ord h) s hs)
  rw [List.length_map] at g1
  obtain ⟨kj, hkj⟩ : ∃ kj, ks[(ps.map (·.src)).idxOf s]? = some kj := ⟨_, List.getElem?_eq_getElem (by rw [h.len]; exact g1)⟩
  obtain ⟨pp, h1, h2, h3⟩ := h.at hkj
  rw [srcs_getD g1] at g2
  unfold srcOf at g2
  rw [h2] at g2
  have hk : kj = k := by
    have := h3.1
    rw [g2, e] at this
    exact (Option.some.inj this).symm
  subst hk
  exact ⟨_, pp, hkj, h1, h3, g2, by rw [back_get hs, h2]⟩
theorem back_ledD (hd : A2 DrOk ks ds) (h : PapOk ks ps) : ledD (backP ps) (ledD ps ds) = ds := by
  refine drs_ext (n := ks.length) (by rw [ledD_len, back_len, h.len]) hd.len.symm fun s hs => ?_
  obtain ⟨k, hk⟩ : ∃ k, ks[s]? = some k := ⟨_, List.getElem?_eq_getElem hs⟩
  obtain ⟨j, pp, hj, hp, ⟨p1, p2, p3⟩, hsrc, hb⟩ := back_at h hk
  obtain ⟨pb, b1, _, _, b2⟩ := ledD_getD (ds := ledD ps ds) (back_ok h) hk
  rw [hb] at b1
  cases b1
  obtain ⟨pa, a1, _, _, a2⟩ := ledD_getD (ds := ds) h hj
  rw [hp] at a1
  cases a1
  obtain ⟨x, x1, x2, x3⟩ := drk_at hd hk
  rw [b2, x2]
  unfold ledP
  cases hl : k.leaf with
  | true =>
    rw [p2 hl]
    show (ledD ps ds).getD j (.leaf 0) = x
    rw [a2]
    unfold ledP
    rw [p2 hl, hsrc]; exact x2
  | false =>
    obtain ⟨l, l1, l2⟩ := p3 hl
    rw [l1]
    show Dr.row (rowOf ((invN l).map fun i => (orderOf (rowD ((ledD ps ds).getD j (.leaf 0)))).getD i 0)) = x
    rw [a2]
    unfold ledP
    rw [l1, hsrc, x2]
    have hO := row_of_dr x3 hl
    have hc := comp_ord l2 hO
    show Dr.row (rowOf ((invN l).map fun i => (orderOf (rowOf (l.map fun j => (orderOf (rowD x)).getD j 0))).getD i 0)) = x
    rw [order_row (by rw [hc.len]; exact hc), (inv_comp l2 hO).1]
    cases x with
    | leaf n => obtain ⟨z, _⟩ := x3; rw [hl] at z; cases z
    | row r => exact congrArg Dr.row (row_order x3.2.2)
theorem led_backD (hd : A2 DrOk ks ds) (h : PapOk ks ps) : ledD ps (ledD (backP ps) ds) = ds := by
  refine drs_ext (n := ks.length) (by rw [ledD_len, h.len]) hd.len.symm fun i hi => ?_
  obtain ⟨k, hk⟩ : ∃ k, ks[i]? = some k := ⟨_, List.getElem?_eq_getElem hi⟩
  obtain ⟨pp, a1, _, ⟨p1, p2, p3⟩, a2⟩ := ledD_getD (ds := ledD (backP ps) ds) h hk
  obtain ⟨j, pj, hj, hpj, ⟨_, _, _⟩, hsrc, hb⟩ := back_at h p1
  have hji : j = i := by
    have hn := h.nd
    have e1 : (ps.map (·.src))[j]? = some pp.src := by rw [List.getElem?_map, hpj]; exact congrArg some hsrc
    have e2 : (ps.map (·.src))[i]? = some pp.src := by rw [List.getElem?_map, a1]; rfl
    obtain ⟨h1, e1⟩ := List.getElem?_eq_some_iff.mp e1
    obtain ⟨h2, e2⟩ := List.getElem?_eq_some_iff.mp e2
    exact (List.getElem_inj hn).mp (e1.trans e2.symm)
  subst hji
  rw [a1] at hpj
  cases hpj
  obtain ⟨pb, b1, _, _, b2⟩ := ledD_getD (ds := ds) (back_ok h) p1
  rw [hb] at b1
  cases b1
  obtain ⟨x, x1, x2, x3⟩ := drk_at hd hk
  rw [a2, x2]
  unfold ledP
  cases hl : k.leaf with
  | true =>
    rw [p2 hl]
    show (ledD (backP ps) ds).getD pp.src (.leaf 0) = x
    rw [b2]
    unfold ledP
    rw [p2 hl]; exact x2
  | false =>
    obtain ⟨l, l1, l2⟩ := p3 hl
    rw [l1]
    show Dr.row (rowOf (l.map fun i => (orderOf (rowD ((ledD (backP ps) ds).getD pp.src (.leaf 0)))).getD i 0)) = x
    rw [b2]
    unfold ledP
    rw [l1, x2]
    have hO := row_of_dr x3 hl
    have hc := comp_ord (inv_ok l2) hO
    show Dr.row (rowOf (l.map fun i => (orderOf (rowOf ((invN l).map fun j => (orderOf (rowD x)).getD j 0))).getD i 0)) = x
    rw [order_row (by rw [hc.len]; exact hc), (inv_comp l2 hO).2]
    cases x with
    | leaf n => obtain ⟨z, _⟩ := x3; rw [hl] at z; cases z
    | row r => exact congrArg Dr.row (row_order x3.2.2)
end

section
variable {K : PySem.W.Frag} {vs : List V} {G : Hp} {M : Mem} {R : KR} {Z : KX}
theorem lat_ap {x : Addr × HO} {Mx : Mem} {a : Addr} {xs : List V} (h : LstAt K G M a xs) : LstAt K G (x :: (Mx ++ M)) a xs := h.elim (fun z => .inl (List.mem_cons_of_mem _ (List.mem_append.mpr (.inr z)))) .inr
theorem pf_joined (h : S_joined K vs G M R Z) : rd_joined K (ends R Z) (sta 8 vs) G M := by
  obtain ⟨_, _, rfl, p, q, ks, ps, qs, rfl, rfl, hp, hpo, hq, hqo, hkn, hkl, k⟩ := sp2_of h
  clear h
  obtain ⟨us2, hu2, ha2⟩ := hq
  have hl2 := ha2.len
  have hql := hqo.len
  have jl : (joinP ps qs).length = ks.length := by unfold joinP; rw [List.length_map, hql]
  refine ⟨G, M, Wk.refl, sz0, fun f ff => ?_⟩
  refine ⟨G, (f, .lst []) :: (cellsP [] ++ M), Wk.refl, us2, lat_more1 hu2, fun i σ G' M' => ∃ (y3 y4 y5 y6 y7 : Option V) (cs : List Pc), σ = [some (.ref p), some (.ref q), some (.ref f), y3, y4, y5, y6, y7] ∧ Ex G G' ∧ M' = (f, .lst (cs.map fun c => .ref c.T)) :: (cellsP cs ++ M) ∧ (∀ c, c ∈ cs → c.at K G') ∧ cs.map Pc.pp = (joinP ps qs).take i ∧ cs.length = i,
    ⟨none, none, none, none, none, [], rfl, Ex.refl, rfl, fun _ z => (nomatch z), rfl, rfl⟩, ?_, ?_, ?_⟩
  · rintro i σ G' M' _ ⟨y3, y4, y5, y6, y7, cs, rfl, ex, rfl, _⟩; exact lat_ap (lat_ex ex hu2)
  · rintro i σ G' M' hi ⟨y3, y4, y5, y6, y7, cs, rfl, ex, rfl, hat, hpp, hcl⟩
    have hi : i < us2.length := hi
    obtain ⟨pp, hpq⟩ : ∃ pp, qs[i]? = some pp := ⟨_, List.getElem?_eq_getElem (by omega)⟩
    obtain ⟨k0, hk0⟩ : ∃ k0, ks[i]? = some k0 := ⟨_, List.getElem?_eq_getElem (by omega)⟩
    obtain ⟨v, hv, T, w, rfl, hT, hw⟩ := ha2.get hpq
    obtain ⟨z1, z2, z3⟩ := a2_pt hqo.ok hk0 hpq
    obtain ⟨us1, v1, pa, hu1, hv1, hm1, b1, b2, b3, b4, b5⟩ := pap_at hp hpo z1
    obtain ⟨T1, w1, rfl, hT1, hw1⟩ := hm1
    have hsrc : srcOf ps pp.src = pa.src := by unfold srcOf; rw [b2]
    have htrn : turnOf ps pp.src = pa.turn.getD [] := by unfold turnOf; rw [b2]
    have hjp : (joinP ps qs)[i]? = some ⟨pa.src, pp.turn.map fun l => l.map fun j => (pa.turn.getD []).getD j 0⟩ := by
      unfold joinP
      rw [List.getElem?_map, hpq]
      show some (Pp.mk (srcOf ps pp.src) (pp.turn.map fun l => l.map fun j => (turnOf ps pp.src).getD j 0)) = _
      rw [hsrc, htrn]
    refine asg_L hv ⟨_, ex_t ex hT, ?_⟩
    refine ⟨G', _, Wk.refl, us1, _, .inl (lat_ap (lat_ex ex hu1)), atI_nat hv1, _, ex_t ex hT1, ?_⟩
    have hcl2 : (cs.map fun c => V.ref c.T).length ≤ 1000 := by rw [List.length_map]; omega
    cases hl : k0.leaf with
    | true =>
      have ht := z2 hl
      rw [ht] at hw
      obtain rfl : w = .non := hw
      refine ⟨G', _, Wk.refl, tyl_n (n := 0) rfl, sz2, fun P fP => ⟨0, _, rfl, Nat.lt_of_le_of_lt (m := 1000) hcl2 (by decide), ?_⟩⟩
      have eP := Ex.new (o := .tup [.int (pa.src : Nat), .non]) fP
      refine ⟨_, _, Wk.refl, _, _, _, _, _, cs ++ [⟨P, pa.src, none⟩], rfl, ex.trans eP, ?_, fun c hc => ?_, ?_, by rw [List.length_append, hcl]; rfl⟩
      · rw [cellsP_snoc, List.map_append]
        show (f, _) :: (cellsP cs ++ M) = (f, _) :: ((cellsP cs ++ []) ++ M)
        rw [List.append_nil]; rfl
      · rcases List.mem_append.mp hc with hc | hc
        · exact Pc.at_ex eP (hat c hc)
        · rw [List.mem_singleton.mp hc]; exact sqt_new
      · rw [List.map_append, hpp, take_succ' hjp, ht]; rfl
    | false =>
      obtain ⟨l, ht, hol⟩ := z3 hl
      obtain ⟨l1, ht1, hol1⟩ := b5 hl
      rw [ht] at hw
      obtain ⟨c, rfl, hc⟩ := hw
      rw [ht1] at hw1 hjp
      obtain ⟨c1, rfl, hc1⟩ := hw1
      rw [ht] at hjp
      have h64 := (hkn k0 (List.mem_of_getElem? hk0)).1
      obtain ⟨M0, hM0⟩ : ∃ M0 : Mem, M0 = (f, HO.lst (cs.map fun c => .ref c.T)) :: (cellsP cs ++ M) := ⟨_, rfl⟩
      have hc' : LstAt K G' M0 c (natsV l) := by rw [hM0]; exact lat_ap (lat_ex ex hc)
      have hc1' : LstAt K G' M0 c1 (natsV l1) := by rw [hM0]; exact lat_ap (lat_ex ex hc1)
      rw [← hM0]
      refine ⟨G', M0, Wk.refl, by rw [hM0]; exact tyl_n (n := 0) rfl, natsV l, hc', sz (by show (natsV l).length ≤ _; rw [natsV_len, hol.len]; omega), fun j acc G2 M2 => G2 = G' ∧ M2 = M0 ∧ acc = natsV ((l.take j).map fun x => l1.getD x 0), ⟨rfl, rfl, rfl⟩, ?_, ?_, ?_⟩
      · rintro j acc G2 M2 _ ⟨rfl, rfl, _⟩; exact hc'
      · rintro j acc G2 M2 X hj hac ⟨rfl, rfl, rfl⟩ fX
        have hj : j < (natsV l).length := hj
        rw [natsV_len] at hj
        obtain ⟨x, hx⟩ : ∃ x, l[j]? = some x := ⟨_, List.getElem?_eq_getElem hj⟩
        have hxl : x < l1.length := by rw [hol1.len]; exact hol.lt x (List.mem_of_getElem? hx)
        refine asg_L (natsV_get hx) ⟨rfl, natsV l1, _, .inl (lat_more1 hc1'), atI_natD hxl, _, _, Wk.refl, rfl, rfl, ?_⟩
        rw [take_succ' hx, List.map_append]
        unfold natsV; rw [List.map_append]; rfl
      · rintro acc G2 M2 y ⟨rfl, rfl, rfl⟩ hac fy
        have en : (srcL K c (natsV l)).n = l.length := natsV_len _
        rw [en, List.take_length]
        obtain ⟨lj, hlj⟩ : ∃ lj, lj = l.map fun x => l1.getD x 0 := ⟨_, rfl⟩
        rw [← hlj]
        refine ⟨sz2, fun P fP => ⟨1, cs.map fun c => .ref c.T, by rw [hM0]; rfl, Nat.lt_of_le_of_lt (m := 1000) hcl2 (by decide), ?_⟩⟩
        have eP := Ex.new (o := .tup [.int (pa.src : Nat), .ref y]) fP
        refine ⟨_, (f, .lst ((cs.map fun c => .ref c.T) ++ [.ref P])) :: ((cellsP cs ++ [(y, .lst (natsV lj))]) ++ M), ?_, _, _, _, _, _, cs ++ [⟨P, pa.src, some (y, lj)⟩], rfl, ex.trans eP, ?_, fun c hc => ?_, ?_, by rw [List.length_append, hcl]; rfl⟩
        · rw [hM0]
          refine Wk.perm ?_
          generalize cellsP cs = A
          (classical (rw [List.perm_iff_count]; intro x; simp only [List.set_cons_zero, List.set_cons_succ, List.cons_append, List.nil_append, List.append_assoc, List.append_eq, List.count_append, List.count_cons, List.count_nil] <;> omega))
        · rw [cellsP_snoc, List.map_append]; rfl
        · rcases List.mem_append.mp hc with hc | hc
          · exact Pc.at_ex eP (hat c hc)
          · rw [List.mem_singleton.mp hc]; exact sqt_new
        · rw [List.map_append, hpp, take_succ' hjp, hlj]; rfl
  · rintro σ G' M' ⟨y3, y4, y5, y6, y7, cs, rfl, ex, rfl, hat, hpp, hcl⟩
    have en : (srcL K q us2).n = ks.length := by show us2.length = _; omega
    rw [en, List.take_of_length_le (Nat.le_of_eq jl)] at hpp
    exact ⟨G', _, Wk.refl, ret0 (k f cs G' ex hat hpp)⟩
end

section
variable {K : PySem.W.Frag} {vs : List V} {G : Hp} {M : Mem} {R : KR} {Z : KX}
/-- a told leading lies there -/
theorem pcr_pap {q : Addr} {cs : List Pc} {ps : List Pp} (h : ∀ c, c ∈ cs → c.at K G) (e : cs.map Pc.pp = ps) : PapM K G ((q, .lst (cs.map fun c => .ref c.T)) :: (cellsP cs ++ M)) q ps := by
  refine ⟨_, lat_n (n := 0) rfl, ?_⟩
  rw [← e]
  suffices H : ∀ (l : List Pc) (Mx : Mem), (∀ c, c ∈ l → c.at K G) → (∀ c, c ∈ l → ∀ x, x ∈ c.cells → x ∈ Mx) → A2 (PpM K G Mx) (l.map fun c => V.ref c.T) (l.map Pc.pp) by
    refine H cs _ h fun c hc x hx => ?_
    exact List.mem_cons_of_mem _ (List.mem_append.mpr (.inl (List.mem_flatMap.mpr ⟨c, hc, hx⟩)))
  intro l
  induction l with
  | nil => intros; exact .nil
  | cons c l ih =>
    intro Mx h1 h2
    refine .cons ⟨c.T, c.w, rfl, h1 c List.mem_cons_self, ?_⟩ (ih Mx (fun x hx => h1 x (List.mem_cons_of_mem _ hx)) fun x hx => h2 x (List.mem_cons_of_mem _ hx))
    obtain ⟨T, src, tn⟩ := c
    cases tn with
    | none => rfl
    | some p => exact ⟨p.1, rfl, .inl (h2 _ List.mem_cons_self _ List.mem_cons_self)⟩
theorem PapM.ap {x : Addr × HO} {Mx : Mem} {p : Addr} {ps : List Pp} (h : PapM K G M p ps) : PapM K G (x :: (Mx ++ M)) p ps := PapM.more (Mx := x :: Mx) h
theorem drv_dp {us : List V} {ds : List Dr} (h : A2 (DrV K G []) us ds) : DpAll K G us (ds.map drD) := by
  induction h with
  | nil => exact .nil
  | @cons v d _ _ a _ ih =>
    refine .cons ?_ ih
    cases d with
    | leaf n =>
      obtain rfl : v = .int n := a
      exact .int _
    | row l =>
      obtain ⟨b, rfl, hb⟩ := a
      rcases hb with z | z
      · cases z
      · exact .lst z (dp_nats l)
theorem drsg_dat {t : Addr} {ds : List Dr} (h : DrsG K G t ds) : DatAt K G M (.ref t) (.list (ds.map drD)) := by
  obtain ⟨us, h1, h2⟩ := h
  exact dat_list (.inr h1) (dats_g (drv_dp h2))
end

section
variable {K : PySem.W.Frag} {vs : List V} {G : Hp} {M : Mem} {R : KR} {Z : KX}
/-! papers as data -/
def turnD : Option (List Nat) → PyData
  | none => .none
  | some l => .list (natsD l)
def ppD (pp : Pp) : PyData := .tuple [.int (pp.src : Nat), turnD pp.turn]
theorem turn_dat {w : V} {t : Option (List Nat)} (h : TurnM K G M w t) : DatAt K G M w (turnD t) := by
  cases t with
  | none => obtain rfl : w = .non := h; exact dat_non
  | some l => obtain ⟨b, rfl, hb⟩ := h; exact dat_nats hb
theorem pp_dat {v : V} {pp : Pp} (h : PpM K G M v pp) : DatAt K G M v (ppD pp) := by
  obtain ⟨T, w, rfl, hT, hw⟩ := h
  exact dat_tup hT (dats_cons dat_int (dats_cons (turn_dat hw) dats_nil))
theorem pps_dat {us : List V} {ps : List Pp} (h : A2 (PpM K G M) us ps) : DatAll K G M us (ps.map ppD) := by
  induction h with
  | nil => exact dats_nil
  | cons h _ ih => exact dats_cons (pp_dat h) ih
end

section
variable {K : PySem.W.Frag} {vs : List V} {G : Hp} {M : Mem} {R : KR} {Z : KX}
/-! how long papers, draws and asks are, shown -/
theorem shb_nats {l : List Nat} (h : ∀ x, x ∈ l → x < 1000) : Shb 1 l.length (.list (natsD l)) := by
  have : Shb 1 ((natsD l).length * (0 + 1)) (.list (natsD l)) := shb_list fun d hd => by
    obtain ⟨n, hn, rfl⟩ := List.mem_map.mp hd
    exact shb_nat (Nat.lt_trans (h n hn) (by decide))
  refine this.up (Nat.le_refl _) ?_
  have : (natsD l).length = l.length := List.length_map ..
  omega
theorem shb_drK {k : Kn} {d : Dr} (hk : KnOk k) (h : DrOk k d) : Shb 1 64 (drD d) := by
  cases d with
  | leaf n =>
    have h6 := hk.2.1 h.1
    have : 2 ^ k.n ≤ 64 := Nat.pow_le_pow_right (n := 2) (by decide) h6
    have := h.2
    exact (shb_nat (Nat.lt_trans (m := 64) (by omega) (by decide))).up (by decide) (by decide)
  | row l =>
    obtain ⟨_, h2, h3⟩ := h
    have hk1 := hk.1
    refine (shb_nats (l := l) fun x hx => ?_).up (Nat.le_refl _) (by omega)
    obtain ⟨i, hi⟩ := List.getElem?_of_mem hx
    have := h3 i x hi
    have := (List.getElem?_eq_some_iff.mp hi).1
    omega
theorem shb_drsK {ks : List Kn} {drs : List Dr} (hk : ∀ k, k ∈ ks → KnOk k) (hl : ks.length ≤ 1000) (h : A2 DrOk ks drs) : Shb 2 65000 (.list (drs.map drD)) := by
  have := shb_list (p := 1) (w := 64) (ds := drs.map drD) fun d hd => by
    obtain ⟨x, hx, rfl⟩ := List.mem_map.mp hd
    obtain ⟨i, hi⟩ := List.getElem?_of_mem hx
    obtain ⟨k, hki, hkd⟩ := h.get hi
    exact shb_drK (hk k (List.mem_of_getElem? hki)) hkd
  refine this.up (Nat.le_refl _) ?_
  rw [List.length_map, ← h.len]; omega
theorem shb_pp {s : Nat} {t : Option (List Nat)} (hs : s < 1000) (h : ∀ l, t = some l → l.length ≤ 65 ∧ ∀ x, x ∈ l → x < 1000) : Shb 2 132 (ppD ⟨s, t⟩) := by
  have ht : Shb 1 65 (turnD t) := by
    cases t with
    | none => exact shb_non.up (by decide) (by decide)
    | some l =>
      obtain ⟨h1, h2⟩ := h l rfl
      exact (shb_nats h2).up (Nat.le_refl _) h1
  exact shb_tup (p := 1) (w := 65) (ds := [.int (s : Nat), turnD t]) fun d hd => by
    rcases List.mem_cons.mp hd with rfl | hd
    · exact (shb_nat (Nat.lt_trans hs (by decide))).up (by decide) (by decide)
    · rw [List.mem_singleton.mp hd]; exact ht
/-- a paper, perhaps with a row one longer -/
def PpSm (pp : Pp) : Prop := pp.src < 1000 ∧ ∀ l, pp.turn = some l → l.length ≤ 65 ∧ ∀ x, x ∈ l → x < 1000
theorem shb_pps {ps : List Pp} (hl : ps.length ≤ 1000) (h : ∀ pp, pp ∈ ps → PpSm pp) : Shb 3 133000 (.list (ps.map ppD)) := by
  have := shb_list (p := 2) (w := 132) (ds := ps.map ppD) fun d hd => by
    obtain ⟨⟨s, t⟩, hx, rfl⟩ := List.mem_map.mp hd
    exact shb_pp (h _ hx).1 (h _ hx).2
  refine this.up (Nat.le_refl _) ?_
  rw [List.length_map]; omega
theorem pap_small {ks : List Kn} {ps : List Pp} (h : PapOk ks ps) (hk : ∀ k, k ∈ ks → KnOk k) (hl : ks.length ≤ 1000) : ∀ pp, pp ∈ ps → pp.src < 1000 ∧ ∀ l, pp.turn = some l → 1 ≤ l.length ∧ l.length ≤ 64 ∧ ∀ x, x ∈ l → x < 64 := fun pp hp => by
  obtain ⟨i, hi⟩ := List.getElem?_of_mem hp
  obtain ⟨k, hki, h1, h2, h3⟩ := h.ok.get hi
  have h64 := (hk k (List.mem_of_getElem? hki)).1
  refine ⟨by have := (List.getElem?_eq_some_iff.mp h1).1; omega, fun l e => ?_⟩
  cases hl : k.leaf with
  | true => rw [h2 hl] at e; cases e
  | false =>
    obtain ⟨l', e', ho⟩ := h3 hl
    rw [e'] at e
    cases e
    have h11 := (hk k (List.mem_of_getElem? hki)).2.2 hl
    exact ⟨by rw [ho.len]; exact h11, by rw [ho.len]; exact h64, fun x hx => Nat.lt_of_lt_of_le (ho.lt x hx) h64⟩
theorem shb_len {d : PyData} {p w : Nat} (s : Shb p w d) (hw : w ≤ 1000000) : d.shown.length ≤ sizeLine := PyData.shown_fits_bulk (B := 13) (by decide) (by decide) s.l (Nat.le_trans s.w (Nat.le_trans hw (by decide)))
/-! lengths of texts -/
theorem textFrom_eq : ∀ (ts : List Str) (k : Nat) (acc : Str), (textFrom k acc ts).length + (if k > 0 ∨ ts = [] then 0 else 2) = acc.length + (ts.map (·.length)).sum + 2 * ts.length
  | [], k, acc => by rw [if_pos (.inr rfl)]; rfl
  | t :: r, k, acc => by
    have ih := textFrom_eq r (k + 1) (acc ++ (if k > 0 then ", " else "" : String) ++ t)
    rw [if_pos (show k + 1 > 0 ∨ r = [] from .inl (by omega))] at ih
    show (textFrom (k + 1) (acc ++ (if k > 0 then ", " else "" : String) ++ t) r).length + _ = acc.length + (t.length + (r.map (·.length)).sum) + 2 * (r.length + 1)
    rw [show (acc ++ (if k > 0 then ", " else "" : String) ++ t).length = acc.length + (if k > 0 then 2 else 0) + t.length from by rw [strLen_append, strLen_append]; split <;> rfl] at ih
    have e2 : (if k > 0 ∨ t :: r = [] then 0 else 2) + (if k > 0 then 2 else 0) = 2 := by
      by_cases hk : k > 0
      · rw [if_pos hk, if_pos (show k > 0 ∨ t :: r = [] from .inl hk)]
      · rw [if_neg hk, if_neg (show ¬ (k > 0 ∨ t :: r = []) from fun z => z.elim hk (fun z => nomatch z))]
    omega
theorem list_len {ts : List Str} (h : ts ≠ []) : (listText ts).length = (ts.map (·.length)).sum + 2 * ts.length := by
  have h1 := textFrom_eq ts 0 "["
  rw [if_neg (fun z => z.elim (fun z => absurd z (by decide)) h)] at h1
  have h2 : (listText ts).length = (textFrom 0 "[" ts).length + 1 := (strLen_append (textFrom 0 "[" ts) _).trans rfl
  have : (("[" : String) : Str).length = 1 := rfl
  omega
theorem tup2_len {a b : Str} : (tupleText [a, b]).length = a.length + b.length + 4 := by
  show (("(" : Str) ++ Str.join ", " [a, b] ++ ((if [a, b].length == 1 then ",)" else ")" : String) : Str)).length = _
  rw [strLen_append, strLen_append]
  have h := join_length_add [a, b] (by simp)
  have e : piled [a, b] = a.length + 2 + (b.length + 2) := by simp [piled]
  rw [e] at h
  have e1 : (("(" : String) : Str).length = 1 := rfl
  have e2 : ((if [a, b].length == 1 then ",)" else ")" : String) : Str).length = 1 := rfl
  omega
theorem shownAll_map : ∀ ds : List PyData, PyData.shownAll ds = ds.map PyData.shown
  | [] => rfl
  | d :: ds => by show d.shown :: PyData.shownAll ds = _; rw [shownAll_map ds]; rfl
theorem nats_grown {l : List Nat} (h : l ≠ []) : (PyData.list (natsD (l ++ [7]))).shown.length = (PyData.list (natsD l)).shown.length + 3 := by
  have hn : ∀ {l : List Nat}, l ≠ [] → (natsD l).map PyData.shown ≠ [] := fun {l} h z => by
    cases l with
    | nil => exact h rfl
    | cons a l => cases z
  show (listText (PyData.shownAll (natsD (l ++ [7])))).length = (listText (PyData.shownAll (natsD l))).length + 3
  rw [shownAll_map, shownAll_map, list_len (hn h), list_len (hn (fun z => by simp at z))]
  have e : natsD (l ++ [7]) = natsD l ++ [.int 7] := by unfold natsD; rw [List.map_append]; rfl
  rw [e, List.map_append, List.map_append, List.sum_append, List.length_append]
  have : (List.map (fun x : Str => x.length) (List.map PyData.shown [PyData.int 7])).sum = 1 := by decide +kernel
  rw [this]
  show _ + 1 + 2 * (_ + 1) = _
  omega
theorem sum_grown {α : Type} {f : α → Nat} : ∀ {l : List α} {j : Nat} {x y : α}, l[j]? = some x → f y = f x + 3 → ((l.set j y).map f).sum = (l.map f).sum + 3
  | [], j, _, _, h, _ => by simp at h
  | a :: l, 0, x, y, h, e => by
    rw [List.getElem?_cons_zero] at h
    cases h
    show f y + (l.map f).sum = f a + (l.map f).sum + 3
    omega
  | a :: l, j + 1, x, y, h, e => by
    have ih := sum_grown (l := l) (j := j) (by rw [List.getElem?_cons_succ] at h; exact h) e
    show f a + ((l.set j y).map f).sum = f a + (l.map f).sum + 3
    omega
theorem pps_grown {ps : List Pp} {j s : Nat} {l : List Nat} (hj : ps[j]? = some ⟨s, some l⟩) (h : l ≠ []) : (PyData.list ((ps.set j ⟨s, some (l ++ [7])⟩).map ppD)).shown.length = (PyData.list (ps.map ppD)).shown.length + 3 := by
  show (listText (PyData.shownAll _)).length = (listText (PyData.shownAll _)).length + 3
  have hp : ps ≠ [] := fun z => by rw [z] at hj; cases hj
  have hp2 : ps.set j ⟨s, some (l ++ [7])⟩ ≠ [] := fun z => by
    have := congrArg List.length z
    rw [List.length_set] at this
    exact hp (List.eq_nil_of_length_eq_zero this)
  have hn : ∀ {l : List Pp}, l ≠ [] → (l.map ppD).map PyData.shown ≠ [] := fun {l} h z => by
    cases l with
    | nil => exact h rfl
    | cons a l => cases z
  have hg : (ppD ⟨s, some (l ++ [7])⟩).shown.length = (ppD ⟨s, some l⟩).shown.length + 3 := by
    show (tupleText [(PyData.int (s : Nat)).shown, (PyData.list (natsD (l ++ [7]))).shown]).length = (tupleText [(PyData.int (s : Nat)).shown, (PyData.list (natsD l)).shown]).length + 3
    rw [tup2_len, tup2_len, nats_grown h]; omega
  have h3 := sum_grown (f := fun pp => (ppD pp).shown.length) hj hg
  have e1 : ∀ l : List Pp, ((l.map ppD).map PyData.shown).map (fun x : Str => x.length) = l.map fun pp => (ppD pp).shown.length := fun l => by rw [List.map_map, List.map_map]; rfl
  rw [shownAll_map, shownAll_map, list_len (hn hp), list_len (hn hp2), e1, e1, h3, List.length_map, List.length_map, List.length_map, List.length_map, List.length_set]
  omega
end

section
variable {K : PySem.W.Frag} {vs : List V} {G : Hp} {M : Mem} {R : KR} {Z : KX}
theorem knF_at {a : Addr} {ks : List Kn} (h : KnF K G a ks) (hk : ∀ k, k ∈ ks → KnOk k) (hl : ks.length ≤ 1000) : KnAt K G M a ks := by
  obtain ⟨us, h1, h2⟩ := h
  refine ⟨us, .inr h1, ?_, hk, hl⟩
  clear h1 hk hl
  induction h2 with
  | nil => exact .nil
  | cons h _ ih => obtain ⟨T, rfl, hT⟩ := h; exact .cons (dp_kn (sqt_of hT)) ih
theorem KnF.ex {G' : Hp} {a : Addr} {ks : List Kn} (e : Ex G G') (h : KnF K G a ks) : KnF K G' a ks := by
  obtain ⟨us, h1, h2⟩ := h
  exact ⟨us, ex_l e h1, h2.mono fun _ _ ⟨T, e1, e2⟩ => ⟨T, e1, e _ _ e2⟩⟩
theorem SgsG.ex {G' : Hp} {a : Addr} {sg : List Sg} (e : Ex G G') (h : SgsG K G a sg) : SgsG K G' a sg := by
  obtain ⟨us, h1, h2⟩ := h
  exact ⟨us, ex_l e h1, ex_ds e _ h2⟩
theorem knF_get {a : Addr} {ks : List Kn} {i : Nat} {k : Kn} (h : KnF K G a ks) (e : ks[i]? = some k) : ∃ us T, SqL K G a us ∧ us[i]? = some (.ref T) ∧ G T = some (.tup [.str k.txt, .int (k.n : Nat)]) ∧ us.length = ks.length := by
  obtain ⟨us, h1, h2⟩ := h
  obtain ⟨v, hv, T, rfl, hT⟩ := h2.get e
  exact ⟨us, T, h1, hv, hT, h2.len⟩
theorem at_two2 {x y r : Int} (h0 : 0 ≤ r) (h1 : r < 2) : ∃ v, atI [V.int x, .int y] r = some (.int v) ∧ (v = x ∨ v = y) := by
  obtain ⟨j, rfl⟩ := Int.eq_ofNat_of_zero_le h0
  have : j = 0 ∨ j = 1 := by omega
  rcases this with rfl | rfl
  · exact ⟨x, atI_nat (j := 0) rfl, .inl rfl⟩
  · exact ⟨y, atI_nat (j := 1) rfl, .inr rfl⟩
theorem pf_law_kinds (h : S_law_kinds K vs G M R Z) : rd_law_kinds K (ends R Z) (sta 5 vs) G M := by
  obtain ⟨_, _, _, rfl, p, n, c, s, rfl, rfl, rfl, hn, hs, q⟩ := sp3_of h
  clear h
  have h100 : (100 : Int) < 2 ^ 200 := by decide
  refine ⟨G, M, Wk.refl, sz0, fun t ft => ?_⟩
  refine ⟨G, _, Wk.refl, p, 6 + 1, n + 1, c, s, rfl, rfl, hn, hs, by omega, by omega, fun r c1 s1 r0 r1 hs1 => ⟨⟨by omega, by omega⟩, fun i σ G' M' => ∃ (us : List V) (ks : List Kn) (c' s' : Int) (y4 : Option V), σ = [some (.ref p), some (.int 6), some (.int 64), some (.ref t), y4] ∧ Ex G G' ∧ G' t = none ∧ M' = (t, .lst us) :: M.set n (p, pool c' s') ∧ A2 (fun v k => ∃ T, v = V.ref T ∧ G' T = some (.tup [.str k.txt, .int (Kn.n k : Nat)])) us ks ∧ (∀ k, k ∈ ks → KnOk k) ∧ ks.length = i ∧ PoolOk s',
    ⟨[], [], c1, s1, none, rfl, Ex.refl, ft.1, rfl, .nil, fun _ z => absurd z List.not_mem_nil, rfl, hs1⟩, fun _ _ _ _ _ _ => trivial, ?_, ?_⟩⟩
  · rintro i σ G' M' hi ⟨us, ks, c2, s2, y4, rfl, ex, gt, rfl, hd, hk, hl, hs2⟩
    have hi : i < r.toNat := hi
    have hul : us.length = ks.length := hd.len
    have step : ∀ {T : Addr} {k : Kn} {G2 : Hp}, G2 = upd G' T (.tup [.str k.txt, .int (k.n : Nat)]) → G' T = none → A2 (fun v k => ∃ T, v = V.ref T ∧ G2 T = some (.tup [.str k.txt, .int (Kn.n k : Nat)])) (us ++ [.ref T]) (ks ++ [k]) := fun {T k G2} e g => by
      have ee : Ex G' G2 := by rw [e]; exact Ex.new' g
      exact (hd.mono fun _ _ ⟨T', e1, e2⟩ => ⟨T', e1, ee _ _ e2⟩).app (.cons ⟨T, rfl, by rw [e, upd_same]⟩ .nil)
    refine ⟨G', _, Wk.refl, p, 2, n + 1, c2, s2, rfl, rfl, set_n hn, hs2, by decide, by decide, fun w c3 s3 w0 w1 hs3 => ite2' (fun e => ?_) (fun e => ?_)⟩
    · refine ⟨_, _, Wk.refl, tyl_n (n := 0) rfl, p, 7, n + 1, c3, s3, rfl, rfl, set_n (set_n hn), hs3, by decide, by decide, fun hgt c4 s4 h0 h1 hs4 => ⟨sz2, fun T fT => ⟨0, _, rfl, Nat.lt_of_le_of_lt (show us.length ≤ 100 by omega) (by decide), ?_⟩⟩⟩
      obtain ⟨hh, rfl⟩ := Int.eq_ofNat_of_zero_le h0
      refine ⟨_, _, Wk.refl, us ++ [V.ref T], ks ++ [(⟨true, hh⟩ : Kn)], c4, s4, _, rfl, ex.trans (Ex.new fT), ?_, ?_, (by exact step (T := T) (k := ⟨true, hh⟩) rfl fT.1), ?_, by simp [hl], hs4⟩
      · rw [upd_ne (fun z => fT.2 (t, .lst us) (by simp) z)]; exact gt
      · simp only [List.set_cons_succ, List.set_set, List.set_cons_zero]
      · intro k hkm
        rcases List.mem_append.mp hkm with hkm | hkm
        · exact hk k hkm
        · have e : k = ⟨true, hh⟩ := by simpa using hkm
          subst e
          exact ⟨by show hh ≤ 64; omega, fun _ => by show hh ≤ 6; omega, fun z => by cases z⟩
    · refine ⟨_, _, Wk.refl, tyl_n (n := 0) rfl, sz2, fun w2 fw2 => ⟨p, 2, n + 2, c3, s3, rfl, rfl, set_n (set_n hn), hs3, by decide, by decide, fun w3 c4 s4 h0 h1 hs4 => ?_⟩⟩
      obtain ⟨v, hv, hv2⟩ := at_two2 (x := 6) (y := 64) h0 h1
      have hv3 : 1 ≤ v ∧ v ≤ 64 := by omega
      refine ⟨_, _, lst_n (n := 0) rfl, hv, p, v, n + 2, c4, s4, rfl, rfl, set_n (set_n (set_n hn)), hs4, by omega, by omega, fun sz_ c5 s5 z0 z1 hs5 => ⟨sz2, fun T fT => ⟨1, _, rfl, Nat.lt_of_le_of_lt (show us.length ≤ 100 by omega) (by decide), ?_⟩⟩⟩
      obtain ⟨hh, rfl⟩ := Int.eq_ofNat_of_zero_le z0
      refine ⟨_, _, Wk.drop0, us ++ [V.ref T], ks ++ [(⟨false, 1 + hh⟩ : Kn)], c5, s5, _, rfl, ex.trans (Ex.new fT), ?_, ?_, (by exact step (T := T) (k := ⟨false, 1 + hh⟩) rfl fT.1), ?_, by simp [hl], hs5⟩
      · rw [upd_ne (fun z => fT.2 (t, .lst us) (by simp) z)]; exact gt
      · simp only [List.set_cons_succ, List.set_set, List.set_cons_zero]
      · intro k hkm
        rcases List.mem_append.mp hkm with hkm | hkm
        · exact hk k hkm
        · have e : k = ⟨false, 1 + hh⟩ := by simpa using hkm
          subst e
          exact ⟨by show 1 + hh ≤ 64; omega, fun z => (by cases z), fun _ => by show 1 ≤ 1 + hh; omega⟩
  · rintro σ G' M' ⟨us, ks, c2, s2, y4, rfl, ex, gt, rfl, hd, hk, hl, hs2⟩
    have hl : ks.length = r.toNat := hl
    have e2 := Ex.new' (o := .lst us) gt
    exact ⟨_, _, Wk.refl, retW Wk.frz0 (q t ks c2 s2 _ (ex.trans e2) ⟨us, sql_new, hd.mono fun _ _ ⟨T, e1, e3⟩ => ⟨T, e1, e2 _ _ e3⟩⟩ hk (by omega) hs2)⟩
theorem insert_ok {k : Nat} {o : List Nat} (h : OrdOk k o) (j : Nat) : OrdOk (k + 1) (o.take j ++ [k] ++ o.drop j) := by
  refine ⟨?_, ?_, fun x hx => ?_⟩
  · rw [List.length_append, List.length_append, List.length_take, List.length_drop, List.length_singleton, h.len]; omega
  · have p : (o.take j ++ [k] ++ o.drop j).Perm (k :: o) := by
      rw [List.append_assoc]
      refine List.perm_middle.trans (.cons _ ?_)
      show (o.take j ++ o.drop j).Perm o
      rw [List.take_append_drop]
    rw [p.nodup_iff, List.nodup_cons]
    exact ⟨fun z => by have := h.lt k z; omega, h.nd⟩
  · rw [List.mem_append, List.mem_append] at hx
    rcases hx with (hx | hx) | hx
    · have := h.lt x (List.mem_of_mem_take hx); omega
    · rw [List.mem_singleton.mp hx]; omega
    · have := h.lt x (List.mem_of_mem_drop hx); omega
theorem pf_law_turn (h : S_law_turn K vs G M R Z) : rd_law_turn K (ends R Z) (sta 4 vs) G M := by
  obtain ⟨_, _, rfl, p, n, c, s, m, rfl, rfl, hm, hn, hs, q⟩ := sp2_of h
  clear h
  have h100 : (100 : Int) < 2 ^ 200 := by decide
  refine ⟨G, M, Wk.refl, sz0, fun t ft => ?_⟩
  refine ⟨G, _, Wk.refl, ⟨by omega, by omega⟩, fun i σ G' M' => ∃ (o : List Nat) (y : Option V) (c s : Int), σ = [some (.ref p), some (.int (m : Int)), some (.ref t), y] ∧ G' = G ∧ M' = (t, .lst (natsV o)) :: M.set n (p, pool c s) ∧ OrdOk i o ∧ PoolOk s, ⟨[], none, c, s, rfl, rfl, by rw [set_self hn]; rfl, ⟨rfl, List.nodup_nil, fun _ z => (nomatch z)⟩, hs⟩, fun _ _ _ _ _ _ => trivial, ?_, ?_⟩
  · rintro i σ G' M' hi ⟨o, y, c2, s2, rfl, rfl, rfl, ho, hs2⟩
    have hi : i < (m : Int).toNat := hi
    refine asg_R (v := (i : Int)) (by omega) ?_
    refine ⟨G', _, Wk.refl, tyl_n (n := 0) rfl, p, (i : Int) + 1, n + 1, c2, s2, rfl, rfl, set_n hn, hs2, by omega, by omega, fun r c3 s3 r0 r1 hs3 => ?_⟩
    obtain ⟨j, rfl⟩ := Int.eq_ofNat_of_zero_le r0
    refine ⟨0, natsV o, rfl, by rw [natsV_len, ho.len]; exact Nat.lt_of_lt_of_le (show i < 1000 by omega) (by decide), by omega, by omega, ?_⟩
    refine ⟨G', _, Wk.refl, _, _, c3, s3, rfl, rfl, ?_, insert_ok ho j, hs3⟩
    show (t, HO.lst ((natsV o).take (j : Int).toNat ++ [V.int (i : Int)] ++ (natsV o).drop (j : Int).toNat)) :: (M.set n _).set n _ = _
    rw [List.set_set, Int.toNat_natCast, natsV_take, natsV_drop, show [V.int (i : Int)] = natsV [i] from rfl, natsV_app, natsV_app]
  · rintro σ G' M' ⟨o, y, c2, s2, rfl, rfl, rfl, ho, hs2⟩
    have ho : OrdOk (m : Int).toNat o := ho
    rw [Int.toNat_natCast] at ho
    exact ⟨_, _, Wk.refl, ret0 (q t o c2 s2 ho hs2 ft)⟩
theorem txt_shuf0 (k : Kn) : decide ((V.str k.txt) = (.str "shuffle")) = !k.leaf := by
  obtain ⟨b, n⟩ := k
  cases b
  · exact decide_eq_true rfl
  · exact decide_eq_false (by intro h; injection h with h; exact absurd (show ("leaf" : Str) = "shuffle" from h) (by decide))
end

section
variable {K : PySem.W.Frag} {vs : List V} {G : Hp} {M : Mem} {R : KR} {Z : KX}
/-! where a sign is led -/
theorem filt_succ {p : Nat → Bool} {n : Nat} : (List.range (n + 1)).filter p = (List.range n).filter p ++ (if p n = true then [n] else []) := by
  rw [List.range_succ, List.filter_append]
  by_cases e : p n = true
  · rw [if_pos e, List.filter_cons_of_pos e]; rfl
  · rw [if_neg e, List.filter_cons_of_neg e]; rfl
/-! places of kinds -/
structure En where
  k : Kn
  b : Addr
  l : List Nat
def kKey (k : Kn) : List Key := [.inr k.txt, .inl (k.n : Int)]
def kvsE (es : List En) : List (List Key × V) := es.map fun e => (kKey e.k, .ref e.b)
def celE (es : List En) : Mem := es.map fun e => (e.b, .lst (natsV e.l))
theorem kKey_inj {a b : Kn} (h : kKey a = kKey b) : a = b := by
  unfold kKey at h
  injection h with h1 h2
  injection h2 with h2 _
  injection h1 with h1
  injection h2 with h2
  exact kn_ext (kn_txt_inj h1) (by omega)
theorem valE {es : List En} (hn : (es.map (·.k)).Nodup) : ∀ {i : Nat} {e : En}, es[i]? = some e → valV (kvsE es) (kKey e.k) = some (.ref e.b) := by
  induction es with
  | nil => intro i e h; simp at h
  | cons x es ih =>
    intro i e h
    rw [List.map_cons, List.nodup_cons] at hn
    cases i with
    | zero =>
      have : x = e := by simpa using h
      subst this
      exact valV_pos rfl
    | succ i =>
      have h : es[i]? = some e := by simpa using h
      have ne : ¬ (kKey x.k) = kKey e.k := fun z => hn.1 (by rw [kKey_inj z]; exact List.mem_map.mpr ⟨e, List.mem_of_getElem? h, rfl⟩)
      show valV ((kKey x.k, V.ref x.b) :: kvsE es) (kKey e.k) = _
      rw [valV_neg ne]
      exact ih hn.2 h
theorem valE_none {es : List En} {k : Kn} (h : ∀ e, e ∈ es → e.k ≠ k) : valV (kvsE es) (kKey k) = none := by
  induction es with
  | nil => rfl
  | cons x es ih =>
    show valV ((kKey x.k, V.ref x.b) :: kvsE es) (kKey k) = _
    rw [valV_neg (fun z => h x List.mem_cons_self (kKey_inj z)), ih fun e he => h e (List.mem_cons_of_mem _ he)]
theorem putE_new {es : List En} {k : Kn} {b : Addr} {l : List Nat} (h : ∀ e, e ∈ es → e.k ≠ k) : putK (kvsE es) (kKey k) (.ref b) = kvsE (es ++ [⟨k, b, l⟩]) := by
  unfold putK
  rw [if_neg]
  · unfold kvsE; rw [List.map_append]; rfl
  · intro z
    obtain ⟨x, hx, e⟩ := List.any_eq_true.mp z
    obtain ⟨e0, he, rfl⟩ := List.mem_map.mp hx
    exact h e0 he (kKey_inj (of_decide_eq_true e))
theorem putE_set {es : List En} (hn : (es.map (·.k)).Nodup) {i : Nat} {e : En} {b : Addr} {l : List Nat} (h : es[i]? = some e) : putK (kvsE es) (kKey e.k) (.ref b) = kvsE (es.set i ⟨e.k, b, l⟩) := by
  unfold putK
  rw [if_pos]
  · unfold kvsE
    rw [List.map_map]
    refine List.ext_getElem? fun j => ?_
    rw [List.getElem?_map, List.getElem?_map, List.getElem?_set]
    by_cases e1 : i = j
    · subst e1
      have hi := (List.getElem?_eq_some_iff.mp h).1
      rw [if_pos rfl, if_pos hi, h]
      show some (if kKey e.k = kKey e.k then _ else _) = _
      rw [if_pos rfl]; rfl
    · rw [if_neg e1]
      cases hj : es[j]? with
      | none => rfl
      | some x =>
        show some (if kKey x.k = kKey e.k then _ else _) = some (kKey x.k, V.ref x.b)
        rw [if_neg]
        intro z
        have z := kKey_inj z
        have hj2 := (List.getElem?_eq_some_iff.mp hj).1
        have hi2 := (List.getElem?_eq_some_iff.mp h).1
        have m1 : (es.map (·.k))[i]? = some e.k := by rw [List.getElem?_map, h]; rfl
        have m2 : (es.map (·.k))[j]? = some e.k := by rw [List.getElem?_map, hj, ← z]; rfl
        obtain ⟨l1, g1⟩ := List.getElem?_eq_some_iff.mp m1
        obtain ⟨l2, g2⟩ := List.getElem?_eq_some_iff.mp m2
        exact e1 ((List.getElem_inj hn).mp (g1.trans g2.symm))
  · exact List.any_eq_true.mpr ⟨_, List.mem_map.mpr ⟨e, List.mem_of_getElem? h, rfl⟩, decide_eq_true rfl⟩
def kEq (a b : Kn) : Bool := decide (a.leaf = b.leaf) && decide (a.n = b.n)
theorem kEq_iff {a b : Kn} : kEq a b = true ↔ a = b := by
  unfold kEq
  rw [Bool.and_eq_true, decide_eq_true_eq, decide_eq_true_eq]
  constructor
  · intro h; exact kn_ext h.1 h.2
  · intro h; subst h; exact ⟨rfl, rfl⟩
def kAtN (ks : List Kn) (j : Nat) : Kn := ks.getD j ⟨true, 0⟩
theorem kAtN_of {ks : List Kn} {j : Nat} {k : Kn} (h : ks[j]? = some k) : kAtN ks j = k := by unfold kAtN; rw [List.getD_eq_getElem?_getD, h]; rfl
def posE (ks : List Kn) (i : Nat) (k : Kn) : List Nat := (List.range i).filter fun j => kEq (kAtN ks j) k
theorem posE_len {ks : List Kn} {k : Kn} : ∀ i, i ≤ ks.length → (posE ks i k).length = ((ks.take i).filter fun x => kEq x k).length
  | 0, _ => rfl
  | i + 1, h => by
    have hi : ks[i]? = some ks[i] := List.getElem?_eq_getElem (by omega)
    unfold posE
    rw [filt_succ, List.length_append, take_succ' hi, List.filter_append, List.length_append]
    have ih := posE_len (ks := ks) (k := k) i (by omega)
    unfold posE at ih
    rw [ih, kAtN_of hi]
    congr 1
    by_cases e : kEq ks[i] k = true
    · rw [if_pos e, List.filter_cons_of_pos (p := fun x => kEq x k) e]; rfl
    · rw [if_neg e, List.filter_cons_of_neg (p := fun x => kEq x k) e]; rfl
end

section
variable {K : PySem.W.Frag} {vs : List V} {G : Hp} {M : Mem} {R : KR} {Z : KX}
theorem celE_len (es : List En) : (celE es).length = es.length := List.length_map _
theorem kvsE_len (es : List En) : (kvsE es).length = es.length := List.length_map _
theorem celE_get {es : List En} {m : Nat} {e : En} {N : Mem} (h : es[m]? = some e) : (celE es ++ N)[m]? = some (e.b, .lst (natsV e.l)) := by
  have hm := (List.getElem?_eq_some_iff.mp h).1
  rw [List.getElem?_append_left (by rw [celE_len]; exact hm)]
  unfold celE
  rw [List.getElem?_map, h]; rfl
theorem celE_set {es : List En} {m : Nat} {e : En} {N : Mem} {b : Addr} {l : List Nat} {k : Kn} (hm : m < es.length) : (celE es ++ N).set m (b, .lst (natsV l)) = celE (es.set m ⟨k, b, l⟩) ++ N := by
  rw [List.set_append_left _ _ (by rw [celE_len]; exact hm)]
  unfold celE
  rw [List.map_set]
theorem posE_none {ks : List Kn} {i : Nat} {k : Kn} (h : ∀ j, j < i → kAtN ks j ≠ k) : posE ks i k = [] := by
  unfold posE
  refine List.filter_eq_nil_iff.mpr fun j hj e => ?_
  exact h j (List.mem_range.mp hj) (kEq_iff.mp e)
theorem posE_succ {ks : List Kn} {i : Nat} {k : Kn} : posE ks (i + 1) k = posE ks i k ++ (if kEq (kAtN ks i) k = true then [i] else []) := filt_succ
/-- the first walk: the places of each kind -/
theorem paper_1 {D : Kd} {p a pl : Addr} {ks : List Kn} (hk : KnF K G a ks) (hkl : ks.length ≤ 6)
    (q : ∀ (es : List En) (y3 : Option V), (es.map (·.k)).Nodup → (∀ e, e ∈ es → e.l = posE ks ks.length e.k) → (∀ k, k ∈ ks → ∃ e, e ∈ es ∧ e.k = k) → es.length ≤ 6 → D.nx [some (.ref p), some (.ref a), some (.ref pl), y3, none, none, none, none, none] G ((pl, .dT (kvsE es)) :: (celE es ++ M))) :
    (kFor (kiR1 (kCons (kCB (kLen K) (kCons (kVar 1) (kNil))) (kNil))) (kgName 3) (rd_law_paper_b0 K)) D [some (.ref p), some (.ref a), some (.ref pl), none, none, none, none, none, none] G ((pl, .dT []) :: M) := by
  obtain ⟨us, hu, hul⟩ : ∃ us, SqL K G a us ∧ us.length = ks.length := by obtain ⟨us, h1, h2⟩ := hk; exact ⟨us, h1, h2.len⟩
  refine ⟨us, .inl (.inr hu), ⟨by omega, by omega⟩, fun i σ G' M' => ∃ (es : List En) (y3 : Option V), σ = [some (.ref p), some (.ref a), some (.ref pl), y3, none, none, none, none, none] ∧ G' = G ∧ M' = (pl, .dT (kvsE es)) :: (celE es ++ M) ∧ (es.map (·.k)).Nodup ∧ (∀ e, e ∈ es → e.l = posE ks i e.k) ∧ (∀ j, j < i → ∃ e, e ∈ es ∧ e.k = kAtN ks j) ∧ es.length ≤ i, ⟨[], none, rfl, rfl, rfl, List.nodup_nil, (fun _ z => nomatch z), (fun _ z => nomatch z), Nat.le_refl _⟩, fun _ _ _ _ _ _ => trivial, ?_, ?_⟩
  · rintro i σ G' M' hi ⟨es, y3, rfl, rfl, rfl, hnd, hl, hc, hel⟩
    have hi : i < (us.length : Int).toNat := hi
    obtain ⟨k, hki⟩ : ∃ k, ks[i]? = some k := ⟨_, List.getElem?_eq_getElem (by omega)⟩
    obtain ⟨us2, T, hu2, hv, hT, _⟩ := knF_get hk hki
    have hat := kAtN_of hki
    have hT' : G' T = some (.tup ((kKey k).map kV)) := hT
    refine asg_R (v := (i : Int)) (by omega) ⟨G', _, Wk.refl, ⟨kvsE es, at_n (n := 0) rfl⟩, us2, .ref T, .inl (.inr hu2), atI_nat hv, sz0, fun e0 fe => ?_⟩
    refine ⟨kvsE es, kKey k, T, at_n (n := 1) rfl, rfl, hT', sz1, fun f ff => ?_⟩
    by_cases hex : ∃ e, e ∈ es ∧ e.k = k
    · obtain ⟨e, he, hek⟩ := hex
      obtain ⟨m, hm⟩ := List.getElem?_of_mem he
      have hml := (List.getElem?_eq_some_iff.mp hm).1
      have hval : valV (kvsE es) (kKey k) = some (.ref e.b) := by rw [← hek]; exact valE hnd hm
      rw [hval]
      have hcell : ((f, HO.lst [V.int (i : Int)]) :: (e0, HO.lst []) :: (pl, HO.dT (kvsE es)) :: (celE es ++ M))[m + 3]? = some (e.b, .lst (natsV e.l)) := celE_get hm
      refine ⟨natsV e.l, [.int (i : Int)], at_n hcell, at_n (n := 0) rfl, ?_, fun c fc => ?_⟩
      · have : e.l.length ≤ i := by
          rw [hl e he]; unfold posE
          exact Nat.le_trans (List.length_filter_le _ _) (by rw [List.length_range]; exact Nat.le_refl _)
        rw [natsV_len]
        exact sz (by show e.l.length + 1 ≤ _; omega)
      refine ⟨us2, .ref T, .inl (.inr hu2), atI_nat hv, 3, kvsE es, kKey k, rfl, hT', by rw [kvsE_len]; exact Nat.lt_of_le_of_lt (show es.length ≤ 100 by omega) (by decide), ?_⟩
      have hput : putK (kvsE es) (kKey k) (.ref c) = kvsE (es.set m ⟨e.k, c, e.l ++ [i]⟩) := by rw [← hek]; exact putE_set hnd hm
      have hkeys : (es.set m ⟨e.k, c, e.l ++ [i]⟩).map (·.k) = es.map (·.k) := by
        rw [List.map_set]
        refine List.ext_getElem? fun j => ?_
        rw [List.getElem?_set]
        by_cases z : m = j
        · subst z
          rw [if_pos rfl, if_pos (by rw [List.length_map]; exact hml), List.getElem?_map, hm]; rfl
        · rw [if_neg z]
      refine ⟨G', (pl, .dT (kvsE (es.set m ⟨e.k, c, e.l ++ [i]⟩))) :: (celE (es.set m ⟨e.k, c, e.l ++ [i]⟩) ++ M), ?_, _, _, rfl, rfl, rfl, by rw [hkeys]; exact hnd, fun x hx => ?_, fun j hj => ?_, by rw [List.length_set]; omega⟩
      · rw [hput]
        show Wk G' ((c, HO.lst (natsV e.l ++ [.int (i : Int)])) :: (f, HO.lst [V.int (i : Int)]) :: (e0, HO.lst []) :: (pl, HO.dT (kvsE (es.set m ⟨e.k, c, e.l ++ [i]⟩))) :: (celE es ++ M)) _ _
        have h3 : es = es.take m ++ e :: es.drop (m + 1) := by
          have h2 := (List.getElem?_eq_some_iff.mp hm).2
          rw [← h2, List.getElem_cons_drop, List.take_append_drop]
        have e1 : celE es = celE (es.take m) ++ ((e.b, .lst (natsV e.l)) :: celE (es.drop (m + 1))) :=
          (congrArg celE h3).trans (by unfold celE; rw [List.map_append, List.map_cons])
        have e2 : celE (es.set m ⟨e.k, c, e.l ++ [i]⟩) = celE (es.take m) ++ ((c, .lst (natsV e.l ++ [.int (i : Int)])) :: celE (es.drop (m + 1))) := by
          rw [List.set_eq_take_append_cons_drop, if_pos hml]
          unfold celE
          rw [List.map_append, List.map_cons]
          congr 2
          show (c, HO.lst (natsV (e.l ++ [i]))) = _
          rw [natsV_app2]; rfl
        rw [e1, e2]
        refine (Wk.perm (M' := (e.b, HO.lst (natsV e.l)) :: (f, HO.lst [V.int (i : Int)]) :: (e0, HO.lst []) :: (pl, HO.dT (kvsE (es.set m ⟨e.k, c, e.l ++ [i]⟩))) :: ((celE (es.take m) ++ ((c, .lst (natsV e.l ++ [.int (i : Int)])) :: celE (es.drop (m + 1)))) ++ M)) ?_).trans (Wk.dropP [_, _, _])
        (classical (rw [List.perm_iff_count]; intro x; simp only [List.set_cons_zero, List.set_cons_succ, List.cons_append, List.nil_append, List.append_assoc, List.append_eq, List.count_append, List.count_cons, List.count_nil] <;> omega))
      · obtain ⟨j, hj⟩ := List.getElem?_of_mem hx
        rw [List.getElem?_set] at hj
        by_cases z : m = j
        · subst z
          rw [if_pos rfl, if_pos hml] at hj
          cases hj
          show e.l ++ [i] = posE ks (i + 1) e.k
          rw [posE_succ, hl e he, hat, hek, if_pos (kEq_iff.mpr rfl)]
        · rw [if_neg z] at hj
          have hxe := List.mem_of_getElem? hj
          rw [hl x hxe, posE_succ, hat, if_neg, List.append_nil]
          intro z2
          have z2 := kEq_iff.mp z2
          have m1 : (es.map (·.k))[m]? = some k := by rw [List.getElem?_map, hm, ← hek]; rfl
          have m2 : (es.map (·.k))[j]? = some k := by rw [List.getElem?_map, hj, z2]; rfl
          obtain ⟨l1, g1⟩ := List.getElem?_eq_some_iff.mp m1
          obtain ⟨l2, g2⟩ := List.getElem?_eq_some_iff.mp m2
          exact z ((List.getElem_inj hnd).mp (g1.trans g2.symm))
      · have key : ∀ k', k' ∈ es.map (·.k) → ∃ x, x ∈ es.set m ⟨e.k, c, e.l ++ [i]⟩ ∧ x.k = k' := fun k' hk' => by
          rw [← hkeys] at hk'
          obtain ⟨x, hx, e3⟩ := List.mem_map.mp hk'
          exact ⟨x, hx, e3⟩
        by_cases z : j = i
        · subst z
          rw [hat]
          exact key k (List.mem_map.mpr ⟨e, he, hek⟩)
        · obtain ⟨x, hx, e3⟩ := hc j (by omega)
          exact key _ (List.mem_map.mpr ⟨x, hx, e3⟩)
    · have hno : ∀ e, e ∈ es → e.k ≠ k := fun e he z => hex ⟨e, he, z⟩
      rw [valE_none hno]
      refine ⟨[], [.int (i : Int)], at_n (n := 1) rfl, at_n (n := 0) rfl, sz1, fun c fc => ?_⟩
      refine ⟨us2, .ref T, .inl (.inr hu2), atI_nat hv, 3, kvsE es, kKey k, rfl, hT', by rw [kvsE_len]; exact Nat.lt_of_le_of_lt (show es.length ≤ 100 by omega) (by decide), ?_⟩
      have hput : putK (kvsE es) (kKey k) (.ref c) = kvsE (es ++ [⟨k, c, [i]⟩]) := putE_new hno
      refine ⟨G', (pl, .dT (kvsE (es ++ [⟨k, c, [i]⟩]))) :: (celE (es ++ [⟨k, c, [i]⟩]) ++ M), ?_, _, _, rfl, rfl, rfl, ?_, fun x hx => ?_, fun j hj => ?_, by rw [List.length_append]; show es.length + 1 ≤ _; omega⟩
      · rw [hput]
        show Wk G' ((c, HO.lst [V.int (i : Int)]) :: (f, HO.lst [V.int (i : Int)]) :: (e0, HO.lst []) :: (pl, HO.dT (kvsE (es ++ [⟨k, c, [i]⟩]))) :: (celE es ++ M)) _ _
        have e2 : celE (es ++ [⟨k, c, [i]⟩]) = celE es ++ [(c, HO.lst [V.int (i : Int)])] := by unfold celE; rw [List.map_append]; rfl
        rw [e2]
        refine (Wk.perm (M' := (f, HO.lst [V.int (i : Int)]) :: (e0, HO.lst []) :: (pl, HO.dT (kvsE (es ++ [⟨k, c, [i]⟩]))) :: ((celE es ++ [(c, HO.lst [V.int (i : Int)])]) ++ M)) ?_).trans (Wk.dropP [_, _])
        (classical (rw [List.perm_iff_count]; intro x; simp only [List.set_cons_zero, List.set_cons_succ, List.cons_append, List.nil_append, List.append_assoc, List.append_eq, List.count_append, List.count_cons, List.count_nil] <;> omega))
      · rw [List.map_append, List.nodup_append]
        refine ⟨hnd, List.nodup_cons.mpr ⟨fun z => (nomatch z), List.nodup_nil⟩, fun x hx y hy z => ?_⟩
        obtain ⟨e, he, e3⟩ := List.mem_map.mp hx
        rw [List.mem_singleton.mp (show y ∈ [k] from hy)] at z
        exact hno e he (e3.trans z)
      · rcases List.mem_append.mp hx with hx | hx
        · rw [hl x hx, posE_succ, hat, if_neg, List.append_nil]
          intro z
          exact hno x hx (kEq_iff.mp z).symm
        · rw [List.mem_singleton.mp hx]
          show [i] = posE ks (i + 1) k
          rw [posE_succ, hat, if_pos (kEq_iff.mpr rfl), posE_none]; · rfl
          intro j hj z
          obtain ⟨e, he, e3⟩ := hc j hj
          exact hno e he (e3.trans z)
      · by_cases z : j = i
        · subst z
          exact ⟨_, List.mem_append.mpr (.inr List.mem_cons_self), hat.symm⟩
        · obtain ⟨x, hx, e3⟩ := hc j (by omega)
          exact ⟨x, List.mem_append.mpr (.inl hx), e3⟩
  · rintro σ G' M' ⟨es, y3, rfl, rfl, rfl, hnd, hl, hc, hel⟩
    have en : (srcR 0 (us.length : Int).toNat).n = ks.length := by show (us.length : Int).toNat = _; omega
    rw [en] at hl hc hel
    refine q es y3 hnd hl (fun k hk2 => ?_) (by omega)
    obtain ⟨j, hj⟩ := List.getElem?_of_mem hk2
    obtain ⟨e, he, e3⟩ := hc j (List.getElem?_eq_some_iff.mp hj).1
    exact ⟨e, he, by rw [e3, kAtN_of hj]⟩
theorem seqIx {r : Int} {n : Nat} (h0 : 0 ≤ r) (h1 : r < n) : seqIndex? r n = some r.toNat := by
  unfold seqIndex?
  simp only [if_neg (show ¬ r < 0 by omega)]
  rw [decide_eq_true h0, decide_eq_true h1]; rfl
theorem natsV_erase (l : List Nat) (r : Nat) : (natsV l).eraseIdx r = natsV (l.eraseIdx r) := by
  unfold natsV
  induction l generalizing r with
  | nil => rfl
  | cons x l ih =>
    cases r with
    | zero => rfl
    | succ r => rw [List.map_cons, List.eraseIdx_cons_succ, List.eraseIdx_cons_succ, List.map_cons, ih]
theorem erase_mem {l : List Nat} (hn : l.Nodup) {r y x : Nat} (h : l[r]? = some y) (hx : x ∈ l.eraseIdx r) : x ∈ l ∧ x ≠ y := by
  obtain ⟨i, hi⟩ := List.getElem?_of_mem hx
  rw [List.getElem?_eraseIdx] at hi
  obtain ⟨hr, e1⟩ := List.getElem?_eq_some_iff.mp h
  split at hi
  · rename_i hlt
    refine ⟨List.mem_of_getElem? hi, fun e => ?_⟩
    subst e
    obtain ⟨h2, e2⟩ := List.getElem?_eq_some_iff.mp hi
    have := (List.getElem_inj hn).mp (e1.trans e2.symm)
    omega
  · rename_i hlt
    refine ⟨List.mem_of_getElem? hi, fun e => ?_⟩
    subst e
    obtain ⟨h2, e2⟩ := List.getElem?_eq_some_iff.mp hi
    have := (List.getElem_inj hn).mp (e1.trans e2.symm)
    omega
/-- what a list of places holds still -/
structure EnOk (ks : List Kn) (i : Nat) (us : List Nat) (e : En) : Prop where
  nd : e.l.Nodup
  at_ : ∀ j, j ∈ e.l → ks[j]? = some e.k ∧ j ∉ us
  len : e.l.length = ((ks.drop i).filter fun x => kEq x e.k).length
theorem pf_law_paper (h : S_law_paper K vs G M R Z) : rd_law_paper K (ends R Z) (sta 9 vs) G M := by
  obtain ⟨_, _, rfl, p, n, c, s, a, ks, rfl, rfl, hn, hs, hk, hkn, hkl, q⟩ := sp2_of h
  clear h
  have h100 : (100 : Int) < 2 ^ 200 := by decide
  refine ⟨G, M, Wk.refl, fun pl fpl => ?_⟩
  refine ⟨G, _, Wk.refl, paper_1 hk hkl fun es0 y3 hnd0 hl0 hc0 hel0 => ?_⟩
  refine ⟨G, _, Wk.refl, sz0, fun pp fpp => ?_⟩
  have hk0 := hk
  obtain ⟨us, hu, hA⟩ := hk0
  have hul := hA.len
  have start : ∀ e, e ∈ es0 → EnOk ks 0 [] e := fun e he => by
    refine ⟨?_, fun j hj => ?_, ?_⟩
    · rw [hl0 e he]
      unfold posE
      exact List.Nodup.sublist List.filter_sublist List.nodup_range
    · rw [hl0 e he] at hj
      unfold posE at hj
      obtain ⟨h1, h2⟩ := List.mem_filter.mp hj
      have h1 := List.mem_range.mp h1
      have hj2 : ks[j]? = some ks[j] := List.getElem?_eq_getElem h1
      have := kEq_iff.mp h2
      rw [kAtN_of hj2] at this
      rw [hj2, this]
      exact ⟨rfl, fun z => nomatch z⟩
    · rw [hl0 e he, posE_len _ (Nat.le_refl _), List.take_length, List.drop_zero]
  refine ⟨G, _, Wk.refl, us, .inr hu, fun i σ G' M' => ∃ (acc : List V) (ps : List Pp) (es : List En) (c s : Int) (y3 y5 y6 y7 y8 : Option V), σ = [some (.ref p), some (.ref a), some (.ref pl), y3, some (.ref pp), y5, y6, y7, y8] ∧ Ex G G' ∧ G' pp = none ∧ M' = (pp, .lst acc) :: (pl, .dT (kvsE es)) :: (celE es ++ M.set n (p, pool c s)) ∧ PoolOk s ∧ A2 (PpM K G' []) acc ps ∧ A2 (PpOk ks) (ks.take i) ps ∧ (ps.map (·.src)).Nodup ∧ (es.map (·.k)).Nodup ∧ (∀ e, e ∈ es → EnOk ks i (ps.map (·.src)) e) ∧ (∀ k, k ∈ ks → ∃ e, e ∈ es ∧ e.k = k),
    ⟨[], [], es0, c, s, y3, none, none, none, none, rfl, Ex.refl, fpp.1, by rw [set_self hn], hs, .nil, .nil, List.nodup_nil, hnd0, start, hc0⟩, ?_, ?_, ?_⟩
  · rintro i σ G' M' _ ⟨acc, ps, es, c, s, y3, y5, y6, y7, y8, rfl, ex, gp, rfl, _⟩; exact .inr (ex_l ex hu)
  · rintro i σ G' M' hi ⟨acc, ps, es, c1, s1, y3, y5, y6, y7, y8, rfl, ex, gp, rfl, hs1, hacc, hok, hsn, hnd, hen, hc⟩
    have hi : i < us.length := hi
    obtain ⟨k, hki⟩ : ∃ k, ks[i]? = some k := ⟨_, List.getElem?_eq_getElem (by omega)⟩
    have hkm := List.mem_of_getElem? hki
    obtain ⟨v0, hv, T, rfl, hT⟩ := hA.get hki
    have hT' : G' T = some (.tup ((kKey k).map kV)) := ex _ _ hT
    obtain ⟨e, he, hek⟩ := hc k hkm
    obtain ⟨m, hm⟩ := List.getElem?_of_mem he
    have hml := (List.getElem?_eq_some_iff.mp hm).1
    obtain ⟨e1, e2, e3⟩ := hen e he
    have hdrop : ks.drop i = k :: ks.drop (i + 1) := (List.drop_eq_getElem_cons (by omega)).trans (by rw [(List.getElem?_eq_some_iff.mp hki).2])
    have hlen : e.l.length = ((ks.drop (i + 1)).filter fun x => kEq x e.k).length + 1 := by
      rw [e3, hdrop, List.filter_cons_of_pos (p := fun x => kEq x e.k) (kEq_iff.mpr hek.symm), List.length_cons]
    have hpsl : ps.length = i := by have := hok.len; rw [List.length_take] at this; omega
    have hal := hacc.len
    have hlong : e.l.length ≤ 6 := by
      rw [e3]
      refine Nat.le_trans (List.length_filter_le _ _) ?_
      rw [List.length_drop]; omega
    refine asg_L hv ⟨G', _, Wk.refl, kvsE es, kKey k, .ref e.b, at_n (n := 1) rfl, hT', by rw [← hek]; exact valE hnd hm, ?_⟩
    -- a place taken
    have hcell : ∀ N : Mem, ((pp, HO.lst acc) :: (pl, HO.dT (kvsE es)) :: (celE es ++ N))[m + 2]? = some (e.b, .lst (natsV e.l)) := fun N => celE_get hm
    have hpool : ∀ {es' : List En} {A B : Addr × HO} {c' s' : Int}, es'.length = es.length → (A :: B :: (celE es' ++ M.set n (p, pool c' s')))[es.length + n + 2]? = some (p, pool c' s') := fun {es' A B c' s'} h => by
      show (celE es' ++ M.set n (p, pool c' s'))[es.length + n]? = _
      rw [List.getElem?_append_right (by rw [celE_len, h]; omega), celE_len, h, Nat.add_sub_cancel_left]; exact set_n hn
    have hpset : ∀ {es' : List En} {A B : Addr × HO} {c' s' c'' s'' : Int}, es'.length = es.length → (A :: B :: (celE es' ++ M.set n (p, pool c' s'))).set (es.length + n + 2) (p, pool c'' s'') = A :: B :: (celE es' ++ M.set n (p, pool c'' s'')) := fun {es' A B c' s' c'' s''} h => by
      show A :: B :: (celE es' ++ M.set n (p, pool c' s')).set (es.length + n) (p, pool c'' s'') = _
      rw [List.set_append_right _ _ (by rw [celE_len, h]; omega), celE_len, h, Nat.add_sub_cancel_left, List.set_set]
    refine ⟨G', _, Wk.refl, tyl_n (hcell _), natsV e.l, .inl (.inl (List.mem_of_getElem? (hcell _))), p, ((natsV e.l).length : Int), es.length + n + 2, c1, s1, rfl, rfl, hpool rfl, hs1, by rw [natsV_len]; omega, by rw [natsV_len]; omega, fun r c2 s2 r0 r1 hs2 => ?_⟩
    rw [hpset rfl]
    rw [natsV_len] at r1
    obtain ⟨rn, rfl⟩ := Int.eq_ofNat_of_zero_le r0
    have hrl : rn < e.l.length := by omega
    obtain ⟨j, hj⟩ : ∃ j, e.l[rn]? = some j := ⟨_, List.getElem?_eq_getElem hrl⟩
    obtain ⟨g1, g2⟩ := e2 j (List.mem_of_getElem? hj)
    refine ⟨m + 2, natsV e.l, rn, .int (j : Nat), hcell _, by omega, by omega, seqIx (by omega) (by rw [natsV_len]; omega), natsV_get hj, ?_⟩
    obtain ⟨es2, hes2⟩ : ∃ es2, es2 = es.set m ⟨e.k, e.b, e.l.eraseIdx rn⟩ := ⟨_, rfl⟩
    have hes2l : es2.length = es.length := by rw [hes2, List.length_set]
    have hkv : kvsE es2 = kvsE es := by
      rw [hes2]
      unfold kvsE
      rw [List.map_set]
      refine List.ext_getElem? fun x => ?_
      rw [List.getElem?_set]
      by_cases z : m = x
      · subst z
        rw [if_pos rfl, if_pos (by rw [List.length_map]; exact hml), List.getElem?_map, hm]; rfl
      · rw [if_neg z]
    have hM2 : ((pp, HO.lst acc) :: (pl, HO.dT (kvsE es)) :: (celE es ++ M.set n (p, pool c2 s2))).set (m + 2) (e.b, .lst ((natsV e.l).eraseIdx rn)) = (pp, HO.lst acc) :: (pl, HO.dT (kvsE es2)) :: (celE es2 ++ M.set n (p, pool c2 s2)) := by
      show (pp, HO.lst acc) :: (pl, HO.dT (kvsE es)) :: (celE es ++ M.set n (p, pool c2 s2)).set m (e.b, .lst ((natsV e.l).eraseIdx rn)) = _
      rw [natsV_erase, celE_set (e := e) (k := e.k) hml, ← hes2, hkv]
    rw [hM2]
    refine ⟨G', _, Wk.refl, ?_⟩
    -- the end of a turn
    have fin : ∀ (G2 : Hp) (u : V) (turn : Option (List Nat)) (c' s' : Int) (y8 : Option V), Ex G' G2 → G2 pp = none → PpM K G2 [] u ⟨j, turn⟩ → PpOk ks k ⟨j, turn⟩ → PoolOk s' → ∃ G3 M3, Wk G2 ((pp, HO.lst (acc ++ [u])) :: (pl, HO.dT (kvsE es2)) :: (celE es2 ++ M.set n (p, pool c' s'))) G3 M3 ∧ ∃ (acc : List V) (ps : List Pp) (es : List En) (c s : Int) (y3' y5' y6' y7' y8' : Option V), [some (V.ref p), some (.ref a), some (.ref pl), y3, some (.ref pp), some (.ref T), some (.ref e.b), some (.int (j : Nat)), y8] = [some (.ref p), some (.ref a), some (.ref pl), y3', some (.ref pp), y5', y6', y7', y8'] ∧ Ex G G3 ∧ G3 pp = none ∧ M3 = (pp, .lst acc) :: (pl, .dT (kvsE es)) :: (celE es ++ M.set n (p, pool c s)) ∧ PoolOk s ∧ A2 (PpM K G3 []) acc ps ∧ A2 (PpOk ks) (ks.take (i + 1)) ps ∧ (ps.map (·.src)).Nodup ∧ (es.map (·.k)).Nodup ∧ (∀ e, e ∈ es → EnOk ks (i + 1) (ps.map (·.src)) e) ∧ (∀ k, k ∈ ks → ∃ e, e ∈ es ∧ e.k = k) := fun G2 u turn c' s' y8 ex2 gp2 hu2 hpo hs' => by
      have hkeys : es2.map (·.k) = es.map (·.k) := by
        rw [hes2, List.map_set]
        refine List.ext_getElem? fun x => ?_
        rw [List.getElem?_set]
        by_cases z : m = x
        · subst z
          rw [if_pos rfl, if_pos (by rw [List.length_map]; exact hml), List.getElem?_map, hm]; rfl
        · rw [if_neg z]
      refine ⟨G2, _, Wk.refl, acc ++ [u], ps ++ [⟨j, turn⟩], es2, c', s', _, _, _, _, _, rfl, ex.trans ex2, gp2, rfl, hs', (hacc.mono fun _ _ z => z.ex ex2).app (.cons hu2 .nil), ?_, ?_, by rw [hkeys]; exact hnd, fun x hx => ?_, fun k' hk' => ?_⟩
      · rw [take_succ' hki]; exact hok.app (.cons hpo .nil)
      · rw [List.map_append, List.nodup_append]
        refine ⟨hsn, List.nodup_cons.mpr ⟨fun z => (nomatch z), List.nodup_nil⟩, fun x hx y hy z => ?_⟩
        rw [List.mem_singleton.mp (show y ∈ [j] from hy)] at z
        rw [z] at hx; exact g2 hx
      · obtain ⟨x', hx'⟩ := List.getElem?_of_mem hx
        rw [hes2, List.getElem?_set] at hx'
        by_cases z : m = x'
        · subst z
          rw [if_pos rfl, if_pos hml] at hx'
          cases hx'
          refine ⟨List.Nodup.sublist (List.eraseIdx_sublist _ _) e1, fun y hy => ?_, ?_⟩
          · obtain ⟨h1, h2⟩ := erase_mem e1 hj hy
            obtain ⟨h3, h4⟩ := e2 y h1
            refine ⟨h3, fun hz => ?_⟩
            rw [List.map_append] at hz
            rcases List.mem_append.mp hz with hz | hz
            · exact h4 hz
            · exact h2 (List.mem_singleton.mp hz)
          · show (e.l.eraseIdx rn).length = _
            rw [List.length_eraseIdx, if_pos hrl, hlen]; rfl
        · rw [if_neg z] at hx'
          have hxm := List.mem_of_getElem? hx'
          obtain ⟨f1, f2, f3⟩ := hen x hxm
          have hne : x.k ≠ k := fun z2 => by
            have m1 : (es.map (·.k))[m]? = some k := by rw [List.getElem?_map, hm, ← hek]; rfl
            have m2 : (es.map (·.k))[x']? = some k := by rw [List.getElem?_map, hx', ← z2]; rfl
            obtain ⟨l1, q1⟩ := List.getElem?_eq_some_iff.mp m1
            obtain ⟨l2, q2⟩ := List.getElem?_eq_some_iff.mp m2
            exact z ((List.getElem_inj hnd).mp (q1.trans q2.symm))
          refine ⟨f1, fun y hy => ?_, ?_⟩
          · obtain ⟨h3, h4⟩ := f2 y hy
            refine ⟨h3, fun hz => ?_⟩
            rw [List.map_append] at hz
            rcases List.mem_append.mp hz with hz | hz
            · exact h4 hz
            · have : y = j := List.mem_singleton.mp hz
              subst this
              rw [g1] at h3
              injection h3 with h3
              exact hne (h3.symm.trans hek)
          · rw [f3, hdrop, List.filter_cons_of_neg (p := fun y => kEq y x.k) (fun z2 => hne (kEq_iff.mp z2).symm)]
      · have : k' ∈ es2.map (·.k) := by
          rw [hkeys]
          obtain ⟨x, hx, e4⟩ := hc k' hk'
          exact List.mem_map.mpr ⟨x, hx, e4⟩
        obtain ⟨x, hx, e4⟩ := List.mem_map.mp this
        exact ⟨x, hx, e4⟩
    have kk := hkn k hkm
    have hks : ks[j]? = some k := by rw [g1, hek]
    have haccl : acc.length < sizeLine := Nat.lt_of_le_of_lt (show acc.length ≤ 100 by omega) (by decide)
    refine ⟨G', _, Wk.refl, [.str k.txt, .int k.n], .str k.txt, .inr (sqt_of hT'), atI_nat (j := 0) rfl, ?_⟩
    show if decide (V.str k.txt = .str "shuffle") = true then _ else _
    rw [txt_shuf0]
    cases hlf : k.leaf with
    | true =>
      refine ⟨G', _, Wk.refl, tyl_n (n := 0) rfl, sz2, fun P fP => ?_⟩
      have ex2 := Ex.new (o := .tup [.int (j : Int), .non]) fP
      have hPp : pp ≠ P := fP.2 (pp, .lst acc) List.mem_cons_self
      obtain ⟨G3, M3, h1, h2⟩ := fin _ (.ref P) none c2 s2 (some .non) ex2 (by rw [upd_ne hPp]; exact gp) ⟨P, .non, rfl, sqt_new, rfl⟩ ⟨hks, fun _ => rfl, fun z => by rw [hlf] at z; cases z⟩ hs2
      exact ⟨0, acc, rfl, haccl, G3, M3, h1, h2⟩
    | false =>
      have k1 := kk.2.2 hlf
      refine ⟨G', _, Wk.refl, [.str k.txt, .int k.n], .int k.n, .inr (sqt_of hT'), atI_nat (j := 1) rfl, p, es.length + n + 2, c2, s2, k.n, rfl, rfl, kk.1, hpool hes2l, hs2, fun t lt c3 s3 hlt hs3 ft => ?_⟩
      rw [hpset hes2l]
      refine ⟨G', _, Wk.refl, tyl_n (n := 1) rfl, sz2, fun P fP => ?_⟩
      have ex2 := Ex.new (o := .tup [.int (j : Int), .ref t]) fP
      have hPt : t ≠ P := fP.2 (t, .lst (natsV lt)) List.mem_cons_self
      have hPp : pp ≠ P := fP.2 (pp, .lst acc) (List.mem_cons_of_mem _ List.mem_cons_self)
      have htp : pp ≠ t := ft.2 (pp, .lst acc) List.mem_cons_self
      have gt : (upd G' P (.tup [.int (j : Int), .ref t])) t = none := by rw [upd_ne hPt]; exact ft.1
      have ex3 := Ex.new' (o := .lst (natsV lt)) gt
      obtain ⟨G3, M3, h1, h2⟩ := fin (upd (upd G' P (.tup [.int (j : Int), .ref t])) t (.lst (natsV lt))) (.ref P) (some lt) c3 s3 (some (.ref t)) (ex2.trans ex3) (by rw [upd_ne htp, upd_ne hPp]; exact gp) ⟨P, .ref t, rfl, ex_t ex3 sqt_new, t, rfl, .inr sql_new⟩ ⟨hks, fun z => (by rw [hlf] at z; cases z), fun _ => ⟨lt, rfl, hlt⟩⟩ hs3
      exact ⟨1, acc, rfl, haccl, G3, M3, Wk.frz0.trans h1, h2⟩
  · rintro σ G' M' ⟨acc, ps, es, c1, s1, y3, y5, y6, y7, y8, rfl, ex, gp, rfl, hs1, hacc, hok, hsn, hnd, hen, hc⟩
    have hok : A2 (PpOk ks) (ks.take us.length) ps := hok
    rw [hul, List.take_length] at hok
    have ex2 := Ex.new' (o := .lst acc) gp
    refine ⟨G', _, Wk.refl, retW (M' := M.set n (p, pool c1 s1)) ?_ (q pp ps c1 s1 _ (ex.trans ex2) ⟨acc, .inr sql_new, hacc.mono fun _ _ z => z.ex ex2⟩ ⟨hok, hsn⟩ hs1)⟩
    exact Wk.frz0.trans (Wk.drop0.trans (Wk.dropP (celE es)))
end

section
variable {K : PySem.W.Frag} {vs : List V} {G : Hp} {M : Mem} {R : KR} {Z : KX}
theorem lat_ap0 {Mx : Mem} {a : Addr} {xs : List V} (h : LstAt K G M a xs) : LstAt K G (Mx ++ M) a xs := h.elim (fun z => .inl (List.mem_append.mpr (.inr z))) .inr
theorem pf_led (h : S_led K vs G M R Z) : rd_led K (ends R Z) (sta 4 vs) G M := by
  refine of_now ?_
  simp (disch := with_unfolding_all
    obtain ⟨x, _, _, rfl, p, b, ks, ps, ds, rfl, rfl, hp, hpo, hkn, hkl, hb, hok, q⟩ := sp3_of h
    clear h
    obtain ⟨us, hu, ha⟩ := hp
    have hal := ha.len
    have hpl := hpo.len
    refine ⟨G, M, Wk.refl, us, hu, sz (by show us.length ≤ _; omega), fun i acc G' M' => ∃ cs : List Dc, G' = G ∧ acc = cs.map Dc.v ∧ M' = cs.flatMap Dc.cells ++ M ∧ cs.map Dc.dr = (ps.take i).map (ledP ds), ⟨[], rfl, rfl, rfl, rfl⟩, ?_, ?_, ?_⟩
    · rintro i acc G' M' _ ⟨cs, rfl, _, rfl, _⟩; exact lat_ap0 hu
    · rintro i acc G' M' X hi hac ⟨cs, hG, rfl, rfl, hcs⟩ fX
      subst hG
      have hi : i < us.length := hi
      obtain ⟨pp, hpp⟩ : ∃ pp, ps[i]? = some pp := ⟨_, List.getElem?_eq_getElem (by omega)⟩
      obtain ⟨k, hk⟩ : ∃ k, ks[i]? = some k := ⟨_, List.getElem?_eq_getElem (by omega)⟩
      obtain ⟨v, hv, hvp⟩ := ha.get hpp
      have hq := a2_pt hpo.ok hk hpp
      refine asg_L hv ⟨rfl, b, k, ks, pp, ds, rfl, PpM.more (Mx := (X, HO.lst (cs.map Dc.v)) :: cs.flatMap Dc.cells) hvp, hkn k (List.mem_of_getElem? hk), hq, DrAt.more (Mx := (X, HO.lst (cs.map Dc.v)) :: cs.flatMap Dc.cells) hb, hok, fun c hc fc => ?_⟩
      refine ⟨G', (cs ++ [c]).flatMap Dc.cells ++ M, Wk.perm ?_, cs ++ [c], rfl, by rw [List.map_append]; rfl, rfl, ?_⟩
      · rw [List.flatMap_append, List.flatMap_cons, List.flatMap_nil, List.append_nil]
        generalize cs.flatMap Dc.cells = A
        generalize c.cells = B
        (classical (rw [List.perm_iff_count]; intro x; simp only [List.set_cons_zero, List.set_cons_succ, List.cons_append, List.nil_append, List.append_assoc, List.append_eq, List.count_append, List.count_cons, List.count_nil] <;> omega))
      · rw [take_succ' hpp, List.map_append, List.map_append, hcs]
        show _ ++ [c.dr] = _
        rw [hc]; rfl
    · rintro acc G' M' y ⟨cs, rfl, rfl, rfl, hcs⟩ hac fy
      have hcs : cs.map Dc.dr = (ps.take us.length).map (ledP ds) := hcs
      rw [hal, List.take_length] at hcs
      exact ret0 (q y cs hcs)) only [↓now_true]
/-! the leading back, each turn a cell of its own -/
def opV : Option Pc → V
  | none => .non
  | some c => .ref c.T
def opC : Option Pc → Mem
  | none => []
  | some c => c.cells
theorem op_set : ∀ {os : List (Option Pc)} {j : Nat} {c : Pc}, os[j]? = some none → ((os.set j (some c)).flatMap opC).Perm (c.cells ++ os.flatMap opC)
  | [], _, _, h => by simp at h
  | o :: os, 0, c, h => by
    rw [List.getElem?_cons_zero] at h
    cases h
    exact List.Perm.refl _
  | o :: os, j + 1, c, h => by
    have ih := op_set (os := os) (j := j) (c := c) (by rw [List.getElem?_cons_succ] at h; exact h)
    show (opC o ++ (os.set j (some c)).flatMap opC).Perm (c.cells ++ (opC o ++ os.flatMap opC))
    refine (ih.append_left _).trans ?_
    rw [← List.append_assoc, ← List.append_assoc]
    exact List.Perm.append_right _ List.perm_append_comm
theorem op_all : ∀ {os : List (Option Pc)}, (∀ o, o ∈ os → ∃ c, o = some c) → ∃ cs : List Pc, os = cs.map some
  | [], _ => ⟨[], rfl⟩
  | o :: os, h => by
    obtain ⟨c, rfl⟩ := h o List.mem_cons_self
    obtain ⟨cs, rfl⟩ := op_all fun x hx => h x (List.mem_cons_of_mem _ hx)
    exact ⟨c :: cs, rfl⟩
theorem op_vs (cs : List Pc) : (cs.map some).map opV = cs.map (fun c => V.ref c.T) ∧ (cs.map some).flatMap opC = cellsP cs := by
  induction cs with
  | nil => exact ⟨rfl, rfl⟩
  | cons c cs ih =>
    refine ⟨by show V.ref c.T :: (cs.map some).map opV = _; rw [ih.1]; rfl, ?_⟩
    show c.cells ++ (cs.map some).flatMap opC = c.cells ++ cellsP cs
    rw [ih.2]
theorem pf_back (h : S_back K vs G M R Z) : rd_back K (ends R Z) (sta 6 vs) G M := by
  obtain ⟨_, rfl, p, ks, ps, rfl, hp, hpo, hkn, hkl, q⟩ := sp1_of h
  clear h
  obtain ⟨us, hu, ha⟩ := hp
  have hal := ha.len
  have hpl := hpo.len
  have hord := srcs_ord hpo
  refine ⟨G, M, Wk.refl, sz1, fun z fz => ⟨us, .inl (lat_more1 hu), [.non], at_n (n := 0) rfl, by omega, by omega, sz (by show 1 * _ ≤ _; omega), fun f ff => ?_⟩⟩
  have e0 : (List.replicate (us.length : Int).toNat [V.non]).flatten = List.replicate ps.length V.non := by rw [rep_nonsL, Int.toNat_natCast, hal]
  rw [e0]
  refine ⟨G, (f, .lst (List.replicate ps.length V.non)) :: ([] ++ M), Wk.drop1, us, lat_ap hu, fun i σ G' M' => ∃ (y2 y3 y4 y5 : Option V) (os : List (Option Pc)) (C : Mem), σ = [some (.ref p), some (.ref f), y2, y3, y4, y5] ∧ Ex G G' ∧ M' = (f, .lst (os.map opV)) :: (C ++ M) ∧ C.Perm (os.flatMap opC) ∧ os.length = ps.length ∧ ∀ (s : Nat) (o : Option Pc), os[s]? = some o → (i ≤ (ps.map (·.src)).idxOf s → o = none) ∧ ((ps.map (·.src)).idxOf s < i → ∃ c, o = some c ∧ c.at K G' ∧ (backP ps)[s]? = some c.pp), ⟨none, none, none, none, List.replicate ps.length none, [], rfl, Ex.refl, by rw [List.map_replicate]; rfl, by
      rw [List.flatMap_replicate]
      show ([] : Mem).Perm (List.replicate ps.length ([] : Mem)).flatten
      have : ∀ n, (List.replicate n ([] : Mem)).flatten = [] := fun n => by
        induction n with
        | zero => rfl
        | succ n ih => rw [List.replicate_succ, List.flatten_cons, ih]; rfl
      rw [this], List.length_replicate, fun s o e => ⟨fun _ => by
        have := List.mem_of_getElem? e
        exact List.eq_of_mem_replicate this, fun z => nomatch z⟩⟩, ?_, ?_, ?_⟩
  · rintro i σ G' M' _ ⟨y2, y3, y4, y5, os, C, rfl, ex, rfl, _⟩; exact lat_ap (lat_ex ex hu)
  · rintro i σ G' M' hi ⟨y2, y3, y4, y5, os, C, rfl, ex, rfl, hC, hwl, hws⟩
    have hi : i < us.length := hi
    obtain ⟨pp, hpp⟩ : ∃ pp, ps[i]? = some pp := ⟨_, List.getElem?_eq_getElem (by omega)⟩
    obtain ⟨k, hk⟩ : ∃ k, ks[i]? = some k := ⟨_, List.getElem?_eq_getElem (by omega)⟩
    obtain ⟨v, hv, T, w, rfl, hT, hw⟩ := ha.get hpp
    obtain ⟨a1, a2, a3⟩ := a2_pt hpo.ok hk hpp
    have hsl : pp.src < ps.length := by have := (List.getElem?_eq_some_iff.mp a1).1; omega
    have hgd : ps.getD i ⟨0, none⟩ = pp := by rw [List.getD_eq_getElem?_getD, hpp]; rfl
    have hidx : (ps.map (·.src)).idxOf pp.src = i := by
      have h1 : (ps.map (·.src)).getD i 0 = pp.src := by rw [List.getD_eq_getElem?_getD, List.getElem?_map, hpp]; rfl
      rw [← h1]
      exact idx_of_nodup hpo.nd (by rw [List.length_map]; omega)
    have hos : os[pp.src]? = some none := by
      obtain ⟨o, ho⟩ : ∃ o, os[pp.src]? = some o := ⟨_, List.getElem?_eq_getElem (by omega)⟩
      rw [ho, (hws _ o ho).1 (by omega)]
    have hset : ∀ c : Pc, (os.map opV).set pp.src (.ref c.T) = (os.set pp.src (some c)).map opV := fun c => by rw [List.map_set]; rfl
    have fin : ∀ (G2 : Hp) (c : Pc), Ex G' G2 → c.at K G2 → c.pp = ⟨i, pp.turn.map invN⟩ → ∀ (s : Nat) (o : Option Pc), (os.set pp.src (some c))[s]? = some o → (i + 1 ≤ (ps.map (·.src)).idxOf s → o = none) ∧ ((ps.map (·.src)).idxOf s < i + 1 → ∃ c, o = some c ∧ c.at K G2 ∧ (backP ps)[s]? = some c.pp) := fun G2 c e2 hc hcp s o hs => by
      by_cases e : s = pp.src
      · subst e
        rw [List.getElem?_set_self (by omega)] at hs
        cases hs
        refine ⟨fun z => by omega, fun _ => ⟨c, rfl, hc, ?_⟩⟩
        rw [back_get hsl, hidx, hgd, hcp]
      · rw [List.getElem?_set_ne (fun z => e z.symm)] at hs
        have hne : (ps.map (·.src)).idxOf s ≠ i := fun z => by
          have hsp : s < ps.length := by rw [← hwl]; exact (List.getElem?_eq_some_iff.mp hs).1
          have := (getD_idx (ord_has hord s hsp)).2
          rw [z, List.getD_eq_getElem?_getD, List.getElem?_map, hpp] at this
          exact e this.symm
        obtain ⟨b1, b2⟩ := hws s o hs
        refine ⟨fun z => b1 (by omega), fun z => ?_⟩
        obtain ⟨c', e1, e3, e4⟩ := b2 (by omega)
        exact ⟨c', e1, Pc.at_ex e2 e3, e4⟩
    refine asg_E hv ⟨G', _, Wk.refl, _, ex_t ex hT, ?_⟩
    cases hl : k.leaf with
    | true =>
      have ht := a2 hl
      rw [ht] at hw
      obtain rfl : w = .non := hw
      refine ⟨G', _, Wk.refl, sz2, fun P fP => ?_⟩
      have e2 := Ex.new (o := .tup [.int (i : Int), .non]) fP
      refine ⟨0, os.map opV, pp.src, rfl, ixN_nat (by rw [List.length_map]; omega), ?_⟩
      refine ⟨_, _, Wk.refl, _, _, _, _, os.set pp.src (some ⟨P, i, none⟩), C, rfl, ex.trans e2, by rw [← hset]; rfl, ?_, by rw [List.length_set, hwl], fin _ ⟨P, i, none⟩ e2 sqt_new (by rw [ht]; rfl)⟩
      exact hC.trans (op_set (c := ⟨P, i, none⟩) hos).symm
    | false =>
      obtain ⟨l, ht, hol⟩ := a3 hl
      rw [ht] at hw
      obtain ⟨c, rfl, hc⟩ := hw
      have h64 := (hkn k (List.mem_of_getElem? hk)).1
      have hll := hol.len
      refine ⟨G', _, Wk.refl, c, l, rfl, lat_ap (lat_ex ex hc), by rw [hll]; exact hol, by omega, fun t ft => ⟨sz2, fun P fP => ?_⟩⟩
      have e2 := Ex.new (o := .tup [.int (i : Int), .ref t]) fP
      refine ⟨1, os.map opV, pp.src, rfl, ixN_nat (by rw [List.length_map]; omega), ?_⟩
      refine ⟨_, (f, .lst ((os.map opV).set pp.src (.ref P))) :: (((t, .lst (natsV (invN l))) :: C) ++ M), Wk.swap, _, _, _, _, os.set pp.src (some ⟨P, i, some (t, invN l)⟩), (t, .lst (natsV (invN l))) :: C, rfl, ex.trans e2, by rw [← hset], ?_, by rw [List.length_set, hwl], fin _ ⟨P, i, some (t, invN l)⟩ e2 sqt_new (by rw [ht]; rfl)⟩
      exact (List.Perm.cons _ hC).trans (op_set (c := ⟨P, i, some (t, invN l)⟩) hos).symm
  · rintro σ G' M' ⟨y2, y3, y4, y5, os, C, rfl, ex, rfl, hC, hwl, hws⟩
    have hall : ∀ (s : Nat) (o : Option Pc), os[s]? = some o → ∃ c, o = some c ∧ c.at K G' ∧ (backP ps)[s]? = some c.pp := fun s o e => by
      refine (hws s o e).2 ?_
      show (ps.map (·.src)).idxOf s < us.length
      have hsp : s < ps.length := by rw [← hwl]; exact (List.getElem?_eq_some_iff.mp e).1
      have := (getD_idx (ord_has hord s hsp)).1
      rw [List.length_map] at this
      omega
    obtain ⟨cs, rfl⟩ := op_all (os := os) fun o ho => by
      obtain ⟨s, hs⟩ := List.getElem?_of_mem ho
      obtain ⟨c, h1, _⟩ := hall s o hs
      exact ⟨c, h1⟩
    obtain ⟨v1, v2⟩ := op_vs cs
    rw [v2] at hC
    rw [v1]
    have hcs : ∀ (s : Nat) (c : Pc), cs[s]? = some c → c.at K G' ∧ (backP ps)[s]? = some c.pp := fun s c e => by
      obtain ⟨c', e1, e2, e3⟩ := hall s (some c) (by rw [List.getElem?_map, e]; rfl)
      cases e1
      exact ⟨e2, e3⟩
    refine ⟨G', (f, .lst (cs.map fun c => .ref c.T)) :: (cellsP cs ++ M), Wk.perm ((hC.symm.append_right M).cons _), ret0 (q f cs G' ex (fun c hc => ?_) ?_)⟩
    · obtain ⟨s, hs⟩ := List.getElem?_of_mem hc
      exact (hcs s c hs).1
    · rw [List.length_map] at hwl
      apply List.ext_getElem?
      intro s
      rw [List.getElem?_map]
      cases e : cs[s]? with
      | some c => rw [(hcs s c e).2]; rfl
      | none =>
        have : cs.length ≤ s := by simpa using e
        symm
        show (backP ps)[s]? = none
        rw [List.getElem?_eq_none]
        rw [back_len]; omega
end
section
variable {K : PySem.W.Frag} {vs : List V} {G : Hp} {M : Mem} {R : KR} {Z : KX}
theorem pf_law_order (h : S_law_order K vs G M R Z) : rd_law_order K (ends R Z) (sta 4 vs) G M := by
  obtain ⟨_, rfl, a, l, rfl, ha, hr, hl, q⟩ := sp1_of h
  refine ⟨G, M, Wk.refl, _, .inl ha, RgOk.of_le (by omega) (by rw [natsV_len]; omega) (by omega) (by omega), fun t ft => ?_⟩
  rw [natsV_len, rgV_nats]
  refine ⟨G, _, Wk.refl, _, .inl (lat_cons ha), ⟨by decide, by decide, by rw [natsV_len]; omega, by rw [natsV_len]; omega⟩, fun i σ G' M' => ∃ (o : List Nat) (y2 y3 : Option V), σ = [some (.ref a), some (.ref t), y2, y3] ∧ G' = G ∧ M' = (t, .lst (natsV o)) :: M ∧ o.length = l.length ∧ walkO (fun i => l.getD i 0) (l.length - 1 - i) o = orderOf l,
    ⟨List.range l.length, none, none, rfl, rfl, rfl, List.length_range, rfl⟩, fun _ _ _ _ _ _ => trivial, ?_, ?_⟩
  · rintro i σ G' M' hi ⟨o, y2, y3, rfl, rfl, rfl, ho, hw⟩
    have hi : i < (((natsV l).length : Int) - 1).toNat := hi
    rw [natsV_len] at hi
    obtain ⟨m, hm⟩ : ∃ m, l.length - 1 - i = m + 1 := ⟨l.length - 1 - i - 1, by omega⟩
    rw [hm] at hw
    have hr1 := rowok_getD hr (m + 1) (by omega)
    refine asg_C (v := ((m + 1 : Nat) : Int)) (by rw [natsV_len]; omega) ?_
    refine ⟨G', _, Wk.refl, _, _, lst_n (n := 0) rfl, atI_natD (by omega), ?_⟩
    refine ⟨G', _, Wk.refl, _, _, .inl (lat_cons ha), atI_natD (by omega), _, _, lst_n (n := 0) rfl, atI_natD (by omega), 0, _, m + 1, rfl, ixN_nat (by rw [natsV_len]; omega), ?_⟩
    refine ⟨G', _, Wk.refl, _, _, .inl (lat_cons ha), atI_natD (by omega), 0, _, l.getD (m + 1) 0, rfl, ixN_nat (by rw [List.length_set, natsV_len]; omega), ?_⟩
    refine ⟨G', _, Wk.refl, swapL o (m + 1) (l.getD (m + 1) 0), _, _, rfl, rfl, ?_, by rw [swap_len]; exact ho, by rw [show l.length - 1 - (i + 1) = m by omega]; exact hw⟩
    show (t, HO.lst _) :: M = _
    rw [natsV_set, natsV_set]; rfl
  · rintro σ G' M' ⟨o, y2, y3, rfl, rfl, rfl, ho, hw⟩
    have hw : walkO (fun i => l.getD i 0) (l.length - 1 - (((natsV l).length : Int) - 1).toNat) o = orderOf l := hw
    rw [show l.length - 1 - (((natsV l).length : Int) - 1).toNat = 0 by rw [natsV_len]; omega] at hw
    have hw : o = orderOf l := hw
    subst hw
    exact ⟨_, _, Wk.refl, ret0 (q t ft)⟩
theorem pf_law_orders (h : S_law_orders K vs G M R Z) : rd_law_orders K (ends R Z) (sta 4 vs) G M := by
  obtain ⟨_, _, rfl, a, b, ks, ds, rfl, rfl, ⟨us, hu, hk⟩, ⟨ws, hw, hd⟩, hok, hkn, hkl, q⟩ := sp2_of h
  clear h
  have hul := hk.len
  have hwl := hd.len
  have hdl := hok.len
  refine ⟨G, M, Wk.refl, us, ws, .inr hu, hw, sz (by show min us.length ws.length ≤ _; omega), fun i acc G' M' => ∃ cs : List Dc, G' = G ∧ acc = cs.map Dc.v ∧ M' = cs.flatMap Dc.cells ++ M ∧ cs.map Dc.dr = (ds.take i).map ordD, ⟨[], rfl, rfl, rfl, rfl⟩, ?_, ?_, ?_⟩
  · rintro i acc G' M' _ ⟨cs, rfl, _, rfl, _⟩; exact ⟨.inr hu, lat_ap0 hw⟩
  · rintro i acc G' M' X hi hac ⟨cs, hG, rfl, rfl, hcs⟩ fX
    subst hG
    have hi : i < min us.length ws.length := hi
    obtain ⟨d, hdi⟩ : ∃ d, ds[i]? = some d := ⟨_, List.getElem?_eq_getElem (by omega)⟩
    obtain ⟨k, hki⟩ : ∃ k, ks[i]? = some k := ⟨_, List.getElem?_eq_getElem (by omega)⟩
    obtain ⟨v, hv, T, rfl, hT⟩ := hk.get hki
    obtain ⟨z, hz, hzd⟩ := hd.get hdi
    have hq := a2_pt hok hki hdi
    refine asg_Z hv hz ⟨rfl, _, _, tup_g (sqt_of hT), rfl, ?_⟩
    show if decide (V.str k.txt = .str "leaf") = true then _ else _
    rw [txt_leaf]
    refine ite2' (fun e => ?_) (fun e => ?_)
    · cases d with
      | row l => exact absurd hq.1 (by rw [e]; exact fun z => nomatch z)
      | leaf n =>
        cases (show z = .int (n : Nat) from hzd)
        refine ⟨G', (cs ++ [Dc.leaf n]).flatMap Dc.cells ++ M, Wk.of_eq ?_, cs ++ [.leaf n], rfl, by rw [List.map_append]; rfl, rfl, ?_⟩
        · rw [List.flatMap_append]; simp [Dc.cells]
        · rw [take_succ' hdi, List.map_append, List.map_append, hcs]; rfl
    · cases d with
      | leaf n => exact absurd hq.1 (by rw [e]; exact fun z => nomatch z)
      | row l =>
        obtain ⟨b', rfl, hb'⟩ := hzd
        have hn := (hkn k (List.mem_of_getElem? hki)).1
        refine ⟨b', l, rfl, lat_cons (lat_ap0 hb'), hq.2.2, by rw [hq.2.1]; omega, fun t ft => ?_⟩
        refine ⟨G', (cs ++ [Dc.row t (orderOf l)]).flatMap Dc.cells ++ M, Wk.perm ?_, cs ++ [.row t (orderOf l)], rfl, by rw [List.map_append]; rfl, rfl, ?_⟩
        · rw [List.flatMap_append, List.flatMap_cons, List.flatMap_nil, List.append_nil]
          refine List.Perm.symm ?_
          show (((t, HO.lst (natsV (orderOf l))) :: ((X, HO.lst (cs.map Dc.v)) :: (cs.flatMap Dc.cells ++ M))).Perm ((X, HO.lst (cs.map Dc.v)) :: ((cs.flatMap Dc.cells ++ [(t, HO.lst (natsV (orderOf l)))]) ++ M)))
          generalize cs.flatMap Dc.cells = A
          rw [List.append_assoc]
          exact (List.Perm.swap _ _ _).trans (List.Perm.cons _ List.perm_middle.symm)
        · rw [take_succ' hdi, List.map_append, List.map_append, hcs]; rfl
  · rintro acc G' M' y ⟨cs, rfl, rfl, rfl, hcs⟩ hac fy
    have hcs : cs.map Dc.dr = (ds.take (min us.length ws.length)).map ordD := hcs
    rw [show min us.length ws.length = ds.length by omega, List.take_length] at hcs
    exact ret0 (q y cs hcs)
theorem pf_law_led (h : S_law_led K vs G M R Z) : rd_law_led K (ends R Z) (sta 8 vs) G M := by
  obtain ⟨_, _, _, rfl, a, p, b, ks, ps, ds, rfl, rfl, rfl, ⟨us, hu, hk⟩, ⟨ws, hw, hp⟩, hpo, hkn, hkl, hb, hok, q⟩ := sp3_of h
  clear h
  have hul := hk.len
  have hwl := hp.len
  have hpl := hpo.len
  refine ⟨G, M, Wk.refl, sz0, fun t ft => ?_⟩
  refine ⟨G, _, Wk.refl, us, ws, .inr hu, lat_cons hw, fun i σ G' M' => ∃ (cs : List Dc) (y4 y5 y6 : Option V), σ = [some (.ref a), some (.ref p), some (.ref b), some (.ref t), y4, y5, y6, none] ∧ G' = G ∧ M' = (t, .lst (cs.map Dc.v)) :: (cs.flatMap Dc.cells ++ M) ∧ cs.map Dc.dr = ((ps.take i).map (ledP ds)).map ordD, ⟨[], none, none, none, rfl, rfl, rfl, rfl⟩, ?_, ?_, ?_⟩
  · rintro i σ G' M' _ ⟨cs, _, _, _, rfl, rfl, rfl, _⟩; exact ⟨.inr hu, lat_cons (lat_ap0 hw)⟩
  · rintro i σ G' M' hi ⟨cs, y4, y5, y6, rfl, hG, rfl, hcs⟩
    subst hG
    have hi : i < min us.length ws.length := hi
    obtain ⟨pp, hpi⟩ : ∃ pp, ps[i]? = some pp := ⟨_, List.getElem?_eq_getElem (by omega)⟩
    obtain ⟨k, hki⟩ : ∃ k, ks[i]? = some k := ⟨_, List.getElem?_eq_getElem (by omega)⟩
    obtain ⟨v, hv, T, rfl, hT⟩ := hk.get hki
    obtain ⟨z, hz, S, w, rfl, hS, hwt⟩ := hp.get hpi
    obtain ⟨a1, a2, a3⟩ := a2_pt hpo.ok hki hpi
    have hkk := hkn k (List.mem_of_getElem? hki)
    obtain ⟨es, v, d, he, hve, hvd, e1, e2, hd⟩ := drAt_get hb hok a1
    have hcl : cs.length = i := by
      have := congrArg List.length hcs
      rw [List.length_map, List.length_map, List.length_map, List.length_take] at this
      omega
    have hsz : (cs.map Dc.v).length < sizeLine := by rw [List.length_map]; exact Nat.lt_of_le_of_lt (show cs.length ≤ 1000 by omega) (by decide)
    refine asg_Z hv hz ⟨G', _, Wk.refl, _, _, tup_g (sqt_of hT), rfl, ?_⟩
    show if decide (V.str k.txt = .str "leaf") = true then _ else _
    rw [txt_leaf]
    refine ite2' (fun hl => ?_) (fun hl => ?_)
    · have ht := a2 hl
      cases d with
      | row l => obtain ⟨z, _⟩ := hd; rw [hl] at z; cases z
      | leaf n =>
        obtain rfl : v = .int n := hvd
        refine ⟨G', _, Wk.refl, tyl_n (n := 0) rfl, _, _, tup_g hS, rfl, es, _, .inl (lat_cons (lat_ap0 he)), atI_nat hve, 0, _, rfl, hsz, ?_⟩
        refine ⟨G', _, Wk.refl, cs ++ [Dc.leaf n], _, _, _, rfl, rfl, ?_, ?_⟩
        · rw [List.map_append, List.flatMap_append]; simp [Dc.cells, Dc.v]
        · rw [take_succ' hpi, List.map_append, List.map_append, List.map_append, hcs]
          have e : ledP ds pp = .leaf n := by unfold ledP; rw [ht, e2]
          show _ ++ [Dr.leaf n] = _ ++ [ordD (ledP ds pp)]
          rw [e]; rfl
    · obtain ⟨l, ht, hol⟩ := a3 hl
      rw [ht] at hwt
      obtain ⟨c, rfl, hc⟩ := hwt
      cases d with
      | leaf n => obtain ⟨z, _⟩ := hd; rw [hl] at z; cases z
      | row r =>
        have hord := row_of_dr hd hl
        obtain ⟨_, hrl, hrok⟩ := hd
        obtain ⟨rb, rfl, hrb⟩ := hvd
        have h64 := hkk.1
        refine ⟨G', _, Wk.refl, _, _, tup_g hS, rfl, es, _, .inl (lat_cons (lat_ap0 he)), atI_nat hve, rb, r, rfl, lat_cons (lat_ap0 hrb), hrok, by omega, fun o fo => ?_⟩
        have hol2 : (orderOf r).length = k.n := by rw [order_len hrok, hrl]
        refine ⟨G', _, Wk.refl, tyl_n (n := 1) rfl, _, _, tup_g hS, rfl, natsV l, lat_cons (lat_cons (lat_ap0 hc)), sz (by show (natsV l).length ≤ _; rw [natsV_len, hol.len]; omega), fun j acc G2 M2 => G2 = G' ∧ M2 = (o, HO.lst (natsV (orderOf r))) :: (t, .lst (cs.map Dc.v)) :: (cs.flatMap Dc.cells ++ M) ∧ acc = natsV ((l.take j).map fun j => (orderOf r).getD j 0), ⟨rfl, rfl, rfl⟩, ?_, ?_, ?_⟩
        · rintro j acc G2 M2 _ ⟨rfl, rfl, _⟩; exact lat_cons (lat_cons (lat_ap0 hc))
        · rintro j acc G2 M2 X hj hac ⟨rfl, rfl, rfl⟩ fX
          have hj : j < (natsV l).length := hj
          rw [natsV_len] at hj
          obtain ⟨x, hx⟩ : ∃ x, l[j]? = some x := ⟨_, List.getElem?_eq_getElem hj⟩
          have hxl : x < (orderOf r).length := by rw [hol2]; exact hol.lt x (List.mem_of_getElem? hx)
          refine asg_L (natsV_get hx) ⟨rfl, natsV (orderOf r), _, lst_n (n := 1) rfl, atI_natD hxl, _, _, Wk.refl, rfl, rfl, ?_⟩
          rw [take_succ' hx, List.map_append]
          unfold natsV; rw [List.map_append]; rfl
        · rintro acc G2 M2 y ⟨rfl, rfl, rfl⟩ hac fy
          have en : (srcL K c (natsV l)).n = l.length := natsV_len _
          rw [en, List.take_length]
          have hcomp := comp_ord hol hord
          have hcl2 : (l.map fun j => (orderOf r).getD j 0).length = k.n := by rw [List.length_map, hol.len]
          refine ⟨2, _, rfl, hsz, ?_⟩
          refine ⟨_, (t, .lst ((cs ++ [Dc.row y (l.map fun j => (orderOf r).getD j 0)]).map Dc.v)) :: ((cs ++ [Dc.row y (l.map fun j => (orderOf r).getD j 0)]).flatMap Dc.cells ++ M), ?_, cs ++ [Dc.row y (l.map fun j => (orderOf r).getD j 0)], _, _, _, rfl, rfl, rfl, ?_⟩
          · have e1 : (cs ++ [Dc.row y (l.map fun j => (orderOf r).getD j 0)]).flatMap Dc.cells = cs.flatMap Dc.cells ++ [(y, HO.lst (natsV (l.map fun j => (orderOf r).getD j 0)))] := by
              rw [List.flatMap_append, List.flatMap_cons, List.flatMap_nil, List.append_nil]; rfl
            rw [e1, List.map_append]
            generalize cs.flatMap Dc.cells = A
            refine Wk.trans (Wk.perm (M' := (o, HO.lst (natsV (orderOf r))) :: (t, HO.lst (cs.map Dc.v ++ [V.ref y])) :: ((A ++ [(y, HO.lst (natsV (l.map fun j => (orderOf r).getD j 0)))]) ++ M)) ?_) Wk.drop0
            refine List.Perm.symm ?_
            rw [List.append_assoc]
            exact (List.Perm.swap _ _ _).trans (List.Perm.cons _ ((List.Perm.swap _ _ _).trans (List.Perm.cons _ List.perm_middle.symm)))
          · rw [take_succ' hpi, List.map_append, List.map_append, List.map_append, hcs]
            have e : ledP ds pp = .row (rowOf (l.map fun j => (orderOf r).getD j 0)) := by unfold ledP; rw [ht, e2]; rfl
            show _ ++ [Dr.row (l.map fun j => (orderOf r).getD j 0)] = _ ++ [ordD (ledP ds pp)]
            rw [e]
            show _ ++ [Dr.row _] = _ ++ [Dr.row (orderOf (rowOf _))]
            rw [order_row (by rw [hcl2]; exact hcomp)]
  · rintro σ G' M' ⟨cs, _, _, _, rfl, rfl, rfl, hcs⟩
    have hcs : cs.map Dc.dr = ((ps.take (min us.length ws.length)).map (ledP ds)).map ordD := hcs
    rw [show min us.length ws.length = ps.length by omega, List.take_length] at hcs
    exact ⟨_, _, Wk.refl, ret0 (q t cs hcs)⟩
end
section
variable {K : PySem.W.Frag} {vs : List V} {G : Hp} {M : Mem} {R : KR} {Z : KX}
theorem pf_law_are_draws (h : S_law_are_draws K vs G M R Z) : rd_law_are_draws K (ends R Z) (sta 5 vs) G M := by
  obtain ⟨_, _, rfl, a, b, ks, ds, rfl, rfl, ⟨us, hu, hk⟩, ⟨ws, hw, hd⟩, hok, hkn, hkl, q⟩ := sp2_of h
  clear h
  have hul := hk.len
  have hwl := hd.len
  have hdl := hok.len
  refine ⟨G, M, Wk.refl, .type PT.list.name, .type "list", _, .ty "list", ty_lst hw, kit_pt .list .list, ?_⟩
  refine ⟨ws, .inl hw, us, .inl (.inr hu), ?_⟩
  show if (!decide (V.int (ws.length : Int) = .int (us.length : Int))) = true then _ else _
  rw [show (ws.length : Int) = us.length by omega, decide_eq_true rfl, if_neg (by decide)]
  refine ⟨G, M, Wk.refl, us, ws, .inr hu, hw, fun i σ G' M' => ∃ (y2 y3 : Option V), σ = [some (.ref a), some (.ref b), y2, y3, none] ∧ G' = G ∧ M' = M, ⟨none, none, rfl, rfl, rfl⟩, ?_, ?_, ?_⟩
  · rintro i σ G' M' _ ⟨_, _, rfl, rfl, rfl⟩; exact ⟨.inr hu, hw⟩
  · rintro i σ G' M' hi ⟨y2, y3, rfl, hG, hM⟩
    subst hG
    subst hM
    have hi : i < min us.length ws.length := hi
    obtain ⟨d, hdi⟩ : ∃ d, ds[i]? = some d := ⟨_, List.getElem?_eq_getElem (by omega)⟩
    obtain ⟨k, hki⟩ : ∃ k, ks[i]? = some k := ⟨_, List.getElem?_eq_getElem (by omega)⟩
    obtain ⟨v, hv, T, rfl, hT⟩ := hk.get hki
    obtain ⟨z, hz, hzd⟩ := hd.get hdi
    have hq := a2_pt hok hki hdi
    have hkk := hkn k (List.mem_of_getElem? hki)
    refine asg_Z hv hz ⟨G', _, Wk.refl, _, _, tup_g (sqt_of hT), rfl, ?_⟩
    show if decide (V.str k.txt = .str "leaf") = true then _ else _
    rw [txt_leaf]
    refine ite2' (fun e => ?_) (fun e => ?_)
    · cases d with
      | row l => exact absurd hq.1 (by rw [e]; exact fun z => nomatch z)
      | leaf n =>
        obtain ⟨x, hx⟩ : ∃ x : Int, x = (n : Int) := ⟨_, rfl⟩
        have hz' : z = .int x := by rw [hx]; exact hzd
        subst hz'
        have h6 := hkk.2.1 e
        have e2 : (1 : Int) * 2 ^ (k.n : Int).toNat = ((2 ^ k.n : Nat) : Int) := by simp
        have p6 : 2 ^ k.n ≤ 64 := Nat.pow_le_pow_right (n := 2) (by decide) h6
        have hn : n < 2 ^ k.n := hq.2
        refine ⟨G', _, Wk.refl, .int, ty_int, ite2' (c := decide (0 ≤ x)) (fun _ => ⟨_, _, tup_g (sqt_of hT), rfl, ⟨by omega, by omega, by decide⟩, ite2' (c := !decide (x < 1 * 2 ^ (k.n : Int).toNat)) (fun f => ?_) (fun _ => ?_)⟩) (fun f => ?_)⟩
        · exfalso
          rw [e2, decide_eq_true (by omega)] at f
          cases f
        · exact ⟨_, _, Wk.refl, _, _, rfl, rfl, rfl⟩
        · exact absurd (of_decide_eq_false f) (by omega)
    · cases d with
      | leaf n => exact absurd hq.1 (by rw [e]; exact fun z => nomatch z)
      | row l =>
        obtain ⟨b', rfl, hb'⟩ := hzd
        have h64 := hkk.1
        refine ⟨G', _, Wk.refl, .type PT.list.name, .type "list", _, .ty "list", ty_lst hb', kit_pt .list .list, ?_⟩
        refine ⟨natsV l, .inl hb', _, _, tup_g (sqt_of hT), rfl, ?_⟩
        show if (!decide (V.int ((natsV l).length : Int) = .int (k.n : Int))) = true then _ else _
        rw [natsV_len, show (l.length : Int) = k.n by rw [hq.2.1], decide_eq_true rfl, if_neg (by decide)]
        refine ⟨G', _, Wk.refl, _, _, tup_g (sqt_of hT), rfl, ⟨by omega, by omega⟩, sz (by show (k.n : Int).toNat ≤ _; omega), fun j acc G2 M2 => acc = [] ∧ G2 = G' ∧ M2 = M', ⟨rfl, rfl, rfl⟩, fun _ _ _ _ _ _ => trivial, ?_, ?_⟩
        · rintro j acc G2 M2 X hj hac ⟨rfl, hG2, rfl⟩ fX
          subst hG2
          have hj : j < (k.n : Int).toNat := hj
          obtain ⟨w, hwj⟩ : ∃ w, l[j]? = some w := ⟨_, List.getElem?_eq_getElem (by rw [hq.2.1]; omega)⟩
          have hwl2 : w ≤ j := hq.2.2 j w hwj
          obtain ⟨x, hx⟩ : ∃ x : Int, x = (w : Int) := ⟨_, rfl⟩
          have hat : atI (natsV l) ((0 : Int) + (j : Int)) = some (.int x) := by rw [hx, Int.zero_add]; exact atI_nat (natsV_get hwj)
          refine asg_R (v := (0 : Int) + (j : Int)) rfl ⟨rfl, _, _, .inl (lat_cons hb'), hat, .int, ty_int, _, _, .inl (lat_cons hb'), hat, ite2' (c := decide (0 ≤ x)) (fun _ => ite2' (c := !decide (x ≤ (0 : Int) + (j : Int))) (fun f => ?_) (fun _ => ⟨_, _, Wk.refl, rfl, rfl, rfl⟩)) (fun f => ?_)⟩
          · exfalso
            rw [decide_eq_true (by omega)] at f
            cases f
          · exact absurd (of_decide_eq_false f) (by omega)
        · rintro acc G2 M2 y ⟨rfl, hG2, rfl⟩ hac fy
          subst hG2
          refine ⟨sz0, fun u fu => eq_nats (l := []) (lat_cons lat_0) lat_0 ?_⟩
          exact ⟨_, _, Wk.drop0.trans Wk.drop0, _, _, rfl, rfl, rfl⟩
  · rintro σ G' M' ⟨_, _, rfl, rfl, rfl⟩
    exact ⟨_, _, Wk.refl, ret0 q⟩
end
section
variable {K : PySem.W.Frag} {vs : List V} {G : Hp} {M : Mem} {R : KR} {Z : KX}
/-- a turn fit for a kind -/
def TuOk (k : Kn) (t : Option (List Nat)) : Prop := (k.leaf = true → t = none) ∧ (k.leaf = false → ∃ l, t = some l ∧ OrdOk k.n l)
theorem turnM_ex {G' : Hp} {v : V} {t : Option (List Nat)} (e : Ex G G') (h : TurnM K G [] v t) : TurnM K G' [] v t := by
  cases t with
  | none => exact h
  | some l => obtain ⟨b, rfl, hb⟩ := h; exact ⟨b, rfl, lat_ex e hb⟩
theorem pf_law_sharing (h : S_law_sharing K vs G M R Z) : rd_law_sharing K (ends R Z) (sta 6 vs) G M := by
  obtain ⟨_, _, rfl, a, p, ks, ps, rfl, rfl, ⟨us, hu, hk⟩, ⟨ws, hw, hp⟩, hpo, hkl, q⟩ := sp2_of h
  clear h
  have hul := hk.len
  have hwl := hp.len
  have hpl := hpo.len
  have hwL : SqL K G p ws := hw.elim (fun z => nomatch z) id
  refine ⟨G, M, Wk.refl, fun t ft => ⟨G, _, Wk.refl, sz0, fun f ff => ?_⟩⟩
  refine ⟨G, _, Wk.refl, us, ws, .inr hu, .inr hwL, fun i σ G' M' => ∃ (kvs : List (List Key × V)) (acc : List V) (qs : List Pp) (y4 y5 : Option V), σ = [some (.ref a), some (.ref p), some (.ref t), some (.ref f), y4, y5] ∧ Ex G G' ∧ G' f = none ∧ M' = (f, .lst acc) :: (t, .dT kvs) :: M ∧ A2 (PpM K G' []) acc qs ∧ A2 (PpOk ks) (ks.take i) qs ∧ qs.map (·.src) = (ps.take i).map (·.src) ∧ kvs.length ≤ i ∧ ∀ kn v, valV kvs (kKey kn) = some v → ∃ tn, TurnM K G' [] v tn ∧ TuOk kn tn,
    ⟨[], [], [], none, none, rfl, Ex.refl, ff.1, rfl, .nil, .nil, rfl, Nat.le_refl _, fun _ _ z => nomatch z⟩, ?_, ?_, ?_⟩
  · rintro i σ G' M' _ ⟨_, _, _, _, _, rfl, ex, _, rfl, _⟩; exact ⟨lat_ex ex (.inr hu), lat_ex ex (.inr hwL)⟩
  · rintro i σ G' M' hi ⟨kvs, acc, qs, y4, y5, rfl, ex, gf, rfl, hacc, hok, hsr, hkv, hval⟩
    have hi : i < min us.length ws.length := hi
    obtain ⟨pp, hpi⟩ : ∃ pp, ps[i]? = some pp := ⟨_, List.getElem?_eq_getElem (by omega)⟩
    obtain ⟨k, hki⟩ : ∃ k, ks[i]? = some k := ⟨_, List.getElem?_eq_getElem (by omega)⟩
    obtain ⟨v, hv, T, rfl, hT⟩ := hk.get hki
    obtain ⟨z, hz, S, w, rfl, hS, hwt⟩ := hp.get hpi
    obtain ⟨a1, a2, a3⟩ := a2_pt hpo.ok hki hpi
    have hT' : G' T = some (.tup ((kKey k).map kV)) := ex _ _ hT
    have hS' := ex_t ex hS
    have hal : acc.length = i := by
      have h1 := hacc.len
      have h2 := hok.len
      rw [List.length_take] at h2
      omega
    have haccl : acc.length < sizeLine := Nat.lt_of_le_of_lt (show acc.length ≤ 1000 by omega) (by decide)
    have fin : ∀ (D : Kd) (kvs' : List (List Key × V)) (v : V), valV kvs' (kKey k) = some v → kvs'.length ≤ i + 1 → (∀ kn v, valV kvs' (kKey kn) = some v → ∃ tn, TurnM K G' [] v tn ∧ TuOk kn tn) →
        (∀ (G3 : Hp) (acc' : List V) (qs' : List Pp), Ex G G3 → G3 f = none → A2 (PpM K G3 []) acc' qs' → A2 (PpOk ks) (ks.take (i + 1)) qs' → qs'.map (·.src) = (ps.take (i + 1)).map (·.src) → (∀ kn v, valV kvs' (kKey kn) = some v → ∃ tn, TurnM K G3 [] v tn ∧ TuOk kn tn) → D.nx [some (.ref a), some (.ref p), some (.ref t), some (.ref f), some (.ref T), some (.ref S)] G3 ((f, .lst acc') :: (t, .dT kvs') :: M)) →
        rd_law_sharing_b0_1 K D [some (.ref a), some (.ref p), some (.ref t), some (.ref f), some (.ref T), some (.ref S)] G' ((f, .lst acc) :: (t, .dT kvs') :: M) := by
      intro D kvs' v hv hl hval' fin
      obtain ⟨tn, htn, hto⟩ := hval' k v hv
      refine ⟨G', _, Wk.refl, tyl_n (n := 0) rfl, _, _, tup_g hS', rfl, kvs', kKey k, v, .inl (List.mem_cons_of_mem _ List.mem_cons_self), hT', hv, sz2, fun P fP => ?_⟩
      have ex2 := Ex.new (o := .tup [.int (pp.src : Nat), v]) fP
      have hfP : f ≠ P := fP.2 (f, .lst acc) List.mem_cons_self
      refine ⟨0, acc, rfl, haccl, fin _ _ (qs ++ [⟨pp.src, tn⟩]) (ex.trans ex2) (by rw [upd_ne hfP]; exact gf) ?_ ?_ ?_ fun kn v h => ?_⟩
      · exact (hacc.mono fun _ _ z => z.ex ex2).app (.cons ⟨P, v, rfl, sqt_new, turnM_ex ex2 htn⟩ .nil)
      · rw [take_succ' hki]
        exact hok.app (.cons ⟨a1, hto.1, hto.2⟩ .nil)
      · rw [take_succ' hpi, List.map_append, List.map_append, hsr]; rfl
      · obtain ⟨tn, h1, h2⟩ := hval' kn v h
        exact ⟨tn, turnM_ex ex2 h1, h2⟩
    refine asg_Z hv hz ⟨G', _, Wk.refl, ⟨kvs, .inl (List.mem_cons_of_mem _ List.mem_cons_self)⟩, _, _, tup_g hS', rfl, 1, kvs, kKey k, T, rfl, rfl, hT', Nat.lt_of_le_of_lt (show kvs.length ≤ 1000 by omega) (by decide), fun v hv => ?_, fun hv => ?_⟩
    · exact fin _ kvs v hv (by omega) hval fun G3 acc' qs' e1 e2 e3 e4 e5 e6 => ⟨_, _, Wk.refl, kvs, acc', qs', _, _, rfl, e1, e2, rfl, e3, e4, e5, by omega, e6⟩
    · have hln : (putK kvs (kKey k) w).length ≤ i + 1 := by have := length_putK kvs (kKey k) w; omega
      refine fin _ (putK kvs (kKey k) w) w (by rw [valV_put, if_pos rfl]) hln (fun kn v h => ?_) fun G3 acc' qs' e1 e2 e3 e4 e5 e6 => ⟨_, _, Wk.refl, _, acc', qs', _, _, rfl, e1, e2, rfl, e3, e4, e5, hln, e6⟩
      rw [valV_put] at h
      by_cases e : kKey kn = kKey k
      · rw [if_pos e] at h
        injection h with h
        subst h
        rw [kKey_inj e]
        exact ⟨pp.turn, turnM_ex ex hwt, a2, a3⟩
      · rw [if_neg e] at h
        exact hval kn v h
  · rintro σ G' M' ⟨kvs, acc, qs, _, _, rfl, ex, gf, rfl, hacc, hok, hsr, _⟩
    have hok : A2 (PpOk ks) (ks.take (min us.length ws.length)) qs := hok
    have hsr : qs.map (·.src) = (ps.take (min us.length ws.length)).map (·.src) := hsr
    rw [show min us.length ws.length = ks.length by omega, List.take_length] at hok
    rw [show min us.length ws.length = ps.length by omega, List.take_length] at hsr
    have ex2 := Ex.new' (o := .lst acc) gf
    refine ⟨G', _, Wk.refl, retW (M' := M) ?_ (q f qs _ (ex.trans ex2) ⟨acc, .inr sql_new, hacc.mono fun _ _ z => z.ex ex2⟩ ⟨hok, by rw [hsr]; exact hpo.nd⟩)⟩
    exact Wk.frz0.trans Wk.drop0
theorem knf_ex {a : Addr} {ks : List Kn} {G' : Hp} (e : Ex G G') (h : KnF K G a ks) : KnF K G' a ks := by
  obtain ⟨us, hu, hk⟩ := h
  refine ⟨us, (lat_ex e (M := []) (.inr hu)).elim (fun z => nomatch z) id, hk.mono fun _ _ z => ?_⟩
  obtain ⟨T, e1, e2⟩ := z
  exact ⟨T, e1, e _ _ e2⟩
theorem pf_law_drawn_paper (h : S_law_drawn_paper K vs G M R Z) : rd_law_drawn_paper K (ends R Z) (sta 3 vs) G M := by
  obtain ⟨_, _, rfl, p, n, c, s, a, ks, rfl, rfl, hn, hs, hk, hkn, hkl, q⟩ := sp2_of h
  refine ⟨G, M, Wk.refl, p, n, c, s, a, ks, rfl, rfl, hn, hs, hk, hkn, hkl, fun t ps c1 s1 G1 ex1 hp hpo hs1 => ?_⟩
  refine ⟨G1, _, Wk.refl, p, 4, n, c1, s1, rfl, rfl, set_n hn, hs1, by decide, by decide, fun r c2 s2 r0 r1 hs2 => ?_⟩
  rw [List.set_set]
  show if decide (V.int r = .int 3) = true then _ else _
  refine ite2' (fun _ => ?_) (fun _ => ?_)
  · refine ⟨G1, _, Wk.refl, a, t, ks, ps, rfl, rfl, knf_ex ex1 hk, hp, hpo, by omega, fun f qs G2 ex2 hq hqo => ret0 (q f qs c2 s2 G2 (ex1.trans ex2) hq hqo hs2)⟩
  · exact ⟨G1, _, Wk.refl, ret0 (q t ps c2 s2 G1 ex1 hp hpo hs2)⟩
theorem a2_set {α β : Type} {r : α → β → Prop} : ∀ {as : List α} {bs : List β}, A2 r as bs → ∀ (i : Nat) {a : α} {b : β}, r a b → A2 r (as.set i a) (bs.set i b)
  | _, _, .nil, _, _, _, _ => .nil
  | _, _, .cons _ t, 0, _, _, z => .cons z t
  | _, _, .cons h t, i + 1, _, _, z => .cons h (a2_set t i z)
theorem a2_setR {α β : Type} {r : α → β → Prop} {as : List α} {bs : List β} (h : A2 r as bs) {i : Nat} {a : α} {b : β} (e : as[i]? = some a) (z : r a b) : A2 r as (bs.set i b) := by
  have := a2_set h i z
  obtain ⟨hi, e2⟩ := List.getElem?_eq_some_iff.mp e
  rw [show as.set i a = as by rw [← e2]; exact List.set_getElem_self hi] at this
  exact this
theorem pf_law_other_draws (h : S_law_other_draws K vs G M R Z) : rd_law_other_draws K (ends R Z) (sta 7 vs) G M := by
  obtain ⟨_, _, _, rfl, p, n, c, s, a, b, ks, ds, rfl, rfl, rfl, hn, hs, ⟨us, hu, hk⟩, hkn, hkl, hne, ⟨ws, hw, hd⟩, hok, q⟩ := sp3_of h
  have hul := hk.len
  have hwl := hd.len
  have hdl := hok.len
  have hk1 : 0 < ks.length := List.length_pos_iff.mpr hne
  refine ⟨G, M, Wk.refl, us, .inl (.inr hu), p, _, n, c, s, rfl, rfl, hn, hs, by omega, ?_, fun r c1 s1 r0 r1 hs1 => ?_⟩
  · have : (100 : Int) < 2 ^ 200 := by decide
    omega
  obtain ⟨i, rfl⟩ := Int.eq_ofNat_of_zero_le r0
  have hi : i < ks.length := by omega
  obtain ⟨d, hdi⟩ : ∃ d, ds[i]? = some d := ⟨_, List.getElem?_eq_getElem (by omega)⟩
  obtain ⟨k, hki⟩ : ∃ k, ks[i]? = some k := ⟨_, List.getElem?_eq_getElem (by omega)⟩
  obtain ⟨v, hv, T, rfl, hT⟩ := hk.get hki
  obtain ⟨z, hz, hzd⟩ := hd.get hdi
  have hq := a2_pt hok hki hdi
  have hkk := hkn k (List.mem_of_getElem? hki)
  refine ⟨G, _, Wk.refl, ws, .inl (.inr hw), fun t ft => ?_⟩
  refine ⟨G, _, Wk.refl, us, _, .inl (.inr hu), atI_nat hv, _, _, tup_g (sqt_of hT), rfl, ?_⟩
  show if decide (V.str k.txt = .str "leaf") = true then _ else _
  rw [txt_leaf]
  have fin : ∀ (c2 s2 : Int) (G3 : Hp) (zs : List V) (es : List Dr), Ex G G3 → G3 t = none → A2 (DrV K G3 []) zs es → A2 DrOk ks es → PoolOk s2 → ∀ y5 y6, rd_law_other_draws_3 K (ends R Z) [some (.ref p), some (.ref a), some (.ref b), some (.int (i : Nat)), some (.ref t), y5, y6] G3 ((t, .lst zs) :: M.set n (p, pool c2 s2)) := by
    intro c2 s2 G3 zs es ex gt hz hok2 hs2 y5 y6
    have ex2 := Ex.new' (o := .lst zs) gt
    exact ⟨G3, _, Wk.refl, retW Wk.frz0 (q t es c2 s2 _ (ex.trans ex2) ⟨zs, sql_new, hz.mono fun _ _ w => DrV.exn ex2 w⟩ hok2 hs2)⟩
  refine ite2' (fun e => ?_) (fun e => ?_)
  · cases d with
    | row l => exact absurd hq.1 (by rw [e]; exact fun z => nomatch z)
    | leaf x =>
      cases (show z = .int (x : Nat) from hzd)
      have h6 := hkk.2.1 e
      have e2 : (1 : Int) * 2 ^ (k.n : Int).toNat = ((2 ^ k.n : Nat) : Int) := by simp
      have p0 : 0 < 2 ^ k.n := Nat.pow_pos (by decide)
      have p6 : 2 ^ k.n ≤ 64 := Nat.pow_le_pow_right (n := 2) (by decide) h6
      refine ⟨G, _, Wk.refl, ws, _, .inl (.inr hw), atI_nat hz, us, _, .inl (.inr hu), atI_nat hv, _, _, tup_g (sqt_of hT), rfl, ⟨by omega, by omega, by decide⟩, p, _, n + 1, c1, s1, rfl, rfl, set_n hn, hs1, ?_, ?_, fun r2 c2 s2 t0 t1 hs2 => ?_⟩
      · rw [e2]; omega
      · rw [e2]
        have : (64 : Int) < 2 ^ 200 := by decide
        omega
      rw [e2] at t1
      obtain ⟨y, rfl⟩ := Int.eq_ofNat_of_zero_le t0
      refine ⟨us, _, .inl (.inr hu), atI_nat hv, _, _, tup_g (sqt_of hT), rfl, ⟨by omega, by omega, by decide⟩, ?_⟩
      have e3 : ((x : Int) + 1 + (y : Int)) % (1 * 2 ^ (k.n : Int).toNat) = (((x + 1 + y) % 2 ^ k.n : Nat) : Int) := by rw [e2]; rfl
      refine ⟨by rw [e2]; omega, 0, ws, i, rfl, ixN_nat (by omega), ?_⟩
      show rd_law_other_draws_3 K _ _ G ((t, .lst (ws.set i (.int (((x : Int) + 1 + (y : Int)) % (1 * 2 ^ (k.n : Int).toNat))))) :: (M.set n (p, pool c1 s1)).set n (p, pool c2 s2))
      rw [List.set_set, e3]
      exact fin c2 s2 G _ (ds.set i (.leaf ((x + 1 + y) % 2 ^ k.n))) Ex.refl ft.1 (a2_set hd i rfl) (a2_setR hok hki ⟨e, Nat.mod_lt _ p0⟩) hs2 _ _
  · cases d with
    | leaf x => exact absurd hq.1 (by rw [e]; exact fun z => nomatch z)
    | row l =>
      obtain ⟨b', rfl, hb'⟩ := hzd
      have hbL : SqL K G b' (natsV l) := hb'.elim (fun z => nomatch z) id
      have h64 := hkk.1
      have h11 := hkk.2.2 e
      refine ⟨G, _, Wk.refl, us, _, .inl (.inr hu), atI_nat hv, _, _, tup_g (sqt_of hT), rfl, p, _, n + 1, c1, s1, rfl, rfl, set_n hn, hs1, by omega, ?_, fun r2 c2 s2 t0 t1 hs2 => ?_⟩
      · have : (100 : Int) < 2 ^ 200 := by decide
        omega
      obtain ⟨y, rfl⟩ := Int.eq_ofNat_of_zero_le t0
      have hy : y < l.length := by rw [hq.2.1]; omega
      have hrow := rowok_getD hq.2.2 y hy
      refine ⟨G, _, Wk.refl, ws, _, .inl (.inr hw), atI_nat hz, natsV l, .inl (.inr hbL), fun u fu => ?_⟩
      refine ⟨G, _, Wk.refl, _, _, lst_n (n := 0) rfl, atI_natD hy, by omega, 0, natsV l, y, rfl, ixN_nat (by rw [natsV_len]; exact hy), ?_⟩
      have e3 : (((l.getD y 0 : Nat) : Int) + 1) % ((y : Int) + 1) = (((l.getD y 0 + 1) % (y + 1) : Nat) : Int) := rfl
      show kSeq (kAsg (kVar 6) (kgIx (kVar 4) (kVar 3))) kNext _ _ G ((u, HO.lst ((natsV l).set y (.int ((((l.getD y 0 : Nat) : Int) + 1) % ((y : Int) + 1))))) :: ((t, .lst ws) :: (M.set n (p, pool c1 s1)).set n (p, pool c2 s2)))
      rw [e3, natsV_set, List.set_set]
      have gu : Ex G (upd G u (.lst (natsV (l.set y ((l.getD y 0 + 1) % (y + 1)))))) := Ex.new' fu.1
      have htu : t ≠ u := fu.2 (t, .lst ws) List.mem_cons_self
      refine ⟨_, _, Wk.frz0, 0, ws, i, rfl, ixN_nat (by omega), ?_⟩
      refine fin c2 s2 _ _ (ds.set i (.row (l.set y ((l.getD y 0 + 1) % (y + 1))))) gu (by rw [upd_ne htu]; exact ft.1) (a2_set (hd.mono fun _ _ w => DrV.exn gu w) i ⟨u, rfl, .inr sql_new⟩) (a2_setR hok hki ⟨e, by rw [List.length_set]; exact hq.2.1, fun j w hw => ?_⟩) hs2 _ _
      rw [List.getElem?_set] at hw
      split at hw
      · rename_i ej
        subst ej
        injection hw with hw
        have := Nat.mod_lt (l.getD y 0 + 1) (show 0 < y + 1 by omega)
        omega
      · exact hq.2.2 j w hw
end
section
variable {K : PySem.W.Frag} {vs : List V} {G : Hp} {M : Mem} {R : KR} {Z : KX}
theorem klr {σ : St} {i : Nat} {x : V} {E : KX} (hx : σ[i]? = some (some x)) (h : kRepr K [x] G M (fun v G M => kLenS [v] G M R)) : kCB kLenS (kCons (kCB (kRepr K) (kCons (kVar i) kNil)) kNil) σ G M R E := by
  unfold kCB kCons kVar
  simp only [hx]
  exact h
theorem kset_ki {t u : KE} {n : Nat} {f : Int → Int → V} {D : Kd} {σ : St} (h : t σ G M (fun x G M => u σ G M (fun y G M => kI0 f x y G M fun v G M => D.nx (σ.set n (some v)) G M) (D.x σ)) (D.x σ)) : kSet n (kBin (kI0 f) t u) D σ G M := h
theorem isa_l {T : PT} (h : T ≠ .list) : isaB T .list = false := by cases T <;> first | rfl | exact absurd rfl h
theorem isa_t {T : PT} (h : T ≠ .tuple) : isaB T .tuple = false := by cases T <;> first | rfl | exact absurd rfl h
theorem apart_own {q : Addr} {d : PyData} {v y : V} {D : Kd} {y3 y4 : Option V} (h : PpA K G M q d y) (hr : Rpb d) (hd : DatAt K G M (.ref q) d) (hD : ∀ y3 y4 M', Wk G M' G M → D.nx [some (.ref q), some v, some y, y3, y4] G M') : rd_law_apart_b0_2 K D [some (.ref q), some v, some y, y3, y4] G M := by
  obtain ⟨b, xs, X, d', rfl, hp, hl, hd', hr', hle⟩ := h
  have hd1 : DatAt K G ((b, .lst xs) :: X) (.ref q) d := fun H hv => hd H (Wk.perm hp H hv)
  refine ⟨G, (b, .lst xs) :: X, Wk.perm hp.symm, isi_pt PT.list (ty_lst (.inl List.mem_cons_self)) ?_⟩
  refine ⟨G, _, Wk.refl, klr (x := .ref q) rfl ⟨d, hd1, hr.1, hr.2.1, hr.2.2.1, hr.2.2.2, hr.2.2.2, ?_⟩⟩
  refine ⟨G, _, Wk.refl, tyl_n (n := 0) rfl, 0, xs, rfl, Nat.lt_of_le_of_lt hl (by decide), ?_⟩
  refine ⟨G, _, Wk.refl, ?_⟩
  refine kset_ki (klr (x := .ref q) rfl ⟨d', hd', hr'.1, hr'.2.1, hr'.2.2.1, hr'.2.2.2, hr'.2.2.2, ?_⟩)
  refine ⟨G, _, Wk.refl, tyl_n (n := 0) rfl, 0, xs ++ [.int 7], .int 7, rfl, by simp, ?_⟩
  refine ⟨G, (b, .lst xs) :: X, by show Wk G ((b, .lst (xs ++ [V.int 7]).dropLast) :: X) G _; rw [List.dropLast_concat]; exact Wk.refl, ?_⟩
  refine ite2' (c := decide ((3 : Int) < ((d'.shown.length : Nat) : Int) - ((d.shown.length : Nat) : Int))) (fun f => absurd (of_decide_eq_true f) (by omega)) (fun _ => ?_)
  exact hD _ _ _ (Wk.perm hp)
theorem pf_law_apart (h : S_law_apart K vs G M R Z) : rd_law_apart K (ends R Z) (sta 5 vs) G M := by
  obtain ⟨_, rfl, q, ws, d, rfl, hw, hd, hr, hp, k⟩ := sp1_of h
  clear h
  refine ⟨G, _, Wk.refl, ws, hw, fun i σ G' M' => ∃ y1 y2 y3 y4 : Option V, σ = [some (.ref q), y1, y2, y3, y4] ∧ G' = G ∧ M' = M, ⟨none, none, none, none, rfl, rfl, rfl⟩, ?_, ?_, ?_⟩
  · rintro i σ G' M' _ ⟨y1, y2, y3, y4, rfl, rfl, rfl⟩; exact hw
  · rintro i σ G' M' hi ⟨y1, y2, y3, y4, rfl, hG, hM⟩
    subst hG
    subst hM
    obtain ⟨v, hv⟩ : ∃ v, ws[i]? = some v := ⟨_, List.getElem?_eq_getElem hi⟩
    refine asg_L hv ⟨G', _, Wk.refl, G', _, Wk.refl, ?_⟩
    rcases hp v (List.mem_of_getElem? hv) with ⟨T, hT, n1, n2⟩ | hy | ⟨T, u, y, rfl, hT, hy⟩
    · refine isi_pt PT.tuple hT ?_
      rw [isa_t n2]
      refine ⟨G', _, Wk.refl, isi_pt PT.list hT ?_⟩
      rw [isa_l n1]
      exact ⟨G', _, Wk.refl, _, _, _, _, rfl, rfl, rfl⟩
    · have hy' := hy
      obtain ⟨b, xs, X, d', rfl, hpm, _⟩ := hy'
      refine isi_pt PT.tuple (ty_lst (xs := xs) (.inl (hpm.mem_iff.mpr List.mem_cons_self))) ?_
      exact apart_own hy hr hd fun y3 y4 M2 wk => ⟨G', _, wk, _, _, _, _, rfl, rfl, rfl⟩
    · refine isi_pt PT.tuple (ty_tup hT) ⟨G', _, Wk.refl, _, _, tup_g hT, rfl, ?_⟩
      rcases hy with ⟨S, hS, nS⟩ | hy
      · refine ⟨G', _, Wk.refl, isi_pt PT.list hS ?_⟩
        rw [isa_l nS]
        exact ⟨G', _, Wk.refl, _, _, _, _, rfl, rfl, rfl⟩
      · exact apart_own hy hr hd fun y3 y4 M2 wk => ⟨G', _, wk, _, _, _, _, rfl, rfl, rfl⟩
  · rintro σ G' M' ⟨y1, y2, y3, y4, rfl, rfl, rfl⟩
    exact ⟨G', _, Wk.refl, ret0 k⟩
/-! told papers and draws are apart -/
theorem rpb_shb {p w : Nat} {d : PyData} (h : Shb p w d) (hp : p ≤ 30) (hw : w ≤ 1000000) : Rpb d := ⟨h.s, h.n, Nat.le_trans h.p hp, shb_len h hw⟩
theorem PapM.sub {M' : Mem} {p : Addr} {ps : List Pp} (hs : ∀ x, x ∈ M → x ∈ M') (h : PapM K G M p ps) : PapM K G M' p ps := by
  obtain ⟨us, h1, h2⟩ := h
  refine ⟨us, h1.elim (fun z => .inl (hs _ z)) .inr, h2.mono fun v pp hv => ?_⟩
  obtain ⟨T, w, e, a, b⟩ := hv
  refine ⟨T, w, e, a, ?_⟩
  obtain ⟨s, t⟩ := pp
  cases t with
  | none => exact b
  | some l =>
    obtain ⟨c, e2, hc⟩ := b
    exact ⟨c, e2, hc.elim (fun z => .inl (hs _ z)) .inr⟩
theorem pap_dat {p : Addr} {ps : List Pp} (h : PapM K G M p ps) : DatAt K G M (.ref p) (.list (ps.map ppD)) := by
  obtain ⟨us, h1, h2⟩ := h
  exact dat_list h1 (pps_dat h2)
theorem set_mid {α : Type} : ∀ (a b : List α) (x y : α), (a ++ x :: b).set a.length y = a ++ y :: b
  | [], _, _, _ => rfl
  | z :: a, b, x, y => by
    show z :: (a ++ x :: b).set a.length y = _
    rw [set_mid a b x y]; rfl
theorem apart_pap {q : Addr} {cs : List Pc} {F : Mem} {ks : List Kn} {ps : List Pp} (hM : M.Perm ((q, .lst (cs.map fun c => .ref c.T)) :: (cellsP cs ++ F))) (hat : ∀ c, c ∈ cs → c.at K G) (hps : cs.map Pc.pp = ps) (hpo : PapOk ks ps) (hkn : ∀ k, k ∈ ks → KnOk k) (hkl : ks.length ≤ 1000) (hR : R (.bl true) G M) : S_law_apart K [.ref q] G M R Z := by
  have hcl : cs.length ≤ 1000 := by
    have := hpo.len
    rw [← hps, List.length_map] at this; omega
  have hsm := pap_small hpo hkn hkl
  have hsm' : ∀ pp, pp ∈ ps → PpSm pp := fun pp hp => ⟨(hsm pp hp).1, fun l e => by
    obtain ⟨_, h2, h3⟩ := (hsm pp hp).2 l e
    exact ⟨by omega, fun x hx => Nat.lt_trans (h3 x hx) (by decide)⟩⟩
  have hpl : ps.length ≤ 1000 := by rw [← hps, List.length_map]; exact hcl
  have s1 : Shb 3 133000 (.list (ps.map ppD)) := shb_pps hpl hsm'
  refine ⟨q, cs.map fun c => .ref c.T, _, rfl, .inl (hM.mem_iff.mpr List.mem_cons_self), pap_dat ((pcr_pap (M := F) hat hps).sub fun x hx => hM.mem_iff.mpr hx), rpb_shb s1 (by decide) (by decide), fun v hv => ?_, hR⟩
  obtain ⟨i, hi⟩ := List.getElem?_of_mem hv
  rw [List.getElem?_map] at hi
  obtain ⟨c, hc, rfl⟩ : ∃ c, cs[i]? = some c ∧ v = .ref c.T := by
    cases e : cs[i]? with
    | none => rw [e] at hi; cases hi
    | some c => rw [e] at hi; cases hi; exact ⟨c, rfl, rfl⟩
  obtain ⟨T, src, tn⟩ := c
  have hil : i < cs.length := (List.getElem?_eq_some_iff.mp hc).1
  have hcT : SqT K G T [.int (src : Nat), (Pc.mk T src tn).w] := hat _ (List.mem_of_getElem? hc)
  have hpi : ps[i]? = some ⟨src, tn.map (·.2)⟩ := by rw [← hps, List.getElem?_map, hc]; rfl
  refine .inr (.inr ⟨T, _, _, rfl, hcT, ?_⟩)
  cases tn with
  | none => exact .inl ⟨.non, ty_non, fun z => nomatch z⟩
  | some p =>
    right
    obtain ⟨b, l⟩ := p
    obtain ⟨cs1, hcs1⟩ : ∃ cs1, cs1 = cs.take i := ⟨_, rfl⟩
    obtain ⟨cs2, hcs2⟩ : ∃ cs2, cs2 = cs.drop (i + 1) := ⟨_, rfl⟩
    have hl1 : cs1.length = i := by rw [hcs1, List.length_take]; omega
    have hcs : cs = cs1 ++ ⟨T, src, some (b, l)⟩ :: cs2 := by
      have h1 := (List.take_append_drop i cs).symm
      rw [List.drop_eq_getElem_cons hil, (List.getElem?_eq_some_iff.mp hc).2, ← hcs1, ← hcs2] at h1
      exact h1
    have hcell : ∀ l' : List Nat, cellsP (cs1 ++ ⟨T, src, some (b, l')⟩ :: cs2) = cellsP cs1 ++ (b, HO.lst (natsV l')) :: cellsP cs2 := fun l' => by
      unfold cellsP
      rw [List.flatMap_append, List.flatMap_cons]; rfl
    obtain ⟨X, hX⟩ : ∃ X : Mem, X = (q, HO.lst (cs.map fun c => .ref c.T)) :: ((cellsP cs1 ++ cellsP cs2) ++ F) := ⟨_, rfl⟩
    have hperm : ∀ l' : List Nat, ((q, HO.lst (cs.map fun c => .ref c.T)) :: (cellsP (cs1 ++ ⟨T, src, some (b, l')⟩ :: cs2) ++ F)).Perm ((b, HO.lst (natsV l')) :: X) := fun l' => by
      rw [hX, hcell]
      generalize cellsP cs1 = A1
      generalize cellsP cs2 = A2
      (classical (rw [List.perm_iff_count]; intro x; simp only [List.set_cons_zero, List.set_cons_succ, List.cons_append, List.nil_append, List.append_assoc, List.append_eq, List.count_append, List.count_cons, List.count_nil] <;> omega))
    have hset : ∀ l' : List Nat, (cs1 ++ ⟨T, src, some (b, l')⟩ :: cs2).map Pc.pp = ps.set i ⟨src, some l'⟩ := fun l' => by
      rw [← hps, hcs, List.map_append, List.map_append, List.map_cons, List.map_cons, ← hl1]
      have := set_mid (cs1.map Pc.pp) (cs2.map Pc.pp) (Pc.pp ⟨T, src, some (b, l)⟩) ⟨src, some l'⟩
      rw [List.length_map] at this
      rw [this]; rfl
    have papL : ∀ l' : List Nat, PapM K G ((b, .lst (natsV l')) :: X) q (ps.set i ⟨src, some l'⟩) := fun l' => by
      have h1 := pcr_pap (K := K) (G := G) (M := F) (q := q) (cs := cs1 ++ ⟨T, src, some (b, l')⟩ :: cs2) (fun c hc => by
        rcases List.mem_append.mp hc with z | z
        · exact hat c (by rw [hcs]; exact List.mem_append.mpr (.inl z))
        · rcases List.mem_cons.mp z with rfl | z
          · exact hcT
          · exact hat c (by rw [hcs]; exact List.mem_append.mpr (.inr (List.mem_cons_of_mem _ z)))) (hset l')
      have e : ((cs1 ++ ⟨T, src, some (b, l')⟩ :: cs2).map fun c : Pc => V.ref c.T) = cs.map fun c => V.ref c.T := by rw [hcs, List.map_append, List.map_append]; rfl
      rw [e] at h1
      exact h1.sub fun x hx => (hperm l').mem_iff.mp hx
    obtain ⟨b1, b2⟩ := hsm _ (List.mem_of_getElem? hpi)
    obtain ⟨b3, b4, b5⟩ := b2 l rfl
    have hp0 := hperm l
    rw [← hcs] at hp0
    have e7 : natsV l ++ [V.int 7] = natsV (l ++ [7]) := by unfold natsV; rw [List.map_append]; rfl
    refine ⟨b, natsV l, X, .list ((ps.set i ⟨src, some (l ++ [7])⟩).map ppD), rfl, hM.trans hp0, by rw [natsV_len]; omega, by rw [e7]; exact pap_dat (papL _), ?_, Nat.le_of_eq (pps_grown hpi (fun z => by rw [z] at b3; exact absurd b3 (by decide)))⟩
    refine rpb_shb (shb_pps (by rw [List.length_set]; exact hpl) fun pp hp => ?_) (by decide) (by decide)
    rcases List.mem_or_eq_of_mem_set hp with z | rfl
    · exact hsm' pp z
    · refine ⟨b1, fun l' e => ?_⟩
      cases e
      refine ⟨by rw [List.length_append]; show l.length + 1 ≤ 65; omega, fun x hx => ?_⟩
      rcases List.mem_append.mp hx with z | z
      · exact Nat.lt_trans (b5 x z) (by decide)
      · rw [List.mem_singleton.mp z]; decide
theorem dcs_dat {q : Addr} {cs : List Dc} (hs : ∀ x, x ∈ (q, HO.lst (cs.map Dc.v)) :: cs.flatMap Dc.cells → x ∈ M) : DatAt K G M (.ref q) (.list ((cs.map Dc.dr).map drD)) := by
  refine dat_list (.inl (hs _ List.mem_cons_self)) ?_
  rw [List.map_map]
  suffices H : ∀ (l : List Dc), (∀ x, x ∈ l.flatMap Dc.cells → x ∈ M) → DatAll K G M (l.map Dc.v) (l.map (drD ∘ Dc.dr)) from
    H cs fun x hx => hs _ (List.mem_cons_of_mem _ hx)
  intro l
  induction l with
  | nil => intro _; exact dats_nil
  | cons c l ih =>
    intro h
    refine dats_cons ?_ (ih fun x hx => h x (by rw [List.flatMap_cons]; exact List.mem_append.mpr (.inr hx)))
    cases c with
    | leaf n => exact dat_int
    | row b l' => exact dat_nats (.inl (h _ (by rw [List.flatMap_cons]; exact List.mem_append.mpr (.inl List.mem_cons_self))))
theorem drs_grown {ds : List Dr} {j : Nat} {l : List Nat} (hj : ds[j]? = some (.row l)) (h : l ≠ []) : (PyData.list ((ds.set j (.row (l ++ [7]))).map drD)).shown.length = (PyData.list (ds.map drD)).shown.length + 3 := by
  show (listText (PyData.shownAll _)).length = (listText (PyData.shownAll _)).length + 3
  have hp : ds ≠ [] := fun z => by rw [z] at hj; cases hj
  have hp2 : ds.set j (.row (l ++ [7])) ≠ [] := fun z => by
    have := congrArg List.length z
    rw [List.length_set] at this
    exact hp (List.eq_nil_of_length_eq_zero this)
  have hn : ∀ {l : List Dr}, l ≠ [] → (l.map drD).map PyData.shown ≠ [] := fun {l} h z => by
    cases l with
    | nil => exact h rfl
    | cons a l => cases z
  have hg : (drD (.row (l ++ [7]))).shown.length = (drD (.row l)).shown.length + 3 := nats_grown h
  have h3 := sum_grown (f := fun d => (drD d).shown.length) hj hg
  have e1 : ∀ l : List Dr, ((l.map drD).map PyData.shown).map (fun x : Str => x.length) = l.map fun d => (drD d).shown.length := fun l => by rw [List.map_map, List.map_map]; rfl
  rw [shownAll_map, shownAll_map, list_len (hn hp), list_len (hn hp2), e1, e1, h3, List.length_map, List.length_map, List.length_map, List.length_map, List.length_set]
  omega
theorem apart_drs {q : Addr} {cs : List Dc} {F : Mem} {ks : List Kn} {ds : List Dr} (hM : M.Perm ((q, .lst (cs.map Dc.v)) :: (cs.flatMap Dc.cells ++ F))) (hds : cs.map Dc.dr = ds) (hok : A2 DrOk ks ds) (hkn : ∀ k, k ∈ ks → KnOk k) (hkl : ks.length ≤ 1000) (hR : R (.bl true) G M) : S_law_apart K [.ref q] G M R Z := by
  have hdl := hok.len
  have s1 : Shb 2 65000 (.list (ds.map drD)) := shb_drsK hkn hkl hok
  refine ⟨q, cs.map Dc.v, .list (ds.map drD), rfl, .inl (hM.mem_iff.mpr List.mem_cons_self), ?_, rpb_shb s1 (by decide) (by decide), fun v hv => ?_, hR⟩
  · rw [← hds]
    exact dcs_dat fun x hx => hM.mem_iff.mpr (by
      rcases List.mem_cons.mp hx with rfl | hx
      · exact List.mem_cons_self
      · exact List.mem_cons_of_mem _ (List.mem_append.mpr (.inl hx)))
  obtain ⟨i, hi⟩ := List.getElem?_of_mem hv
  rw [List.getElem?_map] at hi
  obtain ⟨c, hc, rfl⟩ : ∃ c, cs[i]? = some c ∧ v = c.v := by
    cases e : cs[i]? with
    | none => rw [e] at hi; cases hi
    | some c => rw [e] at hi; cases hi; exact ⟨c, rfl, rfl⟩
  have hil : i < cs.length := (List.getElem?_eq_some_iff.mp hc).1
  cases c with
  | leaf n => exact .inl ⟨.int, ty_int, (fun z => nomatch z), (fun z => nomatch z)⟩
  | row b l =>
    refine .inr (.inl ?_)
    have hdi : ds[i]? = some (.row l) := by rw [← hds, List.getElem?_map, hc]; rfl
    obtain ⟨k, hk⟩ : ∃ k, ks[i]? = some k := ⟨_, List.getElem?_eq_getElem (by have := (List.getElem?_eq_some_iff.mp hdi).1; omega)⟩
    obtain ⟨o1, o2, o3⟩ := a2_pt hok hk hdi
    have hkk := hkn k (List.mem_of_getElem? hk)
    obtain ⟨h64, h1⟩ := (⟨hkk.1, hkk.2.2 o1⟩ : k.n ≤ 64 ∧ 1 ≤ k.n)
    obtain ⟨cs1, hcs1⟩ : ∃ cs1, cs1 = cs.take i := ⟨_, rfl⟩
    obtain ⟨cs2, hcs2⟩ : ∃ cs2, cs2 = cs.drop (i + 1) := ⟨_, rfl⟩
    have hl1 : cs1.length = i := by rw [hcs1, List.length_take]; omega
    have hcs : cs = cs1 ++ .row b l :: cs2 := by
      have h1 := (List.take_append_drop i cs).symm
      rw [List.drop_eq_getElem_cons hil, (List.getElem?_eq_some_iff.mp hc).2, ← hcs1, ← hcs2] at h1
      exact h1
    have hcell : ∀ l' : List Nat, (cs1 ++ Dc.row b l' :: cs2).flatMap Dc.cells = cs1.flatMap Dc.cells ++ (b, HO.lst (natsV l')) :: cs2.flatMap Dc.cells := fun l' => by
      rw [List.flatMap_append, List.flatMap_cons]; rfl
    obtain ⟨X, hX⟩ : ∃ X : Mem, X = (q, HO.lst (cs.map Dc.v)) :: ((cs1.flatMap Dc.cells ++ cs2.flatMap Dc.cells) ++ F) := ⟨_, rfl⟩
    have hperm : ∀ l' : List Nat, ((q, HO.lst (cs.map Dc.v)) :: ((cs1 ++ Dc.row b l' :: cs2).flatMap Dc.cells ++ F)).Perm ((b, HO.lst (natsV l')) :: X) := fun l' => by
      rw [hX, hcell]
      generalize cs1.flatMap Dc.cells = A1
      generalize cs2.flatMap Dc.cells = A2
      (classical (rw [List.perm_iff_count]; intro x; simp only [List.set_cons_zero, List.set_cons_succ, List.cons_append, List.nil_append, List.append_assoc, List.append_eq, List.count_append, List.count_cons, List.count_nil] <;> omega))
    have hp0 := hperm l
    rw [← hcs] at hp0
    have e7 : natsV l ++ [V.int 7] = natsV (l ++ [7]) := by unfold natsV; rw [List.map_append]; rfl
    have hset : (cs1 ++ Dc.row b (l ++ [7]) :: cs2).map Dc.dr = ds.set i (.row (l ++ [7])) := by
      rw [← hds, hcs, List.map_append, List.map_append, List.map_cons, List.map_cons, ← hl1]
      have := set_mid (cs1.map Dc.dr) (cs2.map Dc.dr) (Dc.dr (.row b l)) (.row (l ++ [7]))
      rw [List.length_map] at this
      rw [this]; rfl
    have ev : ((cs1 ++ Dc.row b (l ++ [7]) :: cs2).map Dc.v) = cs.map Dc.v := by rw [hcs, List.map_append, List.map_append]; rfl
    have hsm : Shb 1 70 (drD (.row (l ++ [7]))) := by
      refine (shb_nats (l := l ++ [7]) fun x hx => ?_).up (Nat.le_refl _) (by rw [List.length_append]; show l.length + 1 ≤ 70; omega)
      rcases List.mem_append.mp hx with z | z
      · obtain ⟨j, hj⟩ := List.getElem?_of_mem z
        have := o3 j x hj
        have := (List.getElem?_eq_some_iff.mp hj).1
        omega
      · rw [List.mem_singleton.mp z]; decide
    have sh2 : Shb 2 71000 (.list ((ds.set i (.row (l ++ [7]))).map drD)) := by
      have := shb_list (p := 1) (w := 70) (ds := (ds.set i (.row (l ++ [7]))).map drD) fun d hd => by
        obtain ⟨x, hx, rfl⟩ := List.mem_map.mp hd
        rcases List.mem_or_eq_of_mem_set hx with z | rfl
        · obtain ⟨j, hj⟩ := List.getElem?_of_mem z
          obtain ⟨k', hk'⟩ : ∃ k, ks[j]? = some k := ⟨_, List.getElem?_eq_getElem (by have := (List.getElem?_eq_some_iff.mp hj).1; omega)⟩
          exact (shb_drK (hkn k' (List.mem_of_getElem? hk')) (a2_pt hok hk' hj)).up (Nat.le_refl _) (by decide)
        · exact hsm
      refine this.up (Nat.le_refl _) ?_
      rw [List.length_map, List.length_set]; omega
    refine ⟨b, natsV l, X, .list ((ds.set i (.row (l ++ [7]))).map drD), rfl, hM.trans hp0, by rw [natsV_len]; omega, ?_, rpb_shb sh2 (by decide) (by decide), Nat.le_of_eq (drs_grown hdi (fun z => by rw [z] at o2; have o2 : 0 = k.n := o2; omega))⟩
    rw [e7, ← hset]
    refine dcs_dat fun x hx => (hperm (l ++ [7])).mem_iff.mp ?_
    rw [ev] at hx
    rcases List.mem_cons.mp hx with rfl | hx
    · exact List.mem_cons_self
    · exact List.mem_cons_of_mem _ (List.mem_append.mpr (.inl hx))
end
section
variable {K : PySem.W.Frag} {vs : List V} {G : Hp} {M : Mem} {R : KR} {Z : KX}
/-! a list of four -/
def Shx (d : PyData) : Prop := d.showable = true ∧ d.hasDict = false ∧ d.depth ≤ 3 ∧ d.shown.length ≤ 4000000
theorem shx_shb {p w : Nat} {d : PyData} (h : Shb p w d) (hp : p ≤ 3) (hw : w ≤ 200000) : Shx d := ⟨h.s, h.n, Nat.le_trans h.p hp, Nat.le_trans (PyData.shown_le_bulk 13 (by decide) d h.l) (by have := h.w; omega)⟩
theorem repr4 {x : V} {a b c d : PyData} (h : DatAt K G M x (.list [a, b, c, d])) (ha : Shx a) (hb : Shx b) (hc : Shx c) (hd : Shx d) (q : R (.str (PyData.list [a, b, c, d]).shown) G M) : kRepr K [x] G M R := by
  refine ⟨_, h, ?_, ?_, ?_, ?_, q⟩
  · show (a.showable && (b.showable && (c.showable && (d.showable && true)))) = true
    rw [ha.1, hb.1, hc.1, hd.1]; rfl
  · show (a.hasDict || (b.hasDict || (c.hasDict || (d.hasDict || false)))) = false
    rw [ha.2.1, hb.2.1, hc.2.1, hd.2.1]; rfl
  · show max a.depth (max b.depth (max c.depth (max d.depth 0))) + 1 ≤ 30
    have := ha.2.2.1; have := hb.2.2.1; have := hc.2.2.1; have := hd.2.2.1
    omega
  · have h1 := listText_len_le [a.shown, b.shown, c.shown, d.shown]
    have e : ([a.shown, b.shown, c.shown, d.shown].map (·.length)).sum = a.shown.length + (b.shown.length + (c.shown.length + (d.shown.length + 0))) := rfl
    have e2 : [a.shown, b.shown, c.shown, d.shown].length = 4 := rfl
    rw [e, e2] at h1
    have := ha.2.2.2; have := hb.2.2.2; have := hc.2.2.2; have := hd.2.2.2
    refine sz (n := (listText [a.shown, b.shown, c.shown, d.shown]).length) ?_
    omega
theorem dcs_at {q : Addr} {cs : List Dc} (hs : ∀ x, x ∈ (q, HO.lst (cs.map Dc.v)) :: cs.flatMap Dc.cells → x ∈ M) : DrAt K G M q (cs.map Dc.dr) := by
  refine ⟨cs.map Dc.v, .inl (hs _ List.mem_cons_self), ?_⟩
  suffices H : ∀ (l : List Dc), (∀ x, x ∈ l.flatMap Dc.cells → x ∈ M) → A2 (DrV K G M) (l.map Dc.v) (l.map Dc.dr) from
    H cs fun x hx => hs _ (List.mem_cons_of_mem _ hx)
  intro l
  induction l with
  | nil => intro _; exact .nil
  | cons c l ih =>
    intro h
    refine .cons ?_ (ih fun x hx => h x (by rw [List.flatMap_cons]; exact List.mem_append.mpr (.inr hx)))
    cases c with
    | leaf n => exact rfl
    | row b l' => exact ⟨b, rfl, .inl (h _ (by rw [List.flatMap_cons]; exact List.mem_append.mpr (.inl List.mem_cons_self)))⟩
/-! cells whose contents change -/
def Has (C : Mem) (b : Addr) : Prop := ∃ xs : List V, (b, HO.lst xs) ∈ C
theorem clr {a b : Addr} {us : List V} {D F : Mem} (h : Has D b) : ∃ (xs : List V) (D1 : Mem), ((a, HO.lst us) :: (D ++ F)).Perm ((b, HO.lst xs) :: (a, HO.lst us) :: (D1 ++ F)) ∧ ∀ ys : List V, (((a, HO.lst us) :: (((b, HO.lst ys) :: D1) ++ F)).Perm ((b, HO.lst ys) :: (a, HO.lst us) :: (D1 ++ F))) ∧ ∀ b', Has D b' → Has ((b, HO.lst ys) :: D1) b' := by
  obtain ⟨xs, hx⟩ := h
  obtain ⟨D1, D2, e⟩ := List.append_of_mem hx
  refine ⟨xs, D1 ++ D2, by rw [e]; (classical (rw [List.perm_iff_count]; intro x; simp only [List.set_cons_zero, List.set_cons_succ, List.cons_append, List.nil_append, List.append_assoc, List.append_eq, List.count_append, List.count_cons, List.count_nil] <;> omega)), fun ys => ⟨by (classical (rw [List.perm_iff_count]; intro x; simp only [List.set_cons_zero, List.set_cons_succ, List.cons_append, List.nil_append, List.append_assoc, List.append_eq, List.count_append, List.count_cons, List.count_nil] <;> omega)), fun b' hb' => ?_⟩⟩
  obtain ⟨zs, hz⟩ := hb'
  rw [e] at hz
  rcases List.mem_append.mp hz with hz | hz
  · exact ⟨zs, List.mem_cons_of_mem _ (List.mem_append.mpr (.inl hz))⟩
  · rcases List.mem_cons.mp hz with hz | hz
    · injection hz with h1 _
      exact ⟨ys, by rw [h1]; exact List.mem_cons_self⟩
    · exact ⟨zs, List.mem_cons_of_mem _ (List.mem_append.mpr (.inr hz))⟩
theorem dcs_has {cs : List Dc} {v : V} (h : v ∈ cs.map Dc.v) : (∃ n : Nat, v = .int (n : Int)) ∨ ∃ b, v = .ref b ∧ Has (cs.flatMap Dc.cells) b := by
  obtain ⟨c, hc, rfl⟩ := List.mem_map.mp h
  cases c with
  | leaf n => exact .inl ⟨n, rfl⟩
  | row b l => exact .inr ⟨b, rfl, natsV l, List.mem_flatMap.mpr ⟨_, hc, List.mem_cons_self⟩⟩
theorem pf_law_as_ahead (h : S_law_as_ahead K vs G M R Z) : rd_law_as_ahead K (ends R Z) (sta 5 vs) G M := by
  obtain ⟨x, _, _, rfl, p, b, ks, ps, ds, rfl, rfl, hp, hpo, hkn, hkl, hb, hok, q⟩ := sp3_of h
  clear h
  have hbo := back_ok hpo
  refine ⟨G, M, Wk.refl, p, ks, ps, rfl, hp, hpo, hkn, hkl, fun q1 c1 G1 ex1 at1 pp1 => ?_⟩
  refine ⟨p, q1, ks, ps, backP ps, rfl, rfl, (hp.ex ex1).ap, hpo, pcr_pap at1 pp1, hbo, hkn, hkl, fun q2 c2 G2 ex2 at2 pp2 => ?_⟩
  have e12 := ex1.trans ex2
  refine ⟨q2, b, ks, joinP ps (backP ps), ds, rfl, rfl, pcr_pap at2 pp2, join_ok hpo hbo, hkn, hkl, drs_at (hb.ex e12), hok, fun q3 c3 h3 => ?_⟩
  rw [join_ledD hok hpo hbo, back_ledD hok hpo] at h3
  obtain ⟨M1, hM1⟩ : ∃ M1 : Mem, M1 = (q2, HO.lst (c2.map fun c => .ref c.T)) :: (cellsP c2 ++ ((q1, HO.lst (c1.map fun c => .ref c.T)) :: (cellsP c1 ++ M))) := ⟨_, rfl⟩
  have hdrop : Wk G2 M1 G2 M := by rw [hM1]; exact Wk.drop0.trans ((Wk.dropP _).trans (Wk.drop0.trans (Wk.dropP _)))
  rw [← hM1]
  clear hM1
  have hd3 : DatAt K G2 ((q3, .lst (c3.map Dc.v)) :: (c3.flatMap Dc.cells ++ M1)) (.ref q3) (.list (ds.map drD)) := by
    rw [← h3]
    exact dcs_dat fun x hx => by
      rcases List.mem_cons.mp hx with rfl | hx
      · exact List.mem_cons_self
      · exact List.mem_cons_of_mem _ (List.mem_append.mpr (.inl hx))
  refine ⟨G2, _, Wk.refl, eq_ref (n := 2) (neg := true) hd3 (drsg_dat (hb.ex e12)) (shp_drs _) (by decide) ?_⟩
  refine ⟨G2, _, Wk.refl, c3.map Dc.v, lat_n (n := 0) rfl, fun i σ G' M' => ∃ (y4 : Option V) (D : Mem), σ = [some x, some (.ref p), some (.ref b), some (.ref q3), y4] ∧ G' = G2 ∧ M' = (q3, .lst (c3.map Dc.v)) :: (D ++ M1) ∧ ∀ b, Has (c3.flatMap Dc.cells) b → Has D b, ⟨none, _, rfl, rfl, rfl, fun _ h => h⟩, ?_, ?_, ?_⟩
  · rintro i σ G' M' _ ⟨y4, D, rfl, rfl, rfl, _⟩; exact lat_n (n := 0) rfl
  · rintro i σ G' M' hi ⟨y4, D, rfl, hG, rfl, hD⟩
    subst hG
    obtain ⟨v, hv⟩ : ∃ v, (c3.map Dc.v)[i]? = some v := ⟨_, List.getElem?_eq_getElem hi⟩
    refine asg_L hv ?_
    rcases dcs_has (List.mem_of_getElem? hv) with ⟨n, rfl⟩ | ⟨b', rfl, hb'⟩
    · exact ⟨G', _, Wk.refl, isi_pt PT.list ty_int ⟨G', _, Wk.refl, _, D, rfl, rfl, rfl, hD⟩⟩
    · obtain ⟨xs, D1, p1, p2⟩ := clr (a := q3) (us := c3.map Dc.v) (F := M1) (hD b' hb')
      obtain ⟨p3, p4⟩ := p2 []
      refine ⟨G', _, Wk.perm p1.symm, isi_pt PT.list (ty_lst (.inl List.mem_cons_self)) ?_⟩
      refine ⟨G', _, Wk.refl, tyl_n (n := 0) rfl, 0, xs, rfl, ?_⟩
      exact ⟨G', _, Wk.perm p3, _, _, rfl, rfl, rfl, fun b2 h2 => p4 b2 (hD b2 h2)⟩
  · rintro σ G' M' ⟨y4, D, rfl, rfl, rfl, _⟩
    exact ⟨G', _, Wk.refl, retW (Wk.drop0.trans ((Wk.dropP D).trans hdrop)) (q G' e12)⟩
/-! turned about -/
def PtR (K : PySem.W.Frag) (G : Hp) (C : Mem) (v : V) : Prop := ∃ (T : Addr) (u y : V), v = .ref T ∧ SqT K G T [u, y] ∧ (y = .non ∨ ∃ b, y = .ref b ∧ Has C b)
theorem pcs_ptr {cs : List Pc} (h : ∀ c, c ∈ cs → c.at K G) : ∀ v, v ∈ (cs.map fun c => V.ref c.T) → PtR K G (cellsP cs) v := fun v hv => by
  obtain ⟨c, hc, rfl⟩ := List.mem_map.mp hv
  have hc' := h c hc
  obtain ⟨T, src, tn⟩ := c
  refine ⟨T, _, _, rfl, hc', ?_⟩
  cases tn with
  | none => exact .inl rfl
  | some p => exact .inr ⟨p.1, rfl, natsV p.2, List.mem_flatMap.mpr ⟨_, hc, List.mem_cons_self⟩⟩
theorem rev_all {D : Kd} {a : Addr} {us : List V} {C F : Mem} {s0 s1 s2 s3 s4 s5 s6 s7 s8 y10 y11 : Option V} (hp : M.Perm ((a, .lst us) :: (C ++ F))) (hus : ∀ v, v ∈ us → PtR K G C v) (hl : us.length ≤ 1000)
    (hD : ∀ (y10 : Option V) (E M' : Mem), M' = (a, .lst (us ++ [.non])) :: (E ++ F) → D.nx [s0, s1, s2, s3, s4, s5, s6, s7, s8, some (.ref a), y10, y11] G M') : rd_law_right_b0 K D [s0, s1, s2, s3, s4, s5, s6, s7, s8, some (.ref a), y10, y11] G M := by
  refine ⟨G, _, Wk.perm hp.symm, us, lat_n (n := 0) rfl, fun i σ G' M' => ∃ (y10 : Option V) (E : Mem), σ = [s0, s1, s2, s3, s4, s5, s6, s7, s8, some (.ref a), y10, y11] ∧ G' = G ∧ M' = (a, .lst us) :: (E ++ F) ∧ ∀ b, Has C b → Has E b, ⟨_, C, rfl, rfl, rfl, fun _ h => h⟩, ?_, ?_, ?_⟩
  · rintro i σ G' M' _ ⟨_, E, rfl, rfl, rfl, _⟩; exact lat_n (n := 0) rfl
  · rintro i σ G' M' hi ⟨_, E, rfl, hG, rfl, hE⟩
    subst hG
    obtain ⟨v, hv⟩ : ∃ v, us[i]? = some v := ⟨_, List.getElem?_eq_getElem hi⟩
    refine asg_L hv ?_
    obtain ⟨T, u, y, rfl, hT, hy⟩ := hus v (List.mem_of_getElem? hv)
    rcases hy with rfl | ⟨b, rfl, hb⟩
    · exact ⟨G', _, Wk.refl, _, _, tup_g hT, rfl, isi_pt PT.list ty_non ⟨G', _, Wk.refl, _, E, rfl, rfl, rfl, hE⟩⟩
    · obtain ⟨xs, D1, p1, p2⟩ := clr (a := a) (us := us) (F := F) (hE b hb)
      obtain ⟨p3, p4⟩ := p2 xs.reverse
      refine ⟨G', _, Wk.perm p1.symm, _, _, tup_g hT, rfl, isi_pt PT.list (ty_lst (.inl List.mem_cons_self)) ?_⟩
      refine ⟨G', _, Wk.refl, _, _, tup_g hT, rfl, tyl_n (n := 0) rfl, 0, xs, rfl, ?_⟩
      exact ⟨G', _, Wk.perm p3, _, _, rfl, rfl, rfl, fun b2 h2 => p4 b2 (hE b2 h2)⟩
  · rintro σ G' M' ⟨_, E, rfl, rfl, rfl, _⟩
    exact ⟨G', _, Wk.refl, tyl_n (n := 0) rfl, 0, us, rfl, Nat.lt_of_le_of_lt hl (by decide), hD _ E _ rfl⟩
/-! unlike draws -/
theorem eqv_dr (x y : Dr) : PyData.eqv (drD x) (drD y) = true ↔ x = y := by
  cases x with
  | leaf n =>
    cases y with
    | leaf m =>
      show ((n : Int) == (m : Int)) = true ↔ _
      rw [beq_iff_eq]
      exact ⟨fun h => by rw [show n = m by omega], fun h => by injection h with h; omega⟩
    | row l => exact ⟨fun h => absurd (show false = true from h) (by decide), fun h => nomatch h⟩
  | row l =>
    cases y with
    | leaf m => exact ⟨fun h => absurd (show false = true from h) (by decide), fun h => nomatch h⟩
    | row l' =>
      show PyData.eqv (.list (natsD l)) (.list (natsD l')) = true ↔ _
      rw [eqvL_nats, decide_eq_true_eq]
      exact ⟨fun h => by rw [h], fun h => by injection h⟩
theorem eqvA_drs : ∀ xs ys : List Dr, PyData.eqvAll (xs.map drD) (ys.map drD) = true ↔ xs = ys
  | [], [] => ⟨fun _ => rfl, fun _ => by simp [PyData.eqvAll]⟩
  | [], _ :: _ => ⟨fun h => by simp [PyData.eqvAll] at h, fun h => nomatch h⟩
  | _ :: _, [] => ⟨fun h => by simp [PyData.eqvAll] at h, fun h => nomatch h⟩
  | x :: xs, y :: ys => by
    show (PyData.eqv (drD x) (drD y) && PyData.eqvAll (xs.map drD) (ys.map drD)) = true ↔ _
    rw [Bool.and_eq_true, eqv_dr, eqvA_drs xs ys]
    exact ⟨fun h => by rw [h.1, h.2], fun h => by injection h with h1 h2; exact ⟨h1, h2⟩⟩
def drsE (xs ys : List Dr) : Bool := PyData.eqv (.list (xs.map drD)) (.list (ys.map drD))
theorem drsE_iff (xs ys : List Dr) : drsE xs ys = true ↔ xs = ys := eqvA_drs xs ys
theorem eq_two {a b : Addr} {xs ys : List Dr} (ha : DatAt K G M (.ref a) (.list (xs.map drD))) (hb : DatAt K G M (.ref b) (.list (ys.map drD))) (q : R (.bl (drsE xs ys)) G M) : kEqv false K (.ref a) (.ref b) G M R :=
  ⟨_, _, ha, hb, (shp_drs xs : Shp 2 _).shaped (by decide), (shp_drs ys : Shp 2 _).shaped (by decide), q⟩
theorem eq_kns {a e : Addr} {ks : List Kn} {neg : Bool} (h1 : DatAt K G M (.ref a) (.list (ks.map knD))) (h2 : LstAt K G M e []) (q : R (.bl (if neg then !ks.isEmpty else ks.isEmpty)) G M) : kEqv neg K (.ref a) (.ref e) G M R := by
  refine ⟨.list (ks.map knD), .list [], h1, dat_list h2 dats_nil, (Shp.list (n := 1) fun d hd => ?_).shaped (by decide), (shp_nats (n := 0) []).shaped (by decide), ?_⟩
  · obtain ⟨k, _, rfl⟩ := List.mem_map.mp hd
    refine .tuple fun d hd => ?_
    simp only [List.mem_cons, List.not_mem_nil, or_false] at hd
    rcases hd with rfl | rfl
    · refine .str ?_
      unfold Kn.txt; split
      · exact (by decide +kernel : PyData.strOk ("leaf" : Str) = true)
      · exact (by decide +kernel : PyData.strOk ("shuffle" : Str) = true)
    · exact .int
  · rw [eqvL_nil, show (ks.map knD).isEmpty = ks.isEmpty by cases ks <;> rfl]; exact q
end
section
variable {K : PySem.W.Frag} {vs : List V} {G : Hp} {M : Mem} {R : KR} {Z : KX}
theorem pp_sm {ks : List Kn} {ps : List Pp} (h : PapOk ks ps) (hk : ∀ k, k ∈ ks → KnOk k) (hl : ks.length ≤ 1000) : Shb 3 133000 (.list (ps.map ppD)) := by
  refine shb_pps (by rw [← h.len]; exact hl) fun pp hp => ⟨(pap_small h hk hl pp hp).1, fun l e => ?_⟩
  obtain ⟨_, h2, h3⟩ := (pap_small h hk hl pp hp).2 l e
  exact ⟨by omega, fun x hx => Nat.lt_trans (h3 x hx) (by decide)⟩
theorem mem_ap1 {x : Addr × HO} {A B : Mem} (h : x ∈ A) : x ∈ A ++ B := List.mem_append.mpr (.inl h)
theorem mem_ap2 {x : Addr × HO} {A B : Mem} (h : x ∈ B) : x ∈ A ++ B := List.mem_append.mpr (.inr h)
theorem kvar_eq {σ : St} {i : Nat} {x : V} {E : KX} (hx : σ[i]? = some (some x)) (h : R x G M) : kVar i σ G M R E := by
  unfold kVar
  rw [hx]
  exact h
theorem pf_law_right (h : S_law_right K vs G M R Z) : rd_law_right K (ends R Z) (sta 12 vs) G M := by
  refine of_now ?_
  simp (disch := with_unfolding_all
    obtain ⟨_, rfl, p, c, s, rfl, rfl, hs, q⟩ := sp1_of h
    clear h
    refine ⟨G, _, Wk.refl, p, 0, c, s, rfl, rfl, rfl, rfl, hs, fun a ks c s G1 ex1 hk hkn hkl hs => ?_⟩
    have hk2 : ks.length ≤ 1000 := by omega
    obtain ⟨uk, hkk, hus, _⟩ := knF_at (M := []) hk hkn hk2
    have hkk : SqL K G1 a uk := hkk.elim (fun z => nomatch z) id
    refine ⟨G1, [(p, pool c s)], Wk.refl, p, 0, c, s, a, uk, ks, rfl, rfl, rfl, hs, .inr hkk, hus, hkn, hk2, fun dl drs c s G2 ex2 hd hdo hs => ?_⟩
    refine ⟨G2, [(p, pool c s)], Wk.refl, p, 0, c, s, a, ks, rfl, rfl, rfl, hs, hk.ex ex2, hkn, hkl, fun p1 ps c s G3 ex3 hp1 ho1 hs => ?_⟩
    refine ⟨G3, [(p, pool c s)], Wk.refl, p, 0, c, s, a, ks, rfl, rfl, rfl, hs, hk.ex (ex2.trans ex3), hkn, hkl, fun p2 qs c s G4 ex4 hp2 ho2 hs => ?_⟩
    have x04 : Ex G G4 := ((ex1.trans ex2).trans ex3).trans ex4
    have hk : ∀ {Gx : Hp}, Ex G4 Gx → KnF K Gx a ks := fun ex => hk.ex (((ex2.trans ex3).trans ex4).trans ex)
    have hd : ∀ {Gx : Hp}, Ex G4 Gx → DrsG K Gx dl drs := fun ex => hd.ex ((ex3.trans ex4).trans ex)
    have hp1 : ∀ {Gx : Hp} {N : Mem}, Ex G4 Gx → PapM K Gx N p1 ps := fun ex => (hp1.ex (ex4.trans ex)).any
    have hp2 : ∀ {Gx : Hp} {N : Mem}, Ex G4 Gx → PapM K Gx N p2 qs := fun ex => (hp2.ex ex).any
    have hbo := back_ok ho1
    have hjo := join_ok ho1 ho2
    have hlo := ledD_ok hdo ho1
    obtain ⟨S1, hS1⟩ : ∃ S1, S1 = (PyData.list [.list (ks.map knD), .list (drs.map drD), .list (ps.map ppD), .list (qs.map ppD)]).shown := ⟨_, rfl⟩
    have rep4 : ∀ {Gx : Hp} {N : Mem} {z : Addr} {R' : KR}, Ex G4 Gx → R' (.str S1) Gx ((z, .lst [.ref a, .ref dl, .ref p1, .ref p2]) :: N) → kRepr K [.ref z] Gx ((z, .lst [.ref a, .ref dl, .ref p1, .ref p2]) :: N) R' := fun {Gx N z R'} ex hr => by
      obtain ⟨uk, z1, z2, _⟩ := knF_at (M := (z, .lst [.ref a, .ref dl, .ref p1, .ref p2]) :: N) (hk ex) hkn hk2
      refine repr4 (a := .list (ks.map knD)) (b := .list (drs.map drD)) (c := .list (ps.map ppD)) (d := .list (qs.map ppD)) (dat_list lat_0 (dats_cons (dat_list z1 (dats_g z2)) (dats_cons (drsg_dat (hd ex)) (dats_cons (pap_dat (hp1 ex)) (dats_cons (pap_dat (hp2 ex)) dats_nil))))) (shx_shb (shb_kns fun k h => (hkn k h).1) (by decide) (by omega)) (shx_shb (shb_drsK hkn hk2 hdo) (by decide) (by decide)) (shx_shb (pp_sm ho1 hkn hk2) (by decide) (by decide)) (shx_shb (pp_sm ho2 hkn hk2) (by decide) (by decide)) (by rw [← hS1]; exact hr)
    refine ⟨G4, [(p, pool c s)], Wk.refl, (show 4 ≤ sizeLine from by decide), fun z1 fz1 => ?_⟩
    dsimp only [kNil]
    refine rep4 Ex.refl ?_
    refine ⟨G4, [(p, pool c s)], Wk.drop0, p1, dl, ks, ps, drs, rfl, rfl, hp1 Ex.refl, ho1, hkn, hk2, drs_at (hd Ex.refl), hdo, fun fq fcs hf => ?_⟩
    obtain ⟨Fm, hFm⟩ : ∃ Fm : Mem, Fm = (fq, HO.lst (fcs.map Dc.v)) :: fcs.flatMap Dc.cells := ⟨_, rfl⟩
    have hfd : ∀ {Gx : Hp} {N : Mem}, (∀ x, x ∈ Fm → x ∈ N) → DatAt K Gx N (.ref fq) (.list ((ledD ps drs).map drD)) := fun {Gx N} hs => by rw [← hf]; exact dcs_dat fun x hx => hs x (by rw [hFm]; exact hx)
    have hfa : ∀ {Gx : Hp} {N : Mem}, (∀ x, x ∈ Fm → x ∈ N) → DrAt K Gx N fq (ledD ps drs) := fun {Gx N} hs => by rw [← hf]; exact dcs_at fun x hx => hs x (by rw [hFm]; exact hx)
    -- draws, and in the law's own way
    refine ⟨G4, Fm ++ [(p, pool c s)], by rw [hFm]; exact Wk.refl, a, fq, ks, ledD ps drs, rfl, rfl, hk Ex.refl, hfa (fun x hx => mem_ap1 hx), hlo, hkn, hk2, ?_⟩
    refine ⟨a, fq, ks, ledD ps drs, rfl, rfl, hk Ex.refl, hfa (fun x hx => mem_ap1 hx), hlo, hkn, hk2, fun q1 cs1 h1 => ?_⟩
    refine ⟨a, p1, dl, ks, ps, drs, rfl, rfl, rfl, hk Ex.refl, hp1 Ex.refl, ho1, hkn, hk2, drs_at (hd Ex.refl), hdo, fun q2 cs2 h2 => ?_⟩
    have d1 : DatAt K G4 ((q2, .lst (cs2.map Dc.v)) :: (cs2.flatMap Dc.cells ++ ((q1, .lst (cs1.map Dc.v)) :: (cs1.flatMap Dc.cells ++ (Fm ++ [(p, pool c s)]))))) (.ref q1) (.list (((ledD ps drs).map ordD).map drD)) := by
      rw [← h1]
      exact dcs_dat fun x hx => List.mem_cons_of_mem _ (mem_ap2 (by
        rcases List.mem_cons.mp hx with rfl | hx
        · exact List.mem_cons_self
        · exact List.mem_cons_of_mem _ (mem_ap1 hx)))
    have d2 : DatAt K G4 ((q2, .lst (cs2.map Dc.v)) :: (cs2.flatMap Dc.cells ++ ((q1, .lst (cs1.map Dc.v)) :: (cs1.flatMap Dc.cells ++ (Fm ++ [(p, pool c s)]))))) (.ref q2) (.list (((ledD ps drs).map ordD).map drD)) := by
      rw [← h2]
      exact dcs_dat fun x hx => by
        rcases List.mem_cons.mp hx with rfl | hx
        · exact List.mem_cons_self
        · exact List.mem_cons_of_mem _ (mem_ap1 hx)
    refine eq_ref (n := 2) (neg := true) d1 d2 (shp_drs _) (by decide) ?_
    clear d1 d2
    -- back and joined
    refine ⟨G4, Fm ++ [(p, pool c s)], Wk.drop0.trans ((Wk.dropP _).trans (Wk.drop0.trans (Wk.dropP _))), p1, ks, ps, rfl, hp1 Ex.refl, ho1, hkn, hk2, fun tq tcs G5 ex5 tat tpp => ?_⟩
    refine ⟨G5, _, Wk.refl, p1, p2, ks, ps, qs, rfl, rfl, hp1 ex5, ho1, hp2 ex5, ho2, hkn, hk2, fun bq bcs G6 ex6 bat bpp => ?_⟩
    have x46 := ex5.trans ex6
    have tat : ∀ {Gx : Hp}, Ex G6 Gx → ∀ c, c ∈ tcs → c.at K Gx := fun ex c hc => Pc.at_ex (ex6.trans ex) (tat c hc)
    have bat : ∀ {Gx : Hp}, Ex G6 Gx → ∀ c, c ∈ bcs → c.at K Gx := fun ex c hc => Pc.at_ex ex (bat c hc)
    obtain ⟨Tm, hTm⟩ : ∃ Tm : Mem, Tm = (tq, HO.lst (tcs.map fun c => .ref c.T)) :: cellsP tcs := ⟨_, rfl⟩
    obtain ⟨Bm, hBm⟩ : ∃ Bm : Mem, Bm = (bq, HO.lst (bcs.map fun c => .ref c.T)) :: cellsP bcs := ⟨_, rfl⟩
    obtain ⟨M6, hM6⟩ : ∃ M6 : Mem, M6 = Bm ++ (Tm ++ (Fm ++ [(p, pool c s)])) := ⟨_, rfl⟩
    have hM6' : ((bq, HO.lst (bcs.map fun c => V.ref c.T)) :: (cellsP bcs ++ ((tq, HO.lst (tcs.map fun c => V.ref c.T)) :: (cellsP tcs ++ (Fm ++ [(p, pool c s)]))))) = M6 := by rw [hM6, hBm, hTm]; rfl
    rw [hM6']
    have tpap : ∀ {Gx : Hp} {N : Mem}, Ex G6 Gx → (∀ x, x ∈ M6 → x ∈ N) → PapM K Gx N tq (backP ps) := fun {Gx N} ex hs => (pcr_pap (M := []) (tat ex) tpp).sub fun x hx => hs x (by
      rw [hM6, hTm]
      refine mem_ap2 (mem_ap1 ?_)
      rw [List.append_nil] at hx
      exact hx)
    have bpap : ∀ {Gx : Hp} {N : Mem}, Ex G6 Gx → (∀ x, x ∈ M6 → x ∈ N) → PapM K Gx N bq (joinP ps qs) := fun {Gx N} ex hs => (pcr_pap (M := []) (bat ex) bpp).sub fun x hx => hs x (by
      rw [hM6, hBm]
      refine mem_ap1 ?_
      rw [List.append_nil] at hx
      exact hx)
    have hfa6 : ∀ {Gx : Hp} {N : Mem}, (∀ x, x ∈ M6 → x ∈ N) → DrAt K Gx N fq (ledD ps drs) := fun {Gx N} hs => hfa fun x hx => hs x (by rw [hM6]; exact mem_ap2 (mem_ap2 (mem_ap1 hx)))
    have hka : ∀ {Gx : Hp} {N : Mem}, Ex G6 Gx → KnAt K Gx N a ks := fun ex => knF_at (hk (x46.trans ex)) hkn hk2
    -- leadings for no signs
    refine ⟨G6, M6, Wk.refl, sz0, fun e1 fe1 => ⟨sz0, fun e2 fe2 => ?_⟩⟩
    refine ⟨a, e1, e2, ks, [], [], [], [], rfl, rfl, rfl, hka Ex.refl, lat_n (n := 1) rfl, .nil, lat_n (n := 0) rfl, .nil, by decide, by decide, (fun _ z => nomatch z), (fun _ z => nomatch z), .inr ⟨tq, backP ps, rfl, tpap Ex.refl (fun x hx => List.mem_cons_of_mem _ (List.mem_cons_of_mem _ hx)), hbo, fun G7 ex7 => ?_⟩⟩
    refine ⟨sz0, fun e3 fe3 => ⟨sz0, fun e4 fe4 => ?_⟩⟩
    refine ⟨a, e3, e4, ks, [], [], [], [], rfl, rfl, rfl, hka ex7, lat_n (n := 1) rfl, .nil, lat_n (n := 0) rfl, .nil, by decide, by decide, (fun _ z => nomatch z), (fun _ z => nomatch z), .inr ⟨bq, joinP ps qs, rfl, bpap ex7 (fun x hx => List.mem_cons_of_mem _ (List.mem_cons_of_mem _ (List.mem_cons_of_mem _ (List.mem_cons_of_mem _ hx)))), hjo, fun G8 ex8 => ?_⟩⟩
    have x68 := ex7.trans ex8
    have x48 := x46.trans x68
    -- apart
    refine ⟨G8, M6, Wk.dropP [_, _, _, _], ?_⟩
    refine apart_pap (Z := fun _ _ _ _ => False) (cs := tcs) (F := Bm ++ (Fm ++ [(p, pool c s)])) (by rw [hM6, hTm]; generalize cellsP tcs = A; (classical (rw [List.perm_iff_count]; intro x; simp only [List.set_cons_zero, List.set_cons_succ, List.cons_append, List.nil_append, List.append_assoc, List.append_eq, List.count_append, List.count_cons, List.count_nil] <;> omega))) (tat x68) tpp hbo hkn hk2 ?_
    refine apart_pap (Z := fun _ _ _ _ => False) (cs := bcs) (F := Tm ++ (Fm ++ [(p, pool c s)])) (by rw [hM6, hBm]; generalize cellsP bcs = A; (classical (rw [List.perm_iff_count]; intro x; simp only [List.set_cons_zero, List.set_cons_succ, List.cons_append, List.nil_append, List.append_assoc, List.append_eq, List.count_append, List.count_cons, List.count_nil] <;> omega))) (bat x68) bpp hjo hkn hk2 ?_
    refine apart_drs (Z := fun _ _ _ _ => False) (cs := fcs) (F := Bm ++ (Tm ++ [(p, pool c s)])) (by rw [hM6, hFm]; generalize fcs.flatMap Dc.cells = A; (classical (rw [List.perm_iff_count]; intro x; simp only [List.set_cons_zero, List.set_cons_succ, List.cons_append, List.nil_append, List.append_assoc, List.append_eq, List.count_append, List.count_cons, List.count_nil] <;> omega))) hf hlo hkn hk2 ?_
    -- led on and back
    have up : ∀ {q : Addr} {cs : List Dc} {N : Mem} {x : Addr × HO}, x ∈ N → x ∈ (q, HO.lst (cs.map Dc.v)) :: (cs.flatMap Dc.cells ++ N) := fun hx => List.mem_cons_of_mem _ (mem_ap2 hx)
    have own : ∀ {q : Addr} {cs : List Dc} {N : Mem} {x : Addr × HO}, x ∈ (q, HO.lst (cs.map Dc.v)) :: cs.flatMap Dc.cells → x ∈ (q, HO.lst (cs.map Dc.v)) :: (cs.flatMap Dc.cells ++ N) := fun hx => by
      rcases List.mem_cons.mp hx with rfl | hx
      · exact List.mem_cons_self
      · exact List.mem_cons_of_mem _ (mem_ap1 hx)
    refine ⟨G8, M6, Wk.refl, tq, fq, ks, backP ps, ledD ps drs, rfl, rfl, tpap x68 (fun _ h => h), hbo, hkn, hk2, hfa6 (fun _ h => h), hlo, fun q3 cs3 h3 => ?_⟩
    rw [back_ledD hdo ho1] at h3
    refine eq_ref (n := 2) (neg := true) (d := .list (drs.map drD)) (by rw [← h3]; exact dcs_dat fun x hx => own hx) (drsg_dat (hd x48)) (shp_drs _) (by decide) ?_
    refine ⟨tq, dl, ks, backP ps, drs, rfl, rfl, tpap x68 (fun _ h => up h), hbo, hkn, hk2, drs_at (hd x48), hdo, fun q4 cs4 h4 => ?_⟩
    refine ⟨p1, q4, ks, ps, ledD (backP ps) drs, rfl, rfl, hp1 x48, ho1, hkn, hk2, by rw [← h4]; exact dcs_at fun x hx => own hx, ledD_ok hdo hbo, fun q5 cs5 h5 => ?_⟩
    rw [led_backD hdo ho1] at h5
    refine eq_ref (n := 2) (neg := true) (d := .list (drs.map drD)) (by rw [← h5]; exact dcs_dat fun x hx => own hx) (drsg_dat (hd x48)) (shp_drs _) (by decide) ?_
    -- led by both
    refine ⟨G8, M6, Wk.drop0.trans ((Wk.dropP _).trans (Wk.drop0.trans ((Wk.dropP _).trans (Wk.drop0.trans (Wk.dropP _))))), bq, dl, ks, joinP ps qs, drs, rfl, rfl, bpap x68 (fun _ h => h), hjo, hkn, hk2, drs_at (hd x48), hdo, fun q6 cs6 h6 => ?_⟩
    refine ⟨p2, fq, ks, qs, ledD ps drs, rfl, rfl, hp2 x48, ho2, hkn, hk2, hfa6 (fun _ h => up h), hlo, fun q7 cs7 h7 => ?_⟩
    rw [← join_ledD hdo ho1 ho2] at h7
    refine eq_ref (n := 2) (neg := true) (d := .list ((ledD (joinP ps qs) drs).map drD)) (by rw [← h6]; exact dcs_dat fun x hx => up (own hx)) (by rw [← h7]; exact dcs_dat fun x hx => own hx) (shp_drs _) (by decide) ?_
    refine ⟨(show 4 ≤ sizeLine from by decide), fun z2 fz2 => ?_⟩
    dsimp only [kNil]
    refine rep4 x48 ?_
    show if (!decide (V.str S1 = V.str S1)) = true then _ else _
    refine ite2' (fun e => (neq_self e).elim) (fun _ => ?_)
    -- what was told is changed
    refine ⟨G8, Bm ++ (Tm ++ (Fm ++ [(p, pool c s)])), by rw [← hM6]; exact Wk.drop0.trans (Wk.drop0.trans ((Wk.dropP _).trans (Wk.drop0.trans (Wk.dropP _)))), sz2, fun z fz => ⟨[.ref tq, .ref bq], lat_0, ?_⟩⟩
    have tl : (tcs.map fun c => V.ref c.T).length ≤ 1000 := by
      have := hbo.len; rw [← tpp, List.length_map] at this; rw [List.length_map]; omega
    have bl : (bcs.map fun c => V.ref c.T).length ≤ 1000 := by
      have := hjo.len; rw [← bpp, List.length_map] at this; rw [List.length_map]; omega
    refine ⟨G8, (z, .lst [.ref tq, .ref bq]) :: (Bm ++ (Tm ++ (Fm ++ [(p, pool c s)]))), Wk.refl, fun i σ G' M' => ∃ (y9 y10 : Option V) (TT BB : Mem), σ = [some (.ref p), some (.ref a), some (.ref dl), some (.ref p1), some (.ref p2), some (.str S1), some (.ref fq), some (.ref tq), some (.ref bq), y9, y10, none] ∧ G' = G8 ∧ M' = (z, .lst [.ref tq, .ref bq]) :: (BB ++ (TT ++ (Fm ++ [(p, pool c s)]))) ∧ (i = 0 → TT = Tm) ∧ (i ≤ 1 → BB = Bm), ⟨none, none, Tm, Bm, rfl, rfl, rfl, fun _ => rfl, fun _ => rfl⟩, ?_, ?_, ?_⟩
    · rintro i σ G' M' _ ⟨_, _, TT, BB, rfl, rfl, rfl, _⟩; exact lat_n (n := 0) rfl
    · rintro i σ G' M' hi ⟨y9, y10, TT, BB, rfl, hG, rfl, t0, b0⟩
      subst hG
      have hi : i < 2 := hi
      have hb : BB = Bm := b0 (by omega)
      subst hb
      rcases Nat.lt_or_ge i 1 with h | h
      · have h0 : i = 0 := by omega
        subst h0
        have ht := t0 rfl
        subst ht
        refine asg_L (v := .ref tq) rfl (rev_all (a := tq) (us := tcs.map fun c => .ref c.T) (C := cellsP tcs) (F := (z, .lst [.ref tq, .ref bq]) :: (BB ++ (Fm ++ [(p, pool c s)]))) (by rw [hTm]; generalize cellsP tcs = A; (classical (rw [List.perm_iff_count]; intro x; simp only [List.set_cons_zero, List.set_cons_succ, List.cons_append, List.nil_append, List.append_assoc, List.append_eq, List.count_append, List.count_cons, List.count_nil] <;> omega))) (pcs_ptr (tat x68)) tl fun y10 E M' hM' => ?_)
        refine ⟨G', (z, .lst [.ref tq, .ref bq]) :: (BB ++ (((tq, .lst ((tcs.map fun c => .ref c.T) ++ [.non])) :: E) ++ (Fm ++ [(p, pool c s)]))), by rw [hM']; exact Wk.perm (by (classical (rw [List.perm_iff_count]; intro x; simp only [List.set_cons_zero, List.set_cons_succ, List.cons_append, List.nil_append, List.append_assoc, List.append_eq, List.count_append, List.count_cons, List.count_nil] <;> omega))), _, _, _, BB, rfl, rfl, rfl, (fun z => nomatch z), fun _ => rfl⟩
      · have h1 : i = 1 := by omega
        subst h1
        refine asg_L (v := .ref bq) rfl (rev_all (a := bq) (us := bcs.map fun c => .ref c.T) (C := cellsP bcs) (F := (z, .lst [.ref tq, .ref bq]) :: (TT ++ (Fm ++ [(p, pool c s)]))) (by rw [hBm]; generalize cellsP bcs = A; (classical (rw [List.perm_iff_count]; intro x; simp only [List.set_cons_zero, List.set_cons_succ, List.cons_append, List.nil_append, List.append_assoc, List.append_eq, List.count_append, List.count_cons, List.count_nil] <;> omega))) (pcs_ptr (bat x68)) bl fun y10 E M' hM' => ?_)
        refine ⟨G', (z, .lst [.ref tq, .ref bq]) :: (((bq, .lst ((bcs.map fun c => .ref c.T) ++ [.non])) :: E) ++ (TT ++ (Fm ++ [(p, pool c s)]))), by rw [hM']; exact Wk.perm (by (classical (rw [List.perm_iff_count]; intro x; simp only [List.set_cons_zero, List.set_cons_succ, List.cons_append, List.nil_append, List.append_assoc, List.append_eq, List.count_append, List.count_cons, List.count_nil] <;> omega))), _, _, TT, _, rfl, rfl, rfl, (fun z => nomatch z), fun z => by omega⟩
    rintro σ G' M' ⟨y9, y10, TT, BB, rfl, hG, rfl, _⟩
    subst hG
    -- as it was
    refine ⟨G', Fm ++ [(p, pool c s)], Wk.drop0.trans ((Wk.dropP BB).trans (Wk.dropP TT)), (show 4 ≤ sizeLine from by decide), fun z3 fz3 => ?_⟩
    dsimp only [kNil]
    refine rep4 x48 ?_
    show if (!decide (V.str S1 = V.str S1)) = true then _ else _
    refine ite2' (fun e => (neq_self e).elim) (fun _ => ?_)
    refine ⟨p1, ks, ps, rfl, hp1 x48, ho1, hkn, hk2, fun q8 cs8 G9 ex9 at9 pp9 => ?_⟩
    have x49 := x48.trans ex9
    refine ⟨q8, fq, ks, backP ps, ledD ps drs, rfl, rfl, pcr_pap at9 pp9, hbo, hkn, hk2, hfa (fun x hx => List.mem_cons_of_mem _ (mem_ap2 (List.mem_cons_of_mem _ (mem_ap1 hx)))), hlo, fun q9 cs9 h9 => ?_⟩
    rw [back_ledD hdo ho1] at h9
    refine eq_ref (n := 2) (neg := true) (d := .list (drs.map drD)) (by rw [← h9]; exact dcs_dat fun x hx => own hx) (drsg_dat (hd x49)) (shp_drs _) (by decide) ?_
    refine ⟨G9, Fm ++ [(p, pool c s)], Wk.drop0.trans ((Wk.dropP _).trans (Wk.drop0.trans ((Wk.dropP _).trans Wk.drop0))), ?_⟩
    -- the end, whatever was drawn between
    have fin : ∀ (y10 y11 : Option V) (y9 : Option V) (Gx : Hp) (c s : Int) (M' : Mem), Ex G9 Gx → Wk Gx M' Gx (Fm ++ [(p, pool c s)]) → rd_law_right_16 K (ends R Z) [some (.ref p), some (.ref a), some (.ref dl), some (.ref p1), some (.ref p2), some (.str S1), some (.ref fq), some (.ref tq), some (.ref bq), y9, y10, y11] Gx M' := fun y10 y11 y9 Gx c s M' ex wk => by
      have x4x := x49.trans ex
      refine ⟨Gx, _, wk, p1, dl, ks, ps, drs, rfl, rfl, hp1 x4x, ho1, hkn, hk2, hd x4x, hdo, fun Gy exy => ?_⟩
      refine ⟨(show 4 ≤ sizeLine from by decide), fun z4 fz4 => ?_⟩
      dsimp only [kNil]
      refine rep4 (x4x.trans exy) ?_
      show wkR R (.bl (decide (V.str S1 = V.str S1))) Gy _
      rw [decide_eq_true rfl]
      exact ret0 (q _ _ (x04.trans (x4x.trans exy)))
    obtain ⟨uk9, k91, k92, _⟩ := knF_at (M := Fm ++ [(p, pool c s)]) (hk x49) hkn hk2
    refine ⟨sz0, fun z5 fz5 => eq_kns (neg := true) (dat_list (lat_cons k91) (dats_g k92)) lat_0 ?_⟩
    show if (!ks.isEmpty) = true then _ else _
    refine ite2' (fun e => ?_) (fun _ => fin _ _ _ _ _ _ _ Ex.refl Wk.drop0)
    have hne : ks ≠ [] := fun z => by rw [z] at e; cases e
    refine ⟨G9, [] ++ ((p, pool c s) :: Fm), Wk.drop0.trans (Wk.perm (by (classical (rw [List.perm_iff_count]; intro x; simp only [List.set_cons_zero, List.set_cons_succ, List.cons_append, List.nil_append, List.append_assoc, List.append_eq, List.count_append, List.count_cons, List.count_nil] <;> omega)))), p, 0, c, s, a, dl, ks, drs, rfl, rfl, rfl, rfl, hs, hk x49, hkn, hkl, hne, hd x49, hdo, fun oq es c s G10 ex10 he heo hs => ?_⟩
    have x410 := x49.trans ex10
    refine ⟨G10, Fm ++ [(p, pool c s)], Wk.perm (by show (Fm ++ [(p, pool c s)]).Perm ((p, pool c s) :: Fm); (classical (rw [List.perm_iff_count]; intro x; simp only [List.set_cons_zero, List.set_cons_succ, List.cons_append, List.nil_append, List.append_assoc, List.append_eq, List.count_append, List.count_cons, List.count_nil] <;> omega))), p1, oq, ks, ps, es, rfl, rfl, hp1 x410, ho1, hkn, hk2, drs_at he, heo, fun q10 cs10 h10 => ?_⟩
    refine kvar_eq (x := .ref fq) rfl ?_
    show kEqv false K (.ref q10) (.ref fq) G10 ((q10, .lst (cs10.map Dc.v)) :: (cs10.flatMap Dc.cells ++ (Fm ++ [(p, pool c s)]))) _
    refine eq_two (a := q10) (b := fq) (G := G10) (M := (q10, .lst (cs10.map Dc.v)) :: (cs10.flatMap Dc.cells ++ (Fm ++ [(p, pool c s)]))) (xs := ledD ps es) (ys := ledD ps drs) (by rw [← h10]; exact dcs_dat fun x hx => own hx) (hfd fun x hx => up (mem_ap1 hx)) ?_
    refine kvar_eq (x := .ref oq) rfl (kvar_eq (x := .ref dl) rfl ?_)
    show kEqv false K (.ref oq) (.ref dl) G10 ((q10, .lst (cs10.map Dc.v)) :: (cs10.flatMap Dc.cells ++ (Fm ++ [(p, pool c s)]))) _
    refine eq_two (xs := es) (ys := drs) (drsg_dat he) (drsg_dat (hd x410)) ?_
    have hiff : drsE (ledD ps es) (ledD ps drs) = drsE es drs := by
      rw [Bool.eq_iff_iff, drsE_iff, drsE_iff]
      refine ⟨fun z => ?_, fun z => by rw [z]⟩
      have h2 := congrArg (ledD (backP ps)) z
      rw [back_ledD heo ho1, back_ledD hdo ho1] at h2
      exact h2
    obtain ⟨b1, hb1⟩ : ∃ b1, b1 = drsE es drs := ⟨_, rfl⟩
    rw [hiff, ← hb1]
    show if (!decide (V.bl b1 = V.bl b1)) = true then _ else _
    refine ite2' (fun e => (neq_self e).elim) (fun _ => ?_)
    exact fin _ _ _ _ _ _ _ ex10 (Wk.drop0.trans (Wk.dropP _))) only [↓now_true]
theorem pf_law (h : S_law K vs G M R Z) : rd_law K (ends R Z) (sta 2 vs) G M := by
  refine of_now ?_
  simp (disch := with_unfolding_all
    obtain ⟨_, rfl, a, ns, rfl, hS, hl, q⟩ := sp1_of h
    clear h
    refine ⟨G, [], Wk.nil', _, lst_g hS, ⟨by omega, by omega⟩, fun i σ G' M' => ∃ y1 : Option V, σ = [some (.ref a), y1] ∧ Ex G G' ∧ M' = [], ⟨none, rfl, Ex.refl, rfl⟩, fun _ _ _ _ _ _ => trivial, ?_, ?_⟩
    · rintro i σ G' M' hi ⟨y1, rfl, ex, rfl⟩
      have hi : i < (max 1 (min ((ns.map V.int).length : Int) 40)).toNat := hi
      refine asg_R (v := (i : Int)) (by omega) ⟨G', [], Wk.refl, a, ns, (i : Int), rfl, rfl, ex_l ex hS, by omega, by omega, hl, fun p c s fp hs => ?_⟩
      refine ⟨p, c, s, rfl, rfl, hs, fun G2 M2 ex2 => ?_⟩
      exact ⟨G2, [], Wk.nil', _, rfl, ex.trans ex2, rfl⟩
    · rintro σ G' M' ⟨y1, rfl, ex, rfl⟩
      exact ⟨G', _, Wk.refl, ret0 (q _ _)⟩) only [↓now_true]
end
def topS (i : Nat) : Stmt := PySem.Challenge.pw_blindtouch_k51_led_back_and_joined.main.body.getD i (.Pass ⟨0, 0, 0, 0⟩)
structure Bs (mg : Str → Option Value) : Prop where
  all : mg "all" = none
  bool : mg "bool" = none
  enumerate : mg "enumerate" = none
  int : mg "int" = none
  isinstance : mg "isinstance" = none
  len : mg "len" = none
  list : mg "list" = none
  max : mg "max" = none
  min : mg "min" = none
  range : mg "range" = none
  repr : mg "repr" = none
  reversed : mg "reversed" = none
  set : mg "set" = none
  tuple : mg "tuple" = none
  zip : mg "zip" = none
structure Cs (K : PySem.W.Frag) (mg : Str → Option Value) : Prop where
  g_NoOrder : XG K mg "NoOrder"
  r_NoOrder : XR K "NoOrder"
  k_MOST : ∃ u, mg "MOST" = some u ∧ RelV (.int 64) u
abbrev s_law_pool : Stmt := topS 23
abbrev N_law_pool : List Str := ["_law_script", "_law_k", "_law_cell", "_law_seed"]
theorem sc_law_pool : FnScope N_law_pool ["_law_script", "_law_k"] (defScope s_law_pool) := ⟨rfl, rfl, rfl, by decide +kernel, rfl, by decide +kernel, by decide +kernel⟩
theorem fo_law_pool {P : Program} {w : World} {K : PySem.W.Frag} {mg : Str → Option Value} {base : Heap} {f : Addr} {fd : FuncData} (B : Bs mg) (C : Cs K mg) (F : Fun K "_law_pool" "_law_pool" s_law_pool f fd)  :
    FnOk P w K mg base (L2.CX P w) 1 f fd ["_law_script", "_law_k"] (lift (S_law_pool K)) := by
  refine of_now ?_
  simp (disch := with_unfolding_all
    refine fn_ok F sc_law_pool (fun vs G M R Z h => sp_len2 h) (fun cdv A outer s H E hr => ?_)
    have nd : N_law_pool.Nodup := sc_law_pool.nd
    have hu : _ + 64 < cLine := hr.units
    have tk : Takes (cxOf (L2.CX P w) P w K mg base N_law_pool "_law_pool" (defScope s_law_pool) f cdv A outer s H E) (fun c d _ H => E c d H) := takes_of rfl rfl rfl rfl
    have po : PassesOwn (model P w) _ _ _ := passes_of (X := cxOf (L2.CX P w) P w K mg base N_law_pool "_law_pool" (defScope s_law_pool) f cdv A outer s H E) rfl
    exact ⟨rd_law_pool K, jss_cons (js_set (i := 2) (je_int) nd) (jss_cons (js_if (jt_cmp (kop_lt) (je_var 1) (je_callB kc_len B.len (ja_cons (je_var 0) (ja_nil))) (nomark _)) (jss_cons (js_set (i := 2) (je_ix (je_var 0) (je_var 1)) nd) (jss_nil)) (jss_nil)) (jss_cons (js_set (i := 3) (je_op kop_mod (je_op kop_mul (je_op kop_add (je_op kop_add (je_op kop_mod (je_var 2) (je_int)) (je_op kop_mul (je_op kop_mul (je_int) (je_var 1)) (je_var 1))) (je_int)) (je_int)) (je_int)) nd) (jss_cons (js_if (jt_cmp (kop_lt) (je_var 2) (je_op kop_pow (je_int) (je_int)) (nomark _)) (jss_cons (js_set (i := 2) (je_int) nd) (jss_nil)) (jss_nil)) (jss_cons (js_ret (je_lst (ja_cons (je_var 2) (ja_cons (je_var 3) (ja_nil))))) (jss_nil))))), fun vs G M R Z h => pf_law_pool h⟩) only [↓now_true]
theorem df_law_pool {P : Program} {w : World} {K : PySem.W.Frag} {mg : Str → Option Value} {base : Heap} {f : Addr} {fd : FuncData} (B : Bs mg) (C : Cs K mg) (F : Fun K "_law_pool" "_law_pool" s_law_pool f fd) (b : Binds K fd ["_law_script", "_law_k"] []) (gm : mg "_law_pool" = some (.ref f))  :
    Def P w K mg base 1 "_law_pool" ["_law_script", "_law_k"] (S_law_pool K) := ⟨f, fd, fo_law_pool B C F , gm, F.kp, b⟩
abbrev s_law_take : Stmt := topS 24
abbrev N_law_take : List Str := ["_law_pool_here", "_law_many", "_law_found"]
theorem sc_law_take : FnScope N_law_take ["_law_pool_here", "_law_many"] (defScope s_law_take) := ⟨rfl, rfl, rfl, by decide +kernel, rfl, by decide +kernel, by decide +kernel⟩
theorem fo_law_take {P : Program} {w : World} {K : PySem.W.Frag} {mg : Str → Option Value} {base : Heap} {f : Addr} {fd : FuncData} (B : Bs mg) (C : Cs K mg) (F : Fun K "_law_take" "_law_take" s_law_take f fd)  :
    FnOk P w K mg base (L2.CX P w) 1 f fd ["_law_pool_here", "_law_many"] (lift (S_law_take K)) := by
  refine of_now ?_
  simp (disch := with_unfolding_all
    refine fn_ok F sc_law_take (fun vs G M R Z h => sp_len2 h) (fun cdv A outer s H E hr => ?_)
    have nd : N_law_take.Nodup := sc_law_take.nd
    have hu : _ + 64 < cLine := hr.units
    have tk : Takes (cxOf (L2.CX P w) P w K mg base N_law_take "_law_take" (defScope s_law_take) f cdv A outer s H E) (fun c d _ H => E c d H) := takes_of rfl rfl rfl rfl
    have po : PassesOwn (model P w) _ _ _ := passes_of (X := cxOf (L2.CX P w) P w K mg base N_law_take "_law_take" (defScope s_law_take) f cdv A outer s H E) rfl
    exact ⟨rd_law_take K, jss_cons (js_if (jt_cmp (kop_gt) (je_ix (je_var 0) (je_int)) (je_int) (nomark _)) (jss_cons (js_set (i := 2) (je_op kop_mod (je_ix (je_var 0) (je_int)) (je_var 1)) nd) (jss_cons (js_asg (je_op kop_fdiv (je_ix (je_var 0) (je_int)) (je_var 1)) (jg_ix (je_var 0) (je_int))) (jss_cons (js_ret (je_var 2)) (jss_nil)))) (jss_nil)) (jss_cons (js_asg (je_op kop_mod (je_op kop_add (je_op kop_mul (je_ix (je_var 0) (je_int)) (je_int)) (je_int)) (je_int)) (jg_ix (je_var 0) (je_int))) (jss_cons (js_ret (je_op kop_mod (je_op kop_fdiv (je_op kop_mod (je_op kop_mul (je_ix (je_var 0) (je_int)) (je_ix (je_var 0) (je_int))) (je_int)) (je_int)) (je_var 1))) (jss_nil))), fun vs G M R Z h => pf_law_take h⟩) only [↓now_true]
theorem df_law_take {P : Program} {w : World} {K : PySem.W.Frag} {mg : Str → Option Value} {base : Heap} {f : Addr} {fd : FuncData} (B : Bs mg) (C : Cs K mg) (F : Fun K "_law_take" "_law_take" s_law_take f fd) (b : Binds K fd ["_law_pool_here", "_law_many"] []) (gm : mg "_law_take" = some (.ref f))  :
    Def P w K mg base 1 "_law_take" ["_law_pool_here", "_law_many"] (S_law_take K) := ⟨f, fd, fo_law_take B C F , gm, F.kp, b⟩
abbrev s_law_kinds : Stmt := topS 26
abbrev N_law_kinds : List Str := ["_law_pool_here", "_law_most", "_law_far", "_law_kinds_here", "_law_k"]
theorem sc_law_kinds : FnScope N_law_kinds ["_law_pool_here", "_law_most", "_law_far"] (defScope s_law_kinds) := ⟨rfl, rfl, rfl, by decide +kernel, rfl, by decide +kernel, by decide +kernel⟩
theorem fo_law_kinds {P : Program} {w : World} {K : PySem.W.Frag} {mg : Str → Option Value} {base : Heap} {f : Addr} {fd : FuncData} (B : Bs mg) (C : Cs K mg) (F : Fun K "_law_kinds" "_law_kinds" s_law_kinds f fd) (D_law_take : Def P w K mg base 1 "_law_take" ["_law_pool_here", "_law_many"] (S_law_take K)) :
    FnOk P w K mg base (L2.CX P w) 2 f fd ["_law_pool_here", "_law_most", "_law_far"] (lift (S_law_kinds K)) := by
  refine fn_ok F sc_law_kinds (fun vs G M R Z h => sp_len3 h) (fun cdv A outer s H E hr => ?_)
  have nd : N_law_kinds.Nodup := sc_law_kinds.nd
  have hu : _ + 64 < cLine := hr.units
  have tk : Takes (cxOf (L2.CX P w) P w K mg base N_law_kinds "_law_kinds" (defScope s_law_kinds) f cdv A outer s H E) (fun c d _ H => E c d H) := takes_of rfl rfl rfl rfl
  have po : PassesOwn (model P w) _ _ _ := passes_of (X := cxOf (L2.CX P w) P w K mg base N_law_kinds "_law_kinds" (defScope s_law_kinds) f cdv A outer s H E) rfl
  exact ⟨rd_law_kinds K, jss_cons (js_set (i := 3) (je_lst (ja_nil)) nd) (jss_cons (js_for po rfl (ji_range1 B.range (ja_cons (je_callD D_law_take hr tk (ja_cons (je_var 0) (ja_cons (je_op kop_add (je_var 1) (je_int)) (ja_nil)))) (ja_nil))) (jg_name (i := 4) nd) (jss_cons (js_if (jt_cmp (kop_eq hu) (je_callD D_law_take hr tk (ja_cons (je_var 0) (ja_cons (je_int) (ja_nil)))) (je_int) (nomark _)) (jss_cons (js_expr (je_bm PySem.F.plainAttrs_list PySem.F.slot_list_append PySem.F.type_list_append km_append (je_var 3) (ja_cons (je_tup (ja_cons (je_str) (ja_cons (je_callD D_law_take hr tk (ja_cons (je_var 0) (ja_cons (je_int) (ja_nil)))) (ja_nil)))) (ja_nil)))) (jss_nil)) (jss_cons (js_expr (je_bm PySem.F.plainAttrs_list PySem.F.slot_list_append PySem.F.type_list_append km_append (je_var 3) (ja_cons (je_tup (ja_cons (je_str) (ja_cons (je_op kop_add (je_int) (je_callD D_law_take hr tk (ja_cons (je_var 0) (ja_cons (je_ix (je_lst (ja_cons (je_int) (ja_cons (je_var 2) (ja_nil)))) (je_callD D_law_take hr tk (ja_cons (je_var 0) (ja_cons (je_int) (ja_nil))))) (ja_nil))))) (ja_nil)))) (ja_nil)))) (jss_nil))) (jss_nil))) (jss_cons (js_ret (je_var 3)) (jss_nil))), fun vs G M R Z h => pf_law_kinds h⟩
theorem df_law_kinds {P : Program} {w : World} {K : PySem.W.Frag} {mg : Str → Option Value} {base : Heap} {f : Addr} {fd : FuncData} (B : Bs mg) (C : Cs K mg) (F : Fun K "_law_kinds" "_law_kinds" s_law_kinds f fd) (b : Binds K fd ["_law_pool_here", "_law_most", "_law_far"] []) (gm : mg "_law_kinds" = some (.ref f)) (D_law_take : Def P w K mg base 1 "_law_take" ["_law_pool_here", "_law_many"] (S_law_take K)) :
    Def P w K mg base 2 "_law_kinds" ["_law_pool_here", "_law_most", "_law_far"] (S_law_kinds K) := ⟨f, fd, fo_law_kinds B C F D_law_take, gm, F.kp, b⟩
abbrev s_law_draw : Stmt := topS 27
abbrev N_law_draw : List Str := ["_law_pool_here", "_law_kind", "_law_k"]
theorem sc_law_draw : FnScope N_law_draw ["_law_pool_here", "_law_kind"] (defScope s_law_draw) := ⟨rfl, rfl, rfl, by decide +kernel, rfl, by decide +kernel, by decide +kernel⟩
theorem fo_law_draw {P : Program} {w : World} {K : PySem.W.Frag} {mg : Str → Option Value} {base : Heap} {f : Addr} {fd : FuncData} (B : Bs mg) (C : Cs K mg) (F : Fun K "_law_draw" "_law_draw" s_law_draw f fd) (D_law_take : Def P w K mg base 1 "_law_take" ["_law_pool_here", "_law_many"] (S_law_take K)) :
    FnOk P w K mg base (L2.CX P w) 2 f fd ["_law_pool_here", "_law_kind"] (lift (S_law_draw K)) := by
  refine of_now ?_
  simp (disch := with_unfolding_all
    refine fn_ok F sc_law_draw (fun vs G M R Z h => sp_len2 h) (fun cdv A outer s H E hr => ?_)
    have nd : N_law_draw.Nodup := sc_law_draw.nd
    have hu : _ + 64 < cLine := hr.units
    have tk : Takes (cxOf (L2.CX P w) P w K mg base N_law_draw "_law_draw" (defScope s_law_draw) f cdv A outer s H E) (fun c d _ H => E c d H) := takes_of rfl rfl rfl rfl
    have po : PassesOwn (model P w) _ _ _ := passes_of (X := cxOf (L2.CX P w) P w K mg base N_law_draw "_law_draw" (defScope s_law_draw) f cdv A outer s H E) rfl
    exact ⟨rd_law_draw K, jss_cons (js_if (jt_cmp (kop_eq hu) (je_ix (je_var 1) (je_int)) (je_str) (nomark _)) (jss_cons (js_ret (je_callD D_law_take hr tk (ja_cons (je_var 0) (ja_cons (je_op kop_shl (je_int) (je_ix (je_var 1) (je_int))) (ja_nil))))) (jss_nil)) (jss_nil)) (jss_cons (js_ret (je_comp (own := [("_law_k", 2)]) rfl nd (ji_range1 B.range (ja_cons (je_ix (je_var 1) (je_int)) (ja_nil))) (blkOk_by (own := [("_law_k", 2)]) (N := N_law_draw) (sc := defScope s_law_draw) (by decide +kernel)) (fun _ _ _ _ _ => by exact jg_name (i := 2) nd) (fun _ _ _ _ _ => by exact jts_nil) (fun _ _ _ _ _ => by exact je_callD D_law_take hr takes0 (ja_cons (je_var 0) (ja_cons (je_op kop_add (je_var 2) (je_int)) (ja_nil)))))) (jss_nil)), fun vs G M R Z h => pf_law_draw h⟩) only [↓now_true]
theorem df_law_draw {P : Program} {w : World} {K : PySem.W.Frag} {mg : Str → Option Value} {base : Heap} {f : Addr} {fd : FuncData} (B : Bs mg) (C : Cs K mg) (F : Fun K "_law_draw" "_law_draw" s_law_draw f fd) (b : Binds K fd ["_law_pool_here", "_law_kind"] []) (gm : mg "_law_draw" = some (.ref f)) (D_law_take : Def P w K mg base 1 "_law_take" ["_law_pool_here", "_law_many"] (S_law_take K)) :
    Def P w K mg base 2 "_law_draw" ["_law_pool_here", "_law_kind"] (S_law_draw K) := ⟨f, fd, fo_law_draw B C F D_law_take, gm, F.kp, b⟩
abbrev s_law_draws : Stmt := topS 28
abbrev N_law_draws : List Str := ["_law_pool_here", "_law_kinds_here", "_law_kind"]
theorem sc_law_draws : FnScope N_law_draws ["_law_pool_here", "_law_kinds_here"] (defScope s_law_draws) := ⟨rfl, rfl, rfl, by decide +kernel, rfl, by decide +kernel, by decide +kernel⟩
theorem fo_law_draws {P : Program} {w : World} {K : PySem.W.Frag} {mg : Str → Option Value} {base : Heap} {f : Addr} {fd : FuncData} (B : Bs mg) (C : Cs K mg) (F : Fun K "_law_draws" "_law_draws" s_law_draws f fd) (D_law_draw : Def P w K mg base 2 "_law_draw" ["_law_pool_here", "_law_kind"] (S_law_draw K)) :
    FnOk P w K mg base (L2.CX P w) 3 f fd ["_law_pool_here", "_law_kinds_here"] (lift (S_law_draws K)) := by
  refine of_now ?_
  simp (disch := with_unfolding_all
    refine fn_ok F sc_law_draws (fun vs G M R Z h => sp_len2 h) (fun cdv A outer s H E hr => ?_)
    have nd : N_law_draws.Nodup := sc_law_draws.nd
    have hu : _ + 64 < cLine := hr.units
    have tk : Takes (cxOf (L2.CX P w) P w K mg base N_law_draws "_law_draws" (defScope s_law_draws) f cdv A outer s H E) (fun c d _ H => E c d H) := takes_of rfl rfl rfl rfl
    have po : PassesOwn (model P w) _ _ _ := passes_of (X := cxOf (L2.CX P w) P w K mg base N_law_draws "_law_draws" (defScope s_law_draws) f cdv A outer s H E) rfl
    exact ⟨rd_law_draws K, jss_cons (js_ret (je_comp (own := [("_law_kind", 2)]) rfl nd (ji_list (je_var 1)) (blkOk_by (own := [("_law_kind", 2)]) (N := N_law_draws) (sc := defScope s_law_draws) (by decide +kernel)) (fun _ _ _ _ _ => by exact jg_name (i := 2) nd) (fun _ _ _ _ _ => by exact jts_nil) (fun _ _ _ _ _ => by exact je_callD D_law_draw hr takes0 (ja_cons (je_var 0) (ja_cons (je_var 2) (ja_nil)))))) (jss_nil), fun vs G M R Z h => pf_law_draws h⟩) only [↓now_true]
theorem df_law_draws {P : Program} {w : World} {K : PySem.W.Frag} {mg : Str → Option Value} {base : Heap} {f : Addr} {fd : FuncData} (B : Bs mg) (C : Cs K mg) (F : Fun K "_law_draws" "_law_draws" s_law_draws f fd) (b : Binds K fd ["_law_pool_here", "_law_kinds_here"] []) (gm : mg "_law_draws" = some (.ref f)) (D_law_draw : Def P w K mg base 2 "_law_draw" ["_law_pool_here", "_law_kind"] (S_law_draw K)) :
    Def P w K mg base 3 "_law_draws" ["_law_pool_here", "_law_kinds_here"] (S_law_draws K) := ⟨f, fd, fo_law_draws B C F D_law_draw, gm, F.kp, b⟩
abbrev s_law_turn : Stmt := topS 32
abbrev N_law_turn : List Str := ["_law_pool_here", "_law_size", "_law_order_here", "_law_k"]
theorem sc_law_turn : FnScope N_law_turn ["_law_pool_here", "_law_size"] (defScope s_law_turn) := ⟨rfl, rfl, rfl, by decide +kernel, rfl, by decide +kernel, by decide +kernel⟩
theorem fo_law_turn {P : Program} {w : World} {K : PySem.W.Frag} {mg : Str → Option Value} {base : Heap} {f : Addr} {fd : FuncData} (B : Bs mg) (C : Cs K mg) (F : Fun K "_law_turn" "_law_turn" s_law_turn f fd) (D_law_take : Def P w K mg base 1 "_law_take" ["_law_pool_here", "_law_many"] (S_law_take K)) :
    FnOk P w K mg base (L2.CX P w) 2 f fd ["_law_pool_here", "_law_size"] (lift (S_law_turn K)) := by
  refine fn_ok F sc_law_turn (fun vs G M R Z h => sp_len2 h) (fun cdv A outer s H E hr => ?_)
  have nd : N_law_turn.Nodup := sc_law_turn.nd
  have hu : _ + 64 < cLine := hr.units
  have tk : Takes (cxOf (L2.CX P w) P w K mg base N_law_turn "_law_turn" (defScope s_law_turn) f cdv A outer s H E) (fun c d _ H => E c d H) := takes_of rfl rfl rfl rfl
  have po : PassesOwn (model P w) _ _ _ := passes_of (X := cxOf (L2.CX P w) P w K mg base N_law_turn "_law_turn" (defScope s_law_turn) f cdv A outer s H E) rfl
  exact ⟨rd_law_turn K, jss_cons (js_set (i := 2) (je_lst (ja_nil)) nd) (jss_cons (js_for po rfl (ji_range1 B.range (ja_cons (je_var 1) (ja_nil))) (jg_name (i := 3) nd) (jss_cons (js_expr (je_bm PySem.F.plainAttrs_list PySem.F.slot_list_insert PySem.F.type_list_insert km_insert (je_var 2) (ja_cons (je_callD D_law_take hr tk (ja_cons (je_var 0) (ja_cons (je_op kop_add (je_var 3) (je_int)) (ja_nil)))) (ja_cons (je_var 3) (ja_nil))))) (jss_nil))) (jss_cons (js_ret (je_var 2)) (jss_nil))), fun vs G M R Z h => pf_law_turn h⟩
theorem df_law_turn {P : Program} {w : World} {K : PySem.W.Frag} {mg : Str → Option Value} {base : Heap} {f : Addr} {fd : FuncData} (B : Bs mg) (C : Cs K mg) (F : Fun K "_law_turn" "_law_turn" s_law_turn f fd) (b : Binds K fd ["_law_pool_here", "_law_size"] []) (gm : mg "_law_turn" = some (.ref f)) (D_law_take : Def P w K mg base 1 "_law_take" ["_law_pool_here", "_law_many"] (S_law_take K)) :
    Def P w K mg base 2 "_law_turn" ["_law_pool_here", "_law_size"] (S_law_turn K) := ⟨f, fd, fo_law_turn B C F D_law_take, gm, F.kp, b⟩
abbrev s_law_paper : Stmt := topS 33
abbrev N_law_paper : List Str := ["_law_pool_here", "_law_kinds_here", "_law_places", "_law_k", "_law_paper_here", "_law_kind", "_law_free", "_law_source", "_law_turn_here"]
theorem sc_law_paper : FnScope N_law_paper ["_law_pool_here", "_law_kinds_here"] (defScope s_law_paper) := ⟨rfl, rfl, rfl, by decide +kernel, rfl, by decide +kernel, by decide +kernel⟩
theorem fo_law_paper {P : Program} {w : World} {K : PySem.W.Frag} {mg : Str → Option Value} {base : Heap} {f : Addr} {fd : FuncData} (B : Bs mg) (C : Cs K mg) (F : Fun K "_law_paper" "_law_paper" s_law_paper f fd) (D_law_take : Def P w K mg base 1 "_law_take" ["_law_pool_here", "_law_many"] (S_law_take K)) (D_law_turn : Def P w K mg base 2 "_law_turn" ["_law_pool_here", "_law_size"] (S_law_turn K)) :
    FnOk P w K mg base (L2.CX P w) 3 f fd ["_law_pool_here", "_law_kinds_here"] (lift (S_law_paper K)) := by
  refine fn_ok F sc_law_paper (fun vs G M R Z h => sp_len2 h) (fun cdv A outer s H E hr => ?_)
  have nd : N_law_paper.Nodup := sc_law_paper.nd
  have hu : _ + 64 < cLine := hr.units
  have tk : Takes (cxOf (L2.CX P w) P w K mg base N_law_paper "_law_paper" (defScope s_law_paper) f cdv A outer s H E) (fun c d _ H => E c d H) := takes_of rfl rfl rfl rfl
  have po : PassesOwn (model P w) _ _ _ := passes_of (X := cxOf (L2.CX P w) P w K mg base N_law_paper "_law_paper" (defScope s_law_paper) f cdv A outer s H E) rfl
  exact ⟨rd_law_paper K, jss_cons (js_set (i := 2) (je_dnewT) nd) (jss_cons (js_for po rfl (ji_range1 B.range (ja_cons (je_callB kc_len B.len (ja_cons (je_var 1) (ja_nil))) (ja_nil))) (jg_name (i := 3) nd) (jss_cons (js_dsetT hu (je_var 2) (je_ix (je_var 1) (je_var 3)) (je_op kop_add (je_dget2T hu (je_var 2) (je_ix (je_var 1) (je_var 3)) (je_lst (ja_nil))) (je_lst (ja_cons (je_var 3) (ja_nil))))) (jss_nil))) (jss_cons (js_set (i := 4) (je_lst (ja_nil)) nd) (jss_cons (js_for po rfl (ji_list (je_var 1)) (jg_name (i := 5) nd) (jss_cons (js_set (i := 6) (je_dgetT hu (je_var 2) (je_var 5)) nd) (jss_cons (js_set (i := 7) (je_bm PySem.F.plainAttrs_list PySem.F.slot_list_pop PySem.F.type_list_pop km_popAt (je_var 6) (ja_cons (je_callD D_law_take hr tk (ja_cons (je_var 0) (ja_cons (je_callB kc_len B.len (ja_cons (je_var 6) (ja_nil))) (ja_nil)))) (ja_nil))) nd) (jss_cons (js_set (i := 8) (je_non) nd) (jss_cons (js_if (jt_cmp (kop_eq hu) (je_ix (je_var 5) (je_int)) (je_str) (nomark _)) (jss_cons (js_set (i := 8) (je_callD D_law_turn hr tk (ja_cons (je_var 0) (ja_cons (je_ix (je_var 5) (je_int)) (ja_nil)))) nd) (jss_nil)) (jss_nil)) (jss_cons (js_expr (je_bm PySem.F.plainAttrs_list PySem.F.slot_list_append PySem.F.type_list_append km_append (je_var 4) (ja_cons (je_tup (ja_cons (je_var 7) (ja_cons (je_var 8) (ja_nil)))) (ja_nil)))) (jss_nil))))))) (jss_cons (js_ret (je_var 4)) (jss_nil))))), fun vs G M R Z h => pf_law_paper h⟩
theorem df_law_paper {P : Program} {w : World} {K : PySem.W.Frag} {mg : Str → Option Value} {base : Heap} {f : Addr} {fd : FuncData} (B : Bs mg) (C : Cs K mg) (F : Fun K "_law_paper" "_law_paper" s_law_paper f fd) (b : Binds K fd ["_law_pool_here", "_law_kinds_here"] []) (gm : mg "_law_paper" = some (.ref f)) (D_law_take : Def P w K mg base 1 "_law_take" ["_law_pool_here", "_law_many"] (S_law_take K)) (D_law_turn : Def P w K mg base 2 "_law_turn" ["_law_pool_here", "_law_size"] (S_law_turn K)) :
    Def P w K mg base 3 "_law_paper" ["_law_pool_here", "_law_kinds_here"] (S_law_paper K) := ⟨f, fd, fo_law_paper B C F D_law_take D_law_turn, gm, F.kp, b⟩
abbrev s_law_sharing : Stmt := topS 36
abbrev N_law_sharing : List Str := ["_law_kinds_here", "_law_paper_here", "_law_turns", "_law_found", "_law_kind", "_law_part"]
theorem sc_law_sharing : FnScope N_law_sharing ["_law_kinds_here", "_law_paper_here"] (defScope s_law_sharing) := ⟨rfl, rfl, rfl, by decide +kernel, rfl, by decide +kernel, by decide +kernel⟩
theorem fo_law_sharing {P : Program} {w : World} {K : PySem.W.Frag} {mg : Str → Option Value} {base : Heap} {f : Addr} {fd : FuncData} (B : Bs mg) (C : Cs K mg) (F : Fun K "_law_sharing" "_law_sharing" s_law_sharing f fd)  :
    FnOk P w K mg base (L2.CX P w) 1 f fd ["_law_kinds_here", "_law_paper_here"] (lift (S_law_sharing K)) := by
  refine fn_ok F sc_law_sharing (fun vs G M R Z h => sp_len2 h) (fun cdv A outer s H E hr => ?_)
  have nd : N_law_sharing.Nodup := sc_law_sharing.nd
  have hu : _ + 64 < cLine := hr.units
  have tk : Takes (cxOf (L2.CX P w) P w K mg base N_law_sharing "_law_sharing" (defScope s_law_sharing) f cdv A outer s H E) (fun c d _ H => E c d H) := takes_of rfl rfl rfl rfl
  have po : PassesOwn (model P w) _ _ _ := passes_of (X := cxOf (L2.CX P w) P w K mg base N_law_sharing "_law_sharing" (defScope s_law_sharing) f cdv A outer s H E) rfl
  exact ⟨rd_law_sharing K, jss_cons (js_set (i := 2) (je_dnewT) nd) (jss_cons (js_set (i := 3) (je_lst (ja_nil)) nd) (jss_cons (js_for po rfl (ji_zip B.zip (ja_cons (je_var 0) (ja_cons (je_var 1) (ja_nil)))) (jg_tup rfl (jgs_cons (jg_name (i := 4) nd) (jgs_cons (jg_name (i := 5) nd) (jgs_nil)))) (jss_cons (js_expr (je_dsetdT hu (je_var 2) (je_var 4) (je_ix (je_var 5) (je_int)))) (jss_cons (js_expr (je_bm PySem.F.plainAttrs_list PySem.F.slot_list_append PySem.F.type_list_append km_append (je_var 3) (ja_cons (je_tup (ja_cons (je_ix (je_var 5) (je_int)) (ja_cons (je_dgetT hu (je_var 2) (je_var 4)) (ja_nil)))) (ja_nil)))) (jss_nil)))) (jss_cons (js_ret (je_var 3)) (jss_nil)))), fun vs G M R Z h => pf_law_sharing h⟩
theorem df_law_sharing {P : Program} {w : World} {K : PySem.W.Frag} {mg : Str → Option Value} {base : Heap} {f : Addr} {fd : FuncData} (B : Bs mg) (C : Cs K mg) (F : Fun K "_law_sharing" "_law_sharing" s_law_sharing f fd) (b : Binds K fd ["_law_kinds_here", "_law_paper_here"] []) (gm : mg "_law_sharing" = some (.ref f))  :
    Def P w K mg base 1 "_law_sharing" ["_law_kinds_here", "_law_paper_here"] (S_law_sharing K) := ⟨f, fd, fo_law_sharing B C F , gm, F.kp, b⟩
abbrev s_law_drawn_paper : Stmt := topS 38
abbrev N_law_drawn_paper : List Str := ["_law_pool_here", "_law_kinds_here", "_law_paper_here"]
theorem sc_law_drawn_paper : FnScope N_law_drawn_paper ["_law_pool_here", "_law_kinds_here"] (defScope s_law_drawn_paper) := ⟨rfl, rfl, rfl, by decide +kernel, rfl, by decide +kernel, by decide +kernel⟩
theorem fo_law_drawn_paper {P : Program} {w : World} {K : PySem.W.Frag} {mg : Str → Option Value} {base : Heap} {f : Addr} {fd : FuncData} (B : Bs mg) (C : Cs K mg) (F : Fun K "_law_drawn_paper" "_law_drawn_paper" s_law_drawn_paper f fd) (D_law_paper : Def P w K mg base 3 "_law_paper" ["_law_pool_here", "_law_kinds_here"] (S_law_paper K)) (D_law_take : Def P w K mg base 1 "_law_take" ["_law_pool_here", "_law_many"] (S_law_take K)) (D_law_sharing : Def P w K mg base 1 "_law_sharing" ["_law_kinds_here", "_law_paper_here"] (S_law_sharing K)) :
    FnOk P w K mg base (L2.CX P w) 4 f fd ["_law_pool_here", "_law_kinds_here"] (lift (S_law_drawn_paper K)) := by
  refine fn_ok F sc_law_drawn_paper (fun vs G M R Z h => sp_len2 h) (fun cdv A outer s H E hr => ?_)
  have nd : N_law_drawn_paper.Nodup := sc_law_drawn_paper.nd
  have hu : _ + 64 < cLine := hr.units
  have tk : Takes (cxOf (L2.CX P w) P w K mg base N_law_drawn_paper "_law_drawn_paper" (defScope s_law_drawn_paper) f cdv A outer s H E) (fun c d _ H => E c d H) := takes_of rfl rfl rfl rfl
  have po : PassesOwn (model P w) _ _ _ := passes_of (X := cxOf (L2.CX P w) P w K mg base N_law_drawn_paper "_law_drawn_paper" (defScope s_law_drawn_paper) f cdv A outer s H E) rfl
  exact ⟨rd_law_drawn_paper K, jss_cons (js_set (i := 2) (je_callD D_law_paper hr tk (ja_cons (je_var 0) (ja_cons (je_var 1) (ja_nil)))) nd) (jss_cons (js_if (jt_cmp (kop_eq hu) (je_callD D_law_take hr tk (ja_cons (je_var 0) (ja_cons (je_int) (ja_nil)))) (je_int) (nomark _)) (jss_cons (js_ret (je_callD D_law_sharing hr tk (ja_cons (je_var 1) (ja_cons (je_var 2) (ja_nil))))) (jss_nil)) (jss_nil)) (jss_cons (js_ret (je_var 2)) (jss_nil))), fun vs G M R Z h => pf_law_drawn_paper h⟩
theorem df_law_drawn_paper {P : Program} {w : World} {K : PySem.W.Frag} {mg : Str → Option Value} {base : Heap} {f : Addr} {fd : FuncData} (B : Bs mg) (C : Cs K mg) (F : Fun K "_law_drawn_paper" "_law_drawn_paper" s_law_drawn_paper f fd) (b : Binds K fd ["_law_pool_here", "_law_kinds_here"] []) (gm : mg "_law_drawn_paper" = some (.ref f)) (D_law_paper : Def P w K mg base 3 "_law_paper" ["_law_pool_here", "_law_kinds_here"] (S_law_paper K)) (D_law_take : Def P w K mg base 1 "_law_take" ["_law_pool_here", "_law_many"] (S_law_take K)) (D_law_sharing : Def P w K mg base 1 "_law_sharing" ["_law_kinds_here", "_law_paper_here"] (S_law_sharing K)) :
    Def P w K mg base 4 "_law_drawn_paper" ["_law_pool_here", "_law_kinds_here"] (S_law_drawn_paper K) := ⟨f, fd, fo_law_drawn_paper B C F D_law_paper D_law_take D_law_sharing, gm, F.kp, b⟩
abbrev s_exchange : Stmt := topS 9
abbrev N_exchange : List Str := ["row", "one", "other"]
theorem sc_exchange : FnScope N_exchange ["row", "one", "other"] (defScope s_exchange) := ⟨rfl, rfl, rfl, by decide +kernel, rfl, by decide +kernel, by decide +kernel⟩
theorem fo_exchange {P : Program} {w : World} {K : PySem.W.Frag} {mg : Str → Option Value} {base : Heap} {f : Addr} {fd : FuncData} (B : Bs mg) (C : Cs K mg) (F : Fun K "exchange" "exchange" s_exchange f fd)  :
    FnOk P w K mg base (L2.CX P w) 1 f fd ["row", "one", "other"] (lift (S_exchange K)) := by
  refine of_now ?_
  simp (disch := with_unfolding_all
    refine fn_ok F sc_exchange (fun vs G M R Z h => sp_len3 h) (fun cdv A outer s H E hr => ?_)
    have nd : N_exchange.Nodup := sc_exchange.nd
    have hu : _ + 64 < cLine := hr.units
    have tk : Takes (cxOf (L2.CX P w) P w K mg base N_exchange "exchange" (defScope s_exchange) f cdv A outer s H E) (fun c d _ H => E c d H) := takes_of rfl rfl rfl rfl
    have po : PassesOwn (model P w) _ _ _ := passes_of (X := cxOf (L2.CX P w) P w K mg base N_exchange "exchange" (defScope s_exchange) f cdv A outer s H E) rfl
    exact ⟨rd_exchange K, jss_cons (js_asg (je_tup (ja_cons (je_ix (je_var 0) (je_var 2)) (ja_cons (je_ix (je_var 0) (je_var 1)) (ja_nil)))) (jg_tup rfl (jgs_cons (jg_ix (je_var 0) (je_var 1)) (jgs_cons (jg_ix (je_var 0) (je_var 2)) (jgs_nil))))) (jss_nil), fun vs G M R Z h => pf_exchange h⟩) only [↓now_true]
theorem df_exchange {P : Program} {w : World} {K : PySem.W.Frag} {mg : Str → Option Value} {base : Heap} {f : Addr} {fd : FuncData} (B : Bs mg) (C : Cs K mg) (F : Fun K "exchange" "exchange" s_exchange f fd) (b : Binds K fd ["row", "one", "other"] []) (gm : mg "exchange" = some (.ref f))  :
    Def P w K mg base 1 "exchange" ["row", "one", "other"] (S_exchange K) := ⟨f, fd, fo_exchange B C F , gm, F.kp, b⟩
abbrev s_order_of : Stmt := topS 10
abbrev N_order_of : List Str := ["row", "order", "place"]
theorem sc_order_of : FnScope N_order_of ["row"] (defScope s_order_of) := ⟨rfl, rfl, rfl, by decide +kernel, rfl, by decide +kernel, by decide +kernel⟩
theorem fo_order_of {P : Program} {w : World} {K : PySem.W.Frag} {mg : Str → Option Value} {base : Heap} {f : Addr} {fd : FuncData} (B : Bs mg) (C : Cs K mg) (F : Fun K "order_of" "order_of" s_order_of f fd) (D_exchange : Def P w K mg base 1 "exchange" ["row", "one", "other"] (S_exchange K)) :
    FnOk P w K mg base (L2.CX P w) 2 f fd ["row"] (lift (S_order_of K)) := by
  refine of_now ?_
  simp (disch := with_unfolding_all
    refine fn_ok F sc_order_of (fun vs G M R Z h => sp_len1 h) (fun cdv A outer s H E hr => ?_)
    have nd : N_order_of.Nodup := sc_order_of.nd
    have hu : _ + 64 < cLine := hr.units
    have tk : Takes (cxOf (L2.CX P w) P w K mg base N_order_of "order_of" (defScope s_order_of) f cdv A outer s H E) (fun c d _ H => E c d H) := takes_of rfl rfl rfl rfl
    have po : PassesOwn (model P w) _ _ _ := passes_of (X := cxOf (L2.CX P w) P w K mg base N_order_of "order_of" (defScope s_order_of) f cdv A outer s H E) rfl
    exact ⟨rd_order_of K, jss_cons (js_set (i := 1) (je_listR1 B.list B.range (je_callB kc_len B.len (ja_cons (je_var 0) (ja_nil)))) nd) (jss_cons (js_for po rfl (ji_range3 B.range (ja_cons (je_op kop_sub (je_callB kc_len B.len (ja_cons (je_var 0) (ja_nil))) (je_int)) (ja_cons (je_int) (ja_cons (je_neg (je_int)) (ja_nil))))) (jg_name (i := 2) nd) (jss_cons (js_expr (je_callD D_exchange hr tk (ja_cons (je_var 1) (ja_cons (je_var 2) (ja_cons (je_ix (je_var 0) (je_var 2)) (ja_nil)))))) (jss_nil))) (jss_cons (js_ret (je_var 1)) (jss_nil))), fun vs G M R Z h => pf_order_of h⟩) only [↓now_true]
theorem df_order_of {P : Program} {w : World} {K : PySem.W.Frag} {mg : Str → Option Value} {base : Heap} {f : Addr} {fd : FuncData} (B : Bs mg) (C : Cs K mg) (F : Fun K "order_of" "order_of" s_order_of f fd) (b : Binds K fd ["row"] []) (gm : mg "order_of" = some (.ref f)) (D_exchange : Def P w K mg base 1 "exchange" ["row", "one", "other"] (S_exchange K)) :
    Def P w K mg base 2 "order_of" ["row"] (S_order_of K) := ⟨f, fd, fo_order_of B C F D_exchange, gm, F.kp, b⟩
abbrev s_is_whole : Stmt := topS 1
abbrev N_is_whole : List Str := ["thing"]
theorem sc_is_whole : FnScope N_is_whole ["thing"] (defScope s_is_whole) := ⟨rfl, rfl, rfl, by decide +kernel, rfl, by decide +kernel, by decide +kernel⟩
theorem fo_is_whole {P : Program} {w : World} {K : PySem.W.Frag} {mg : Str → Option Value} {base : Heap} {f : Addr} {fd : FuncData} (B : Bs mg) (C : Cs K mg) (F : Fun K "is_whole" "is_whole" s_is_whole f fd)  :
    FnOk P w K mg base (L2.CX P w) 1 f fd ["thing"] (lift (S_is_whole K)) := by
  refine of_now ?_
  simp (disch := with_unfolding_all
    refine fn_ok F sc_is_whole (fun vs G M R Z h => sp_len1 h) (fun cdv A outer s H E hr => ?_)
    have nd : N_is_whole.Nodup := sc_is_whole.nd
    have hu : _ + 64 < cLine := hr.units
    have tk : Takes (cxOf (L2.CX P w) P w K mg base N_is_whole "is_whole" (defScope s_is_whole) f cdv A outer s H E) (fun c d _ H => E c d H) := takes_of rfl rfl rfl rfl
    have po : PassesOwn (model P w) _ _ _ := passes_of (X := cxOf (L2.CX P w) P w K mg base N_is_whole "is_whole" (defScope s_is_whole) f cdv A outer s H E) rfl
    exact ⟨rd_is_whole K, jss_cons (js_ret (je_and (je_callB kc_isi B.isinstance (ja_cons (je_var 0) (ja_cons (je_ty B.int) (ja_nil)))) (je_one (je_not (je_callB kc_isi B.isinstance (ja_cons (je_var 0) (ja_cons (je_ty B.bool) (ja_nil)))))))) (jss_nil), fun vs G M R Z h => pf_is_whole h⟩) only [↓now_true]
theorem df_is_whole {P : Program} {w : World} {K : PySem.W.Frag} {mg : Str → Option Value} {base : Heap} {f : Addr} {fd : FuncData} (B : Bs mg) (C : Cs K mg) (F : Fun K "is_whole" "is_whole" s_is_whole f fd) (b : Binds K fd ["thing"] []) (gm : mg "is_whole" = some (.ref f))  :
    Def P w K mg base 1 "is_whole" ["thing"] (S_is_whole K) := ⟨f, fd, fo_is_whole B C F , gm, F.kp, b⟩
abbrev s_is_within : Stmt := topS 2
abbrev N_is_within : List Str := ["thing", "least", "most"]
theorem sc_is_within : FnScope N_is_within ["thing", "least", "most"] (defScope s_is_within) := ⟨rfl, rfl, rfl, by decide +kernel, rfl, by decide +kernel, by decide +kernel⟩
theorem fo_is_within {P : Program} {w : World} {K : PySem.W.Frag} {mg : Str → Option Value} {base : Heap} {f : Addr} {fd : FuncData} (B : Bs mg) (C : Cs K mg) (F : Fun K "is_within" "is_within" s_is_within f fd) (D_is_whole : Def P w K mg base 1 "is_whole" ["thing"] (S_is_whole K)) :
    FnOk P w K mg base (L2.CX P w) 2 f fd ["thing", "least", "most"] (lift (S_is_within K)) := by
  refine of_now ?_
  simp (disch := with_unfolding_all
    refine fn_ok F sc_is_within (fun vs G M R Z h => sp_len3 h) (fun cdv A outer s H E hr => ?_)
    have nd : N_is_within.Nodup := sc_is_within.nd
    have hu : _ + 64 < cLine := hr.units
    have tk : Takes (cxOf (L2.CX P w) P w K mg base N_is_within "is_within" (defScope s_is_within) f cdv A outer s H E) (fun c d _ H => E c d H) := takes_of rfl rfl rfl rfl
    have po : PassesOwn (model P w) _ _ _ := passes_of (X := cxOf (L2.CX P w) P w K mg base N_is_within "is_within" (defScope s_is_within) f cdv A outer s H E) rfl
    exact ⟨rd_is_within K, jss_cons (js_ret (je_and (je_callD D_is_whole hr tk (ja_cons (je_var 0) (ja_nil))) (je_one (je_chain (kop_le) (kop_le) (je_var 1) (je_var 0) (je_var 2))))) (jss_nil), fun vs G M R Z h => pf_is_within h⟩) only [↓now_true]
theorem df_is_within {P : Program} {w : World} {K : PySem.W.Frag} {mg : Str → Option Value} {base : Heap} {f : Addr} {fd : FuncData} (B : Bs mg) (C : Cs K mg) (F : Fun K "is_within" "is_within" s_is_within f fd) (b : Binds K fd ["thing", "least", "most"] []) (gm : mg "is_within" = some (.ref f)) (D_is_whole : Def P w K mg base 1 "is_whole" ["thing"] (S_is_whole K)) :
    Def P w K mg base 2 "is_within" ["thing", "least", "most"] (S_is_within K) := ⟨f, fd, fo_is_within B C F D_is_whole, gm, F.kp, b⟩
abbrev s_is_order : Stmt := topS 8
abbrev N_is_order : List Str := ["thing", "number"]
theorem sc_is_order : FnScope N_is_order ["thing"] (defScope s_is_order) := ⟨rfl, rfl, rfl, by decide +kernel, rfl, by decide +kernel, by decide +kernel⟩
theorem fo_is_order {P : Program} {w : World} {K : PySem.W.Frag} {mg : Str → Option Value} {base : Heap} {f : Addr} {fd : FuncData} (B : Bs mg) (C : Cs K mg) (F : Fun K "is_order" "is_order" s_is_order f fd) (D_is_within : Def P w K mg base 2 "is_within" ["thing", "least", "most"] (S_is_within K)) :
    FnOk P w K mg base (L2.CX P w) 3 f fd ["thing"] (lift (S_is_order K)) := by
  refine of_now ?_
  simp (disch := with_unfolding_all
    refine fn_ok F sc_is_order (fun vs G M R Z h => sp_len1 h) (fun cdv A outer s H E hr => ?_)
    have nd : N_is_order.Nodup := sc_is_order.nd
    have hu : _ + 64 < cLine := hr.units
    have tk : Takes (cxOf (L2.CX P w) P w K mg base N_is_order "is_order" (defScope s_is_order) f cdv A outer s H E) (fun c d _ H => E c d H) := takes_of rfl rfl rfl rfl
    have po : PassesOwn (model P w) _ _ _ := passes_of (X := cxOf (L2.CX P w) P w K mg base N_is_order "is_order" (defScope s_is_order) f cdv A outer s H E) rfl
    exact ⟨rd_is_order K, jss_cons (js_if ((jw_or (jt_not (jt_val (je_callB kc_isi B.isinstance (ja_cons (je_var 0) (ja_cons (je_ty B.list) (ja_nil)))))) (jw_or (jt_cmp (kop_lt) (je_callB kc_len B.len (ja_cons (je_var 0) (ja_nil))) (je_int) (nomark _)) (jw_or1 (jt_cmp (kop_gt) (je_callB kc_len B.len (ja_cons (je_var 0) (ja_nil))) (je_const C.k_MOST) (nomark _))))).jt) (jss_cons (js_ret (je_bl)) (jss_nil)) (jss_nil)) (jss_cons (js_if (jt_not (jt_val (je_callB kc_all B.all (ja_cons (je_comp (own := [("number", 1)]) rfl nd (ji_list (je_var 0)) (blkOk_by (own := [("number", 1)]) (N := N_is_order) (sc := defScope s_is_order) (by decide +kernel)) (fun _ _ _ _ _ => by exact jg_name (i := 1) nd) (fun _ _ _ _ _ => by exact jts_nil) (fun _ _ _ _ _ => by exact je_callD D_is_within hr takes0 (ja_cons (je_var 1) (ja_cons (je_int) (ja_cons (je_op kop_sub (je_callB kc_len B.len (ja_cons (je_var 0) (ja_nil))) (je_int)) (ja_nil)))))) (ja_nil))))) (jss_cons (js_ret (je_bl)) (jss_nil)) (jss_nil)) (jss_cons (js_ret (je_cmp (kop_eq hu) (je_lenSet B.len B.set (je_var 0)) (je_callB kc_len B.len (ja_cons (je_var 0) (ja_nil))) (nomark _))) (jss_nil))), fun vs G M R Z h => pf_is_order h⟩) only [↓now_true]
theorem df_is_order {P : Program} {w : World} {K : PySem.W.Frag} {mg : Str → Option Value} {base : Heap} {f : Addr} {fd : FuncData} (B : Bs mg) (C : Cs K mg) (F : Fun K "is_order" "is_order" s_is_order f fd) (b : Binds K fd ["thing"] []) (gm : mg "is_order" = some (.ref f)) (D_is_within : Def P w K mg base 2 "is_within" ["thing", "least", "most"] (S_is_within K)) :
    Def P w K mg base 3 "is_order" ["thing"] (S_is_order K) := ⟨f, fd, fo_is_order B C F D_is_within, gm, F.kp, b⟩
abbrev s_row_of : Stmt := topS 11
abbrev N_row_of : List Str := ["order", "row", "left", "place"]
theorem sc_row_of : FnScope N_row_of ["order"] (defScope s_row_of) := ⟨rfl, rfl, rfl, by decide +kernel, rfl, by decide +kernel, by decide +kernel⟩
theorem fo_row_of {P : Program} {w : World} {K : PySem.W.Frag} {mg : Str → Option Value} {base : Heap} {f : Addr} {fd : FuncData} (B : Bs mg) (C : Cs K mg) (F : Fun K "row_of" "row_of" s_row_of f fd) (D_is_order : Def P w K mg base 3 "is_order" ["thing"] (S_is_order K)) (D_exchange : Def P w K mg base 1 "exchange" ["row", "one", "other"] (S_exchange K)) :
    FnOk P w K mg base (L2.CX P w) 4 f fd ["order"] (lift (S_row_of K)) := by
  refine of_now ?_
  simp (disch := with_unfolding_all
    refine fn_ok F sc_row_of (fun vs G M R Z h => sp_len1 h) (fun cdv A outer s H E hr => ?_)
    have nd : N_row_of.Nodup := sc_row_of.nd
    have hu : _ + 64 < cLine := hr.units
    have tk : Takes (cxOf (L2.CX P w) P w K mg base N_row_of "row_of" (defScope s_row_of) f cdv A outer s H E) (fun c d _ H => E c d H) := takes_of rfl rfl rfl rfl
    have po : PassesOwn (model P w) _ _ _ := passes_of (X := cxOf (L2.CX P w) P w K mg base N_row_of "row_of" (defScope s_row_of) f cdv A outer s H E) rfl
    exact ⟨rd_row_of K, jss_cons (js_if (jt_not (jt_val (je_callD D_is_order hr tk (ja_cons (je_var 0) (ja_nil))))) (jss_cons (js_raise C.g_NoOrder C.r_NoOrder tk) (jss_nil)) (jss_nil)) (jss_cons (js_set (i := 1) (je_op kop_mul (je_lst (ja_cons (je_int) (ja_nil))) (je_callB kc_len B.len (ja_cons (je_var 0) (ja_nil)))) nd) (jss_cons (js_set (i := 2) (je_listR1 B.list B.range (je_callB kc_len B.len (ja_cons (je_var 0) (ja_nil)))) nd) (jss_cons (js_for po rfl (ji_range3 B.range (ja_cons (je_op kop_sub (je_callB kc_len B.len (ja_cons (je_var 0) (ja_nil))) (je_int)) (ja_cons (je_int) (ja_cons (je_neg (je_int)) (ja_nil))))) (jg_name (i := 3) nd) (jss_cons (js_asg (je_bm PySem.F.plainAttrs_list PySem.F.slot_list_index PySem.F.type_list_index km_index (je_var 2) (ja_cons (je_ix (je_var 0) (je_var 3)) (ja_nil))) (jg_ix (je_var 1) (je_var 3))) (jss_cons (js_expr (je_callD D_exchange hr tk (ja_cons (je_var 2) (ja_cons (je_var 3) (ja_cons (je_ix (je_var 1) (je_var 3)) (ja_nil)))))) (jss_nil)))) (jss_cons (js_ret (je_var 1)) (jss_nil))))), fun vs G M R Z h => pf_row_of h⟩) only [↓now_true]
theorem df_row_of {P : Program} {w : World} {K : PySem.W.Frag} {mg : Str → Option Value} {base : Heap} {f : Addr} {fd : FuncData} (B : Bs mg) (C : Cs K mg) (F : Fun K "row_of" "row_of" s_row_of f fd) (b : Binds K fd ["order"] []) (gm : mg "row_of" = some (.ref f)) (D_is_order : Def P w K mg base 3 "is_order" ["thing"] (S_is_order K)) (D_exchange : Def P w K mg base 1 "exchange" ["row", "one", "other"] (S_exchange K)) :
    Def P w K mg base 4 "row_of" ["order"] (S_row_of K) := ⟨f, fd, fo_row_of B C F D_is_order D_exchange, gm, F.kp, b⟩
abbrev s_led_draw : Stmt := topS 18
abbrev N_led_draw : List Str := ["part", "draws", "source", "turn", "order", "place"]
theorem sc_led_draw : FnScope N_led_draw ["part", "draws"] (defScope s_led_draw) := ⟨rfl, rfl, rfl, by decide +kernel, rfl, by decide +kernel, by decide +kernel⟩
theorem fo_led_draw {P : Program} {w : World} {K : PySem.W.Frag} {mg : Str → Option Value} {base : Heap} {f : Addr} {fd : FuncData} (B : Bs mg) (C : Cs K mg) (F : Fun K "led_draw" "led_draw" s_led_draw f fd) (D_order_of : Def P w K mg base 2 "order_of" ["row"] (S_order_of K)) (D_row_of : Def P w K mg base 4 "row_of" ["order"] (S_row_of K)) :
    FnOk P w K mg base (L2.CX P w) 5 f fd ["part", "draws"] (lift (S_led_draw K)) := by
  refine of_now ?_
  simp (disch := with_unfolding_all
    refine fn_ok F sc_led_draw (fun vs G M R Z h => sp_len2 h) (fun cdv A outer s H E hr => ?_)
    have nd : N_led_draw.Nodup := sc_led_draw.nd
    have hu : _ + 64 < cLine := hr.units
    have tk : Takes (cxOf (L2.CX P w) P w K mg base N_led_draw "led_draw" (defScope s_led_draw) f cdv A outer s H E) (fun c d _ H => E c d H) := takes_of rfl rfl rfl rfl
    have po : PassesOwn (model P w) _ _ _ := passes_of (X := cxOf (L2.CX P w) P w K mg base N_led_draw "led_draw" (defScope s_led_draw) f cdv A outer s H E) rfl
    exact ⟨rd_led_draw K, jss_cons (js_asg (je_var 0) (jg_tup rfl (jgs_cons (jg_name (i := 2) nd) (jgs_cons (jg_name (i := 3) nd) (jgs_nil))))) (jss_cons (js_if (jt_cmp (kop_is2) (je_var 3) (je_non) (nomark _)) (jss_cons (js_ret (je_ix (je_var 1) (je_var 2))) (jss_nil)) (jss_nil)) (jss_cons (js_set (i := 4) (je_callD D_order_of hr tk (ja_cons (je_ix (je_var 1) (je_var 2)) (ja_nil))) nd) (jss_cons (js_ret (je_callD D_row_of hr tk (ja_cons (je_comp (own := [("place", 5)]) rfl nd (ji_list (je_var 3)) (blkOk_by (own := [("place", 5)]) (N := N_led_draw) (sc := defScope s_led_draw) (by decide +kernel)) (fun _ _ _ _ _ => by exact jg_name (i := 5) nd) (fun _ _ _ _ _ => by exact jts_nil) (fun _ _ _ _ _ => by exact je_ix (je_var 4) (je_var 5))) (ja_nil)))) (jss_nil)))), fun vs G M R Z h => pf_led_draw h⟩) only [↓now_true]
theorem df_led_draw {P : Program} {w : World} {K : PySem.W.Frag} {mg : Str → Option Value} {base : Heap} {f : Addr} {fd : FuncData} (B : Bs mg) (C : Cs K mg) (F : Fun K "led_draw" "led_draw" s_led_draw f fd) (b : Binds K fd ["part", "draws"] []) (gm : mg "led_draw" = some (.ref f)) (D_order_of : Def P w K mg base 2 "order_of" ["row"] (S_order_of K)) (D_row_of : Def P w K mg base 4 "row_of" ["order"] (S_row_of K)) :
    Def P w K mg base 5 "led_draw" ["part", "draws"] (S_led_draw K) := ⟨f, fd, fo_led_draw B C F D_order_of D_row_of, gm, F.kp, b⟩
abbrev s_led : Stmt := topS 19
abbrev N_led : List Str := ["kinds", "leading", "draws", "part"]
theorem sc_led : FnScope N_led ["kinds", "leading", "draws"] (defScope s_led) := ⟨rfl, rfl, rfl, by decide +kernel, rfl, by decide +kernel, by decide +kernel⟩
theorem fo_led {P : Program} {w : World} {K : PySem.W.Frag} {mg : Str → Option Value} {base : Heap} {f : Addr} {fd : FuncData} (B : Bs mg) (C : Cs K mg) (F : Fun K "led" "led" s_led f fd) (D_led_draw : Def P w K mg base 5 "led_draw" ["part", "draws"] (S_led_draw K)) :
    FnOk P w K mg base (L2.CX P w) 6 f fd ["kinds", "leading", "draws"] (lift (S_led K)) := by
  refine of_now ?_
  simp (disch := with_unfolding_all
    refine fn_ok F sc_led (fun vs G M R Z h => sp_len3 h) (fun cdv A outer s H E hr => ?_)
    have nd : N_led.Nodup := sc_led.nd
    have hu : _ + 64 < cLine := hr.units
    have tk : Takes (cxOf (L2.CX P w) P w K mg base N_led "led" (defScope s_led) f cdv A outer s H E) (fun c d _ H => E c d H) := takes_of rfl rfl rfl rfl
    have po : PassesOwn (model P w) _ _ _ := passes_of (X := cxOf (L2.CX P w) P w K mg base N_led "led" (defScope s_led) f cdv A outer s H E) rfl
    exact ⟨rd_led K, jss_cons (js_ret (je_comp (own := [("part", 3)]) rfl nd (ji_list (je_var 1)) (blkOk_by (own := [("part", 3)]) (N := N_led) (sc := defScope s_led) (by decide +kernel)) (fun _ _ _ _ _ => by exact jg_name (i := 3) nd) (fun _ _ _ _ _ => by exact jts_nil) (fun _ _ _ _ _ => by exact je_callD D_led_draw hr takes0 (ja_cons (je_var 3) (ja_cons (je_var 2) (ja_nil)))))) (jss_nil), fun vs G M R Z h => pf_led h⟩) only [↓now_true]
theorem df_led {P : Program} {w : World} {K : PySem.W.Frag} {mg : Str → Option Value} {base : Heap} {f : Addr} {fd : FuncData} (B : Bs mg) (C : Cs K mg) (F : Fun K "led" "led" s_led f fd) (b : Binds K fd ["kinds", "leading", "draws"] []) (gm : mg "led" = some (.ref f)) (D_led_draw : Def P w K mg base 5 "led_draw" ["part", "draws"] (S_led_draw K)) :
    Def P w K mg base 6 "led" ["kinds", "leading", "draws"] (S_led K) := ⟨f, fd, fo_led B C F D_led_draw, gm, F.kp, b⟩
abbrev s_law_whole : Stmt := topS 25
abbrev N_law_whole : List Str := ["_law_found"]
theorem sc_law_whole : FnScope N_law_whole ["_law_found"] (defScope s_law_whole) := ⟨rfl, rfl, rfl, by decide +kernel, rfl, by decide +kernel, by decide +kernel⟩
theorem fo_law_whole {P : Program} {w : World} {K : PySem.W.Frag} {mg : Str → Option Value} {base : Heap} {f : Addr} {fd : FuncData} (B : Bs mg) (C : Cs K mg) (F : Fun K "_law_whole" "_law_whole" s_law_whole f fd)  :
    FnOk P w K mg base (L2.CX P w) 1 f fd ["_law_found"] (lift (S_law_whole K)) := by
  refine fn_ok F sc_law_whole (fun vs G M R Z h => sp_len1 h) (fun cdv A outer s H E hr => ?_)
  have nd : N_law_whole.Nodup := sc_law_whole.nd
  have hu : _ + 64 < cLine := hr.units
  have tk : Takes (cxOf (L2.CX P w) P w K mg base N_law_whole "_law_whole" (defScope s_law_whole) f cdv A outer s H E) (fun c d _ H => E c d H) := takes_of rfl rfl rfl rfl
  have po : PassesOwn (model P w) _ _ _ := passes_of (X := cxOf (L2.CX P w) P w K mg base N_law_whole "_law_whole" (defScope s_law_whole) f cdv A outer s H E) rfl
  exact ⟨rd_law_whole K, jss_cons (js_ret (je_and (je_callB kc_isi B.isinstance (ja_cons (je_var 0) (ja_cons (je_ty B.int) (ja_nil)))) (je_one (je_not (je_callB kc_isi B.isinstance (ja_cons (je_var 0) (ja_cons (je_ty B.bool) (ja_nil)))))))) (jss_nil), fun vs G M R Z h => pf_law_whole h⟩
theorem df_law_whole {P : Program} {w : World} {K : PySem.W.Frag} {mg : Str → Option Value} {base : Heap} {f : Addr} {fd : FuncData} (B : Bs mg) (C : Cs K mg) (F : Fun K "_law_whole" "_law_whole" s_law_whole f fd) (b : Binds K fd ["_law_found"] []) (gm : mg "_law_whole" = some (.ref f))  :
    Def P w K mg base 1 "_law_whole" ["_law_found"] (S_law_whole K) := ⟨f, fd, fo_law_whole B C F , gm, F.kp, b⟩
abbrev s_law_are_draws : Stmt := topS 34
abbrev N_law_are_draws : List Str := ["_law_kinds_here", "_law_thing", "_law_kind", "_law_draw_here", "_law_k"]
theorem sc_law_are_draws : FnScope N_law_are_draws ["_law_kinds_here", "_law_thing"] (defScope s_law_are_draws) := ⟨rfl, rfl, rfl, by decide +kernel, rfl, by decide +kernel, by decide +kernel⟩
theorem fo_law_are_draws {P : Program} {w : World} {K : PySem.W.Frag} {mg : Str → Option Value} {base : Heap} {f : Addr} {fd : FuncData} (B : Bs mg) (C : Cs K mg) (F : Fun K "_law_are_draws" "_law_are_draws" s_law_are_draws f fd) (D_law_whole : Def P w K mg base 1 "_law_whole" ["_law_found"] (S_law_whole K)) :
    FnOk P w K mg base (L2.CX P w) 2 f fd ["_law_kinds_here", "_law_thing"] (lift (S_law_are_draws K)) := by
  refine fn_ok F sc_law_are_draws (fun vs G M R Z h => sp_len2 h) (fun cdv A outer s H E hr => ?_)
  have nd : N_law_are_draws.Nodup := sc_law_are_draws.nd
  have hu : _ + 64 < cLine := hr.units
  have tk : Takes (cxOf (L2.CX P w) P w K mg base N_law_are_draws "_law_are_draws" (defScope s_law_are_draws) f cdv A outer s H E) (fun c d _ H => E c d H) := takes_of rfl rfl rfl rfl
  have po : PassesOwn (model P w) _ _ _ := passes_of (X := cxOf (L2.CX P w) P w K mg base N_law_are_draws "_law_are_draws" (defScope s_law_are_draws) f cdv A outer s H E) rfl
  exact ⟨rd_law_are_draws K, jss_cons (js_if ((jw_or (jt_not (jt_val (je_callB kc_isi B.isinstance (ja_cons (je_var 1) (ja_cons (je_ty B.list) (ja_nil)))))) (jw_or1 (jt_cmp (kop_ne hu) (je_callB kc_len B.len (ja_cons (je_var 1) (ja_nil))) (je_callB kc_len B.len (ja_cons (je_var 0) (ja_nil))) (nomark _)))).jt) (jss_cons (js_ret (je_bl)) (jss_nil)) (jss_nil)) (jss_cons (js_for po rfl (ji_zip B.zip (ja_cons (je_var 0) (ja_cons (je_var 1) (ja_nil)))) (jg_tup rfl (jgs_cons (jg_name (i := 2) nd) (jgs_cons (jg_name (i := 3) nd) (jgs_nil)))) (jss_cons (js_if (jt_cmp (kop_eq hu) (je_ix (je_var 2) (je_int)) (je_str) (nomark _)) (jss_cons (js_if ((jw_or (jt_not (jt_val (je_callD D_law_whole hr tk (ja_cons (je_var 3) (ja_nil))))) (jw_or1 (jt_not (jt_chain (kop_le) (kop_lt) (je_int) (je_var 3) (je_op kop_shl (je_int) (je_ix (je_var 2) (je_int))))))).jt) (jss_cons (js_ret (je_bl)) (jss_nil)) (jss_nil)) (jss_nil)) (jss_cons (js_if ((jw_or (jt_not (jt_val (je_callB kc_isi B.isinstance (ja_cons (je_var 3) (ja_cons (je_ty B.list) (ja_nil)))))) (jw_or1 (jt_cmp (kop_ne hu) (je_callB kc_len B.len (ja_cons (je_var 3) (ja_nil))) (je_ix (je_var 2) (je_int)) (nomark _)))).jt) (jss_cons (js_ret (je_bl)) (jss_nil)) (jss_cons (js_if (jt_cmp (kop_ne hu) (je_comp (own := [("_law_k", 4)]) rfl nd (ji_range1 B.range (ja_cons (je_ix (je_var 2) (je_int)) (ja_nil))) (blkOk_by (own := [("_law_k", 4)]) (N := N_law_are_draws) (sc := defScope s_law_are_draws) (by decide +kernel)) (fun _ _ _ _ _ => by exact jg_name (i := 4) nd) (fun _ _ _ _ _ => by exact jts_one ((jw_or (jt_not (jt_val (je_callD D_law_whole hr takes0 (ja_cons (je_ix (je_var 3) (je_var 4)) (ja_nil))))) (jw_or1 (jt_not (jt_chain (kop_le) (kop_le) (je_int) (je_ix (je_var 3) (je_var 4)) (je_var 4))))).jt)) (fun _ _ _ _ _ => by exact je_var 4)) (je_lst (ja_nil)) (nomark _)) (jss_cons (js_ret (je_bl)) (jss_nil)) (jss_nil)) (jss_nil))) (jss_nil))) (jss_nil))) (jss_cons (js_ret (je_bl)) (jss_nil))), fun vs G M R Z h => pf_law_are_draws h⟩
theorem df_law_are_draws {P : Program} {w : World} {K : PySem.W.Frag} {mg : Str → Option Value} {base : Heap} {f : Addr} {fd : FuncData} (B : Bs mg) (C : Cs K mg) (F : Fun K "_law_are_draws" "_law_are_draws" s_law_are_draws f fd) (b : Binds K fd ["_law_kinds_here", "_law_thing"] []) (gm : mg "_law_are_draws" = some (.ref f)) (D_law_whole : Def P w K mg base 1 "_law_whole" ["_law_found"] (S_law_whole K)) :
    Def P w K mg base 2 "_law_are_draws" ["_law_kinds_here", "_law_thing"] (S_law_are_draws K) := ⟨f, fd, fo_law_are_draws B C F D_law_whole, gm, F.kp, b⟩
abbrev s_law_order : Stmt := topS 29
abbrev N_law_order : List Str := ["_law_row", "_law_order_here", "_law_k", "_law_one"]
theorem sc_law_order : FnScope N_law_order ["_law_row"] (defScope s_law_order) := ⟨rfl, rfl, rfl, by decide +kernel, rfl, by decide +kernel, by decide +kernel⟩
theorem fo_law_order {P : Program} {w : World} {K : PySem.W.Frag} {mg : Str → Option Value} {base : Heap} {f : Addr} {fd : FuncData} (B : Bs mg) (C : Cs K mg) (F : Fun K "_law_order" "_law_order" s_law_order f fd)  :
    FnOk P w K mg base (L2.CX P w) 1 f fd ["_law_row"] (lift (S_law_order K)) := by
  refine fn_ok F sc_law_order (fun vs G M R Z h => sp_len1 h) (fun cdv A outer s H E hr => ?_)
  have nd : N_law_order.Nodup := sc_law_order.nd
  have hu : _ + 64 < cLine := hr.units
  have tk : Takes (cxOf (L2.CX P w) P w K mg base N_law_order "_law_order" (defScope s_law_order) f cdv A outer s H E) (fun c d _ H => E c d H) := takes_of rfl rfl rfl rfl
  have po : PassesOwn (model P w) _ _ _ := passes_of (X := cxOf (L2.CX P w) P w K mg base N_law_order "_law_order" (defScope s_law_order) f cdv A outer s H E) rfl
  exact ⟨rd_law_order K, jss_cons (js_set (i := 1) (je_listR1 B.list B.range (je_callB kc_len B.len (ja_cons (je_var 0) (ja_nil)))) nd) (jss_cons (js_for po rfl (ji_rv2 B.reversed B.range (je_int) (je_callB kc_len B.len (ja_cons (je_var 0) (ja_nil)))) (jg_name (i := 2) nd) (jss_cons (js_set (i := 3) (je_ix (je_var 1) (je_var 2)) nd) (jss_cons (js_asg (je_ix (je_var 1) (je_ix (je_var 0) (je_var 2))) (jg_ix (je_var 1) (je_var 2))) (jss_cons (js_asg (je_var 3) (jg_ix (je_var 1) (je_ix (je_var 0) (je_var 2)))) (jss_nil))))) (jss_cons (js_ret (je_var 1)) (jss_nil))), fun vs G M R Z h => pf_law_order h⟩
theorem df_law_order {P : Program} {w : World} {K : PySem.W.Frag} {mg : Str → Option Value} {base : Heap} {f : Addr} {fd : FuncData} (B : Bs mg) (C : Cs K mg) (F : Fun K "_law_order" "_law_order" s_law_order f fd) (b : Binds K fd ["_law_row"] []) (gm : mg "_law_order" = some (.ref f))  :
    Def P w K mg base 1 "_law_order" ["_law_row"] (S_law_order K) := ⟨f, fd, fo_law_order B C F , gm, F.kp, b⟩
abbrev s_law_orders : Stmt := topS 31
abbrev N_law_orders : List Str := ["_law_kinds_here", "_law_draws_here", "_law_kind", "_law_draw_here"]
theorem sc_law_orders : FnScope N_law_orders ["_law_kinds_here", "_law_draws_here"] (defScope s_law_orders) := ⟨rfl, rfl, rfl, by decide +kernel, rfl, by decide +kernel, by decide +kernel⟩
theorem fo_law_orders {P : Program} {w : World} {K : PySem.W.Frag} {mg : Str → Option Value} {base : Heap} {f : Addr} {fd : FuncData} (B : Bs mg) (C : Cs K mg) (F : Fun K "_law_orders" "_law_orders" s_law_orders f fd) (D_law_order : Def P w K mg base 1 "_law_order" ["_law_row"] (S_law_order K)) :
    FnOk P w K mg base (L2.CX P w) 2 f fd ["_law_kinds_here", "_law_draws_here"] (lift (S_law_orders K)) := by
  refine fn_ok F sc_law_orders (fun vs G M R Z h => sp_len2 h) (fun cdv A outer s H E hr => ?_)
  have nd : N_law_orders.Nodup := sc_law_orders.nd
  have hu : _ + 64 < cLine := hr.units
  have tk : Takes (cxOf (L2.CX P w) P w K mg base N_law_orders "_law_orders" (defScope s_law_orders) f cdv A outer s H E) (fun c d _ H => E c d H) := takes_of rfl rfl rfl rfl
  have po : PassesOwn (model P w) _ _ _ := passes_of (X := cxOf (L2.CX P w) P w K mg base N_law_orders "_law_orders" (defScope s_law_orders) f cdv A outer s H E) rfl
  exact ⟨rd_law_orders K, jss_cons (js_ret (je_comp (own := [("_law_kind", 2), ("_law_draw_here", 3)]) rfl nd (ji_zip B.zip (ja_cons (je_var 0) (ja_cons (je_var 1) (ja_nil)))) (blkOk_by (own := [("_law_kind", 2), ("_law_draw_here", 3)]) (N := N_law_orders) (sc := defScope s_law_orders) (by decide +kernel)) (fun _ _ _ _ _ => by exact jg_tup rfl (jgs_cons (jg_name (i := 2) nd) (jgs_cons (jg_name (i := 3) nd) (jgs_nil)))) (fun _ _ _ _ _ => by exact jts_nil) (fun _ _ _ _ _ => by exact je_ite (jt_cmp (kop_eq hu) (je_ix (je_var 2) (je_int)) (je_str) (nomark _)) (je_var 3) (je_callD D_law_order hr takes0 (ja_cons (je_var 3) (ja_nil)))))) (jss_nil), fun vs G M R Z h => pf_law_orders h⟩
theorem df_law_orders {P : Program} {w : World} {K : PySem.W.Frag} {mg : Str → Option Value} {base : Heap} {f : Addr} {fd : FuncData} (B : Bs mg) (C : Cs K mg) (F : Fun K "_law_orders" "_law_orders" s_law_orders f fd) (b : Binds K fd ["_law_kinds_here", "_law_draws_here"] []) (gm : mg "_law_orders" = some (.ref f)) (D_law_order : Def P w K mg base 1 "_law_order" ["_law_row"] (S_law_order K)) :
    Def P w K mg base 2 "_law_orders" ["_law_kinds_here", "_law_draws_here"] (S_law_orders K) := ⟨f, fd, fo_law_orders B C F D_law_order, gm, F.kp, b⟩
abbrev s_law_led : Stmt := topS 30
abbrev N_law_led : List Str := ["_law_kinds_here", "_law_paper_here", "_law_draws_here", "_law_found", "_law_kind", "_law_part", "_law_order_here", "_law_item"]
theorem sc_law_led : FnScope N_law_led ["_law_kinds_here", "_law_paper_here", "_law_draws_here"] (defScope s_law_led) := ⟨rfl, rfl, rfl, by decide +kernel, rfl, by decide +kernel, by decide +kernel⟩
theorem fo_law_led {P : Program} {w : World} {K : PySem.W.Frag} {mg : Str → Option Value} {base : Heap} {f : Addr} {fd : FuncData} (B : Bs mg) (C : Cs K mg) (F : Fun K "_law_led" "_law_led" s_law_led f fd) (D_law_order : Def P w K mg base 1 "_law_order" ["_law_row"] (S_law_order K)) :
    FnOk P w K mg base (L2.CX P w) 2 f fd ["_law_kinds_here", "_law_paper_here", "_law_draws_here"] (lift (S_law_led K)) := by
  refine fn_ok F sc_law_led (fun vs G M R Z h => sp_len3 h) (fun cdv A outer s H E hr => ?_)
  have nd : N_law_led.Nodup := sc_law_led.nd
  have hu : _ + 64 < cLine := hr.units
  have tk : Takes (cxOf (L2.CX P w) P w K mg base N_law_led "_law_led" (defScope s_law_led) f cdv A outer s H E) (fun c d _ H => E c d H) := takes_of rfl rfl rfl rfl
  have po : PassesOwn (model P w) _ _ _ := passes_of (X := cxOf (L2.CX P w) P w K mg base N_law_led "_law_led" (defScope s_law_led) f cdv A outer s H E) rfl
  exact ⟨rd_law_led K, jss_cons (js_set (i := 3) (je_lst (ja_nil)) nd) (jss_cons (js_for po rfl (ji_zip B.zip (ja_cons (je_var 0) (ja_cons (je_var 1) (ja_nil)))) (jg_tup rfl (jgs_cons (jg_name (i := 4) nd) (jgs_cons (jg_name (i := 5) nd) (jgs_nil)))) (jss_cons (js_if (jt_cmp (kop_eq hu) (je_ix (je_var 4) (je_int)) (je_str) (nomark _)) (jss_cons (js_expr (je_bm PySem.F.plainAttrs_list PySem.F.slot_list_append PySem.F.type_list_append km_append (je_var 3) (ja_cons (je_ix (je_var 2) (je_ix (je_var 5) (je_int))) (ja_nil)))) (jss_nil)) (jss_cons (js_set (i := 6) (je_callD D_law_order hr tk (ja_cons (je_ix (je_var 2) (je_ix (je_var 5) (je_int))) (ja_nil))) nd) (jss_cons (js_expr (je_bm PySem.F.plainAttrs_list PySem.F.slot_list_append PySem.F.type_list_append km_append (je_var 3) (ja_cons (je_comp (own := [("_law_item", 7)]) rfl nd (ji_list (je_ix (je_var 5) (je_int))) (blkOk_by (own := [("_law_item", 7)]) (N := N_law_led) (sc := defScope s_law_led) (by decide +kernel)) (fun _ _ _ _ _ => by exact jg_name (i := 7) nd) (fun _ _ _ _ _ => by exact jts_nil) (fun _ _ _ _ _ => by exact je_ix (je_var 6) (je_var 7))) (ja_nil)))) (jss_nil)))) (jss_nil))) (jss_cons (js_ret (je_var 3)) (jss_nil))), fun vs G M R Z h => pf_law_led h⟩
theorem df_law_led {P : Program} {w : World} {K : PySem.W.Frag} {mg : Str → Option Value} {base : Heap} {f : Addr} {fd : FuncData} (B : Bs mg) (C : Cs K mg) (F : Fun K "_law_led" "_law_led" s_law_led f fd) (b : Binds K fd ["_law_kinds_here", "_law_paper_here", "_law_draws_here"] []) (gm : mg "_law_led" = some (.ref f)) (D_law_order : Def P w K mg base 1 "_law_order" ["_law_row"] (S_law_order K)) :
    Def P w K mg base 2 "_law_led" ["_law_kinds_here", "_law_paper_here", "_law_draws_here"] (S_law_led K) := ⟨f, fd, fo_law_led B C F D_law_order, gm, F.kp, b⟩
abbrev s_inverse : Stmt := topS 12
abbrev N_inverse : List Str := ["order", "places", "place", "number"]
theorem sc_inverse : FnScope N_inverse ["order"] (defScope s_inverse) := ⟨rfl, rfl, rfl, by decide +kernel, rfl, by decide +kernel, by decide +kernel⟩
theorem fo_inverse {P : Program} {w : World} {K : PySem.W.Frag} {mg : Str → Option Value} {base : Heap} {f : Addr} {fd : FuncData} (B : Bs mg) (C : Cs K mg) (F : Fun K "inverse" "inverse" s_inverse f fd)  :
    FnOk P w K mg base (L2.CX P w) 1 f fd ["order"] (lift (S_inverse K)) := by
  refine fn_ok F sc_inverse (fun vs G M R Z h => sp_len1 h) (fun cdv A outer s H E hr => ?_)
  have nd : N_inverse.Nodup := sc_inverse.nd
  have hu : _ + 64 < cLine := hr.units
  have tk : Takes (cxOf (L2.CX P w) P w K mg base N_inverse "inverse" (defScope s_inverse) f cdv A outer s H E) (fun c d _ H => E c d H) := takes_of rfl rfl rfl rfl
  have po : PassesOwn (model P w) _ _ _ := passes_of (X := cxOf (L2.CX P w) P w K mg base N_inverse "inverse" (defScope s_inverse) f cdv A outer s H E) rfl
  exact ⟨rd_inverse K, jss_cons (js_set (i := 1) (je_op kop_mul (je_lst (ja_cons (je_int) (ja_nil))) (je_callB kc_len B.len (ja_cons (je_var 0) (ja_nil)))) nd) (jss_cons (js_for po rfl (ji_enum B.enumerate (ja_cons (je_var 0) (ja_nil))) (jg_tup rfl (jgs_cons (jg_name (i := 2) nd) (jgs_cons (jg_name (i := 3) nd) (jgs_nil)))) (jss_cons (js_asg (je_var 2) (jg_ix (je_var 1) (je_var 3))) (jss_nil))) (jss_cons (js_ret (je_var 1)) (jss_nil))), fun vs G M R Z h => pf_inverse h⟩
theorem df_inverse {P : Program} {w : World} {K : PySem.W.Frag} {mg : Str → Option Value} {base : Heap} {f : Addr} {fd : FuncData} (B : Bs mg) (C : Cs K mg) (F : Fun K "inverse" "inverse" s_inverse f fd) (b : Binds K fd ["order"] []) (gm : mg "inverse" = some (.ref f))  :
    Def P w K mg base 1 "inverse" ["order"] (S_inverse K) := ⟨f, fd, fo_inverse B C F , gm, F.kp, b⟩
abbrev s_back : Stmt := topS 20
abbrev N_back : List Str := ["leading", "found", "place", "part", "source", "turn"]
theorem sc_back : FnScope N_back ["leading"] (defScope s_back) := ⟨rfl, rfl, rfl, by decide +kernel, rfl, by decide +kernel, by decide +kernel⟩
theorem fo_back {P : Program} {w : World} {K : PySem.W.Frag} {mg : Str → Option Value} {base : Heap} {f : Addr} {fd : FuncData} (B : Bs mg) (C : Cs K mg) (F : Fun K "back" "back" s_back f fd) (D_inverse : Def P w K mg base 1 "inverse" ["order"] (S_inverse K)) :
    FnOk P w K mg base (L2.CX P w) 2 f fd ["leading"] (lift (S_back K)) := by
  refine fn_ok F sc_back (fun vs G M R Z h => sp_len1 h) (fun cdv A outer s H E hr => ?_)
  have nd : N_back.Nodup := sc_back.nd
  have hu : _ + 64 < cLine := hr.units
  have tk : Takes (cxOf (L2.CX P w) P w K mg base N_back "back" (defScope s_back) f cdv A outer s H E) (fun c d _ H => E c d H) := takes_of rfl rfl rfl rfl
  have po : PassesOwn (model P w) _ _ _ := passes_of (X := cxOf (L2.CX P w) P w K mg base N_back "back" (defScope s_back) f cdv A outer s H E) rfl
  exact ⟨rd_back K, jss_cons (js_set (i := 1) (je_op kop_mul (je_lst (ja_cons (je_non) (ja_nil))) (je_callB kc_len B.len (ja_cons (je_var 0) (ja_nil)))) nd) (jss_cons (js_for po rfl (ji_enum B.enumerate (ja_cons (je_var 0) (ja_nil))) (jg_tup rfl (jgs_cons (jg_name (i := 2) nd) (jgs_cons (jg_name (i := 3) nd) (jgs_nil)))) (jss_cons (js_asg (je_var 3) (jg_tup rfl (jgs_cons (jg_name (i := 4) nd) (jgs_cons (jg_name (i := 5) nd) (jgs_nil))))) (jss_cons (js_asg (je_tup (ja_cons (je_var 2) (ja_cons (je_ite (jt_cmp (kop_is2) (je_var 5) (je_non) (nomark _)) (je_non) (je_callD D_inverse hr tk (ja_cons (je_var 5) (ja_nil)))) (ja_nil)))) (jg_ix (je_var 1) (je_var 4))) (jss_nil)))) (jss_cons (js_ret (je_var 1)) (jss_nil))), fun vs G M R Z h => pf_back h⟩
theorem df_back {P : Program} {w : World} {K : PySem.W.Frag} {mg : Str → Option Value} {base : Heap} {f : Addr} {fd : FuncData} (B : Bs mg) (C : Cs K mg) (F : Fun K "back" "back" s_back f fd) (b : Binds K fd ["leading"] []) (gm : mg "back" = some (.ref f)) (D_inverse : Def P w K mg base 1 "inverse" ["order"] (S_inverse K)) :
    Def P w K mg base 2 "back" ["leading"] (S_back K) := ⟨f, fd, fo_back B C F D_inverse, gm, F.kp, b⟩
abbrev s_joined : Stmt := topS 21
abbrev N_joined : List Str := ["first", "second", "found", "middle", "turn", "source", "ahead", "place"]
theorem sc_joined : FnScope N_joined ["first", "second"] (defScope s_joined) := ⟨rfl, rfl, rfl, by decide +kernel, rfl, by decide +kernel, by decide +kernel⟩
theorem fo_joined {P : Program} {w : World} {K : PySem.W.Frag} {mg : Str → Option Value} {base : Heap} {f : Addr} {fd : FuncData} (B : Bs mg) (C : Cs K mg) (F : Fun K "joined" "joined" s_joined f fd)  :
    FnOk P w K mg base (L2.CX P w) 1 f fd ["first", "second"] (lift (S_joined K)) := by
  refine fn_ok F sc_joined (fun vs G M R Z h => sp_len2 h) (fun cdv A outer s H E hr => ?_)
  have nd : N_joined.Nodup := sc_joined.nd
  have hu : _ + 64 < cLine := hr.units
  have tk : Takes (cxOf (L2.CX P w) P w K mg base N_joined "joined" (defScope s_joined) f cdv A outer s H E) (fun c d _ H => E c d H) := takes_of rfl rfl rfl rfl
  have po : PassesOwn (model P w) _ _ _ := passes_of (X := cxOf (L2.CX P w) P w K mg base N_joined "joined" (defScope s_joined) f cdv A outer s H E) rfl
  exact ⟨rd_joined K, jss_cons (js_set (i := 2) (je_lst (ja_nil)) nd) (jss_cons (js_for po rfl (ji_list (je_var 1)) (jg_tup rfl (jgs_cons (jg_name (i := 3) nd) (jgs_cons (jg_name (i := 4) nd) (jgs_nil)))) (jss_cons (js_asg (je_ix (je_var 0) (je_var 3)) (jg_tup rfl (jgs_cons (jg_name (i := 5) nd) (jgs_cons (jg_name (i := 6) nd) (jgs_nil))))) (jss_cons (js_expr (je_bm PySem.F.plainAttrs_list PySem.F.slot_list_append PySem.F.type_list_append km_append (je_var 2) (ja_cons (je_tup (ja_cons (je_var 5) (ja_cons (je_ite (jt_cmp (kop_is2) (je_var 4) (je_non) (nomark _)) (je_non) (je_comp (own := [("place", 7)]) rfl nd (ji_list (je_var 4)) (blkOk_by (own := [("place", 7)]) (N := N_joined) (sc := defScope s_joined) (by decide +kernel)) (fun _ _ _ _ _ => by exact jg_name (i := 7) nd) (fun _ _ _ _ _ => by exact jts_nil) (fun _ _ _ _ _ => by exact je_ix (je_var 6) (je_var 7)))) (ja_nil)))) (ja_nil)))) (jss_nil)))) (jss_cons (js_ret (je_var 2)) (jss_nil))), fun vs G M R Z h => pf_joined h⟩
theorem df_joined {P : Program} {w : World} {K : PySem.W.Frag} {mg : Str → Option Value} {base : Heap} {f : Addr} {fd : FuncData} (B : Bs mg) (C : Cs K mg) (F : Fun K "joined" "joined" s_joined f fd) (b : Binds K fd ["first", "second"] []) (gm : mg "joined" = some (.ref f))  :
    Def P w K mg base 1 "joined" ["first", "second"] (S_joined K) := ⟨f, fd, fo_joined B C F , gm, F.kp, b⟩
abbrev s_is_part : Stmt := topS 14
abbrev N_is_part : List Str := ["kinds", "place", "thing", "kind"]
theorem sc_is_part : FnScope N_is_part ["kinds", "place", "thing"] (defScope s_is_part) := ⟨rfl, rfl, rfl, by decide +kernel, rfl, by decide +kernel, by decide +kernel⟩
theorem fo_is_part {P : Program} {w : World} {K : PySem.W.Frag} {mg : Str → Option Value} {base : Heap} {f : Addr} {fd : FuncData} (B : Bs mg) (C : Cs K mg) (F : Fun K "is_part" "is_part" s_is_part f fd) (D_is_within : Def P w K mg base 2 "is_within" ["thing", "least", "most"] (S_is_within K)) (D_is_order : Def P w K mg base 3 "is_order" ["thing"] (S_is_order K)) :
    FnOk P w K mg base (L2.CX P w) 4 f fd ["kinds", "place", "thing"] (lift (S_is_part K)) := by
  refine of_now ?_
  simp (disch := with_unfolding_all
    refine fn_ok F sc_is_part (fun vs G M R Z h => sp_len3 h) (fun cdv A outer s H E hr => ?_)
    have nd : N_is_part.Nodup := sc_is_part.nd
    have hu : _ + 64 < cLine := hr.units
    have tk : Takes (cxOf (L2.CX P w) P w K mg base N_is_part "is_part" (defScope s_is_part) f cdv A outer s H E) (fun c d _ H => E c d H) := takes_of rfl rfl rfl rfl
    have po : PassesOwn (model P w) _ _ _ := passes_of (X := cxOf (L2.CX P w) P w K mg base N_is_part "is_part" (defScope s_is_part) f cdv A outer s H E) rfl
    exact ⟨rd_is_part K, jss_cons (js_if ((jw_or (jt_not (jt_val (je_callB kc_isi B.isinstance (ja_cons (je_var 2) (ja_cons (je_ty B.tuple) (ja_nil)))))) (jw_or (jt_cmp (kop_ne hu) (je_callB kc_len B.len (ja_cons (je_var 2) (ja_nil))) (je_int) (nomark _)) (jw_or1 (jt_not (jt_val (je_callD D_is_within hr tk (ja_cons (je_ix (je_var 2) (je_int)) (ja_cons (je_int) (ja_cons (je_op kop_sub (je_callB kc_len B.len (ja_cons (je_var 0) (ja_nil))) (je_int)) (ja_nil)))))))))).jt) (jss_cons (js_ret (je_bl)) (jss_nil)) (jss_nil)) (jss_cons (js_set (i := 3) (je_ix (je_var 0) (je_var 1)) nd) (jss_cons (js_if (jt_cmp (kop_ne hu) (je_ix (je_var 0) (je_ix (je_var 2) (je_int))) (je_var 3) (nomark _)) (jss_cons (js_ret (je_bl)) (jss_nil)) (jss_nil)) (jss_cons (js_if (jt_cmp (kop_eq hu) (je_ix (je_var 3) (je_int)) (je_str) (nomark _)) (jss_cons (js_ret (je_cmp (kop_is2) (je_ix (je_var 2) (je_int)) (je_non) (nomark _))) (jss_nil)) (jss_nil)) (jss_cons (js_ret (je_and (je_callD D_is_order hr tk (ja_cons (je_ix (je_var 2) (je_int)) (ja_nil))) (je_one (je_cmp (kop_eq hu) (je_callB kc_len B.len (ja_cons (je_ix (je_var 2) (je_int)) (ja_nil))) (je_ix (je_var 3) (je_int)) (nomark _))))) (jss_nil))))), fun vs G M R Z h => pf_is_part h⟩) only [↓now_true]
theorem df_is_part {P : Program} {w : World} {K : PySem.W.Frag} {mg : Str → Option Value} {base : Heap} {f : Addr} {fd : FuncData} (B : Bs mg) (C : Cs K mg) (F : Fun K "is_part" "is_part" s_is_part f fd) (b : Binds K fd ["kinds", "place", "thing"] []) (gm : mg "is_part" = some (.ref f)) (D_is_within : Def P w K mg base 2 "is_within" ["thing", "least", "most"] (S_is_within K)) (D_is_order : Def P w K mg base 3 "is_order" ["thing"] (S_is_order K)) :
    Def P w K mg base 4 "is_part" ["kinds", "place", "thing"] (S_is_part K) := ⟨f, fd, fo_is_part B C F D_is_within D_is_order, gm, F.kp, b⟩
abbrev s_is_paper : Stmt := topS 15
abbrev N_is_paper : List Str := ["kinds", "thing", "place", "part"]
theorem sc_is_paper : FnScope N_is_paper ["kinds", "thing"] (defScope s_is_paper) := ⟨rfl, rfl, rfl, by decide +kernel, rfl, by decide +kernel, by decide +kernel⟩
theorem fo_is_paper {P : Program} {w : World} {K : PySem.W.Frag} {mg : Str → Option Value} {base : Heap} {f : Addr} {fd : FuncData} (B : Bs mg) (C : Cs K mg) (F : Fun K "is_paper" "is_paper" s_is_paper f fd) (D_is_part : Def P w K mg base 4 "is_part" ["kinds", "place", "thing"] (S_is_part K)) :
    FnOk P w K mg base (L2.CX P w) 5 f fd ["kinds", "thing"] (lift (S_is_paper K)) := by
  refine of_now ?_
  simp (disch := with_unfolding_all
    refine fn_ok F sc_is_paper (fun vs G M R Z h => sp_len2 h) (fun cdv A outer s H E hr => ?_)
    have nd : N_is_paper.Nodup := sc_is_paper.nd
    have hu : _ + 64 < cLine := hr.units
    have tk : Takes (cxOf (L2.CX P w) P w K mg base N_is_paper "is_paper" (defScope s_is_paper) f cdv A outer s H E) (fun c d _ H => E c d H) := takes_of rfl rfl rfl rfl
    have po : PassesOwn (model P w) _ _ _ := passes_of (X := cxOf (L2.CX P w) P w K mg base N_is_paper "is_paper" (defScope s_is_paper) f cdv A outer s H E) rfl
    exact ⟨rd_is_paper K, jss_cons (js_if ((jw_or (jt_not (jt_val (je_callB kc_isi B.isinstance (ja_cons (je_var 1) (ja_cons (je_ty B.list) (ja_nil)))))) (jw_or1 (jt_cmp (kop_ne hu) (je_callB kc_len B.len (ja_cons (je_var 1) (ja_nil))) (je_callB kc_len B.len (ja_cons (je_var 0) (ja_nil))) (nomark _)))).jt) (jss_cons (js_ret (je_bl)) (jss_nil)) (jss_nil)) (jss_cons (js_for po rfl (ji_range1 B.range (ja_cons (je_callB kc_len B.len (ja_cons (je_var 0) (ja_nil))) (ja_nil))) (jg_name (i := 2) nd) (jss_cons (js_if (jt_not (jt_val (je_callD D_is_part hr tk (ja_cons (je_var 0) (ja_cons (je_var 2) (ja_cons (je_ix (je_var 1) (je_var 2)) (ja_nil))))))) (jss_cons (js_ret (je_bl)) (jss_nil)) (jss_nil)) (jss_nil))) (jss_cons (js_ret (je_cmp (kop_eq hu) (je_lenSet B.len B.set (je_comp (own := [("part", 3)]) rfl nd (ji_list (je_var 1)) (blkOk_by (own := [("part", 3)]) (N := N_is_paper) (sc := defScope s_is_paper) (by decide +kernel)) (fun _ _ _ _ _ => by exact jg_name (i := 3) nd) (fun _ _ _ _ _ => by exact jts_nil) (fun _ _ _ _ _ => by exact je_ix (je_var 3) (je_int)))) (je_callB kc_len B.len (ja_cons (je_var 1) (ja_nil))) (nomark _))) (jss_nil))), fun vs G M R Z h => pf_is_paper h⟩) only [↓now_true]
theorem df_is_paper {P : Program} {w : World} {K : PySem.W.Frag} {mg : Str → Option Value} {base : Heap} {f : Addr} {fd : FuncData} (B : Bs mg) (C : Cs K mg) (F : Fun K "is_paper" "is_paper" s_is_paper f fd) (b : Binds K fd ["kinds", "thing"] []) (gm : mg "is_paper" = some (.ref f)) (D_is_part : Def P w K mg base 4 "is_part" ["kinds", "place", "thing"] (S_is_part K)) :
    Def P w K mg base 5 "is_paper" ["kinds", "thing"] (S_is_paper K) := ⟨f, fd, fo_is_paper B C F D_is_part, gm, F.kp, b⟩
abbrev s_is_led : Stmt := topS 16
abbrev N_is_led : List Str := ["one", "other", "paper", "source", "turn"]
theorem sc_is_led : FnScope N_is_led ["one", "other", "paper"] (defScope s_is_led) := ⟨rfl, rfl, rfl, by decide +kernel, rfl, by decide +kernel, by decide +kernel⟩
theorem fo_is_led {P : Program} {w : World} {K : PySem.W.Frag} {mg : Str → Option Value} {base : Heap} {f : Addr} {fd : FuncData} (B : Bs mg) (C : Cs K mg) (F : Fun K "is_led" "is_led" s_is_led f fd)  :
    FnOk P w K mg base (L2.CX P w) 1 f fd ["one", "other", "paper"] (lift (S_is_led K)) := by
  refine of_now ?_
  simp (disch := with_unfolding_all
    refine fn_ok F sc_is_led (fun vs G M R Z h => sp_len3 h) (fun cdv A outer s H E hr => ?_)
    have nd : N_is_led.Nodup := sc_is_led.nd
    have hu : _ + 64 < cLine := hr.units
    have tk : Takes (cxOf (L2.CX P w) P w K mg base N_is_led "is_led" (defScope s_is_led) f cdv A outer s H E) (fun c d _ H => E c d H) := takes_of rfl rfl rfl rfl
    have po : PassesOwn (model P w) _ _ _ := passes_of (X := cxOf (L2.CX P w) P w K mg base N_is_led "is_led" (defScope s_is_led) f cdv A outer s H E) rfl
    exact ⟨rd_is_led K, jss_cons (js_if ((jw_or (jt_cmp (kop_ne hu) (je_ix (je_var 0) (je_int)) (je_ix (je_var 1) (je_int)) (nomark _)) (jw_or1 (jt_cmp (kop_ne hu) (je_slT (je_var 0) (jo_some (je_int)) (jo_some (je_int))) (je_slT (je_var 1) (jo_some (je_int)) (jo_some (je_int))) (nomark _)))).jt) (jss_cons (js_ret (je_bl)) (jss_nil)) (jss_nil)) (jss_cons (js_if (jt_cmp (kop_eq hu) (je_ix (je_var 0) (je_int)) (je_str) (nomark _)) (jss_cons (js_ret (je_cmp (kop_eq hu) (je_ix (je_var 0) (je_int)) (je_ix (je_var 1) (je_int)) (nomark _))) (jss_nil)) (jss_nil)) (jss_cons (js_asg (je_ix (je_var 2) (je_ix (je_var 1) (je_int))) (jg_tup rfl (jgs_cons (jg_name (i := 3) nd) (jgs_cons (jg_name (i := 4) nd) (jgs_nil))))) (jss_cons (js_if (jt_cmp (kop_ne hu) (je_var 3) (je_ix (je_var 0) (je_int)) (nomark _)) (jss_cons (js_ret (je_bl)) (jss_nil)) (jss_nil)) (jss_cons (js_if (jt_cmp (kop_eq hu) (je_ix (je_var 0) (je_int)) (je_str) (nomark _)) (jss_cons (js_ret (je_cmp (kop_eq hu) (je_ix (je_var 4) (je_ix (je_var 1) (je_int))) (je_ix (je_var 0) (je_int)) (nomark _))) (jss_nil)) (jss_nil)) (jss_cons (js_ret (je_cmp (kop_eq hu) (je_slT (je_var 0) (jo_some (je_int)) (jo_none)) (je_slT (je_var 1) (jo_some (je_int)) (jo_none)) (nomark _))) (jss_nil)))))), fun vs G M R Z h => pf_is_led h⟩) only [↓now_true]
theorem df_is_led {P : Program} {w : World} {K : PySem.W.Frag} {mg : Str → Option Value} {base : Heap} {f : Addr} {fd : FuncData} (B : Bs mg) (C : Cs K mg) (F : Fun K "is_led" "is_led" s_is_led f fd) (b : Binds K fd ["one", "other", "paper"] []) (gm : mg "is_led" = some (.ref f))  :
    Def P w K mg base 1 "is_led" ["one", "other", "paper"] (S_is_led K) := ⟨f, fd, fo_is_led B C F , gm, F.kp, b⟩
abbrev s_is_leading : Stmt := topS 17
abbrev N_is_leading : List Str := ["kinds", "one", "other", "thing", "here", "there"]
theorem sc_is_leading : FnScope N_is_leading ["kinds", "one", "other", "thing"] (defScope s_is_leading) := ⟨rfl, rfl, rfl, by decide +kernel, rfl, by decide +kernel, by decide +kernel⟩
theorem fo_is_leading {P : Program} {w : World} {K : PySem.W.Frag} {mg : Str → Option Value} {base : Heap} {f : Addr} {fd : FuncData} (B : Bs mg) (C : Cs K mg) (F : Fun K "is_leading" "is_leading" s_is_leading f fd) (D_is_paper : Def P w K mg base 5 "is_paper" ["kinds", "thing"] (S_is_paper K)) (D_is_led : Def P w K mg base 1 "is_led" ["one", "other", "paper"] (S_is_led K)) :
    FnOk P w K mg base (L2.CX P w) 6 f fd ["kinds", "one", "other", "thing"] (lift (S_is_leading K)) := by
  refine of_now ?_
  simp (disch := with_unfolding_all
    refine fn_ok F sc_is_leading (fun vs G M R Z h => sp_len4 h) (fun cdv A outer s H E hr => ?_)
    have nd : N_is_leading.Nodup := sc_is_leading.nd
    have hu : _ + 64 < cLine := hr.units
    have tk : Takes (cxOf (L2.CX P w) P w K mg base N_is_leading "is_leading" (defScope s_is_leading) f cdv A outer s H E) (fun c d _ H => E c d H) := takes_of rfl rfl rfl rfl
    have po : PassesOwn (model P w) _ _ _ := passes_of (X := cxOf (L2.CX P w) P w K mg base N_is_leading "is_leading" (defScope s_is_leading) f cdv A outer s H E) rfl
    exact ⟨rd_is_leading K, jss_cons (js_if ((jw_or (jt_not (jt_val (je_callD D_is_paper hr tk (ja_cons (je_var 0) (ja_cons (je_var 3) (ja_nil)))))) (jw_or1 (jt_cmp (kop_ne hu) (je_callB kc_len B.len (ja_cons (je_var 1) (ja_nil))) (je_callB kc_len B.len (ja_cons (je_var 2) (ja_nil))) (nomark _)))).jt) (jss_cons (js_ret (je_bl)) (jss_nil)) (jss_nil)) (jss_cons (js_ret (je_callB kc_all B.all (ja_cons (je_comp (own := [("here", 4), ("there", 5)]) rfl nd (ji_zip B.zip (ja_cons (je_var 1) (ja_cons (je_var 2) (ja_nil)))) (blkOk_by (own := [("here", 4), ("there", 5)]) (N := N_is_leading) (sc := defScope s_is_leading) (by decide +kernel)) (fun _ _ _ _ _ => by exact jg_tup rfl (jgs_cons (jg_name (i := 4) nd) (jgs_cons (jg_name (i := 5) nd) (jgs_nil)))) (fun _ _ _ _ _ => by exact jts_nil) (fun _ _ _ _ _ => by exact je_callD D_is_led hr takes0 (ja_cons (je_var 4) (ja_cons (je_var 5) (ja_cons (je_var 3) (ja_nil)))))) (ja_nil)))) (jss_nil)), fun vs G M R Z h => pf_is_leading h⟩) only [↓now_true]
theorem df_is_leading {P : Program} {w : World} {K : PySem.W.Frag} {mg : Str → Option Value} {base : Heap} {f : Addr} {fd : FuncData} (B : Bs mg) (C : Cs K mg) (F : Fun K "is_leading" "is_leading" s_is_leading f fd) (b : Binds K fd ["kinds", "one", "other", "thing"] []) (gm : mg "is_leading" = some (.ref f)) (D_is_paper : Def P w K mg base 5 "is_paper" ["kinds", "thing"] (S_is_paper K)) (D_is_led : Def P w K mg base 1 "is_led" ["one", "other", "paper"] (S_is_led K)) :
    Def P w K mg base 6 "is_leading" ["kinds", "one", "other", "thing"] (S_is_leading K) := ⟨f, fd, fo_is_leading B C F D_is_paper D_is_led, gm, F.kp, b⟩
abbrev s_law_apart : Stmt := topS 35
abbrev N_law_apart : List Str := ["_law_told", "_law_part", "_law_own", "_law_kept", "_law_longer"]
theorem sc_law_apart : FnScope N_law_apart ["_law_told"] (defScope s_law_apart) := ⟨rfl, rfl, rfl, by decide +kernel, rfl, by decide +kernel, by decide +kernel⟩
theorem fo_law_apart {P : Program} {w : World} {K : PySem.W.Frag} {mg : Str → Option Value} {base : Heap} {f : Addr} {fd : FuncData} (B : Bs mg) (C : Cs K mg) (F : Fun K "_law_apart" "_law_apart" s_law_apart f fd)  :
    GFn P w K mg base 1 f fd ["_law_told"] (lift (S_law_apart K)) := by
  refine gfn_ok F sc_law_apart (fun vs G M R Z h => sp_len1 h) (fun cdv A outer s H E hgd hr => ?_)
  have nd : N_law_apart.Nodup := sc_law_apart.nd
  have hu : _ + 64 < cLine := hr.units
  have tk : Takes (cxOf (L2.CX P w) P w K mg base N_law_apart "_law_apart" (defScope s_law_apart) f cdv A outer s H E) (fun c d _ H => E c d H) := takes_of rfl rfl rfl rfl
  have po : PassesOwn (model P w) _ _ _ := passes_of (X := cxOf (L2.CX P w) P w K mg base N_law_apart "_law_apart" (defScope s_law_apart) f cdv A outer s H E) rfl
  exact ⟨rd_law_apart K, jss_cons (js_for po rfl (ji_list (je_var 0)) (jg_name (i := 1) nd) (jss_cons (js_set (i := 2) (je_var 1) nd) (jss_cons (js_if (jt_val (je_callB kc_isi B.isinstance (ja_cons (je_var 1) (ja_cons (je_ty B.tuple) (ja_nil))))) (jss_cons (js_set (i := 2) (je_ix (je_var 1) (je_neg (je_int))) nd) (jss_nil)) (jss_nil)) (jss_cons (js_if (jt_val (je_callB kc_isi B.isinstance (ja_cons (je_var 2) (ja_cons (je_ty B.list) (ja_nil))))) (jss_cons (js_set (i := 3) (je_callB kc_lenS B.len (ja_cons (je_callB (kc_repr hgd hu) B.repr (ja_cons (je_var 0) (ja_nil))) (ja_nil))) nd) (jss_cons (js_expr (je_bm PySem.F.plainAttrs_list PySem.F.slot_list_append PySem.F.type_list_append km_append (je_var 2) (ja_cons (je_int) (ja_nil)))) (jss_cons (js_set (i := 4) (je_op kop_sub (je_callB kc_lenS B.len (ja_cons (je_callB (kc_repr hgd hu) B.repr (ja_cons (je_var 0) (ja_nil))) (ja_nil))) (je_var 3)) nd) (jss_cons (js_expr (je_bm0 PySem.F.plainAttrs_list PySem.F.slot_list_pop PySem.F.type_list_pop km_pop (je_var 2))) (jss_cons (js_if (jt_cmp (kop_gt) (je_var 4) (je_int) (nomark _)) (jss_cons (js_ret (je_bl)) (jss_nil)) (jss_nil)) (jss_nil)))))) (jss_nil)) (jss_nil))))) (jss_cons (js_ret (je_bl)) (jss_nil)), fun vs G M R Z h => pf_law_apart h⟩
theorem df_law_apart {P : Program} {w : World} {K : PySem.W.Frag} {mg : Str → Option Value} {base : Heap} {f : Addr} {fd : FuncData} (B : Bs mg) (C : Cs K mg) (F : Fun K "_law_apart" "_law_apart" s_law_apart f fd) (b : Binds K fd ["_law_told"] []) (gm : mg "_law_apart" = some (.ref f))  :
    DefG P w K mg base 1 "_law_apart" ["_law_told"] (S_law_apart K) := ⟨f, fd, fo_law_apart B C F , gm, F.kp, b⟩
abbrev s_law_other_draws : Stmt := topS 37
abbrev N_law_other_draws : List Str := ["_law_pool_here", "_law_kinds_here", "_law_draws_here", "_law_at", "_law_other", "_law_place", "_law_row"]
theorem sc_law_other_draws : FnScope N_law_other_draws ["_law_pool_here", "_law_kinds_here", "_law_draws_here"] (defScope s_law_other_draws) := ⟨rfl, rfl, rfl, by decide +kernel, rfl, by decide +kernel, by decide +kernel⟩
theorem fo_law_other_draws {P : Program} {w : World} {K : PySem.W.Frag} {mg : Str → Option Value} {base : Heap} {f : Addr} {fd : FuncData} (B : Bs mg) (C : Cs K mg) (F : Fun K "_law_other_draws" "_law_other_draws" s_law_other_draws f fd) (D_law_take : Def P w K mg base 1 "_law_take" ["_law_pool_here", "_law_many"] (S_law_take K)) :
    FnOk P w K mg base (L2.CX P w) 2 f fd ["_law_pool_here", "_law_kinds_here", "_law_draws_here"] (lift (S_law_other_draws K)) := by
  refine fn_ok F sc_law_other_draws (fun vs G M R Z h => sp_len3 h) (fun cdv A outer s H E hr => ?_)
  have nd : N_law_other_draws.Nodup := sc_law_other_draws.nd
  have hu : _ + 64 < cLine := hr.units
  have tk : Takes (cxOf (L2.CX P w) P w K mg base N_law_other_draws "_law_other_draws" (defScope s_law_other_draws) f cdv A outer s H E) (fun c d _ H => E c d H) := takes_of rfl rfl rfl rfl
  have po : PassesOwn (model P w) _ _ _ := passes_of (X := cxOf (L2.CX P w) P w K mg base N_law_other_draws "_law_other_draws" (defScope s_law_other_draws) f cdv A outer s H E) rfl
  exact ⟨rd_law_other_draws K, jss_cons (js_set (i := 3) (je_callD D_law_take hr tk (ja_cons (je_var 0) (ja_cons (je_callB kc_len B.len (ja_cons (je_var 1) (ja_nil))) (ja_nil)))) nd) (jss_cons (js_set (i := 4) (je_callTy kc_list B.list (ja_cons (je_var 2) (ja_nil))) nd) (jss_cons (js_if (jt_cmp (kop_eq hu) (je_ix (je_ix (je_var 1) (je_var 3)) (je_int)) (je_str) (nomark _)) (jss_cons (js_asg (je_op kop_mod (je_op kop_add (je_op kop_add (je_ix (je_var 2) (je_var 3)) (je_int)) (je_callD D_law_take hr tk (ja_cons (je_var 0) (ja_cons (je_op kop_shl (je_int) (je_ix (je_ix (je_var 1) (je_var 3)) (je_int))) (ja_nil))))) (je_op kop_shl (je_int) (je_ix (je_ix (je_var 1) (je_var 3)) (je_int)))) (jg_ix (je_var 4) (je_var 3))) (jss_nil)) (jss_cons (js_set (i := 5) (je_callD D_law_take hr tk (ja_cons (je_var 0) (ja_cons (je_ix (je_ix (je_var 1) (je_var 3)) (je_int)) (ja_nil)))) nd) (jss_cons (js_set (i := 6) (je_callTy kc_list B.list (ja_cons (je_ix (je_var 2) (je_var 3)) (ja_nil))) nd) (jss_cons (js_asg (je_op kop_mod (je_op kop_add (je_ix (je_var 6) (je_var 5)) (je_int)) (je_op kop_add (je_var 5) (je_int))) (jg_ix (je_var 6) (je_var 5))) (jss_cons (js_asg (je_var 6) (jg_ix (je_var 4) (je_var 3))) (jss_nil)))))) (jss_cons (js_ret (je_var 4)) (jss_nil)))), fun vs G M R Z h => pf_law_other_draws h⟩
theorem df_law_other_draws {P : Program} {w : World} {K : PySem.W.Frag} {mg : Str → Option Value} {base : Heap} {f : Addr} {fd : FuncData} (B : Bs mg) (C : Cs K mg) (F : Fun K "_law_other_draws" "_law_other_draws" s_law_other_draws f fd) (b : Binds K fd ["_law_pool_here", "_law_kinds_here", "_law_draws_here"] []) (gm : mg "_law_other_draws" = some (.ref f)) (D_law_take : Def P w K mg base 1 "_law_take" ["_law_pool_here", "_law_many"] (S_law_take K)) :
    Def P w K mg base 2 "_law_other_draws" ["_law_pool_here", "_law_kinds_here", "_law_draws_here"] (S_law_other_draws K) := ⟨f, fd, fo_law_other_draws B C F D_law_take, gm, F.kp, b⟩
abbrev s_law_as_ahead : Stmt := topS 39
abbrev N_law_as_ahead : List Str := ["_law_kinds_here", "_law_paper_here", "_law_draws_here", "_law_same", "_law_row"]
theorem sc_law_as_ahead : FnScope N_law_as_ahead ["_law_kinds_here", "_law_paper_here", "_law_draws_here"] (defScope s_law_as_ahead) := ⟨rfl, rfl, rfl, by decide +kernel, rfl, by decide +kernel, by decide +kernel⟩
theorem fo_law_as_ahead {P : Program} {w : World} {K : PySem.W.Frag} {mg : Str → Option Value} {base : Heap} {f : Addr} {fd : FuncData} (B : Bs mg) (C : Cs K mg) (F : Fun K "_law_as_ahead" "_law_as_ahead" s_law_as_ahead f fd) (D_back : Def P w K mg base 2 "back" ["leading"] (S_back K)) (D_joined : Def P w K mg base 1 "joined" ["first", "second"] (S_joined K)) (D_led : Def P w K mg base 6 "led" ["kinds", "leading", "draws"] (S_led K)) :
    FnOk P w K mg base (L2.CX P w) 7 f fd ["_law_kinds_here", "_law_paper_here", "_law_draws_here"] (lift (S_law_as_ahead K)) := by
  refine fn_ok F sc_law_as_ahead (fun vs G M R Z h => sp_len3 h) (fun cdv A outer s H E hr => ?_)
  have nd : N_law_as_ahead.Nodup := sc_law_as_ahead.nd
  have hu : _ + 64 < cLine := hr.units
  have tk : Takes (cxOf (L2.CX P w) P w K mg base N_law_as_ahead "_law_as_ahead" (defScope s_law_as_ahead) f cdv A outer s H E) (fun c d _ H => E c d H) := takes_of rfl rfl rfl rfl
  have po : PassesOwn (model P w) _ _ _ := passes_of (X := cxOf (L2.CX P w) P w K mg base N_law_as_ahead "_law_as_ahead" (defScope s_law_as_ahead) f cdv A outer s H E) rfl
  exact ⟨rd_law_as_ahead K, jss_cons (js_set (i := 3) (je_callD D_led hr tk (ja_cons (je_var 0) (ja_cons (je_callD D_joined hr tk (ja_cons (je_var 1) (ja_cons (je_callD D_back hr tk (ja_cons (je_var 1) (ja_nil))) (ja_nil)))) (ja_cons (je_var 2) (ja_nil))))) nd) (jss_cons (js_if (jt_cmp (kop_ne hu) (je_var 3) (je_var 2) (nomark _)) (jss_cons (js_ret (je_bl)) (jss_nil)) (jss_nil)) (jss_cons (js_for po rfl (ji_list (je_var 3)) (jg_name (i := 4) nd) (jss_cons (js_if (jt_val (je_callB kc_isi B.isinstance (ja_cons (je_var 4) (ja_cons (je_ty B.list) (ja_nil))))) (jss_cons (js_expr (je_bm0 PySem.F.plainAttrs_list PySem.F.slot_list_clear PySem.F.type_list_clear km_clear (je_var 4))) (jss_nil)) (jss_nil)) (jss_nil))) (jss_cons (js_ret (je_bl)) (jss_nil)))), fun vs G M R Z h => pf_law_as_ahead h⟩
theorem df_law_as_ahead {P : Program} {w : World} {K : PySem.W.Frag} {mg : Str → Option Value} {base : Heap} {f : Addr} {fd : FuncData} (B : Bs mg) (C : Cs K mg) (F : Fun K "_law_as_ahead" "_law_as_ahead" s_law_as_ahead f fd) (b : Binds K fd ["_law_kinds_here", "_law_paper_here", "_law_draws_here"] []) (gm : mg "_law_as_ahead" = some (.ref f)) (D_back : Def P w K mg base 2 "back" ["leading"] (S_back K)) (D_joined : Def P w K mg base 1 "joined" ["first", "second"] (S_joined K)) (D_led : Def P w K mg base 6 "led" ["kinds", "leading", "draws"] (S_led K)) :
    Def P w K mg base 7 "_law_as_ahead" ["_law_kinds_here", "_law_paper_here", "_law_draws_here"] (S_law_as_ahead K) := ⟨f, fd, fo_law_as_ahead B C F D_back D_joined D_led, gm, F.kp, b⟩
abbrev s_law_right : Stmt := topS 40
abbrev N_law_right : List Str := ["_law_pool_here", "_law_kinds_here", "_law_draws_here", "_law_first", "_law_second", "_law_kept", "_law_found", "_law_turned", "_law_both", "_law_told", "_law_part", "_law_other"]
theorem sc_law_right : FnScope N_law_right ["_law_pool_here"] (defScope s_law_right) := ⟨rfl, rfl, rfl, by decide +kernel, rfl, by decide +kernel, by decide +kernel⟩
theorem fo_law_right {P : Program} {w : World} {K : PySem.W.Frag} {mg : Str → Option Value} {base : Heap} {f : Addr} {fd : FuncData} (B : Bs mg) (C : Cs K mg) (F : Fun K "_law_right" "_law_right" s_law_right f fd) (D_law_kinds : Def P w K mg base 2 "_law_kinds" ["_law_pool_here", "_law_most", "_law_far"] (S_law_kinds K)) (D_law_draws : Def P w K mg base 3 "_law_draws" ["_law_pool_here", "_law_kinds_here"] (S_law_draws K)) (D_law_drawn_paper : Def P w K mg base 4 "_law_drawn_paper" ["_law_pool_here", "_law_kinds_here"] (S_law_drawn_paper K)) (D_led : Def P w K mg base 6 "led" ["kinds", "leading", "draws"] (S_led K)) (D_law_are_draws : Def P w K mg base 2 "_law_are_draws" ["_law_kinds_here", "_law_thing"] (S_law_are_draws K)) (D_law_orders : Def P w K mg base 2 "_law_orders" ["_law_kinds_here", "_law_draws_here"] (S_law_orders K)) (D_law_led : Def P w K mg base 2 "_law_led" ["_law_kinds_here", "_law_paper_here", "_law_draws_here"] (S_law_led K)) (D_back : Def P w K mg base 2 "back" ["leading"] (S_back K)) (D_joined : Def P w K mg base 1 "joined" ["first", "second"] (S_joined K)) (D_is_leading : Def P w K mg base 6 "is_leading" ["kinds", "one", "other", "thing"] (S_is_leading K)) (D_law_apart : DefG P w K mg base 1 "_law_apart" ["_law_told"] (S_law_apart K)) (D_law_other_draws : Def P w K mg base 2 "_law_other_draws" ["_law_pool_here", "_law_kinds_here", "_law_draws_here"] (S_law_other_draws K)) (D_law_as_ahead : Def P w K mg base 7 "_law_as_ahead" ["_law_kinds_here", "_law_paper_here", "_law_draws_here"] (S_law_as_ahead K)) :
    GFn P w K mg base 8 f fd ["_law_pool_here"] (lift (S_law_right K)) := by
  refine of_now ?_
  simp (disch := with_unfolding_all
    refine gfn_ok F sc_law_right (fun vs G M R Z h => sp_len1 h) (fun cdv A outer s H E hgd hr => ?_)
    have nd : N_law_right.Nodup := sc_law_right.nd
    have hu : _ + 64 < cLine := hr.units
    have tk : Takes (cxOf (L2.CX P w) P w K mg base N_law_right "_law_right" (defScope s_law_right) f cdv A outer s H E) (fun c d _ H => E c d H) := takes_of rfl rfl rfl rfl
    have po : PassesOwn (model P w) _ _ _ := passes_of (X := cxOf (L2.CX P w) P w K mg base N_law_right "_law_right" (defScope s_law_right) f cdv A outer s H E) rfl
    exact ⟨rd_law_right K, jss_cons (js_set (i := 1) (je_callD D_law_kinds hr tk (ja_cons (je_var 0) (ja_cons (je_int) (ja_cons (je_int) (ja_nil))))) nd) (jss_cons (js_set (i := 2) (je_callD D_law_draws hr tk (ja_cons (je_var 0) (ja_cons (je_var 1) (ja_nil)))) nd) (jss_cons (js_set (i := 3) (je_callD D_law_drawn_paper hr tk (ja_cons (je_var 0) (ja_cons (je_var 1) (ja_nil)))) nd) (jss_cons (js_set (i := 4) (je_callD D_law_drawn_paper hr tk (ja_cons (je_var 0) (ja_cons (je_var 1) (ja_nil)))) nd) (jss_cons (js_set (i := 5) (je_callB (kc_repr hgd hu) B.repr (ja_cons (je_lst (ja_cons (je_var 1) (ja_cons (je_var 2) (ja_cons (je_var 3) (ja_cons (je_var 4) (ja_nil)))))) (ja_nil))) nd) (jss_cons (js_set (i := 6) (je_callD D_led hr tk (ja_cons (je_var 1) (ja_cons (je_var 3) (ja_cons (je_var 2) (ja_nil))))) nd) (jss_cons (js_if ((jw_or (jt_not (jt_val (je_callD D_law_are_draws hr tk (ja_cons (je_var 1) (ja_cons (je_var 6) (ja_nil)))))) (jw_or1 (jt_cmp (kop_ne hu) (je_callD D_law_orders hr tk (ja_cons (je_var 1) (ja_cons (je_var 6) (ja_nil)))) (je_callD D_law_led hr tk (ja_cons (je_var 1) (ja_cons (je_var 3) (ja_cons (je_var 2) (ja_nil))))) (nomark _)))).jt) (jss_cons (js_ret (je_bl)) (jss_nil)) (jss_nil)) (jss_cons (js_set (i := 7) (je_callD D_back hr tk (ja_cons (je_var 3) (ja_nil))) nd) (jss_cons (js_set (i := 8) (je_callD D_joined hr tk (ja_cons (je_var 3) (ja_cons (je_var 4) (ja_nil)))) nd) (jss_cons (js_if ((jw_or (jt_not (jt_val (je_callD D_is_leading hr tk (ja_cons (je_var 1) (ja_cons (je_lst (ja_nil)) (ja_cons (je_lst (ja_nil)) (ja_cons (je_var 7) (ja_nil)))))))) (jw_or1 (jt_not (jt_val (je_callD D_is_leading hr tk (ja_cons (je_var 1) (ja_cons (je_lst (ja_nil)) (ja_cons (je_lst (ja_nil)) (ja_cons (je_var 8) (ja_nil)))))))))).jt) (jss_cons (js_ret (je_bl)) (jss_nil)) (jss_nil)) (jss_cons (js_if ((jw_or (jt_not (jt_val (je_callG D_law_apart hgd hr tk (ja_cons (je_var 7) (ja_nil))))) (jw_or (jt_not (jt_val (je_callG D_law_apart hgd hr tk (ja_cons (je_var 8) (ja_nil))))) (jw_or1 (jt_not (jt_val (je_callG D_law_apart hgd hr tk (ja_cons (je_var 6) (ja_nil)))))))).jt) (jss_cons (js_ret (je_bl)) (jss_nil)) (jss_nil)) (jss_cons (js_if ((jw_or (jt_cmp (kop_ne hu) (je_callD D_led hr tk (ja_cons (je_var 1) (ja_cons (je_var 7) (ja_cons (je_var 6) (ja_nil))))) (je_var 2) (nomark _)) (jw_or1 (jt_cmp (kop_ne hu) (je_callD D_led hr tk (ja_cons (je_var 1) (ja_cons (je_var 3) (ja_cons (je_callD D_led hr tk (ja_cons (je_var 1) (ja_cons (je_var 7) (ja_cons (je_var 2) (ja_nil))))) (ja_nil))))) (je_var 2) (nomark _)))).jt) (jss_cons (js_ret (je_bl)) (jss_nil)) (jss_nil)) (jss_cons (js_if ((jw_or (jt_cmp (kop_ne hu) (je_callD D_led hr tk (ja_cons (je_var 1) (ja_cons (je_var 8) (ja_cons (je_var 2) (ja_nil))))) (je_callD D_led hr tk (ja_cons (je_var 1) (ja_cons (je_var 4) (ja_cons (je_var 6) (ja_nil))))) (nomark _)) (jw_or1 (jt_cmp (kop_ne hu) (je_var 5) (je_callB (kc_repr hgd hu) B.repr (ja_cons (je_lst (ja_cons (je_var 1) (ja_cons (je_var 2) (ja_cons (je_var 3) (ja_cons (je_var 4) (ja_nil)))))) (ja_nil))) (nomark _)))).jt) (jss_cons (js_ret (je_bl)) (jss_nil)) (jss_nil)) (jss_cons (js_for po rfl (ji_w (ji_list (je_lst (ja_cons (je_var 7) (ja_cons (je_var 8) (ja_nil)))))) (jg_name (i := 9) nd) (jss_cons (js_for po rfl (ji_list (je_var 9)) (jg_name (i := 10) nd) (jss_cons (js_if (jt_val (je_callB kc_isi B.isinstance (ja_cons (je_ix (je_var 10) (je_int)) (ja_cons (je_ty B.list) (ja_nil))))) (jss_cons (js_expr (je_bm0 PySem.F.plainAttrs_list PySem.F.slot_list_reverse PySem.F.type_list_reverse km_reverse (je_ix (je_var 10) (je_int)))) (jss_nil)) (jss_nil)) (jss_nil))) (jss_cons (js_expr (je_bm PySem.F.plainAttrs_list PySem.F.slot_list_append PySem.F.type_list_append km_append (je_var 9) (ja_cons (je_non) (ja_nil)))) (jss_nil)))) (jss_cons (js_if ((jw_or (jt_cmp (kop_ne hu) (je_var 5) (je_callB (kc_repr hgd hu) B.repr (ja_cons (je_lst (ja_cons (je_var 1) (ja_cons (je_var 2) (ja_cons (je_var 3) (ja_cons (je_var 4) (ja_nil)))))) (ja_nil))) (nomark _)) (jw_or1 (jt_cmp (kop_ne hu) (je_callD D_led hr tk (ja_cons (je_var 1) (ja_cons (je_callD D_back hr tk (ja_cons (je_var 3) (ja_nil))) (ja_cons (je_var 6) (ja_nil))))) (je_var 2) (nomark _)))).jt) (jss_cons (js_ret (je_bl)) (jss_nil)) (jss_nil)) (jss_cons (js_if (jt_cmp (kop_ne hu) (je_var 1) (je_lst (ja_nil)) (nomark _)) (jss_cons (js_set (i := 11) (je_callD D_law_other_draws hr tk (ja_cons (je_var 0) (ja_cons (je_var 1) (ja_cons (je_var 2) (ja_nil))))) nd) (jss_cons (js_if (jt_cmp (kop_ne hu) (je_cmp (kop_eq hu) (je_callD D_led hr tk (ja_cons (je_var 1) (ja_cons (je_var 3) (ja_cons (je_var 11) (ja_nil))))) (je_var 6) (nomark _)) (je_cmp (kop_eq hu) (je_var 11) (je_var 2) (nomark _)) (nomark _)) (jss_cons (js_ret (je_bl)) (jss_nil)) (jss_nil)) (jss_nil))) (jss_nil)) (jss_cons (js_ret (je_and (je_callD D_law_as_ahead hr tk (ja_cons (je_var 1) (ja_cons (je_var 3) (ja_cons (je_var 2) (ja_nil))))) (je_one (je_cmp (kop_eq hu) (je_var 5) (je_callB (kc_repr hgd hu) B.repr (ja_cons (je_lst (ja_cons (je_var 1) (ja_cons (je_var 2) (ja_cons (je_var 3) (ja_cons (je_var 4) (ja_nil)))))) (ja_nil))) (nomark _))))) (jss_nil))))))))))))))))), fun vs G M R Z h => pf_law_right h⟩) only [↓now_true]
theorem df_law_right {P : Program} {w : World} {K : PySem.W.Frag} {mg : Str → Option Value} {base : Heap} {f : Addr} {fd : FuncData} (B : Bs mg) (C : Cs K mg) (F : Fun K "_law_right" "_law_right" s_law_right f fd) (b : Binds K fd ["_law_pool_here"] []) (gm : mg "_law_right" = some (.ref f)) (D_law_kinds : Def P w K mg base 2 "_law_kinds" ["_law_pool_here", "_law_most", "_law_far"] (S_law_kinds K)) (D_law_draws : Def P w K mg base 3 "_law_draws" ["_law_pool_here", "_law_kinds_here"] (S_law_draws K)) (D_law_drawn_paper : Def P w K mg base 4 "_law_drawn_paper" ["_law_pool_here", "_law_kinds_here"] (S_law_drawn_paper K)) (D_led : Def P w K mg base 6 "led" ["kinds", "leading", "draws"] (S_led K)) (D_law_are_draws : Def P w K mg base 2 "_law_are_draws" ["_law_kinds_here", "_law_thing"] (S_law_are_draws K)) (D_law_orders : Def P w K mg base 2 "_law_orders" ["_law_kinds_here", "_law_draws_here"] (S_law_orders K)) (D_law_led : Def P w K mg base 2 "_law_led" ["_law_kinds_here", "_law_paper_here", "_law_draws_here"] (S_law_led K)) (D_back : Def P w K mg base 2 "back" ["leading"] (S_back K)) (D_joined : Def P w K mg base 1 "joined" ["first", "second"] (S_joined K)) (D_is_leading : Def P w K mg base 6 "is_leading" ["kinds", "one", "other", "thing"] (S_is_leading K)) (D_law_apart : DefG P w K mg base 1 "_law_apart" ["_law_told"] (S_law_apart K)) (D_law_other_draws : Def P w K mg base 2 "_law_other_draws" ["_law_pool_here", "_law_kinds_here", "_law_draws_here"] (S_law_other_draws K)) (D_law_as_ahead : Def P w K mg base 7 "_law_as_ahead" ["_law_kinds_here", "_law_paper_here", "_law_draws_here"] (S_law_as_ahead K)) :
    DefG P w K mg base 8 "_law_right" ["_law_pool_here"] (S_law_right K) := ⟨f, fd, fo_law_right B C F D_law_kinds D_law_draws D_law_drawn_paper D_led D_law_are_draws D_law_orders D_law_led D_back D_joined D_is_leading D_law_apart D_law_other_draws D_law_as_ahead, gm, F.kp, b⟩
abbrev s_law : Stmt := topS 41
abbrev N_law : List Str := ["_law_script", "_law_k"]
theorem sc_law : FnScope N_law ["_law_script"] (defScope s_law) := ⟨rfl, rfl, rfl, by decide +kernel, rfl, by decide +kernel, by decide +kernel⟩
theorem fo_law {P : Program} {w : World} {K : PySem.W.Frag} {mg : Str → Option Value} {base : Heap} {f : Addr} {fd : FuncData} (B : Bs mg) (C : Cs K mg) (F : Fun K "law" "law" s_law f fd) (D_law_pool : Def P w K mg base 1 "_law_pool" ["_law_script", "_law_k"] (S_law_pool K)) (D_law_right : DefG P w K mg base 8 "_law_right" ["_law_pool_here"] (S_law_right K)) :
    GFn P w K mg base 9 f fd ["_law_script"] (lift (S_law K)) := by
  refine of_now ?_
  simp (disch := with_unfolding_all
    refine gfn_ok F sc_law (fun vs G M R Z h => sp_len1 h) (fun cdv A outer s H E hgd hr => ?_)
    have nd : N_law.Nodup := sc_law.nd
    have hu : _ + 64 < cLine := hr.units
    have tk : Takes (cxOf (L2.CX P w) P w K mg base N_law "law" (defScope s_law) f cdv A outer s H E) (fun c d _ H => E c d H) := takes_of rfl rfl rfl rfl
    have po : PassesOwn (model P w) _ _ _ := passes_of (X := cxOf (L2.CX P w) P w K mg base N_law "law" (defScope s_law) f cdv A outer s H E) rfl
    exact ⟨rd_law K, jss_cons (js_for po rfl (ji_range1 B.range (ja_cons (je_callB kc_max2 B.max (ja_cons (je_int) (ja_cons (je_callB kc_min2 B.min (ja_cons (je_callB kc_len B.len (ja_cons (je_var 0) (ja_nil))) (ja_cons (je_int) (ja_nil)))) (ja_nil)))) (ja_nil))) (jg_name (i := 1) nd) (jss_cons (js_if (jt_not (jt_val (je_callG D_law_right hgd hr tk (ja_cons (je_callD D_law_pool hr tk (ja_cons (je_var 0) (ja_cons (je_var 1) (ja_nil)))) (ja_nil))))) (jss_cons (js_ret (je_bl)) (jss_nil)) (jss_nil)) (jss_nil))) (jss_cons (js_ret (je_bl)) (jss_nil)), fun vs G M R Z h => pf_law h⟩) only [↓now_true]
theorem df_law {P : Program} {w : World} {K : PySem.W.Frag} {mg : Str → Option Value} {base : Heap} {f : Addr} {fd : FuncData} (B : Bs mg) (C : Cs K mg) (F : Fun K "law" "law" s_law f fd) (b : Binds K fd ["_law_script"] []) (gm : mg "law" = some (.ref f)) (D_law_pool : Def P w K mg base 1 "_law_pool" ["_law_script", "_law_k"] (S_law_pool K)) (D_law_right : DefG P w K mg base 8 "_law_right" ["_law_pool_here"] (S_law_right K)) :
    DefG P w K mg base 9 "law" ["_law_script"] (S_law K) := ⟨f, fd, fo_law B C F D_law_pool D_law_right, gm, F.kp, b⟩
theorem len_0 {α : Type} {P : List α → Prop} (h : P []) : ∀ us : List α, us.length = 0 → P us := fun us hl => match us, hl with
  | [], _ => h
theorem len_1 {α : Type} {P : List α → Prop} (h : ∀ a0, P [a0]) : ∀ us : List α, us.length = 1 → P us := fun us hl => match us, hl with
  | [a0], _ => h a0
theorem len_2 {α : Type} {P : List α → Prop} (h : ∀ a0 a1, P [a0, a1]) : ∀ us : List α, us.length = 2 → P us := fun us hl => match us, hl with
  | [a0, a1], _ => h a0 a1
theorem len_3 {α : Type} {P : List α → Prop} (h : ∀ a0 a1 a2, P [a0, a1, a2]) : ∀ us : List α, us.length = 3 → P us := fun us hl => match us, hl with
  | [a0, a1, a2], _ => h a0 a1 a2
theorem len_4 {α : Type} {P : List α → Prop} (h : ∀ a0 a1 a2 a3, P [a0, a1, a2, a3]) : ∀ us : List α, us.length = 4 → P us := fun us hl => match us, hl with
  | [a0, a1, a2, a3], _ => h a0 a1 a2 a3
theorem len_5 {α : Type} {P : List α → Prop} (h : ∀ a0 a1 a2 a3 a4, P [a0, a1, a2, a3, a4]) : ∀ us : List α, us.length = 5 → P us := fun us hl => match us, hl with
  | [a0, a1, a2, a3, a4], _ => h a0 a1 a2 a3 a4
theorem len_6 {α : Type} {P : List α → Prop} (h : ∀ a0 a1 a2 a3 a4 a5, P [a0, a1, a2, a3, a4, a5]) : ∀ us : List α, us.length = 6 → P us := fun us hl => match us, hl with
  | [a0, a1, a2, a3, a4, a5], _ => h a0 a1 a2 a3 a4 a5
theorem len_7 {α : Type} {P : List α → Prop} (h : ∀ a0 a1 a2 a3 a4 a5 a6, P [a0, a1, a2, a3, a4, a5, a6]) : ∀ us : List α, us.length = 7 → P us := fun us hl => match us, hl with
  | [a0, a1, a2, a3, a4, a5, a6], _ => h a0 a1 a2 a3 a4 a5 a6
theorem fa_nil {α : Type} {P : α → Prop} : ∀ x ∈ ([] : List α), P x := fun _ z => nomatch z
theorem all_mk {l : PySem.W.OpenLaw} {w : World} {K : PySem.W.Frag} {h : Heap} {mg : Str → Option Value} {fa f0 f1 f2 f3 f4 f5 f6 f7 f8 f9 f10 f11 f12 f13 f14 f15 f16 f17 f18 f19 f20 f21 f22 f23 f24 f25 f26 f27 f28 f29 f30 f31 f32 f33 : Addr} (X : K.In h) (G : h.Ns mainGlobals mg) (hfa : mg "law" = some (.ref fa))
    {od0 an0 od1 an1 od2 an2 od3 an3 od4 an4 od5 an5 od6 an6 od7 an7 od8 an8 od9 an9 od10 an10 od11 an11 od12 an12 od13 an13 od14 an14 od15 an15 od16 an16 od17 an17 od18 an18 od19 an19 od20 an20 od21 an21 od22 an22 od23 an23 od24 an24 od25 an25 od26 an26 od27 an27 od28 an28 od29 an29 od30 an30 od31 an31 od32 an32 od33 an33 : Option Addr} {sl0 sl1 sl2 sl3 sl4 sl5 sl6 sl7 sl8 sl9 sl10 sl11 sl12 sl13 sl14 sl15 sl16 sl17 sl18 sl19 sl20 sl21 sl22 sl23 sl24 sl25 sl26 sl27 sl28 sl29 sl30 sl31 sl32 sl33 : Array (Option Value)} {oc0 kV0 dc0 pm0 cd0 ct0 oc1 kV1 dc1 pm1 cd1 ct1 oc2 kV2 dc2 pm2 cd2 ct2 oc3 kV3 dc3 pm3 cd3 ct3 oc4 kV4 dc4 pm4 cd4 ct4 oc5 kV5 dc5 pm5 cd5 ct5 oc6 kV6 dc6 pm6 cd6 ct6 oc7 kV7 dc7 pm7 cd7 ct7 oc8 kV8 dc8 pm8 cd8 ct8 oc9 kV9 dc9 pm9 cd9 ct9 oc10 kV10 dc10 pm10 cd10 ct10 oc11 kV11 dc11 pm11 cd11 ct11 oc12 kV12 dc12 pm12 cd12 ct12 oc13 kV13 dc13 pm13 cd13 ct13 oc14 kV14 dc14 pm14 cd14 ct14 oc15 kV15 dc15 pm15 cd15 ct15 oc16 kV16 dc16 pm16 cd16 ct16 oc17 kV17 dc17 pm17 cd17 ct17 oc18 kV18 dc18 pm18 cd18 ct18 oc19 kV19 dc19 pm19 cd19 ct19 oc20 kV20 dc20 pm20 cd20 ct20 oc21 kV21 dc21 pm21 cd21 ct21 oc22 kV22 dc22 pm22 cd22 ct22 oc23 kV23 dc23 pm23 cd23 ct23 oc24 kV24 dc24 pm24 cd24 ct24 oc25 kV25 dc25 pm25 cd25 ct25 oc26 kV26 dc26 pm26 cd26 ct26 oc27 kV27 dc27 pm27 cd27 ct27 oc28 kV28 dc28 pm28 cd28 ct28 oc29 kV29 dc29 pm29 cd29 ct29 oc30 kV30 dc30 pm30 cd30 ct30 oc31 kV31 dc31 pm31 cd31 ct31 oc32 kV32 dc32 pm32 cd32 ct32 oc33 kV33 dc33 pm33 cd33 ct33 : Value}
    (a0 : PySem.W.nsIn K mainGlobals "_law_pool" = some (some (.ref f0))) (l0 : K.lookup f0 = some ⟨oc0, od0, .func (PySem.W.fnOf "_law_pool" "_law_pool" (defArgs s_law_pool) (defBody s_law_pool) (defScope s_law_pool) .none kV0 dc0 pm0 an0 cd0 ct0), sl0⟩) (c0 : PySem.W.codeIn K cd0 "_law_pool" = true) (k0 : PySem.W.keepIn K (.ref f0) = true)
    (a1 : PySem.W.nsIn K mainGlobals "_law_take" = some (some (.ref f1))) (l1 : K.lookup f1 = some ⟨oc1, od1, .func (PySem.W.fnOf "_law_take" "_law_take" (defArgs s_law_take) (defBody s_law_take) (defScope s_law_take) .none kV1 dc1 pm1 an1 cd1 ct1), sl1⟩) (c1 : PySem.W.codeIn K cd1 "_law_take" = true) (k1 : PySem.W.keepIn K (.ref f1) = true)
    (a2 : PySem.W.nsIn K mainGlobals "_law_kinds" = some (some (.ref f2))) (l2 : K.lookup f2 = some ⟨oc2, od2, .func (PySem.W.fnOf "_law_kinds" "_law_kinds" (defArgs s_law_kinds) (defBody s_law_kinds) (defScope s_law_kinds) .none kV2 dc2 pm2 an2 cd2 ct2), sl2⟩) (c2 : PySem.W.codeIn K cd2 "_law_kinds" = true) (k2 : PySem.W.keepIn K (.ref f2) = true)
    (a3 : PySem.W.nsIn K mainGlobals "_law_draw" = some (some (.ref f3))) (l3 : K.lookup f3 = some ⟨oc3, od3, .func (PySem.W.fnOf "_law_draw" "_law_draw" (defArgs s_law_draw) (defBody s_law_draw) (defScope s_law_draw) .none kV3 dc3 pm3 an3 cd3 ct3), sl3⟩) (c3 : PySem.W.codeIn K cd3 "_law_draw" = true) (k3 : PySem.W.keepIn K (.ref f3) = true)
    (a4 : PySem.W.nsIn K mainGlobals "_law_draws" = some (some (.ref f4))) (l4 : K.lookup f4 = some ⟨oc4, od4, .func (PySem.W.fnOf "_law_draws" "_law_draws" (defArgs s_law_draws) (defBody s_law_draws) (defScope s_law_draws) .none kV4 dc4 pm4 an4 cd4 ct4), sl4⟩) (c4 : PySem.W.codeIn K cd4 "_law_draws" = true) (k4 : PySem.W.keepIn K (.ref f4) = true)
    (a5 : PySem.W.nsIn K mainGlobals "_law_turn" = some (some (.ref f5))) (l5 : K.lookup f5 = some ⟨oc5, od5, .func (PySem.W.fnOf "_law_turn" "_law_turn" (defArgs s_law_turn) (defBody s_law_turn) (defScope s_law_turn) .none kV5 dc5 pm5 an5 cd5 ct5), sl5⟩) (c5 : PySem.W.codeIn K cd5 "_law_turn" = true) (k5 : PySem.W.keepIn K (.ref f5) = true)
    (a6 : PySem.W.nsIn K mainGlobals "_law_paper" = some (some (.ref f6))) (l6 : K.lookup f6 = some ⟨oc6, od6, .func (PySem.W.fnOf "_law_paper" "_law_paper" (defArgs s_law_paper) (defBody s_law_paper) (defScope s_law_paper) .none kV6 dc6 pm6 an6 cd6 ct6), sl6⟩) (c6 : PySem.W.codeIn K cd6 "_law_paper" = true) (k6 : PySem.W.keepIn K (.ref f6) = true)
    (a7 : PySem.W.nsIn K mainGlobals "_law_sharing" = some (some (.ref f7))) (l7 : K.lookup f7 = some ⟨oc7, od7, .func (PySem.W.fnOf "_law_sharing" "_law_sharing" (defArgs s_law_sharing) (defBody s_law_sharing) (defScope s_law_sharing) .none kV7 dc7 pm7 an7 cd7 ct7), sl7⟩) (c7 : PySem.W.codeIn K cd7 "_law_sharing" = true) (k7 : PySem.W.keepIn K (.ref f7) = true)
    (a8 : PySem.W.nsIn K mainGlobals "_law_drawn_paper" = some (some (.ref f8))) (l8 : K.lookup f8 = some ⟨oc8, od8, .func (PySem.W.fnOf "_law_drawn_paper" "_law_drawn_paper" (defArgs s_law_drawn_paper) (defBody s_law_drawn_paper) (defScope s_law_drawn_paper) .none kV8 dc8 pm8 an8 cd8 ct8), sl8⟩) (c8 : PySem.W.codeIn K cd8 "_law_drawn_paper" = true) (k8 : PySem.W.keepIn K (.ref f8) = true)
    (a9 : PySem.W.nsIn K mainGlobals "exchange" = some (some (.ref f9))) (l9 : K.lookup f9 = some ⟨oc9, od9, .func (PySem.W.fnOf "exchange" "exchange" (defArgs s_exchange) (defBody s_exchange) (defScope s_exchange) .none kV9 dc9 pm9 an9 cd9 ct9), sl9⟩) (c9 : PySem.W.codeIn K cd9 "exchange" = true) (k9 : PySem.W.keepIn K (.ref f9) = true)
    (a10 : PySem.W.nsIn K mainGlobals "order_of" = some (some (.ref f10))) (l10 : K.lookup f10 = some ⟨oc10, od10, .func (PySem.W.fnOf "order_of" "order_of" (defArgs s_order_of) (defBody s_order_of) (defScope s_order_of) .none kV10 dc10 pm10 an10 cd10 ct10), sl10⟩) (c10 : PySem.W.codeIn K cd10 "order_of" = true) (k10 : PySem.W.keepIn K (.ref f10) = true)
    (a11 : PySem.W.nsIn K mainGlobals "is_whole" = some (some (.ref f11))) (l11 : K.lookup f11 = some ⟨oc11, od11, .func (PySem.W.fnOf "is_whole" "is_whole" (defArgs s_is_whole) (defBody s_is_whole) (defScope s_is_whole) .none kV11 dc11 pm11 an11 cd11 ct11), sl11⟩) (c11 : PySem.W.codeIn K cd11 "is_whole" = true) (k11 : PySem.W.keepIn K (.ref f11) = true)
    (a12 : PySem.W.nsIn K mainGlobals "is_within" = some (some (.ref f12))) (l12 : K.lookup f12 = some ⟨oc12, od12, .func (PySem.W.fnOf "is_within" "is_within" (defArgs s_is_within) (defBody s_is_within) (defScope s_is_within) .none kV12 dc12 pm12 an12 cd12 ct12), sl12⟩) (c12 : PySem.W.codeIn K cd12 "is_within" = true) (k12 : PySem.W.keepIn K (.ref f12) = true)
    (a13 : PySem.W.nsIn K mainGlobals "is_order" = some (some (.ref f13))) (l13 : K.lookup f13 = some ⟨oc13, od13, .func (PySem.W.fnOf "is_order" "is_order" (defArgs s_is_order) (defBody s_is_order) (defScope s_is_order) .none kV13 dc13 pm13 an13 cd13 ct13), sl13⟩) (c13 : PySem.W.codeIn K cd13 "is_order" = true) (k13 : PySem.W.keepIn K (.ref f13) = true)
    (a14 : PySem.W.nsIn K mainGlobals "row_of" = some (some (.ref f14))) (l14 : K.lookup f14 = some ⟨oc14, od14, .func (PySem.W.fnOf "row_of" "row_of" (defArgs s_row_of) (defBody s_row_of) (defScope s_row_of) .none kV14 dc14 pm14 an14 cd14 ct14), sl14⟩) (c14 : PySem.W.codeIn K cd14 "row_of" = true) (k14 : PySem.W.keepIn K (.ref f14) = true)
    (a15 : PySem.W.nsIn K mainGlobals "led_draw" = some (some (.ref f15))) (l15 : K.lookup f15 = some ⟨oc15, od15, .func (PySem.W.fnOf "led_draw" "led_draw" (defArgs s_led_draw) (defBody s_led_draw) (defScope s_led_draw) .none kV15 dc15 pm15 an15 cd15 ct15), sl15⟩) (c15 : PySem.W.codeIn K cd15 "led_draw" = true) (k15 : PySem.W.keepIn K (.ref f15) = true)
    (a16 : PySem.W.nsIn K mainGlobals "led" = some (some (.ref f16))) (l16 : K.lookup f16 = some ⟨oc16, od16, .func (PySem.W.fnOf "led" "led" (defArgs s_led) (defBody s_led) (defScope s_led) .none kV16 dc16 pm16 an16 cd16 ct16), sl16⟩) (c16 : PySem.W.codeIn K cd16 "led" = true) (k16 : PySem.W.keepIn K (.ref f16) = true)
    (a17 : PySem.W.nsIn K mainGlobals "_law_whole" = some (some (.ref f17))) (l17 : K.lookup f17 = some ⟨oc17, od17, .func (PySem.W.fnOf "_law_whole" "_law_whole" (defArgs s_law_whole) (defBody s_law_whole) (defScope s_law_whole) .none kV17 dc17 pm17 an17 cd17 ct17), sl17⟩) (c17 : PySem.W.codeIn K cd17 "_law_whole" = true) (k17 : PySem.W.keepIn K (.ref f17) = true)
    (a18 : PySem.W.nsIn K mainGlobals "_law_are_draws" = some (some (.ref f18))) (l18 : K.lookup f18 = some ⟨oc18, od18, .func (PySem.W.fnOf "_law_are_draws" "_law_are_draws" (defArgs s_law_are_draws) (defBody s_law_are_draws) (defScope s_law_are_draws) .none kV18 dc18 pm18 an18 cd18 ct18), sl18⟩) (c18 : PySem.W.codeIn K cd18 "_law_are_draws" = true) (k18 : PySem.W.keepIn K (.ref f18) = true)
    (a19 : PySem.W.nsIn K mainGlobals "_law_order" = some (some (.ref f19))) (l19 : K.lookup f19 = some ⟨oc19, od19, .func (PySem.W.fnOf "_law_order" "_law_order" (defArgs s_law_order) (defBody s_law_order) (defScope s_law_order) .none kV19 dc19 pm19 an19 cd19 ct19), sl19⟩) (c19 : PySem.W.codeIn K cd19 "_law_order" = true) (k19 : PySem.W.keepIn K (.ref f19) = true)
    (a20 : PySem.W.nsIn K mainGlobals "_law_orders" = some (some (.ref f20))) (l20 : K.lookup f20 = some ⟨oc20, od20, .func (PySem.W.fnOf "_law_orders" "_law_orders" (defArgs s_law_orders) (defBody s_law_orders) (defScope s_law_orders) .none kV20 dc20 pm20 an20 cd20 ct20), sl20⟩) (c20 : PySem.W.codeIn K cd20 "_law_orders" = true) (k20 : PySem.W.keepIn K (.ref f20) = true)
    (a21 : PySem.W.nsIn K mainGlobals "_law_led" = some (some (.ref f21))) (l21 : K.lookup f21 = some ⟨oc21, od21, .func (PySem.W.fnOf "_law_led" "_law_led" (defArgs s_law_led) (defBody s_law_led) (defScope s_law_led) .none kV21 dc21 pm21 an21 cd21 ct21), sl21⟩) (c21 : PySem.W.codeIn K cd21 "_law_led" = true) (k21 : PySem.W.keepIn K (.ref f21) = true)
    (a22 : PySem.W.nsIn K mainGlobals "inverse" = some (some (.ref f22))) (l22 : K.lookup f22 = some ⟨oc22, od22, .func (PySem.W.fnOf "inverse" "inverse" (defArgs s_inverse) (defBody s_inverse) (defScope s_inverse) .none kV22 dc22 pm22 an22 cd22 ct22), sl22⟩) (c22 : PySem.W.codeIn K cd22 "inverse" = true) (k22 : PySem.W.keepIn K (.ref f22) = true)
    (a23 : PySem.W.nsIn K mainGlobals "back" = some (some (.ref f23))) (l23 : K.lookup f23 = some ⟨oc23, od23, .func (PySem.W.fnOf "back" "back" (defArgs s_back) (defBody s_back) (defScope s_back) .none kV23 dc23 pm23 an23 cd23 ct23), sl23⟩) (c23 : PySem.W.codeIn K cd23 "back" = true) (k23 : PySem.W.keepIn K (.ref f23) = true)
    (a24 : PySem.W.nsIn K mainGlobals "joined" = some (some (.ref f24))) (l24 : K.lookup f24 = some ⟨oc24, od24, .func (PySem.W.fnOf "joined" "joined" (defArgs s_joined) (defBody s_joined) (defScope s_joined) .none kV24 dc24 pm24 an24 cd24 ct24), sl24⟩) (c24 : PySem.W.codeIn K cd24 "joined" = true) (k24 : PySem.W.keepIn K (.ref f24) = true)
    (a25 : PySem.W.nsIn K mainGlobals "is_part" = some (some (.ref f25))) (l25 : K.lookup f25 = some ⟨oc25, od25, .func (PySem.W.fnOf "is_part" "is_part" (defArgs s_is_part) (defBody s_is_part) (defScope s_is_part) .none kV25 dc25 pm25 an25 cd25 ct25), sl25⟩) (c25 : PySem.W.codeIn K cd25 "is_part" = true) (k25 : PySem.W.keepIn K (.ref f25) = true)
    (a26 : PySem.W.nsIn K mainGlobals "is_paper" = some (some (.ref f26))) (l26 : K.lookup f26 = some ⟨oc26, od26, .func (PySem.W.fnOf "is_paper" "is_paper" (defArgs s_is_paper) (defBody s_is_paper) (defScope s_is_paper) .none kV26 dc26 pm26 an26 cd26 ct26), sl26⟩) (c26 : PySem.W.codeIn K cd26 "is_paper" = true) (k26 : PySem.W.keepIn K (.ref f26) = true)
    (a27 : PySem.W.nsIn K mainGlobals "is_led" = some (some (.ref f27))) (l27 : K.lookup f27 = some ⟨oc27, od27, .func (PySem.W.fnOf "is_led" "is_led" (defArgs s_is_led) (defBody s_is_led) (defScope s_is_led) .none kV27 dc27 pm27 an27 cd27 ct27), sl27⟩) (c27 : PySem.W.codeIn K cd27 "is_led" = true) (k27 : PySem.W.keepIn K (.ref f27) = true)
    (a28 : PySem.W.nsIn K mainGlobals "is_leading" = some (some (.ref f28))) (l28 : K.lookup f28 = some ⟨oc28, od28, .func (PySem.W.fnOf "is_leading" "is_leading" (defArgs s_is_leading) (defBody s_is_leading) (defScope s_is_leading) .none kV28 dc28 pm28 an28 cd28 ct28), sl28⟩) (c28 : PySem.W.codeIn K cd28 "is_leading" = true) (k28 : PySem.W.keepIn K (.ref f28) = true)
    (a29 : PySem.W.nsIn K mainGlobals "_law_apart" = some (some (.ref f29))) (l29 : K.lookup f29 = some ⟨oc29, od29, .func (PySem.W.fnOf "_law_apart" "_law_apart" (defArgs s_law_apart) (defBody s_law_apart) (defScope s_law_apart) .none kV29 dc29 pm29 an29 cd29 ct29), sl29⟩) (c29 : PySem.W.codeIn K cd29 "_law_apart" = true) (k29 : PySem.W.keepIn K (.ref f29) = true)
    (a30 : PySem.W.nsIn K mainGlobals "_law_other_draws" = some (some (.ref f30))) (l30 : K.lookup f30 = some ⟨oc30, od30, .func (PySem.W.fnOf "_law_other_draws" "_law_other_draws" (defArgs s_law_other_draws) (defBody s_law_other_draws) (defScope s_law_other_draws) .none kV30 dc30 pm30 an30 cd30 ct30), sl30⟩) (c30 : PySem.W.codeIn K cd30 "_law_other_draws" = true) (k30 : PySem.W.keepIn K (.ref f30) = true)
    (a31 : PySem.W.nsIn K mainGlobals "_law_as_ahead" = some (some (.ref f31))) (l31 : K.lookup f31 = some ⟨oc31, od31, .func (PySem.W.fnOf "_law_as_ahead" "_law_as_ahead" (defArgs s_law_as_ahead) (defBody s_law_as_ahead) (defScope s_law_as_ahead) .none kV31 dc31 pm31 an31 cd31 ct31), sl31⟩) (c31 : PySem.W.codeIn K cd31 "_law_as_ahead" = true) (k31 : PySem.W.keepIn K (.ref f31) = true)
    (a32 : PySem.W.nsIn K mainGlobals "_law_right" = some (some (.ref f32))) (l32 : K.lookup f32 = some ⟨oc32, od32, .func (PySem.W.fnOf "_law_right" "_law_right" (defArgs s_law_right) (defBody s_law_right) (defScope s_law_right) .none kV32 dc32 pm32 an32 cd32 ct32), sl32⟩) (c32 : PySem.W.codeIn K cd32 "_law_right" = true) (k32 : PySem.W.keepIn K (.ref f32) = true)
    (a33 : PySem.W.nsIn K mainGlobals "law" = some (some (.ref f33))) (l33 : K.lookup f33 = some ⟨oc33, od33, .func (PySem.W.fnOf "law" "law" (defArgs s_law) (defBody s_law) (defScope s_law) .none kV33 dc33 pm33 an33 cd33 ct33), sl33⟩) (c33 : PySem.W.codeIn K cd33 "law" = true) (k33 : PySem.W.keepIn K (.ref f33) = true)
    (z_all : PySem.W.nsIn K mainGlobals "all" = some none)
    (z_bool : PySem.W.nsIn K mainGlobals "bool" = some none)
    (z_enumerate : PySem.W.nsIn K mainGlobals "enumerate" = some none)
    (z_int : PySem.W.nsIn K mainGlobals "int" = some none)
    (z_isinstance : PySem.W.nsIn K mainGlobals "isinstance" = some none)
    (z_len : PySem.W.nsIn K mainGlobals "len" = some none)
    (z_list : PySem.W.nsIn K mainGlobals "list" = some none)
    (z_max : PySem.W.nsIn K mainGlobals "max" = some none)
    (z_min : PySem.W.nsIn K mainGlobals "min" = some none)
    (z_range : PySem.W.nsIn K mainGlobals "range" = some none)
    (z_repr : PySem.W.nsIn K mainGlobals "repr" = some none)
    (z_reversed : PySem.W.nsIn K mainGlobals "reversed" = some none)
    (z_set : PySem.W.nsIn K mainGlobals "set" = some none)
    (z_tuple : PySem.W.nsIn K mainGlobals "tuple" = some none)
    (z_zip : PySem.W.nsIn K mainGlobals "zip" = some none)
    {X_NoOrder : Addr}
    {tk_MOST : Tok}
    (xa_NoOrder : PySem.W.nsIn K mainGlobals "NoOrder" = some (some (.ref X_NoOrder)))
    (xk_NoOrder : PySem.W.keepIn K (.ref X_NoOrder) = true)
    (xx_NoOrder : PySem.W.excIn K X_NoOrder [.type "ValueError", .type "Exception", .type "BaseException", .type "object"] "ValueError.__new__" = true)
    (xb_NoOrder : PySem.W.subIn K (.ref X_NoOrder) (.type "BaseException") = some true)
    (xt_NoOrder : PySem.W.typeIn K (.ref X_NoOrder) = some (.type "type"))
    (x4_NoOrder : PySem.W.hasDictIn K X_NoOrder = true)
    (ka_MOST : PySem.W.nsIn K mainGlobals "MOST" = some (some (.int 64 tk_MOST)))
    : ∃ fd : FuncData, (∀ (s : Shared) (v : Value), BindsTo s fd ⟨[v], []⟩ [("_law_script", v)]) ∧ ∀ base : Heap, K.In base → base.Ns mainGlobals mg → GFn l.prog w K mg base 9 fa fd ["_law_script"] (lift (S_law K)) := by
  refine of_now ?_
  simp (disch := with_unfolding_all
    have e := hfa.symm.trans (PySem.W.mg_of X G a33)
    cases e
    have B : Bs mg := ⟨PySem.W.mg_none_of X G z_all, PySem.W.mg_none_of X G z_bool, PySem.W.mg_none_of X G z_enumerate, PySem.W.mg_none_of X G z_int, PySem.W.mg_none_of X G z_isinstance, PySem.W.mg_none_of X G z_len, PySem.W.mg_none_of X G z_list, PySem.W.mg_none_of X G z_max, PySem.W.mg_none_of X G z_min, PySem.W.mg_none_of X G z_range, PySem.W.mg_none_of X G z_repr, PySem.W.mg_none_of X G z_reversed, PySem.W.mg_none_of X G z_set, PySem.W.mg_none_of X G z_tuple, PySem.W.mg_none_of X G z_zip⟩
    have C : Cs K mg := ⟨xg_mk X G xa_NoOrder xk_NoOrder, xr_mk xa_NoOrder xx_NoOrder xb_NoOrder xt_NoOrder, ⟨_, PySem.W.mg_of X G ka_MOST, _, rfl⟩⟩
    have F0 := fun_mk (st := s_law_pool) l0 c0 k0
    have b0 := F0.binds (ps := ["_law_script", "_law_k"]) fun _ _ _ _ _ _ us hl => len_2 (P := fun us => bindArgs _ { pos := us } = pure (List.zip _ us)) (fun _ _ => rfl) us hl
    have F1 := fun_mk (st := s_law_take) l1 c1 k1
    have b1 := F1.binds (ps := ["_law_pool_here", "_law_many"]) fun _ _ _ _ _ _ us hl => len_2 (P := fun us => bindArgs _ { pos := us } = pure (List.zip _ us)) (fun _ _ => rfl) us hl
    have F2 := fun_mk (st := s_law_kinds) l2 c2 k2
    have b2 := F2.binds (ps := ["_law_pool_here", "_law_most", "_law_far"]) fun _ _ _ _ _ _ us hl => len_3 (P := fun us => bindArgs _ { pos := us } = pure (List.zip _ us)) (fun _ _ _ => rfl) us hl
    have F3 := fun_mk (st := s_law_draw) l3 c3 k3
    have b3 := F3.binds (ps := ["_law_pool_here", "_law_kind"]) fun _ _ _ _ _ _ us hl => len_2 (P := fun us => bindArgs _ { pos := us } = pure (List.zip _ us)) (fun _ _ => rfl) us hl
    have F4 := fun_mk (st := s_law_draws) l4 c4 k4
    have b4 := F4.binds (ps := ["_law_pool_here", "_law_kinds_here"]) fun _ _ _ _ _ _ us hl => len_2 (P := fun us => bindArgs _ { pos := us } = pure (List.zip _ us)) (fun _ _ => rfl) us hl
    have F5 := fun_mk (st := s_law_turn) l5 c5 k5
    have b5 := F5.binds (ps := ["_law_pool_here", "_law_size"]) fun _ _ _ _ _ _ us hl => len_2 (P := fun us => bindArgs _ { pos := us } = pure (List.zip _ us)) (fun _ _ => rfl) us hl
    have F6 := fun_mk (st := s_law_paper) l6 c6 k6
    have b6 := F6.binds (ps := ["_law_pool_here", "_law_kinds_here"]) fun _ _ _ _ _ _ us hl => len_2 (P := fun us => bindArgs _ { pos := us } = pure (List.zip _ us)) (fun _ _ => rfl) us hl
    have F7 := fun_mk (st := s_law_sharing) l7 c7 k7
    have b7 := F7.binds (ps := ["_law_kinds_here", "_law_paper_here"]) fun _ _ _ _ _ _ us hl => len_2 (P := fun us => bindArgs _ { pos := us } = pure (List.zip _ us)) (fun _ _ => rfl) us hl
    have F8 := fun_mk (st := s_law_drawn_paper) l8 c8 k8
    have b8 := F8.binds (ps := ["_law_pool_here", "_law_kinds_here"]) fun _ _ _ _ _ _ us hl => len_2 (P := fun us => bindArgs _ { pos := us } = pure (List.zip _ us)) (fun _ _ => rfl) us hl
    have F9 := fun_mk (st := s_exchange) l9 c9 k9
    have b9 := F9.binds (ps := ["row", "one", "other"]) fun _ _ _ _ _ _ us hl => len_3 (P := fun us => bindArgs _ { pos := us } = pure (List.zip _ us)) (fun _ _ _ => rfl) us hl
    have F10 := fun_mk (st := s_order_of) l10 c10 k10
    have b10 := F10.binds (ps := ["row"]) fun _ _ _ _ _ _ us hl => len_1 (P := fun us => bindArgs _ { pos := us } = pure (List.zip _ us)) (fun _ => rfl) us hl
    have F11 := fun_mk (st := s_is_whole) l11 c11 k11
    have b11 := F11.binds (ps := ["thing"]) fun _ _ _ _ _ _ us hl => len_1 (P := fun us => bindArgs _ { pos := us } = pure (List.zip _ us)) (fun _ => rfl) us hl
    have F12 := fun_mk (st := s_is_within) l12 c12 k12
    have b12 := F12.binds (ps := ["thing", "least", "most"]) fun _ _ _ _ _ _ us hl => len_3 (P := fun us => bindArgs _ { pos := us } = pure (List.zip _ us)) (fun _ _ _ => rfl) us hl
    have F13 := fun_mk (st := s_is_order) l13 c13 k13
    have b13 := F13.binds (ps := ["thing"]) fun _ _ _ _ _ _ us hl => len_1 (P := fun us => bindArgs _ { pos := us } = pure (List.zip _ us)) (fun _ => rfl) us hl
    have F14 := fun_mk (st := s_row_of) l14 c14 k14
    have b14 := F14.binds (ps := ["order"]) fun _ _ _ _ _ _ us hl => len_1 (P := fun us => bindArgs _ { pos := us } = pure (List.zip _ us)) (fun _ => rfl) us hl
    have F15 := fun_mk (st := s_led_draw) l15 c15 k15
    have b15 := F15.binds (ps := ["part", "draws"]) fun _ _ _ _ _ _ us hl => len_2 (P := fun us => bindArgs _ { pos := us } = pure (List.zip _ us)) (fun _ _ => rfl) us hl
    have F16 := fun_mk (st := s_led) l16 c16 k16
    have b16 := F16.binds (ps := ["kinds", "leading", "draws"]) fun _ _ _ _ _ _ us hl => len_3 (P := fun us => bindArgs _ { pos := us } = pure (List.zip _ us)) (fun _ _ _ => rfl) us hl
    have F17 := fun_mk (st := s_law_whole) l17 c17 k17
    have b17 := F17.binds (ps := ["_law_found"]) fun _ _ _ _ _ _ us hl => len_1 (P := fun us => bindArgs _ { pos := us } = pure (List.zip _ us)) (fun _ => rfl) us hl
    have F18 := fun_mk (st := s_law_are_draws) l18 c18 k18
    have b18 := F18.binds (ps := ["_law_kinds_here", "_law_thing"]) fun _ _ _ _ _ _ us hl => len_2 (P := fun us => bindArgs _ { pos := us } = pure (List.zip _ us)) (fun _ _ => rfl) us hl
    have F19 := fun_mk (st := s_law_order) l19 c19 k19
    have b19 := F19.binds (ps := ["_law_row"]) fun _ _ _ _ _ _ us hl => len_1 (P := fun us => bindArgs _ { pos := us } = pure (List.zip _ us)) (fun _ => rfl) us hl
    have F20 := fun_mk (st := s_law_orders) l20 c20 k20
    have b20 := F20.binds (ps := ["_law_kinds_here", "_law_draws_here"]) fun _ _ _ _ _ _ us hl => len_2 (P := fun us => bindArgs _ { pos := us } = pure (List.zip _ us)) (fun _ _ => rfl) us hl
    have F21 := fun_mk (st := s_law_led) l21 c21 k21
    have b21 := F21.binds (ps := ["_law_kinds_here", "_law_paper_here", "_law_draws_here"]) fun _ _ _ _ _ _ us hl => len_3 (P := fun us => bindArgs _ { pos := us } = pure (List.zip _ us)) (fun _ _ _ => rfl) us hl
    have F22 := fun_mk (st := s_inverse) l22 c22 k22
    have b22 := F22.binds (ps := ["order"]) fun _ _ _ _ _ _ us hl => len_1 (P := fun us => bindArgs _ { pos := us } = pure (List.zip _ us)) (fun _ => rfl) us hl
    have F23 := fun_mk (st := s_back) l23 c23 k23
    have b23 := F23.binds (ps := ["leading"]) fun _ _ _ _ _ _ us hl => len_1 (P := fun us => bindArgs _ { pos := us } = pure (List.zip _ us)) (fun _ => rfl) us hl
    have F24 := fun_mk (st := s_joined) l24 c24 k24
    have b24 := F24.binds (ps := ["first", "second"]) fun _ _ _ _ _ _ us hl => len_2 (P := fun us => bindArgs _ { pos := us } = pure (List.zip _ us)) (fun _ _ => rfl) us hl
    have F25 := fun_mk (st := s_is_part) l25 c25 k25
    have b25 := F25.binds (ps := ["kinds", "place", "thing"]) fun _ _ _ _ _ _ us hl => len_3 (P := fun us => bindArgs _ { pos := us } = pure (List.zip _ us)) (fun _ _ _ => rfl) us hl
    have F26 := fun_mk (st := s_is_paper) l26 c26 k26
    have b26 := F26.binds (ps := ["kinds", "thing"]) fun _ _ _ _ _ _ us hl => len_2 (P := fun us => bindArgs _ { pos := us } = pure (List.zip _ us)) (fun _ _ => rfl) us hl
    have F27 := fun_mk (st := s_is_led) l27 c27 k27
    have b27 := F27.binds (ps := ["one", "other", "paper"]) fun _ _ _ _ _ _ us hl => len_3 (P := fun us => bindArgs _ { pos := us } = pure (List.zip _ us)) (fun _ _ _ => rfl) us hl
    have F28 := fun_mk (st := s_is_leading) l28 c28 k28
    have b28 := F28.binds (ps := ["kinds", "one", "other", "thing"]) fun _ _ _ _ _ _ us hl => len_4 (P := fun us => bindArgs _ { pos := us } = pure (List.zip _ us)) (fun _ _ _ _ => rfl) us hl
    have F29 := fun_mk (st := s_law_apart) l29 c29 k29
    have b29 := F29.binds (ps := ["_law_told"]) fun _ _ _ _ _ _ us hl => len_1 (P := fun us => bindArgs _ { pos := us } = pure (List.zip _ us)) (fun _ => rfl) us hl
    have F30 := fun_mk (st := s_law_other_draws) l30 c30 k30
    have b30 := F30.binds (ps := ["_law_pool_here", "_law_kinds_here", "_law_draws_here"]) fun _ _ _ _ _ _ us hl => len_3 (P := fun us => bindArgs _ { pos := us } = pure (List.zip _ us)) (fun _ _ _ => rfl) us hl
    have F31 := fun_mk (st := s_law_as_ahead) l31 c31 k31
    have b31 := F31.binds (ps := ["_law_kinds_here", "_law_paper_here", "_law_draws_here"]) fun _ _ _ _ _ _ us hl => len_3 (P := fun us => bindArgs _ { pos := us } = pure (List.zip _ us)) (fun _ _ _ => rfl) us hl
    have F32 := fun_mk (st := s_law_right) l32 c32 k32
    have b32 := F32.binds (ps := ["_law_pool_here"]) fun _ _ _ _ _ _ us hl => len_1 (P := fun us => bindArgs _ { pos := us } = pure (List.zip _ us)) (fun _ => rfl) us hl
    have F33 := fun_mk (st := s_law) l33 c33 k33
    have b33 := F33.binds (ps := ["_law_script"]) fun _ _ _ _ _ _ us hl => len_1 (P := fun us => bindArgs _ { pos := us } = pure (List.zip _ us)) (fun _ => rfl) us hl
    refine ⟨PySem.W.fnOf "law" "law" (defArgs s_law) (defBody s_law) (defScope s_law) .none kV33 dc33 pm33 an33 cd33 ct33, fun s v => .of_eq rfl, fun base _ _ => ?_⟩
    have D_law_pool := df_law_pool (P := l.prog) (w := w) (base := base) B C F0 b0 (PySem.W.mg_of X G a0) 
    have D_law_take := df_law_take (P := l.prog) (w := w) (base := base) B C F1 b1 (PySem.W.mg_of X G a1) 
    have D_law_kinds := df_law_kinds (P := l.prog) (w := w) (base := base) B C F2 b2 (PySem.W.mg_of X G a2) D_law_take
    have D_law_draw := df_law_draw (P := l.prog) (w := w) (base := base) B C F3 b3 (PySem.W.mg_of X G a3) D_law_take
    have D_law_draws := df_law_draws (P := l.prog) (w := w) (base := base) B C F4 b4 (PySem.W.mg_of X G a4) D_law_draw
    have D_law_turn := df_law_turn (P := l.prog) (w := w) (base := base) B C F5 b5 (PySem.W.mg_of X G a5) D_law_take
    have D_law_paper := df_law_paper (P := l.prog) (w := w) (base := base) B C F6 b6 (PySem.W.mg_of X G a6) D_law_take D_law_turn
    have D_law_sharing := df_law_sharing (P := l.prog) (w := w) (base := base) B C F7 b7 (PySem.W.mg_of X G a7) 
    have D_law_drawn_paper := df_law_drawn_paper (P := l.prog) (w := w) (base := base) B C F8 b8 (PySem.W.mg_of X G a8) D_law_paper D_law_take D_law_sharing
    have D_exchange := df_exchange (P := l.prog) (w := w) (base := base) B C F9 b9 (PySem.W.mg_of X G a9) 
    have D_order_of := df_order_of (P := l.prog) (w := w) (base := base) B C F10 b10 (PySem.W.mg_of X G a10) D_exchange
    have D_is_whole := df_is_whole (P := l.prog) (w := w) (base := base) B C F11 b11 (PySem.W.mg_of X G a11) 
    have D_is_within := df_is_within (P := l.prog) (w := w) (base := base) B C F12 b12 (PySem.W.mg_of X G a12) D_is_whole
    have D_is_order := df_is_order (P := l.prog) (w := w) (base := base) B C F13 b13 (PySem.W.mg_of X G a13) D_is_within
    have D_row_of := df_row_of (P := l.prog) (w := w) (base := base) B C F14 b14 (PySem.W.mg_of X G a14) D_is_order D_exchange
    have D_led_draw := df_led_draw (P := l.prog) (w := w) (base := base) B C F15 b15 (PySem.W.mg_of X G a15) D_order_of D_row_of
    have D_led := df_led (P := l.prog) (w := w) (base := base) B C F16 b16 (PySem.W.mg_of X G a16) D_led_draw
    have D_law_whole := df_law_whole (P := l.prog) (w := w) (base := base) B C F17 b17 (PySem.W.mg_of X G a17) 
    have D_law_are_draws := df_law_are_draws (P := l.prog) (w := w) (base := base) B C F18 b18 (PySem.W.mg_of X G a18) D_law_whole
    have D_law_order := df_law_order (P := l.prog) (w := w) (base := base) B C F19 b19 (PySem.W.mg_of X G a19) 
    have D_law_orders := df_law_orders (P := l.prog) (w := w) (base := base) B C F20 b20 (PySem.W.mg_of X G a20) D_law_order
    have D_law_led := df_law_led (P := l.prog) (w := w) (base := base) B C F21 b21 (PySem.W.mg_of X G a21) D_law_order
    have D_inverse := df_inverse (P := l.prog) (w := w) (base := base) B C F22 b22 (PySem.W.mg_of X G a22) 
    have D_back := df_back (P := l.prog) (w := w) (base := base) B C F23 b23 (PySem.W.mg_of X G a23) D_inverse
    have D_joined := df_joined (P := l.prog) (w := w) (base := base) B C F24 b24 (PySem.W.mg_of X G a24) 
    have D_is_part := df_is_part (P := l.prog) (w := w) (base := base) B C F25 b25 (PySem.W.mg_of X G a25) D_is_within D_is_order
    have D_is_paper := df_is_paper (P := l.prog) (w := w) (base := base) B C F26 b26 (PySem.W.mg_of X G a26) D_is_part
    have D_is_led := df_is_led (P := l.prog) (w := w) (base := base) B C F27 b27 (PySem.W.mg_of X G a27) 
    have D_is_leading := df_is_leading (P := l.prog) (w := w) (base := base) B C F28 b28 (PySem.W.mg_of X G a28) D_is_paper D_is_led
    have D_law_apart := df_law_apart (P := l.prog) (w := w) (base := base) B C F29 b29 (PySem.W.mg_of X G a29) 
    have D_law_other_draws := df_law_other_draws (P := l.prog) (w := w) (base := base) B C F30 b30 (PySem.W.mg_of X G a30) D_law_take
    have D_law_as_ahead := df_law_as_ahead (P := l.prog) (w := w) (base := base) B C F31 b31 (PySem.W.mg_of X G a31) D_back D_joined D_led
    have D_law_right := df_law_right (P := l.prog) (w := w) (base := base) B C F32 b32 (PySem.W.mg_of X G a32) D_law_kinds D_law_draws D_law_drawn_paper D_led D_law_are_draws D_law_orders D_law_led D_back D_joined D_is_leading D_law_apart D_law_other_draws D_law_as_ahead
    exact fo_law (P := l.prog) (w := w) (base := base) B C F33 D_law_pool D_law_right) only [↓now_true]
end BT
def PySem.W.Fast.tw2458119589864001313 := 0
def PySem.W.Fast.tw8072282609733572069 := 0
def PySem.W.Fast.tw12303569294049687274 := 0
def PySem.W.Fast.tw8458448232255104879 := 0
def PySem.W.Fast.tw2426287653094257105 := 0
def PySem.W.Fast.tw14631309305770635187 := 0
def PySem.W.Fast.tw17808548599373651671 := 0
def PySem.W.Fast.tw8453697947369299163 := 0
def PySem.W.Fast.tw10905293877579487357 := 0
open PySem PySem.W PyProof.Rows
set_option maxHeartbeats 0 in
theorem PySem.Challenge.cw_blindtouch_k51_led_back_and_joined_holds : PySem.Challenge.rw_blindtouch_k51_led_back_and_joined.Holds := by
  w_on; o_law; k_head; (case hw => w_witness2)
  k_fill
  refine BT.walk_ofG (l := PySem.Challenge.rw_blindtouch_k51_led_back_and_joined) (n := 63) (k := 9) (x := "_law_script") (sp := fun w => BT.lift (BT.S_law _)) rfl (by decide) rfl ⟨rfl, by decide, by decide⟩ (fun w h Y => PySem.W.kIn_of Y) ?F (fun _ H a ns hl _ hS => BT.law_start hl hS)
  case F =>
    intro w mg fa h KX G hmg
    refine' BT.all_mk KX G hmg ?a0 ?l0 ?c0 ?k0 ?a1 ?l1 ?c1 ?k1 ?a2 ?l2 ?c2 ?k2 ?a3 ?l3 ?c3 ?k3 ?a4 ?l4 ?c4 ?k4 ?a5 ?l5 ?c5 ?k5 ?a6 ?l6 ?c6 ?k6 ?a7 ?l7 ?c7 ?k7 ?a8 ?l8 ?c8 ?k8 ?a9 ?l9 ?c9 ?k9 ?a10 ?l10 ?c10 ?k10 ?a11 ?l11 ?c11 ?k11 ?a12 ?l12 ?c12 ?k12 ?a13 ?l13 ?c13 ?k13 ?a14 ?l14 ?c14 ?k14 ?a15 ?l15 ?c15 ?k15 ?a16 ?l16 ?c16 ?k16 ?a17 ?l17 ?c17 ?k17 ?a18 ?l18 ?c18 ?k18 ?a19 ?l19 ?c19 ?k19 ?a20 ?l20 ?c20 ?k20 ?a21 ?l21 ?c21 ?k21 ?a22 ?l22 ?c22 ?k22 ?a23 ?l23 ?c23 ?k23 ?a24 ?l24 ?c24 ?k24 ?a25 ?l25 ?c25 ?k25 ?a26 ?l26 ?c26 ?k26 ?a27 ?l27 ?c27 ?k27 ?a28 ?l28 ?c28 ?k28 ?a29 ?l29 ?c29 ?k29 ?a30 ?l30 ?c30 ?k30 ?a31 ?l31 ?c31 ?k31 ?a32 ?l32 ?c32 ?k32 ?a33 ?l33 ?c33 ?k33 ?z_all ?z_bool ?z_enumerate ?z_int ?z_isinstance ?z_len ?z_list ?z_max ?z_min ?z_range ?z_repr ?z_reversed ?z_set ?z_tuple ?z_zip ?xa_NoOrder ?xk_NoOrder ?xx_NoOrder ?xb_NoOrder ?xt_NoOrder ?x4_NoOrder ?ka_MOST
    (case a0 => k_is); (case l0 => k_is); (case c0 => k_is); (case k0 => k_is); (case a1 => k_is); (case l1 => k_is); (case c1 => k_is); (case k1 => k_is); (case a2 => k_is); (case l2 => k_is); (case c2 => k_is); (case k2 => k_is); (case a3 => k_is); (case l3 => k_is); (case c3 => k_is); (case k3 => k_is); (case a4 => k_is); (case l4 => k_is); (case c4 => k_is); (case k4 => k_is); (case a5 => k_is); (case l5 => k_is); (case c5 => k_is); (case k5 => k_is); (case a6 => k_is); (case l6 => k_is); (case c6 => k_is); (case k6 => k_is); (case a7 => k_is); (case l7 => k_is); (case c7 => k_is); (case k7 => k_is); (case a8 => k_is); (case l8 => k_is); (case c8 => k_is); (case k8 => k_is); (case a9 => k_is); (case l9 => k_is); (case c9 => k_is); (case k9 => k_is); (case a10 => k_is); (case l10 => k_is); (case c10 => k_is); (case k10 => k_is); (case a11 => k_is); (case l11 => k_is); (case c11 => k_is); (case k11 => k_is); (case a12 => k_is); (case l12 => k_is); (case c12 => k_is); (case k12 => k_is); (case a13 => k_is); (case l13 => k_is); (case c13 => k_is); (case k13 => k_is); (case a14 => k_is); (case l14 => k_is); (case c14 => k_is); (case k14 => k_is); (case a15 => k_is); (case l15 => k_is); (case c15 => k_is); (case k15 => k_is); (case a16 => k_is); (case l16 => k_is); (case c16 => k_is); (case k16 => k_is); (case a17 => k_is); (case l17 => k_is); (case c17 => k_is); (case k17 => k_is); (case a18 => k_is); (case l18 => k_is); (case c18 => k_is); (case k18 => k_is); (case a19 => k_is); (case l19 => k_is); (case c19 => k_is); (case k19 => k_is); (case a20 => k_is); (case l20 => k_is); (case c20 => k_is); (case k20 => k_is); (case a21 => k_is); (case l21 => k_is); (case c21 => k_is); (case k21 => k_is); (case a22 => k_is); (case l22 => k_is); (case c22 => k_is); (case k22 => k_is); (case a23 => k_is); (case l23 => k_is); (case c23 => k_is); (case k23 => k_is); (case a24 => k_is); (case l24 => k_is); (case c24 => k_is); (case k24 => k_is); (case a25 => k_is); (case l25 => k_is); (case c25 => k_is); (case k25 => k_is); (case a26 => k_is); (case l26 => k_is); (case c26 => k_is); (case k26 => k_is); (case a27 => k_is); (case l27 => k_is); (case c27 => k_is); (case k27 => k_is); (case a28 => k_is); (case l28 => k_is); (case c28 => k_is); (case k28 => k_is); (case a29 => k_is); (case l29 => k_is); (case c29 => k_is); (case k29 => k_is); (case a30 => k_is); (case l30 => k_is); (case c30 => k_is); (case k30 => k_is); (case a31 => k_is); (case l31 => k_is); (case c31 => k_is); (case k31 => k_is); (case a32 => k_is); (case l32 => k_is); (case c32 => k_is); (case k32 => k_is); (case a33 => k_is); (case l33 => k_is); (case c33 => k_is); (case k33 => k_is); (case z_all => k_is); (case z_bool => k_is); (case z_enumerate => k_is); (case z_int => k_is); (case z_isinstance => k_is); (case z_len => k_is); (case z_list => k_is); (case z_max => k_is); (case z_min => k_is); (case z_range => k_is); (case z_repr => k_is); (case z_reversed => k_is); (case z_set => k_is); (case z_tuple => k_is); (case z_zip => k_is); (case xa_NoOrder => k_is); (case xk_NoOrder => k_is); (case xb_NoOrder => k_is); (case xt_NoOrder => k_is); (case x4_NoOrder => k_is); (case ka_MOST => k_is)
    (case xx_NoOrder => k_exc)
