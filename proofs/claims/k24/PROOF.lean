import PyProof.Rows.All
import Wide.All
import OpenK.AllK
import Wide.FinOn
import HandS.ForMost
import HandS.Exc
import HandS.TryOnly
import HandS.ExcOwn
import HandS.WordsExc
import HandS.Wide
import HandS.WideBits
import HandS.IsInst
import HandS.SortInts
import HandS.Style
import PySem.Challenge.RW_blindtouch_k24_whole_let_by_and_sorts
set_option Elab.async false
set_option linter.all false
set_option maxRecDepth 100000
set_option maxHeartbeats 4000000
/-! KL: readings over what is known of the heap: a frozen part G, and cells M that may be written. -/
namespace BT
open PySem PySem.Spec L2
open PyProof.Rows hiding St

abbrev Mem := List (Addr × HO)
structure Hv (G : Hp) (M : Mem) (H : Hp) : Prop where
  ex : ∀ a o, G a = some o → H a = some o
  mu : ∀ x, x ∈ M → H x.1 = some x.2
  nd : (M.map (·.1)).Nodup
  dj : ∀ x, x ∈ M → G x.1 = none
def Fr (G : Hp) (M : Mem) (p : Addr) : Prop := G p = none ∧ ∀ x, x ∈ M → x.1 ≠ p
def At (G : Hp) (M : Mem) (a : Addr) (o : HO) : Prop := (a, o) ∈ M ∨ G a = some o
section
variable {G : Hp} {M : Mem} {H : Hp} {p a : Addr} {o o' : HO} {n : Nat}
theorem Hv.self (H : Hp) : Hv H [] H := ⟨fun _ _ h => h, fun _ h => (nomatch h), List.nodup_nil, fun _ h => (nomatch h)⟩
theorem Hv.fr (h : Hv G M H) (hp : H p = none) : Fr G M p := by
  refine ⟨?_, fun x hx e => ?_⟩
  · cases e : G p with
    | none => rfl
    | some o => rw [h.ex p o e] at hp; cases hp
  · have := h.mu x hx
    rw [e, hp] at this; cases this
theorem Hv.at (h : Hv G M H) (q : At G M a o) : H a = some o := by
  rcases q with q | q
  · exact h.mu _ q
  · exact h.ex _ _ q
theorem Hv.newM (h : Hv G M H) (hp : H p = none) : Hv G ((p, o) :: M) (upd H p o) := by
  have f := h.fr hp
  refine ⟨fun b u e => ?_, fun x hx => ?_, ?_, fun x hx => ?_⟩
  · rw [upd_ne (ne_of_none (h.ex b u e) hp)]; exact h.ex b u e
  · rcases List.mem_cons.mp hx with rfl | hx
    · exact upd_same
    · rw [upd_ne (f.2 x hx)]; exact h.mu x hx
  · rw [List.map_cons, List.nodup_cons]
    refine ⟨fun hm => ?_, h.nd⟩
    obtain ⟨x, hx, e⟩ := List.mem_map.mp hm
    exact f.2 x hx e
  · rcases List.mem_cons.mp hx with rfl | hx
    · exact f.1
    · exact h.dj x hx
theorem Hv.newG (h : Hv G M H) (hp : H p = none) : Hv (upd G p o) M (upd H p o) := by
  have f := h.fr hp
  refine ⟨fun b u e => ?_, fun x hx => ?_, h.nd, fun x hx => ?_⟩
  · by_cases hb : b = p
    · subst hb; rw [upd_same] at e ⊢; exact e
    · rw [upd_ne hb] at e ⊢; exact h.ex b u e
  · rw [upd_ne (f.2 x hx)]; exact h.mu x hx
  · rw [upd_ne (f.2 x hx)]; exact h.dj x hx
/-- an object that nobody knows of is laid: nothing known changes -/
theorem Hv.junk (h : Hv G M H) (hp : H p = none) : Hv G M (upd H p o) := by
  have f := h.fr hp
  refine ⟨fun b u e => ?_, fun x hx => ?_, h.nd, h.dj⟩
  · rw [upd_ne (ne_of_none (h.ex b u e) hp)]; exact h.ex b u e
  · rw [upd_ne (f.2 x hx)]; exact h.mu x hx
theorem Hv.get (h : Hv G M H) (hn : M[n]? = some (p, o)) : H p = some o := h.mu _ (List.mem_of_getElem? hn)
theorem map_set_fst : ∀ (M : Mem) (n : Nat) (p : Addr) (o o' : HO), M[n]? = some (p, o) → (M.set n (p, o')).map (·.1) = M.map (·.1)
  | [], _, _, _, _, h => by simp at h
  | x :: M, 0, p, o, o', h => by
    have e : x = (p, o) := by simpa using h
    subst e; rfl
  | x :: M, n + 1, p, o, o', h => by
    have e : M[n]? = some (p, o) := by simpa using h
    show x.1 :: (M.set n (p, o')).map (·.1) = _
    rw [map_set_fst M n p o o' e]; rfl
theorem nodup_at : ∀ (M : Mem) (n : Nat) (p : Addr) (o : HO) (x : Addr × HO) (m : Nat), (M.map (·.1)).Nodup → M[n]? = some (p, o) → M[m]? = some x → x.1 = p → m = n := by
  intro M n p o x m hd h1 h2 e
  have q1 : (M.map (·.1))[n]? = some p := by rw [List.getElem?_map, h1]; rfl
  have q2 : (M.map (·.1))[m]? = some p := by rw [List.getElem?_map, h2, ← e]; rfl
  obtain ⟨l1, e1⟩ := List.getElem?_eq_some_iff.mp q1
  obtain ⟨l2, e2⟩ := List.getElem?_eq_some_iff.mp q2
  exact (List.getElem_inj hd).mp (e2.trans e1.symm)
theorem Hv.set (h : Hv G M H) (hn : M[n]? = some (p, o)) : Hv G (M.set n (p, o')) (upd H p o') := by
  have hlt : n < M.length := (List.getElem?_eq_some_iff.mp hn).1
  refine ⟨fun b u e => ?_, fun x hx => ?_, ?_, fun x hx => ?_⟩
  · have : b ≠ p := fun z => by
      have q := h.dj _ (List.mem_of_getElem? hn)
      rw [z] at e
      rw [show G p = none from q] at e; cases e
    rw [upd_ne this]; exact h.ex b u e
  · obtain ⟨m, hm⟩ := List.getElem?_of_mem hx
    by_cases e : m = n
    · subst e
      rw [List.getElem?_set_self hlt] at hm
      cases hm
      exact upd_same
    · rw [List.getElem?_set_ne (Ne.symm e)] at hm
      have : x.1 ≠ p := fun z => e (nodup_at M n p o x m h.nd hn hm z)
      rw [upd_ne this]
      exact h.mu x (List.mem_of_getElem? hm)
  · rw [map_set_fst M n p o o' hn]; exact h.nd
  · have : x.1 ∈ M.map (·.1) := by
      rw [← map_set_fst M n p o o' hn]; exact List.mem_map.mpr ⟨x, hx, rfl⟩
    obtain ⟨y, hy, e⟩ := List.mem_map.mp this
    rw [← e]; exact h.dj y hy
/-- what is known may be forgotten, and what may be written may be frozen -/
def Wk (G : Hp) (M : Mem) (G' : Hp) (M' : Mem) : Prop := ∀ H, Hv G M H → Hv G' M' H
theorem Wk.refl : Wk G M G M := fun _ h => h
theorem Wk.trans {G1 G2 G3 : Hp} {M1 M2 M3 : Mem} (a : Wk G1 M1 G2 M2) (b : Wk G2 M2 G3 M3) : Wk G1 M1 G3 M3 := fun H h => b H (a H h)
theorem Wk.drop (M1 : Mem) {x : Addr × HO} {M2 : Mem} : Wk G (M1 ++ x :: M2) G (M1 ++ M2) := fun H h => by
  refine ⟨h.ex, fun y hy => h.mu y ?_, ?_, fun y hy => h.dj y ?_⟩
  · rcases List.mem_append.mp hy with q | q
    · exact List.mem_append.mpr (.inl q)
    · exact List.mem_append.mpr (.inr (List.mem_cons_of_mem _ q))
  · refine h.nd.sublist ?_
    simp
  · rcases List.mem_append.mp hy with q | q
    · exact List.mem_append.mpr (.inl q)
    · exact List.mem_append.mpr (.inr (List.mem_cons_of_mem _ q))
theorem Wk.drop0 {x : Addr × HO} : Wk G (x :: M) G M := Wk.drop []
theorem Wk.drop1 {x y : Addr × HO} : Wk G (y :: x :: M) G (y :: M) := Wk.drop [y]
theorem Wk.drop2 {x y z : Addr × HO} : Wk G (z :: y :: x :: M) G (z :: y :: M) := Wk.drop [z, y]
theorem Wk.frz (M1 : Mem) {M2 : Mem} : Wk G (M1 ++ (p, o) :: M2) (upd G p o) (M1 ++ M2) := fun H h => by
  have hp : H p = some o := h.mu (p, o) (by simp)
  have hg : G p = none := h.dj (p, o) (by simp)
  have h2 := Wk.drop (G := G) M1 (x := (p, o)) (M2 := M2) H h
  refine ⟨fun b u e => ?_, h2.mu, h2.nd, fun x hx => ?_⟩
  · by_cases hb : b = p
    · subst hb; rw [upd_same] at e; cases e; exact hp
    · rw [upd_ne hb] at e; exact h.ex b u e
  · have : x.1 ≠ p := fun z => by
      have nd := h.nd
      rw [List.map_append, List.map_cons, List.nodup_append] at nd
      obtain ⟨n1, n2, n3⟩ := nd
      rcases List.mem_append.mp hx with q | q
      · exact n3 x.1 (List.mem_map.mpr ⟨x, q, rfl⟩) p (by simp) z
      · rw [List.nodup_cons] at n2
        exact n2.1 (by rw [← z]; exact List.mem_map.mpr ⟨x, q, rfl⟩)
    rw [upd_ne this]; exact h2.dj x hx
theorem Wk.frz0 : Wk G ((p, o) :: M) (upd G p o) M := Wk.frz []
theorem Wk.frz1 {y : Addr × HO} : Wk G (y :: (p, o) :: M) (upd G p o) (y :: M) := Wk.frz [y]
theorem Wk.perm {M' : Mem} (e : M'.Perm M) : Wk G M G M' := fun H h =>
  ⟨h.ex, fun x hx => h.mu x (e.mem_iff.mp hx), (e.map _).nodup_iff.mpr h.nd, fun x hx => h.dj x (e.mem_iff.mp hx)⟩
theorem Wk.swap {x y : Addr × HO} : Wk G (x :: y :: M) G (y :: x :: M) := Wk.perm (List.Perm.swap x y M)
/-- less of the frozen part -/
theorem Wk.less {G' : Hp} (e : ∀ a o, G' a = some o → G a = some o) : Wk G M G' M := fun H h =>
  ⟨fun a o q => h.ex a o (e a o q), h.mu, h.nd, fun x hx => by
    cases q : G' x.1 with
    | none => rfl
    | some o => have := h.dj x hx; rw [e _ _ q] at this; cases this⟩
end

/-! ### extension of the frozen part -/
def Ex (G G' : Hp) : Prop := ∀ a o, G a = some o → G' a = some o
theorem Ex.refl {G : Hp} : Ex G G := fun _ _ h => h
theorem Ex.trans {G G1 G2 : Hp} (a : Ex G G1) (b : Ex G1 G2) : Ex G G2 := fun x o h => b x o (a x o h)
theorem Ex.new {G : Hp} {M : Mem} {p : Addr} {o : HO} (h : Fr G M p) : Ex G (upd G p o) := fun a u e => by
  rw [upd_ne (ne_of_none e h.1)]; exact e
theorem Ex.new' {G : Hp} {p : Addr} {o : HO} (h : G p = none) : Ex G (upd G p o) := fun a u e => by
  rw [upd_ne (ne_of_none e h)]; exact e
theorem ex_rd {H H' : Hp} {a : Addr} {u : HO} (e : Ex H H') (h : Rd H a u) : Rd H' a u := by
  rcases h with h | ⟨o, h⟩
  · exact .inl (e a _ h)
  · exact .inr ⟨o, e a _ h⟩
theorem ex_l {K : PySem.W.Frag} {H H' : Hp} {a : Addr} {xs : List V} (e : Ex H H') (h : SqL K H a xs) : SqL K H' a xs := by
  rcases h with h | h
  · exact .inl (ex_rd e h)
  · exact .inr h
theorem ex_t {K : PySem.W.Frag} {H H' : Hp} {a : Addr} {xs : List V} (e : Ex H H') (h : SqT K H a xs) : SqT K H' a xs := by
  rcases h with h | h
  · exact .inl (ex_rd e h)
  · exact .inr h
mutual
theorem ex_d {K : PySem.W.Frag} {H H' : Hp} (e : Ex H H') : ∀ (d : PyData) {v : V}, Dp K H v d → Dp K H' v d
  | _, _, .non => .non
  | _, _, .bl b => .bl b
  | _, _, .int b => .int b
  | _, _, .str b => .str b
  | .list ds, _, .lst s a => .lst (ex_l e s) (ex_ds e ds a)
  | .tuple ds, _, .tup s a => .tup (ex_t e s) (ex_ds e ds a)
theorem ex_ds {K : PySem.W.Frag} {H H' : Hp} (e : Ex H H') : ∀ (ds : List PyData) {vs : List V}, DpAll K H vs ds → DpAll K H' vs ds
  | _, _, .nil => .nil
  | d :: ds, _, .cons a b => .cons (ex_d e d a) (ex_ds e ds b)
end
/-- a list, a tuple that can be read -/
def LstAt (K : PySem.W.Frag) (G : Hp) (M : Mem) (a : Addr) (xs : List V) : Prop := (a, HO.lst xs) ∈ M ∨ SqL K G a xs
def TupAt (K : PySem.W.Frag) (G : Hp) (M : Mem) (a : Addr) (xs : List V) : Prop := SqT K G a xs
def SeqAt' (K : PySem.W.Frag) (G : Hp) (M : Mem) (a : Addr) (xs : List V) : Prop := LstAt K G M a xs ∨ SqT K G a xs
/-- data that can be read -/
def DatAt (K : PySem.W.Frag) (G : Hp) (M : Mem) (v : V) (d : PyData) : Prop := ∀ H, Hv G M H → Dp K H v d
section
variable {K : PySem.W.Frag} {G : Hp} {M : Mem} {H : Hp} {a : Addr} {xs : List V}
theorem Hv.exx (h : Hv G M H) : Ex G H := h.ex
theorem Hv.lst (h : Hv G M H) (q : LstAt K G M a xs) : SqL K H a xs := by
  rcases q with q | q
  · exact .inl (.inl (h.mu _ q))
  · exact ex_l h.exx q
theorem Hv.tup (h : Hv G M H) (q : SqT K G a xs) : SqT K H a xs := ex_t h.exx q
theorem Hv.dat (h : Hv G M H) {v : V} {d : PyData} (q : DatAt K G M v d) : Dp K H v d := q H h
end

/-! ### judgements -/
abbrev KR := V → Hp → Mem → Prop
abbrev KX := Value → Option Addr → Hp → Mem → Prop
abbrev KK (α : Type) := St → Hp → Mem → (α → Hp → Mem → Prop) → KX → Prop
abbrev KE := KK V
abbrev KA := KK (List V)
abbrev KT := KK Bool
def upG {α : Type} (W : WX) (t : KK α) : St → Hp → (α → Hp → Prop) → Prop := fun σ H Q =>
  ∃ G M R E, Hv G M H ∧ t σ G M R E ∧ (∀ v G' M' H', Hv G' M' H' → R v G' M' → Q v H') ∧ (∀ c d G' M' H', Hv G' M' H' → E c d G' M' → W c d σ H')
def JE (X : Cx) (W : WX) (e : Expr) (t : KE) : Prop := PE X e (upG W t)
def JT (X : Cx) (W : WX) (e : Expr) (t : KT) : Prop := PT X e (upG W t)
def JW (X : Cx) (W : WX) (e : Expr) (t : KT) : Prop := PW X e (upG W t)
def JA (X : Cx) (W : WX) (es : List Expr) (t : KA) : Prop := PA X es (upG W t)
theorem pe_mono {X : Cx} {e : Expr} {t t' : TE} (h : PE X e t) (i : ∀ σ H Q, t' σ H Q → t σ H Q) : PE X e t' := ⟨fun pins s σ H Q I q => h.run pins s σ H Q I (i σ H Q q)⟩
theorem pt_mono {X : Cx} {e : Expr} {t t' : TT} (h : PT X e t) (i : ∀ σ H Q, t' σ H Q → t σ H Q) : PT X e t' := ⟨fun pins s σ H Q I q => h.run pins s σ H Q I (i σ H Q q)⟩
theorem pw_mono {X : Cx} {e : Expr} {t t' : TT} (h : PW X e t) (i : ∀ σ H Q, t' σ H Q → t σ H Q) : PW X e t' := ⟨fun wh pins s σ H Q I q => h.run wh pins s σ H Q I (i σ H Q q)⟩
theorem pa_mono {X : Cx} {e : List Expr} {t t' : TA} (h : PA X e t) (i : ∀ σ H Q, t' σ H Q → t σ H Q) : PA X e t' := ⟨fun pos pins s σ H Q I q => h.run pos pins s σ H Q I (i σ H Q q)⟩

section
variable {X : Cx} {W : WX} {pos : Pos}
/-- names, constants -/
def kVar (i : Nat) : KE := fun σ G M R _ => match σ[i]? with
  | some (some v) => R v G M
  | _ => False
def kC (v : V) : KE := fun _ G M R _ => R v G M
theorem je_var (i : Nat) {x : Str} (hN : X.N[i]? = some x := by rfl) (hv : Vis X.env.scope x := by first | exact Or.inl rfl | exact Or.inr (Or.inl rfl) | exact Or.inr (Or.inr rfl)) (hd : (x == ("__debug__" : Str)) = false := by decide)
    (hcd : (x == ("__classdict__" : Str)) = false := by decide) : JE X W (.Name x pos) (kVar i) := pe_mono (pe_var hN hv hd hcd) fun σ H Q ⟨G, M, R, E, hv, h, hR, _⟩ => by
  unfold kVar at h
  split at h
  · rename_i v e
    exact ⟨v, e, hR v G M H hv h⟩
  · exact h.elim
theorem je_c {e : Expr} {v : V} (h : PE X e (tC v)) : JE X W e (kC v) := pe_mono h fun σ H Q ⟨G, M, R, E, hv, h, hR, _⟩ => hR v G M H hv h
theorem je_int {i : Int} {j pos} : JE X W (.Constant (.int i) j pos) (kC (.int i)) := je_c pe_int
theorem je_bl {i : Bool} {j pos} : JE X W (.Constant (.bool i) j pos) (kC (.bl i)) := je_c pe_bl
theorem je_non {j pos} : JE X W (.Constant .none j pos) (kC .non) := je_c pe_non
theorem je_str {i : Str} {j pos} : JE X W (.Constant (.str i) j pos) (kC (.str i)) := je_c pe_str
/-- two in a row -/
def kBin {β : Type} (k : V → V → Hp → Mem → (β → Hp → Mem → Prop) → Prop) (ta tb : KE) : KK β := fun σ G M R E => ta σ G M (fun x G M => tb σ G M (fun y G M => k x y G M R) E) E
abbrev KR2 := V → V → Hp → Mem → KR → Prop
def KOp (X : Cx) (f : Value → Value → Sem Value) (k : KR2) : Prop :=
  ∀ (pins : List (Addr × Obj)) (s : Shared) (σ : St) (H : Hp) (x y : V) (v u : Value) (Q : VK) (G : Hp) (M : Mem) (R : KR), Inv X pins σ H s → RelV x v → RelV y u → Hv G M H → k x y G M R →
    (∀ v G' M' H', Hv G' M' H' → R v G' M' → Q v H') → wpAny (model X.prog X.w) X.A (f v u) (EP X pins σ Q) X.xe s
theorem kop_of {f : Value → Value → Sem Value} {r : R2} {k : KR2} (ho : OpR X f r)
    (s : ∀ x y G M R H Q, Hv G M H → k x y G M R → (∀ v G' M' H', Hv G' M' H' → R v G' M' → Q v H') → r x y H Q) : KOp X f k :=
  fun pins st σ H x y v u Q G M R I rx ry hv h hR => ho pins st σ H x y v u Q I rx ry (s x y G M R H Q hv h hR)
/-- an OpR whose reading is: it holds of k in some knowledge -/
def rUp (k : KR2) : R2 := fun x y H Q => ∃ G M R, Hv G M H ∧ k x y G M R ∧ ∀ v G' M' H', Hv G' M' H' → R v G' M' → Q v H'
theorem KOp.opr {f : Value → Value → Sem Value} {k : KR2} (h : KOp X f k) : OpR X f (rUp k) := fun pins s σ H x y v u Q I rx ry ⟨G, M, R, hv, hk, hR⟩ => h pins s σ H x y v u Q G M R I rx ry hv hk hR
theorem bin_sim {ta tb : KE} {k : KR2} {σ : St} {H : Hp} {Q : VK} (h : upG W (kBin k ta tb) σ H Q) : tOp (rUp k) (upG W ta) (upG W tb) σ H Q := by
  obtain ⟨G, M, R, E, hv, h, hR, hE⟩ := h
  exact ⟨G, M, _, E, hv, h, fun x G1 M1 H1 hv1 h1 => ⟨G1, M1, _, E, hv1, h1, fun y G2 M2 H2 hv2 h2 => ⟨G2, M2, R, hv2, h2, hR⟩, hE⟩, hE⟩
theorem je_op {a b : Expr} {op : Operator} {k : KR2} {ta tb : KE} (ho : KOp X (binaryOp op) k) (ha : JE X W a ta) (hb : JE X W b tb) : JE X W (.BinOp a op b pos) (kBin k ta tb) :=
  pe_mono (pe_op ho.opr ha hb) fun _ _ _ h => bin_sim h
theorem je_cmp {a b : Expr} {op : CmpOp} {k : KR2} {ta tb : KE} (ho : KOp X (compareOp op) k) (ha : JE X W a ta) (hb : JE X W b tb) (hm : behindInMarks op b = false) : JE X W (.Compare a [op] [b] pos) (kBin k ta tb) :=
  pe_mono (pe_cmpR ho.opr ha hb hm) fun _ _ _ h => bin_sim h
/-- a value as a test -/
def asB (R : Bool → Hp → Mem → Prop) : KR := fun v G M => match v with
  | .bl b => R b G M
  | _ => False
def kT (t : KE) : KT := fun σ G M R E => t σ G M (asB R) E
theorem asB_of {R : Bool → Hp → Mem → Prop} {v : V} {G : Hp} {M : Mem} (h : asB R v G M) : ∃ c, v = .bl c ∧ R c G M := by
  cases v <;> first | exact ⟨_, rfl, h⟩ | exact h.elim
theorem t_sim {t : KE} {σ : St} {H : Hp} {Q : Bool → Hp → Prop} (h : upG W (kT t) σ H Q) : tTest (upG W t) σ H Q := by
  obtain ⟨G, M, R, E, hv, h, hR, hE⟩ := h
  refine ⟨G, M, _, E, hv, h, fun v G1 M1 H1 hv1 h1 => ?_, hE⟩
  obtain ⟨c, rfl, h2⟩ := asB_of h1
  exact ⟨c, rfl, hR c G1 M1 H1 hv1 h2⟩
theorem jt_cmp {a b : Expr} {op : CmpOp} {k : KR2} {ta tb : KE} (ho : KOp X (compareOp op) k) (ha : JE X W a ta) (hb : JE X W b tb) (hm : behindInMarks op b = false) : JT X W (.Compare a [op] [b] pos) (kT (kBin k ta tb)) :=
  pt_mono (pt_cmpR ho.opr ha hb hm) fun σ H Q h => by
    have h2 := t_sim h
    exact bin_sim h2
theorem jt_val {e : Expr} {t : KE} (h : JE X W e t) (he : ∀ whole, isTrue e X.env whole = (do let v ← whole; standAt e.pos; holding [v] (truthy v)) := by intro _; rfl) : JT X W e (kT t) :=
  pt_mono (pt_val h he) fun σ H Q h => t_sim h
/-- chains -/
def kChain (k k' : KR2) (ta tb tc : KE) : KE := fun σ G M R E => ta σ G M (fun x G M => tb σ G M (fun y G M => k x y G M (asB fun c G M => if c = true then tc σ G M (fun z G M => k' y z G M R) E else R (.bl false) G M)) E) E
theorem chain_sim {ta tb tc : KE} {k k' : KR2} {σ : St} {H : Hp} {Q : VK} (h : upG W (kChain k k' ta tb tc) σ H Q) : tChain (rUp k) (rUp k') (upG W ta) (upG W tb) (upG W tc) σ H Q := by
  obtain ⟨G, M, R, E, hv, h, hR, hE⟩ := h
  refine ⟨G, M, _, E, hv, h, fun x G1 M1 H1 hv1 h1 => ⟨G1, M1, _, E, hv1, h1, fun y G2 M2 H2 hv2 h2 => ⟨G2, M2, _, hv2, h2, fun v G3 M3 H3 hv3 h3 => ?_⟩, hE⟩, hE⟩
  obtain ⟨c, rfl, h4⟩ := asB_of h3
  refine ⟨c, rfl, ?_⟩
  cases c with
  | true =>
    rw [if_pos rfl] at h4 ⊢
    exact ⟨G3, M3, _, E, hv3, h4, fun z G4 M4 H4 hv4 h5 => ⟨G4, M4, R, hv4, h5, hR⟩, hE⟩
  | false =>
    rw [if_neg Bool.false_ne_true] at h4 ⊢
    exact hR _ G3 M3 H3 hv3 h4
theorem je_chain {a b c : Expr} {op op' : CmpOp} {k k' : KR2} {ta tb tc : KE} (ho : KOp X (compareOp op) k) (ho' : KOp X (compareOp op') k') (ha : JE X W a ta) (hb : JE X W b tb) (hc : JE X W c tc)
    (hm : lastMarks [op, op'] [b, c] = false := by with_unfolding_all rfl) : JE X W (.Compare a [op, op'] [b, c] pos) (kChain k k' ta tb tc) := pe_mono (pe_chain ho.opr ho'.opr ha hb hc hm) fun _ _ _ h => chain_sim h
theorem jt_chain {a b c : Expr} {op op' : CmpOp} {k k' : KR2} {ta tb tc : KE} (ho : KOp X (compareOp op) k) (ho' : KOp X (compareOp op') k') (ha : JE X W a ta) (hb : JE X W b tb) (hc : JE X W c tc)
    (hm : lastMarks [op, op'] [b, c] = false := by with_unfolding_all rfl) : JT X W (.Compare a [op, op'] [b, c] pos) (kT (kChain k k' ta tb tc)) := pt_mono (pt_chain ho.opr ho'.opr ha hb hc hm) fun _ _ _ h => chain_sim (t_sim h)
/-- and, or, not -/
def kAnd (t u : KT) : KT := fun σ G M R E => t σ G M (fun c G M => if c = true then u σ G M R E else R false G M) E
def kOr (t u : KT) : KT := fun σ G M R E => t σ G M (fun c G M => if c = true then R true G M else u σ G M R E) E
def kNot (t : KT) : KT := fun σ G M R E => t σ G M (fun c G M => R (!c) G M) E
def kAndV (t u : KE) : KE := fun σ G M R E => t σ G M (asB fun c G M => if c = true then u σ G M R E else R (.bl false) G M) E
def kOrV (t u : KE) : KE := fun σ G M R E => t σ G M (asB fun c G M => if c = true then R (.bl true) G M else u σ G M R E) E
def kNotV (t : KE) : KE := fun σ G M R E => t σ G M (asB fun c G M => R (.bl (!c)) G M) E
variable {a b : Expr} {rest : List Expr}
theorem jw_and1 {t : KT} (h : JT X W a t) : JW X W (.BoolOp .And [a] pos) t := pw_and1 h
theorem jw_or1 {t : KT} (h : JT X W a t) : JW X W (.BoolOp .Or [a] pos) t := pw_or1 h
theorem jw_and {t u : KT} (ha : JT X W a t) (hb : JW X W (.BoolOp .And (b :: rest) pos) u) : JW X W (.BoolOp .And (a :: b :: rest) pos) (kAnd t u) :=
  pw_mono (pw_and ha hb) fun σ H Q ⟨G, M, R, E, hv, h, hR, hE⟩ => ⟨G, M, _, E, hv, h, fun c G1 M1 H1 hv1 h1 => by
    cases c with
    | true => rw [if_pos rfl] at h1 ⊢; exact ⟨G1, M1, R, E, hv1, h1, hR, hE⟩
    | false => rw [if_neg Bool.false_ne_true] at h1 ⊢; exact hR _ G1 M1 H1 hv1 h1, hE⟩
theorem jw_or {t u : KT} (ha : JT X W a t) (hb : JW X W (.BoolOp .Or (b :: rest) pos) u) : JW X W (.BoolOp .Or (a :: b :: rest) pos) (kOr t u) :=
  pw_mono (pw_or ha hb) fun σ H Q ⟨G, M, R, E, hv, h, hR, hE⟩ => ⟨G, M, _, E, hv, h, fun c G1 M1 H1 hv1 h1 => by
    cases c with
    | true => rw [if_pos rfl] at h1 ⊢; exact hR _ G1 M1 H1 hv1 h1
    | false => rw [if_neg Bool.false_ne_true] at h1 ⊢; exact ⟨G1, M1, R, E, hv1, h1, hR, hE⟩, hE⟩
theorem JW.jt {e : Expr} {t : KT} (h : JW X W e t) : JT X W e t := PW.pt h
theorem jt_not {t : KT} (h : JT X W a t) : JT X W (.UnaryOp .Not a pos) (kNot t) :=
  pt_mono (pt_not h) fun σ H Q ⟨G, M, R, E, hv, h, hR, hE⟩ => ⟨G, M, _, E, hv, h, fun c G1 M1 H1 hv1 h1 => hR _ G1 M1 H1 hv1 h1, hE⟩
theorem je_one {op} {t : KE} (h : JE X W a t) : JE X W (.BoolOp op [a] pos) t := pe_one h
theorem je_and {t u : KE} (ha : JE X W a t) (hb : JE X W (.BoolOp .And (b :: rest) pos) u) : JE X W (.BoolOp .And (a :: b :: rest) pos) (kAndV t u) :=
  pe_mono (pe_and ha hb) fun σ H Q ⟨G, M, R, E, hv, h, hR, hE⟩ => ⟨G, M, _, E, hv, h, fun v G1 M1 H1 hv1 h1 => by
    obtain ⟨c, rfl, h2⟩ := asB_of h1
    refine ⟨c, rfl, ?_⟩
    cases c with
    | true => rw [if_pos rfl] at h2 ⊢; exact ⟨G1, M1, R, E, hv1, h2, hR, hE⟩
    | false => rw [if_neg Bool.false_ne_true] at h2 ⊢; exact hR _ G1 M1 H1 hv1 h2, hE⟩
theorem je_or {t u : KE} (ha : JE X W a t) (hb : JE X W (.BoolOp .Or (b :: rest) pos) u) : JE X W (.BoolOp .Or (a :: b :: rest) pos) (kOrV t u) :=
  pe_mono (pe_or ha hb) fun σ H Q ⟨G, M, R, E, hv, h, hR, hE⟩ => ⟨G, M, _, E, hv, h, fun v G1 M1 H1 hv1 h1 => by
    obtain ⟨c, rfl, h2⟩ := asB_of h1
    refine ⟨c, rfl, ?_⟩
    cases c with
    | true => rw [if_pos rfl] at h2 ⊢; exact hR _ G1 M1 H1 hv1 h2
    | false => rw [if_neg Bool.false_ne_true] at h2 ⊢; exact ⟨G1, M1, R, E, hv1, h2, hR, hE⟩, hE⟩
theorem je_not {t : KE} (h : JE X W a t) : JE X W (.UnaryOp .Not a pos) (kNotV t) :=
  pe_mono (pe_not h) fun σ H Q ⟨G, M, R, E, hv, h, hR, hE⟩ => ⟨G, M, _, E, hv, h, fun v G1 M1 H1 hv1 h1 => by
    obtain ⟨c, rfl, h2⟩ := asB_of h1
    exact ⟨c, rfl, hR _ G1 M1 H1 hv1 h2⟩, hE⟩
/-- a if c else b -/
def kIte (t : KT) (ta tb : KE) : KE := fun σ G M R E => t σ G M (fun c G M => if c = true then ta σ G M R E else tb σ G M R E) E
end
end BT
set_option Elab.async false
set_option linter.all false
set_option maxRecDepth 100000
set_option maxHeartbeats 4000000
namespace BT
open PySem PySem.Spec L2
open PyProof.Rows hiding St
section
variable {X : Cx} {W : WX} {pos : Pos} {a b c e : Expr} {es : List Expr}
theorem je_ite {t : KT} {ta tb : KE} (hc : JT X W c t) (ha : JE X W a ta) (hb : JE X W b tb) : JE X W (.IfExp c a b pos) (kIte t ta tb) :=
  pe_mono (pe_ifExp hc ha hb) fun σ H Q ⟨G, M, R, E, hv, h, hR, hE⟩ => ⟨G, M, _, E, hv, h, fun c G1 M1 H1 hv1 h1 => by
    cases c with
    | true => rw [if_pos rfl] at h1 ⊢; exact ⟨G1, M1, R, E, hv1, h1, hR, hE⟩
    | false => rw [if_neg Bool.false_ne_true] at h1 ⊢; exact ⟨G1, M1, R, E, hv1, h1, hR, hE⟩, hE⟩
/-! ### arguments, displays -/
def kNil : KA := fun _ G M R _ => R [] G M
def kCons (t : KE) (u : KA) : KA := fun σ G M R E => t σ G M (fun x G M => u σ G M (fun xs G M => R (x :: xs) G M) E) E
theorem ja_nil : JA X W [] kNil := pa_mono pa_nil fun σ H Q ⟨G, M, R, E, hv, h, hR, _⟩ => hR _ G M H hv h
theorem ja_cons {t : KE} {u : KA} (ha : JE X W e t) (hr : JA X W es u) (hs : starEach (e :: es) X.env = (false, eval e X.env) :: starEach es X.env := by rfl) : JA X W (e :: es) (kCons t u) :=
  pa_mono (pa_cons ha hr hs) fun σ H Q ⟨G, M, R, E, hv, h, hR, hE⟩ => ⟨G, M, _, E, hv, h, fun x G1 M1 H1 hv1 h1 => ⟨G1, M1, _, E, hv1, h1, fun xs G2 M2 H2 hv2 h2 => hR _ G2 M2 H2 hv2 h2, hE⟩, hE⟩
def kLst (t : KA) : KE := fun σ G M R E => t σ G M (fun xs G M => xs.length ≤ sizeLine ∧ ∀ p, Fr G M p → R (.ref p) G ((p, .lst xs) :: M)) E
def kTup (t : KA) : KE := fun σ G M R E => t σ G M (fun xs G M => xs.length ≤ sizeLine ∧ ∀ p, Fr G M p → R (.ref p) (upd G p (.tup xs)) M) E
theorem je_lst {t : KA} (h : JA X W es t) : JE X W (.List es pos) (kLst t) :=
  pe_mono (pe_lst h) fun σ H Q ⟨G, M, R, E, hv, h, hR, hE⟩ => ⟨G, M, _, E, hv, h, fun xs G1 M1 H1 hv1 h1 => ⟨h1.1, fun p hp => hR _ G1 _ _ (hv1.newM hp) (h1.2 p (hv1.fr hp))⟩, hE⟩
theorem je_tup {t : KA} {k : Nat} (h : JA X W es t) : JE X W (.Tuple es k pos) (kTup t) :=
  pe_mono (pe_tup h) fun σ H Q ⟨G, M, R, E, hv, h, hR, hE⟩ => ⟨G, M, _, E, hv, h, fun xs G1 M1 H1 hv1 h1 => ⟨h1.1, fun p hp => hR _ _ M1 _ (hv1.newG hp) (h1.2 p (hv1.fr hp))⟩, hE⟩
/-! ### operators -/
def kAdd : KR2 := fun x y G M R => match x, y with
  | .int i, .int j => R (.int (i + j)) G M
  | .str i, .str j => i.length + j.length ≤ sizeLine ∧ R (.str (i ++ j)) G M
  | .ref a, .ref b => ∃ xs ys, At G M a (.lst xs) ∧ At G M b (.lst ys) ∧ xs.length + ys.length ≤ sizeLine ∧ ∀ p, Fr G M p → R (.ref p) G ((p, .lst (xs ++ ys)) :: M)
  | _, _ => False
theorem kop_add : KOp X (binaryOp .Add) kAdd := fun pins s σ H x y v u Q G M R I rx ry hv h hR => by
  cases x <;> cases y <;> first
    | exact op_add pins s σ H _ _ v u Q I rx ry ⟨_, _, rfl, rfl, hR _ G M H hv h⟩
    | exact op_add_str pins s σ H _ _ v u Q I rx ry ⟨_, _, rfl, rfl, h.1, hR _ G M H hv h.2⟩
    | (obtain ⟨xs, ys, h1, h2, h3, h4⟩ := h
       exact op_cat pins s σ H _ _ v u Q I rx ry ⟨_, _, xs, ys, rfl, rfl, hv.at h1, hv.at h2, h3, fun p hp => hR _ G _ _ (hv.newM hp) (h4 p (hv.fr hp))⟩)
    | exact h.elim
def kI (C : Int → Int → Prop) (g : Int → Int → V) : KR2 := fun x y G M R => match x, y with
  | .int i, .int j => C i j ∧ R (g i j) G M
  | _, _ => False
def kI0 (g : Int → Int → V) : KR2 := fun x y G M R => match x, y with
  | .int i, .int j => R (g i j) G M
  | _, _ => False
theorem kop_I {f : Value → Value → Sem Value} {C : Int → Int → Prop} {g : Int → Int → V} (h : OpR X f (rI C g)) : KOp X f (kI C g) := kop_of h fun x y G M R H Q hv h hR => by
  cases x <;> cases y <;> first
    | exact ⟨_, _, rfl, rfl, h.1, hR _ G M H hv h.2⟩
    | exact h.elim
theorem kop_I0 {f : Value → Value → Sem Value} {g : Int → Int → V} (h : OpR X f (rI0 g)) : KOp X f (kI0 g) := kop_of h fun x y G M R H Q hv h hR => by
  cases x <;> cases y <;> first
    | exact ⟨_, _, rfl, rfl, hR _ G M H hv h⟩
    | exact h.elim
/-- sizes of products, quotients -/
def MulOk (i j : Int) : Prop := CMul i j ∨ CMulW i j
theorem kop_sub : KOp X (binaryOp .Sub) (kI0 fun i j => .int (i - j)) := kop_I0 op_sub
/-- a product of ints, a list repeated -/
def kMul : KR2 := fun x y G M R => match x, y with
  | .int i, .int j => MulOk i j ∧ R (.int (i * j)) G M
  | .ref a, .int k => ∃ xs, At G M a (.lst xs) ∧ -(2 ^ 63) ≤ k ∧ k < 2 ^ 63 ∧ xs.length * k.toNat ≤ sizeLine ∧ ∀ p, Fr G M p → R (.ref p) G ((p, .lst (List.replicate k.toNat xs).flatten) :: M)
  | _, _ => False
theorem kop_mul : KOp X (binaryOp .Mult) kMul := fun pins s σ H x y v u Q G M R I rx ry hv h hR => by
  cases x <;> cases y <;> first
    | (obtain ⟨hc, h⟩ := h
       rcases hc with hc | hc
       · exact op_mul pins s σ H _ _ v u Q I rx ry ⟨_, _, rfl, rfl, hc, hR _ G M H hv h⟩
       · exact op_mulW pins s σ H _ _ v u Q I rx ry ⟨_, _, rfl, rfl, hc, hR _ G M H hv h⟩)
    | (obtain ⟨xs, h1, h2, h3, h4, h5⟩ := h
       exact op_rep pins s σ H _ _ v u Q I rx ry ⟨_, _, xs, rfl, rfl, hv.at h1, h2, h3, h4, fun p hp => hR _ G _ _ (hv.newM hp) (h5 p (hv.fr hp))⟩)
    | exact h.elim
theorem kop_mod : KOp X (binaryOp .Mod) (kI (fun _ j => 0 < j) fun i j => .int (i % j)) := kop_I op_mod
theorem kop_fdiv : KOp X (binaryOp .FloorDiv) (kI CDivW fun i j => .int (i / j)) := kop_I op_fdivW
theorem kop_pow : KOp X (binaryOp .Pow) (kI CPow fun i j => .int (i ^ j.toNat)) := kop_I op_pow
theorem kop_shl : KOp X (binaryOp .LShift) (kI CPow fun i j => .int (i * 2 ^ j.toNat)) := kop_I op_shl
theorem kop_shr : KOp X (binaryOp .RShift) (kI (fun _ j => 0 ≤ j) fun i j => .int (i / 2 ^ j.toNat)) := kop_I op_shr
theorem kop_lt : KOp X (compareOp .Lt) (kI0 fun i j => .bl (decide (i < j))) := kop_I0 op_lt
theorem kop_le : KOp X (compareOp .LtE) (kI0 fun i j => .bl (decide (i ≤ j))) := kop_I0 op_le
theorem kop_gt : KOp X (compareOp .Gt) (kI0 fun i j => .bl (decide (j < i))) := kop_I0 op_gt
theorem kop_ge : KOp X (compareOp .GtE) (kI0 fun i j => .bl (decide (j ≤ i))) := kop_I0 op_ge
/-- equality: of plain values at once, of data by what they hold -/
def kEqv (neg : Bool) (K : PySem.W.Frag) : KR2 := fun x y G M R =>
  match scal x y with
  | true => R (.bl (if neg then !decide (x = y) else decide (x = y))) G M
  | false => ∃ d e, DatAt K G M x d ∧ DatAt K G M y e ∧ SeqAt.shaped d = true ∧ SeqAt.shaped e = true ∧ R (.bl (if neg then !PyData.eqv d e else PyData.eqv d e)) G M
theorem kop_eq (hu : X.A.units + 64 < cLine) : KOp X (compareOp .Eq) (kEqv false X.K) := fun pins s σ H x y v u Q G M R I rx ry hv h hR => by
  unfold kEqv at h
  split at h
  · rename_i e
    exact op_eq pins s σ H _ _ v u Q I rx ry ⟨e, hR _ G M H hv h⟩
  · obtain ⟨d, e, h1, h2, h3, h4, h5⟩ := h
    exact op_eqD hu pins s σ H _ _ v u Q I rx ry ⟨d, e, hv.dat h1, hv.dat h2, h3, h4, hR _ G M H hv h5⟩
theorem kop_ne (hu : X.A.units + 64 < cLine) : KOp X (compareOp .NotEq) (kEqv true X.K) := fun pins s σ H x y v u Q G M R I rx ry hv h hR => by
  unfold kEqv at h
  split at h
  · rename_i e
    exact op_ne pins s σ H _ _ v u Q I rx ry ⟨e, hR _ G M H hv h⟩
  · obtain ⟨d, e, h1, h2, h3, h4, h5⟩ := h
    exact op_neD hu pins s σ H _ _ v u Q I rx ry ⟨d, e, hv.dat h1, hv.dat h2, h3, h4, hR _ G M H hv h5⟩
def kIs (neg : Bool) : KR2 := fun x y G M R => match y with
  | .non => R (.bl (if neg then !decide (x = .non) else decide (x = .non))) G M
  | _ => False
theorem kop_is : KOp X (compareOp .Is) (kIs false) := kop_of op_isN fun x y G M R H Q hv h hR => by
  cases y <;> first
    | exact ⟨rfl, hR _ G M H hv h⟩
    | exact h.elim
theorem kop_isnot : KOp X (compareOp .IsNot) (kIs true) := kop_of op_notN fun x y G M R H Q hv h hR => by
  cases y <;> first
    | exact ⟨rfl, hR _ G M H hv h⟩
    | exact h.elim
def kUn (k : V → Hp → Mem → KR → Prop) (t : KE) : KE := fun σ G M R E => t σ G M (fun x G M => k x G M R) E
def kNeg : V → Hp → Mem → KR → Prop := fun x G M R => match x with
  | .int i => R (.int (-i)) G M
  | _ => False
theorem je_neg {t : KE} (h : JE X W a t) : JE X W (.UnaryOp .USub a pos) (kUn kNeg t) :=
  pe_mono (pe_un un_neg h) fun σ H Q ⟨G, M, R, E, hv, h, hR, hE⟩ => ⟨G, M, _, E, hv, h, fun x G1 M1 H1 hv1 h1 => by
    cases x <;> first
      | exact ⟨_, rfl, hR _ G1 M1 H1 hv1 h1⟩
      | exact h1.elim, hE⟩
/-! ### subscripts, slices -/
def kIx (K : PySem.W.Frag) : KR2 := fun x y G M R => match x, y with
  | .ref a, .int i => ∃ xs v, SeqAt' K G M a xs ∧ atI xs i = some v ∧ R v G M
  | .str z, .int i => ∃ c, z.length ≤ sizeLine ∧ atI z.cps.toList i = some c ∧ R (.str ⟨#[c]⟩) G M
  | _, _ => False
theorem ix_k : IxR X (rUp (kIx X.K)) := fun value slice pins s σ H x y v u Q I rx ry ⟨G, M, R, hv, h, hR⟩ hs => by
  cases x <;> cases y <;> first
    | (obtain ⟨xs, w, h1, h2, h3⟩ := h
       rcases h1 with h1 | h1
       · exact ix_list value slice pins s σ H _ _ v u Q I rx ry ⟨_, xs, _, w, rfl, rfl, hv.lst h1, h2, hR _ G M H hv h3⟩ hs
       · exact ix_tup value slice pins s σ H _ _ v u Q I rx ry ⟨_, xs, _, w, rfl, rfl, hv.tup h1, h2, hR _ G M H hv h3⟩ hs)
    | (obtain ⟨c, h1, h2, h3⟩ := h
       exact ix_str value slice pins s σ H _ _ v u Q I rx ry ⟨_, _, c, rfl, rfl, h1, h2, hR _ G M H hv h3⟩ hs)
    | exact h.elim
theorem je_ix {ta tb : KE} (ha : JE X W a ta) (hb : JE X W b tb) (hs : PlainIx b := by exact fun _ _ => rfl) : JE X W (.Subscript a b pos) (kBin (kIx X.K) ta tb) :=
  pe_mono (pe_ix ix_k ha hb hs) fun _ _ _ h => bin_sim h
abbrev KO := KK (Option Int)
def JO (X : Cx) (W : WX) (e : Option Expr) (t : KO) : Prop := PO X e (upG W t)
theorem po_mono {X : Cx} {e : Option Expr} {t t' : TO} (h : PO X e t) (i : ∀ σ H Q, t' σ H Q → t σ H Q) : PO X e t' := ⟨fun pins s σ H Q I q => h.run pins s σ H Q I (i σ H Q q)⟩
def kNoP : KO := fun _ G M R _ => R none G M
def asI (R : Option Int → Hp → Mem → Prop) : KR := fun v G M => match v with
  | .int i => R (some i) G M
  | _ => False
def kPart (t : KE) : KO := fun σ G M R E => t σ G M (asI R) E
theorem jo_none : JO X W none kNoP := po_mono po_none fun σ H Q ⟨G, M, R, E, hv, h, hR, _⟩ => hR _ G M H hv h
theorem jo_some {t : KE} (h : JE X W e t) : JO X W (some e) (kPart t) := po_mono (po_some h) fun σ H Q ⟨G, M, R, E, hv, h, hR, hE⟩ => ⟨G, M, _, E, hv, h, fun v G1 M1 H1 hv1 h1 => by
    cases v <;> first
      | exact ⟨_, rfl, hR _ G1 M1 H1 hv1 h1⟩
      | exact h1.elim, hE⟩
/-- xs[lo:hi] of a list -/
def kSl (K : PySem.W.Frag) (t : KE) (tl th : KO) : KE := fun σ G M R E => t σ G M (fun x G M => tl σ G M (fun l G M => th σ G M (fun u G M => match x with
  | .ref a => ∃ xs, LstAt K G M a xs ∧ ∀ p, Fr G M p → R (.ref p) G ((p, .lst (cutV xs l u)) :: M)
  | _ => False) E) E) E
theorem je_slice {t : KE} {lo hi : Option Expr} {tl th : KO} {p2 : Pos} (he : JE X W e t) (hl : JO X W lo tl) (hu : JO X W hi th) : JE X W (.Subscript e (.Slice lo hi none p2) pos) (kSl X.K t tl th) :=
  pe_mono (pe_slice sl_list he hl hu) fun σ H Q ⟨G, M, R, E, hv, h, hR, hE⟩ => ⟨G, M, _, E, hv, h, fun x G1 M1 H1 hv1 h1 => ⟨G1, M1, _, E, hv1, h1, fun l G2 M2 H2 hv2 h2 => ⟨G2, M2, _, E, hv2, h2, fun u G3 M3 H3 hv3 h3 => by
    cases x <;> first
      | (obtain ⟨xs, q1, q2⟩ := h3
         exact ⟨_, xs, rfl, hv3.lst q1, fun p hp => hR _ G3 _ _ (hv3.newM hp) (q2 p (hv3.fr hp))⟩)
      | exact h3.elim, hE⟩, hE⟩, hE⟩
/-! ### calls of built-ins -/
abbrev KC := List V → Hp → Mem → KR → Prop
def rUpC (k : KC) : List V → Hp → VK → Prop := fun vs H Q => ∃ G M R, Hv G M H ∧ k vs G M R ∧ ∀ v G' M' H', Hv G' M' H' → R v G' M' → Q v H'
def kCB (k : KC) (t : KA) : KE := fun σ G M R E => t σ G M (fun vs G M => k vs G M R) E
def KCall (X : Cx) (f : Value) (k : KC) : Prop := CallR X f (rUpC k)
theorem kcall_of {f : Value} {r : List V → Hp → VK → Prop} {k : KC} (h : CallR X f r)
    (s : ∀ vs G M R H Q, Hv G M H → k vs G M R → (∀ v G' M' H', Hv G' M' H' → R v G' M' → Q v H') → r vs H Q) : KCall X f k :=
  fun pins st σ H xs us Q I rv ⟨G, M, R, hv, hk, hR⟩ => h pins st σ H xs us Q I rv (s xs G M R H Q hv hk hR)
theorem cb_sim {t : KA} {k : KC} {σ : St} {H : Hp} {Q : VK} (h : upG W (kCB k t) σ H Q) : tCB (rUpC k) (upG W t) σ H Q := by
  obtain ⟨G, M, R, E, hv, h, hR, hE⟩ := h
  exact ⟨G, M, _, E, hv, h, fun vs G1 M1 H1 hv1 h1 => ⟨G1, M1, R, hv1, h1, hR⟩, hE⟩
variable {x : Str} {p : Pos} {id T : String}
theorem je_callB {k : KC} {t : KA} (hc : KCall X (.builtin id) k) (hm : X.mg x = none) (ha : JA X W (e :: es) t) (hv : bootBuiltins x = some (.builtin id) := by decide +kernel) (hg : Gl X x := by rfl) (hn : x ≠ "__name__" := by decide) (hdb : (x == ("__debug__" : Str)) = false := by decide)
    (he : starEach (e :: es) X.env = (false, eval e X.env) :: starEach es X.env := by rfl) (hpl : (backTo pos (starEach es X.env)).any (·.1) = false := by rfl) : JE X W (.Call (.Name x p) (e :: es) [] pos) (kCB k t) :=
  pe_mono (pe_callB hc hg hm hv ha hn hdb he hpl) fun _ _ _ h => cb_sim h
theorem je_callTy {k : KC} {t : KA} (hc : KCall X (.type T) k) (hm : X.mg x = none) (ha : JA X W (e :: es) t) (hv : bootBuiltins x = some (.type T) := by decide +kernel) (hg : Gl X x := by rfl) (hn : x ≠ "__name__" := by decide) (hdb : (x == ("__debug__" : Str)) = false := by decide)
    (he : starEach (e :: es) X.env = (false, eval e X.env) :: starEach es X.env := by rfl) (hpl : (backTo pos (starEach es X.env)).any (·.1) = false := by rfl) : JE X W (.Call (.Name x p) (e :: es) [] pos) (kCB k t) :=
  pe_mono (pe_callTy hc hg hm hv ha hn hdb he hpl) fun _ _ _ h => cb_sim h
/-- a built-in type's name as a value -/
theorem je_ty {T : String} {x : Str} {pos : Pos} (hm : X.mg x = none) (hv : bootBuiltins x = some (.type T) := by decide +kernel) (hg : Gl X x := by rfl) (hn : x ≠ "__name__" := by decide) (hd : (x == ("__debug__" : Str)) = false := by decide) : JE X W (.Name x pos) (kC (.ty T)) :=
  je_c (pe_bltn hg hm hv rfl hn hd)
/-- a module's constant -/
theorem je_glob {x : Str} {v : V} {u : Value} {pos : Pos} (hm : X.mg x = some u) (r : RelV v u) (hg : Gl X x := by rfl) (hd : (x == ("__debug__" : Str)) = false := by decide) : JE X W (.Name x pos) (kC v) := je_c (pe_glob hg hm r hd)
def kLen (K : PySem.W.Frag) : KC := fun vs G M R => match vs with
  | [.ref a] => ∃ xs, SeqAt' K G M a xs ∧ R (.int xs.length) G M
  | _ => False
theorem kc_len : KCall X (.builtin "len") (kLen X.K) := kcall_of call_len_seq fun vs G M R H Q hv h hR => by
  match vs, h with
  | [.ref a], ⟨xs, h1, h2⟩ => exact ⟨a, xs, rfl, h1.elim (fun q => .inl (hv.lst q)) (fun q => .inr (hv.tup q)), hR _ G M H hv h2⟩
def kList (K : PySem.W.Frag) : KC := fun vs G M R => match vs with
  | [.ref a] => ∃ xs, SeqAt' K G M a xs ∧ ∀ p, Fr G M p → R (.ref p) G ((p, .lst xs) :: M)
  | _ => False
theorem kc_list : KCall X (.type "list") (kList X.K) := kcall_of call_list_of fun vs G M R H Q hv h hR => by
  match vs, h with
  | [.ref a], ⟨xs, h1, h2⟩ => exact ⟨a, xs, rfl, h1.elim (fun q => .inl (hv.lst q)) (fun q => .inr (hv.tup q)), fun p hp => hR _ G _ _ (hv.newM hp) (h2 p (hv.fr hp))⟩
def kMin2 : KC := fun vs G M R => match vs with
  | [.int i, .int j] => R (.int (min i j)) G M
  | _ => False
def kMax2 : KC := fun vs G M R => match vs with
  | [.int i, .int j] => R (.int (max i j)) G M
  | _ => False
theorem kc_min2 (hc : X.calm = true := by rfl) : KCall X (.builtin "min") kMin2 := kcall_of (call_min2 hc) fun vs G M R H Q hv h hR => by
  match vs, h with
  | [.int i, .int j], h =>
    refine ⟨i, j, rfl, ?_⟩
    have e : (if j < i then j else i) = min i j := by split <;> omega
    rw [e]
    exact hR _ G M H hv h
theorem kc_max2 (hc : X.calm = true := by rfl) : KCall X (.builtin "max") kMax2 := kcall_of (call_max2 hc) fun vs G M R H Q hv h hR => by
  match vs, h with
  | [.int i, .int j], h =>
    refine ⟨i, j, rfl, ?_⟩
    have e : (if j > i then j else i) = max i j := by split <;> omega
    rw [e]
    exact hR _ G M H hv h
def kInt : KC := fun vs G M R => match vs with
  | [.int i] => R (.int i) G M
  | [.bl k] => R (.int (if k then 1 else 0)) G M
  | _ => False
theorem kc_int : KCall X (.type "int") kInt := kcall_of call_int1 fun vs G M R H Q hv h hR => by
  match vs, h with
  | [.int i], h => exact .inl ⟨i, rfl, hR _ G M H hv h⟩
  | [.bl i], h => exact .inr ⟨i, rfl, hR _ G M H hv h⟩
/-- min(xs), max(xs) of ints -/
def kMinL (K : PySem.W.Frag) : KC := fun vs G M R => match vs with
  | [.ref a] => ∃ ns : List Int, LstAt K G M a (ns.map V.int) ∧ 0 < ns.length ∧ ∀ m, m ∈ ns → (∀ y, y ∈ ns → m ≤ y) → R (.int m) G M
  | _ => False
def kMaxL (K : PySem.W.Frag) : KC := fun vs G M R => match vs with
  | [.ref a] => ∃ ns : List Int, LstAt K G M a (ns.map V.int) ∧ 0 < ns.length ∧ ∀ m, m ∈ ns → (∀ y, y ∈ ns → y ≤ m) → R (.int m) G M
  | _ => False
theorem kc_minL (hc : X.calm = true := by rfl) : KCall X (.builtin "min") (kMinL X.K) := kcall_of (cr_min hc) fun vs G M R H Q hv h hR => by
  match vs, h with
  | [.ref a], ⟨ns, h1, h2, h3⟩ => exact ⟨a, ns, rfl, hv.lst h1, h2, fun m q1 q2 => hR _ G M H hv (h3 m q1 q2)⟩
theorem kc_maxL (hc : X.calm = true := by rfl) : KCall X (.builtin "max") (kMaxL X.K) := kcall_of (cr_max hc) fun vs G M R H Q hv h hR => by
  match vs, h with
  | [.ref a], ⟨ns, h1, h2, h3⟩ => exact ⟨a, ns, rfl, hv.lst h1, h2, fun m q1 q2 => hR _ G M H hv (h3 m q1 q2)⟩
def kAll (K : PySem.W.Frag) : KC := fun vs G M R => match vs with
  | [.ref a] => ∃ bs : List Bool, LstAt K G M a (bs.map V.bl) ∧ R (.bl (bs.all _root_.id)) G M
  | _ => False
theorem kc_all (hc : X.calm = true := by rfl) : KCall X (.builtin "all") (kAll X.K) := kcall_of (cr_all hc) fun vs G M R H Q hv h hR => by
  match vs, h with
  | [.ref a], ⟨ns, h1, h2⟩ => exact ⟨a, ns, rfl, hv.lst h1, hR _ G M H hv h2⟩
def kSum (K : PySem.W.Frag) : KC := fun vs G M R => match vs with
  | [.ref a] => ∃ ns : List Int, LstAt K G M a (ns.map V.int) ∧ R (.int ns.sum) G M
  | _ => False
theorem kc_sum (hc : X.calm = true := by rfl) : KCall X (.builtin "sum") (kSum X.K) := kcall_of (cr_sum hc) fun vs G M R H Q hv h hR => by
  match vs, h with
  | [.ref a], ⟨ns, h1, h2⟩ => exact ⟨a, ns, rfl, hv.lst h1, hR _ G M H hv h2⟩
/-- isinstance(x, c) -/
def kIsi (K : PySem.W.Frag) : KC := fun vs G M R => match vs with
  | [x, c] => ∃ (t u : Value) (b : Bool), ClsV c u ∧ (∀ H, Hv G M H → TyX K H x t) ∧ PySem.W.kitOne K t u = some b ∧ R (.bl b) G M
  | _ => False
theorem kc_isi : KCall X (.builtin "isinstance") (kIsi X.K) := kcall_of call_isi fun vs G M R H Q hv h hR => by
  match vs, h with
  | [x, c], ⟨t, u, b, h1, h2, h3, h4⟩ => exact ⟨x, c, t, u, b, rfl, h1, h2 H hv, h3, hR _ G M H hv h4⟩
/-! ### methods of built-in types -/
abbrev KM := V → List V → Hp → Mem → KR → Prop
def rUpM (k : KM) : V → List V → Hp → VK → Prop := fun x vs H Q => ∃ G M R, Hv G M H ∧ k x vs G M R ∧ ∀ v G' M' H', Hv G' M' H' → R v G' M' → Q v H'
def KMt (X : Cx) (id : String) (k : KM) : Prop := MtR X id (rUpM k)
theorem kmt_of {r : V → List V → Hp → VK → Prop} {k : KM} (h : MtR X id r)
    (s : ∀ x vs G M R H Q, Hv G M H → k x vs G M R → (∀ v G' M' H', Hv G' M' H' → R v G' M' → Q v H') → r x vs H Q) : KMt X id k :=
  fun pins st σ H x xs v us Q I rx rv ⟨G, M, R, hv, hk, hR⟩ => h pins st σ H x xs v us Q I rx rv (s x xs G M R H Q hv hk hR)
def kBM (K : PySem.W.Frag) (T : String) (k : KM) (to : KE) (t : KA) : KE := fun σ G M R E => to σ G M (fun x G M => (∀ H, Hv G M H → tyV K T x H) ∧ t σ G M (fun vs G M => k x vs G M R) E) E
def kBM0 (K : PySem.W.Frag) (T : String) (k : KM) (to : KE) : KE := fun σ G M R E => to σ G M (fun x G M => (∀ H, Hv G M H → tyV K T x H) ∧ k x [] G M R) E
variable {o : Expr} {name : Str} {apos cpos : Pos}
theorem je_bm {k : KM} {to : KE} {t : KA} (pa : PlainAttrs T) (slot : Slot T name id) (hty : typeOf (.builtin id) = pure (.type "method_descriptor")) (hm : KMt X id k) (ho : JE X W o to) (ha : JA X W (e :: es) t)
    (hbase : attributeBase o name X.env (eval o X.env) = eval o X.env := by rfl)
    (hfew : ((backTo cpos (starEach (e :: es) X.env)).all (fun x => !x.1) && (backToKw cpos (keywordEach [] X.env)).all (fun x => x.1.isSome)
      && decide ((e :: es).length + ([] : List Keyword).length + (if ([] : List Keyword).isEmpty then 0 else 1) < 30)) = true := by rfl)
    (hline : (apos.endLine == cpos.line) = true := by rfl) (hs : starEach (e :: es) X.env = (false, eval e X.env) :: starEach es X.env := by rfl) (hplain : (backTo cpos (starEach es X.env)).any (·.1) = false := by rfl) :
    JE X W (.Call (.Attribute o name apos) (e :: es) [] cpos) (kBM X.K T k to t) :=
  pe_mono (pe_bm pa slot hty hm ho ha hbase hfew hline hs hplain) fun σ H Q ⟨G, M, R, E, hv, h, hR, hE⟩ => ⟨G, M, _, E, hv, h, fun x G1 M1 H1 hv1 h1 => ⟨h1.1 H1 hv1, G1, M1, _, E, hv1, h1.2, fun vs G2 M2 H2 hv2 h2 => ⟨G2, M2, R, hv2, h2, hR⟩, hE⟩, hE⟩
theorem je_bm0 {k : KM} {to : KE} (pa : PlainAttrs T) (slot : Slot T name id) (hty : typeOf (.builtin id) = pure (.type "method_descriptor")) (hm : KMt X id k) (ho : JE X W o to)
    (hbase : attributeBase o name X.env (eval o X.env) = eval o X.env := by rfl) (hline : (apos.endLine == cpos.line) = true := by rfl) : JE X W (.Call (.Attribute o name apos) [] [] cpos) (kBM0 X.K T k to) :=
  pe_mono (pe_bm0 pa slot hty hm ho hbase hline) fun σ H Q ⟨G, M, R, E, hv, h, hR, hE⟩ => ⟨G, M, _, E, hv, h, fun x G1 M1 H1 hv1 h1 => ⟨h1.1 H1 hv1, G1, M1, R, hv1, h1.2, hR⟩, hE⟩
def kAppend : KM := fun x vs G M R => match x, vs with
  | .ref a, [y] => ∃ n xs, M[n]? = some (a, .lst xs) ∧ xs.length < sizeLine ∧ R .non G (M.set n (a, .lst (xs ++ [y])))
  | _, _ => False
theorem km_append : KMt X "list.append" kAppend := kmt_of mt_append fun x vs G M R H Q hv h hR => by
  match x, vs, h with
  | .ref a, [y], ⟨n, xs, h1, h2, h3⟩ => exact ⟨a, xs, y, rfl, rfl, hv.get h1, h2, hR _ G _ _ (hv.set h1) h3⟩
def kExtend : KM := fun x vs G M R => match x, vs with
  | .ref a, [.ref b] => ∃ n xs ys, M[n]? = some (a, .lst xs) ∧ At G M b (.lst ys) ∧ xs.length + ys.length ≤ sizeLine ∧ R .non G (M.set n (a, .lst (xs ++ ys)))
  | _, _ => False
theorem km_extend : KMt X "list.extend" kExtend := kmt_of mt_extend fun x vs G M R H Q hv h hR => by
  match x, vs, h with
  | .ref a, [.ref b], ⟨n, xs, ys, h1, h2, h3, h4⟩ => exact ⟨a, b, xs, ys, rfl, rfl, hv.get h1, hv.at h2, h3, hR _ G _ _ (hv.set h1) h4⟩
def kReverse : KM := fun x vs G M R => match x, vs with
  | .ref a, [] => ∃ n xs, M[n]? = some (a, .lst xs) ∧ R .non G (M.set n (a, .lst xs.reverse))
  | _, _ => False
theorem km_reverse : KMt X "list.reverse" kReverse := kmt_of mt_reverse fun x vs G M R H Q hv h hR => by
  match x, vs, h with
  | .ref a, [], ⟨n, xs, h1, h3⟩ => exact ⟨a, xs, rfl, rfl, hv.get h1, hR _ G _ _ (hv.set h1) h3⟩
end
/-! ### defs -/
abbrev KSp := List V → Hp → Mem → KR → KX → Prop
def lift (S : KSp) : Sp := fun vs H Q E => ∃ G M R X, Hv G M H ∧ S vs G M R X ∧ (∀ v G' M' H', Hv G' M' H' → R v G' M' → Q v H') ∧ (∀ c d G' M' H', Hv G' M' H' → X c d G' M' → E c d H')
def kCall (S : KSp) (t : KA) : KE := fun σ G M R E => t σ G M (fun vs G M => S vs G M R E) E
section
variable {X : Cx} {W : WX} {pos p : Pos} {e : Expr} {es : List Expr} {x : Str} {k : Nat} {f : Addr} {fd : FuncData} {ps : List Str} {S : KSp} {t : KA}
theorem je_call (F : FnOk X.prog X.w X.K X.mg X.base (L2.CX X.prog X.w) k f fd ps (lift S)) (hr : Room k X.A) (tk : Takes X W) (hm : X.mg x = some (.ref f)) (hk : PySem.W.keepIn X.K (.ref f) = true) (hb : Binds X.K fd ps []) (ha : JA X W (e :: es) t) (hg : Gl X x := by rfl)
    (hdb : (x == ("__debug__" : Str)) = false := by decide) (he : starEach (e :: es) X.env = (false, eval e X.env) :: starEach es X.env := by rfl) (hpl : (backTo pos (starEach es X.env)).any (·.1) = false := by rfl) :
    JE X W (.Call (.Name x p) (e :: es) [] pos) (kCall S t) :=
  pe_mono (pe_callS F hr hg hm hk hb (passAt tk) ha hdb he hpl) fun σ H Q ⟨G, M, R, E, hv, h, hR, hE⟩ =>
    ⟨G, M, _, E, hv, h, fun vs G1 M1 H1 hv1 h1 => ⟨G1, M1, R, E, hv1, h1, hR, hE⟩, hE⟩
end
end BT
set_option Elab.async false
set_option linter.all false
set_option maxRecDepth 100000
set_option maxHeartbeats 4000000
namespace BT
open PySem PySem.Spec L2
open PyProof.Rows hiding St
/-! ### statements -/
structure Kd where
  nx : St → Hp → Mem → Prop
  rt : KR
  bk : St → Hp → Mem → Prop := fun _ _ _ => False
  ct : St → Hp → Mem → Prop := fun _ _ _ => False
  xc : Value → Option Addr → St → Hp → Mem → Prop := fun _ _ _ _ _ => False
abbrev KS := Kd → St → Hp → Mem → Prop
structure EndsTo (W : WX) (d : Kd) (D : Ends) : Prop where
  nx : ∀ σ G M H, Hv G M H → d.nx σ G M → D.nx σ H
  rt : ∀ v G M H, Hv G M H → d.rt v G M → D.rt v H
  bk : ∀ σ G M H, Hv G M H → d.bk σ G M → D.bk σ H
  ct : ∀ σ G M H, Hv G M H → d.ct σ G M → D.ct σ H
  xc : ∀ c a σ G M H, Hv G M H → d.xc c a σ G M → W c a σ H
def upS (W : WX) (t : KS) : TS := fun D σ H => ∃ G M d, Hv G M H ∧ t d σ G M ∧ EndsTo W d D
def JS (X : Cx) (W : WX) (s : Stmt) (t : KS) : Prop := PS X s (upS W t)
def JSs (X : Cx) (W : WX) (s : List Stmt) (t : KS) : Prop := PSs X s (upS W t)
theorem ps_mono {X : Cx} {s : Stmt} {t t' : TS} (h : PS X s t) (i : ∀ D σ H, t' D σ H → t D σ H) : PS X s t' := ⟨fun pins st σ H D I q => h.run pins st σ H D I (i D σ H q)⟩
theorem pss_mono {X : Cx} {s : List Stmt} {t t' : TS} (h : PSs X s t) (i : ∀ D σ H, t' D σ H → t D σ H) : PSs X s t' := ⟨fun pins st σ H D I q => h.run pins st σ H D I (i D σ H q)⟩
def Kd.x (d : Kd) (σ : St) : KX := fun c a G M => d.xc c a σ G M
section
variable {X : Cx} {W : WX} {pos : Pos} {s : Stmt} {ss : List Stmt} {e : Expr} {t u : KS}
def kNext : KS := fun D σ G M => D.nx σ G M
def kSeq (t u : KS) : KS := fun D σ G M => ∃ G' M', Wk G M G' M' ∧ t { D with nx := u D } σ G' M'
def kNever : KS := fun _ _ _ _ => False
theorem jss_nil : JSs X W [] kNext := pss_mono pss_nil fun D σ H ⟨G, M, d, hv, h, en⟩ => en.nx σ G M H hv h
theorem jss_cons (h1 : JS X W s t) (h2 : JSs X W ss u) : JSs X W (s :: ss) (kSeq t u) := pss_mono (pss_cons h1 h2) fun D σ H ⟨G, M, d, hv, ⟨G', M', wk, h⟩, en⟩ =>
  ⟨G', M', _, wk H hv, h, ⟨fun σ' G2 M2 H2 hv2 q => ⟨G2, M2, d, hv2, q, en⟩, en.rt, en.bk, en.ct, en.xc⟩⟩
theorem js_never : JS X W s kNever := ps_mono ps_never fun D σ H ⟨G, M, d, hv, h, en⟩ => h
theorem js_pass : JS X W (.Pass pos) kNext := ps_mono ps_pass fun D σ H ⟨G, M, d, hv, h, en⟩ => en.nx σ G M H hv h
def kSet (i : Nat) (t : KE) : KS := fun D σ G M => t σ G M (fun v G M => D.nx (σ.set i (some v)) G M) (D.x σ)
theorem js_set {i : Nat} {x : Str} {t : KE} {pos' : Pos} (he : JE X W e t) (hN : X.N.Nodup) (hi : X.N[i]? = some x := by rfl) (hx : Loc X.env.scope x := by first | exact Or.inl rfl | exact Or.inr rfl)
    (hs : swapsWith e (some (.Name x pos')) pos.line X.env = pure false := by rfl) (hf : X.fn x = true ∨ X.env.scope.names.lookup x = some .local := by first | exact .inl rfl | exact .inr rfl | assumption) :
    JS X W (.Assign [.Name x pos'] e pos) (kSet i t) := ps_mono (ps_set hN hi hx he hs hf) fun D σ H ⟨G, M, d, hv, h, en⟩ =>
  ⟨G, M, _, _, hv, h, fun v G' M' H' hv' q => en.nx _ G' M' H' hv' q, fun c a G' M' H' hv' q => en.xc c a σ G' M' H' hv' q⟩
def kExpr (t : KE) : KS := fun D σ G M => t σ G M (fun _ G M => D.nx σ G M) (D.x σ)
theorem js_expr {t : KE} (he : JE X W e t) (hs : swapsWith e none pos.line X.env = pure false := by rfl) : JS X W (.Expr e pos) (kExpr t) := ps_mono (ps_expr he hs) fun D σ H ⟨G, M, d, hv, h, en⟩ =>
  ⟨G, M, _, _, hv, h, fun v G' M' H' hv' q => en.nx _ G' M' H' hv' q, fun c a G' M' H' hv' q => en.xc c a σ G' M' H' hv' q⟩
def kRet (t : KE) : KS := fun D σ G M => t σ G M D.rt (D.x σ)
theorem js_ret {t : KE} (he : JE X W e t) : JS X W (.Return (some e) pos) (kRet t) := ps_mono (ps_ret he) fun D σ H ⟨G, M, d, hv, h, en⟩ =>
  ⟨G, M, _, _, hv, h, fun v G' M' H' hv' q => en.rt _ G' M' H' hv' q, fun c a G' M' H' hv' q => en.xc c a σ G' M' H' hv' q⟩
def kRetN : KS := fun D σ G M => D.rt .non G M
theorem js_retN : JS X W (.Return none pos) kRetN := ps_mono ps_retN fun D σ H ⟨G, M, d, hv, h, en⟩ => en.rt _ G M H hv h
def kIf (c : KT) (t u : KS) : KS := fun D σ G M => c σ G M (fun b G M => if b = true then t D σ G M else u D σ G M) (D.x σ)
theorem js_if {c : Expr} {a b : List Stmt} {tc : KT} (hc : JT X W c tc) (ha : JSs X W a t) (hb : JSs X W b u) : JS X W (.If c a b pos) (kIf tc t u) := ps_mono (ps_if hc ha hb) fun D σ H ⟨G, M, d, hv, h, en⟩ =>
  ⟨G, M, _, _, hv, h, fun v G' M' H' hv' q => by
    cases v with
    | true => rw [if_pos rfl] at q ⊢; exact ⟨G', M', d, hv', q, en⟩
    | false => rw [if_neg Bool.false_ne_true] at q ⊢; exact ⟨G', M', d, hv', q, en⟩, fun c a G' M' H' hv' q => en.xc c a σ G' M' H' hv' q⟩
/-! ### targets -/
structure KG where
  val : V → St → Hp → Mem → (St → Hp → Mem → Prop) → Prop
  tup : List V → St → Hp → Mem → (St → Hp → Mem → Prop) → Prop
structure JG (X : Cx) (tg : Expr) (g : KG) (gr : TG) : Prop where
  pg : PG X tg gr
  val : ∀ v σ G M R H Q, Hv G M H → g.val v σ G M R → (∀ σ' G' M' H', Hv G' M' H' → R σ' G' M' → Q σ' H') → gr v σ H Q
  tup : ∀ T vs σ G M R H Q, Hv G M H → H T = none → g.tup vs σ G M R → (∀ σ' G' M' H', Hv G' M' H' → R σ' G' M' → Q σ' H') → gr (.ref T) σ (upd H T (.tup vs)) Q
def kgName (i : Nat) : KG := ⟨fun v σ G M R => R (σ.set i (some v)) G M, fun vs σ G M R => ∀ T, Fr G M T → R (σ.set i (some (.ref T))) (upd G T (.tup vs)) M⟩
theorem jg_name {i : Nat} {x : Str} (hN : X.N.Nodup) (hi : X.N[i]? = some x := by rfl) (hx : Loc X.env.scope x := by first | exact Or.inl rfl | exact Or.inr rfl) (hf : X.fn x = true ∨ X.env.scope.names.lookup x = some .local := by first | exact .inl rfl | exact .inr rfl | assumption) : JG X (.Name x pos) (kgName i) (gName i) :=
  ⟨pg_name hN hi hx hf, fun v σ G M R H Q hv h hR => hR _ G M H hv h, fun T vs σ G M R H Q hv hT h hR => hR _ _ M _ (hv.newG hT) (h T (hv.fr hT))⟩
/-- several targets at once -/
abbrev KGs := List V → St → Hp → Mem → (St → Hp → Mem → Prop) → Prop
def kgsNil : KGs := fun vs σ G M R => match vs with
  | [] => R σ G M
  | _ => False
def kgsCons (g : KG) (r : KGs) : KGs := fun vs σ G M R => match vs with
  | v :: vs => g.val v σ G M (fun σ G M => r vs σ G M R)
  | [] => False
structure JGs (X : Cx) (ts : List Expr) (g : KGs) (gr : TGs) : Prop where
  pgs : PGs X ts gr
  sim : ∀ vs σ G M R H Q, Hv G M H → g vs σ G M R → (∀ σ' G' M' H', Hv G' M' H' → R σ' G' M' → Q σ' H') → gr vs σ H Q
theorem jgs_nil : JGs X [] kgsNil gNil := ⟨pgs_nil, fun vs σ G M R H Q hv h hR => by
  match vs, h with
  | [], h => exact ⟨rfl, hR _ G M H hv h⟩⟩
theorem jgs_cons {tg : Expr} {ts : List Expr} {g : KG} {r : KGs} {gr : TG} {gs : TGs} (h1 : JG X tg g gr) (hr : JGs X ts r gs)
    (hs : (assignEach (tg :: ts) X.env).map (·.2) = assign tg X.env :: (assignEach ts X.env).map (·.2) := by rfl) : JGs X (tg :: ts) (kgsCons g r) (gCons gr gs) :=
  ⟨pgs_cons h1.pg hr.pgs hs, fun vs σ G M R H Q hv h hR => by
    match vs, h with
    | v :: vs, h => exact ⟨v, vs, rfl, h1.val v σ G M _ H _ hv h fun σ' G' M' H' hv' q => hr.sim vs σ' G' M' R H' Q hv' q hR⟩⟩
def onLen (n : Nat) (g : KGs) : KGs := fun vs σ G M R => match vs.length == n with
  | true => g vs σ G M R
  | false => False
theorem onLen_of {n : Nat} {g : KGs} {vs : List V} {σ : St} {G : Hp} {M : Mem} {R : St → Hp → Mem → Prop} (h : onLen n g vs σ G M R) : vs.length = n ∧ g vs σ G M R := by
  unfold onLen at h
  split at h
  · rename_i e; exact ⟨beq_iff_eq.mp e, h⟩
  · exact h.elim
def kgTup (K : PySem.W.Frag) (n : Nat) (g : KGs) : KG := ⟨fun v σ G M R => match v with
    | .ref a => ∃ xs, SqT K G a xs ∧ onLen n g xs σ G M R
    | _ => False, onLen n g⟩
theorem jg_tup {K : PySem.W.Frag} {ts : List Expr} {g : KGs} {gs : TGs} {n k : Nat} (hc : X.calm = true) (h : JGs X ts g gs) (hK : X.K = K := by rfl) (hn : (assignEach ts X.env).length = n := by rfl) (hst : (assignEach ts X.env).findIdx? (·.1) = none := by rfl) :
    JG X (.Tuple ts k pos) (kgTup K n g) (gTup K n gs) := by
  subst hK
  exact ⟨pg_tup hc h.pgs hn hst, fun v σ G M R H Q hv q hR => by
    match v, q with
    | .ref a, ⟨xs, q1, q2⟩ =>
      obtain ⟨e, q3⟩ := onLen_of q2
      exact ⟨a, xs, rfl, hv.tup q1, e, h.sim xs σ G M R H Q hv q3 hR⟩,
   fun T vs σ G M R H Q hv hT q hR => by
    obtain ⟨e, q3⟩ := onLen_of q
    exact ⟨T, vs, rfl, .inl (.inl upd_same), e, h.sim vs σ G M R _ Q (hv.junk hT) q3 hR⟩⟩
/-- nothing is raised -/
def W0 : WX := fun _ _ _ _ => False
/-- a place of a list as a target -/
def setL (o i v : V) (G : Hp) (M : Mem) (R : Hp → Mem → Prop) : Prop := match o, i with
  | .ref a, .int k => ∃ n xs j, M[n]? = some (a, .lst xs) ∧ ixN xs.length k = some j ∧ R G (M.set n (a, .lst (xs.set j v)))
  | _, _ => False
def kgIx (to ti : KE) : KG := ⟨fun v σ G M R => to σ G M (fun o G M => ti σ G M (fun i G M => setL o i v G M (fun G M => R σ G M)) (fun _ _ _ _ => False)) (fun _ _ _ _ => False), fun _ _ _ _ _ => False⟩
theorem jg_ix {o i : Expr} {to ti : KE} (ho : JE X W0 o to) (hi : JE X W0 i ti)
    (ha : ∀ v, assign (.Subscript o i pos) X.env v = (do
      let ov ← holding [v] (eval o X.env)
      let iv ← holding [v, ov] (eval i X.env)
      standAt pos
      holding [v, ov, iv] (setItem ov iv v)
      release [v, ov, iv] []) := by intro _; rfl) : JG X (.Subscript o i pos) (kgIx to ti) (gSub (upG W0 to) (upG W0 ti) rSetL) :=
  ⟨pg_sub ho hi set_list ha, fun v σ G M R H Q hv q hR => ⟨G, M, _, _, hv, q, fun ov G2 M2 H2 hv2 q2 => ⟨G2, M2, _, _, hv2, q2, fun iv G3 M3 H3 hv3 q3 => by
    match ov, iv, q3 with
    | .ref a, .int k, ⟨n, xs, j, e1, e2, q⟩ => exact ⟨a, xs, k, j, rfl, rfl, hv3.get e1, e2, hR σ G3 _ _ (hv3.set e1) q⟩, fun _ _ _ _ _ _ z => z.elim⟩, fun _ _ _ _ _ _ z => z.elim⟩,
   fun _ _ _ _ _ _ _ _ _ _ z => z.elim⟩
/-- a target of an assignment -/
def kAsg (t : KE) (g : KG) : KS := fun D σ G M => t σ G M (fun v G M => g.val v σ G M D.nx) (D.x σ)
theorem js_asg {tg : Expr} {t : KE} {g : KG} {gr : TG} (he : JE X W e t) (hg : JG X tg g gr) (hs : swapsWithSole [tg] e pos.line X.env = pure false := by rfl) (hw : swappedStores [tg] e X.env = pure none := by rfl)
    (h1 : (assignEach [tg] X.env).map (·.2) = [assign tg X.env] := by rfl) : JS X W (.Assign [tg] e pos) (kAsg t g) := ps_mono (ps_asg he hg.pg hs hw h1) fun D σ H ⟨G, M, d, hv, h, en⟩ =>
  ⟨G, M, _, _, hv, h, fun v G' M' H' hv' q => hg.val v σ G' M' _ H' _ hv' q fun σ' G2 M2 H2 hv2 q2 => en.nx _ G2 M2 H2 hv2 q2, fun c a G' M' H' hv' q => en.xc c a σ G' M' H' hv' q⟩
end
end BT
set_option Elab.async false
set_option linter.all false
set_option maxRecDepth 100000
set_option maxHeartbeats 4000000
namespace BT
open PySem PySem.Spec L2
open PyProof.Rows hiding St
/-! ### what is walked -/
structure Src where
  n : Nat
  get : Nat → V ⊕ List V
  ok : Hp → Mem → Prop
abbrev KI := KK Src
/-- an iterator that gives what the source says -/
structure Goes (src : Src) (J : It) : Prop where
  go : ∀ i G M H, Hv G M H → src.ok G M → i < src.n → J.go i H
  stop : ∀ i G M H, Hv G M H → src.ok G M → src.n ≤ i → J.stop i H
  yld : ∀ i G M H x H', Hv G M H → src.ok G M → i < src.n → J.yld i H x H' → match src.get i with
    | .inl v => x = v ∧ H' = H
    | .inr vs => ∃ T, x = .ref T ∧ H T = none ∧ H' = upd H T (.tup vs)
def upI (W : WX) (t : KI) : TI := fun σ H Q => ∃ G M R E, Hv G M H ∧ t σ G M R E ∧ (∀ src G' M' H', Hv G' M' H' → R src G' M' → ∀ J, Goes src J → Q J H') ∧ (∀ c d G' M' H', Hv G' M' H' → E c d G' M' → W c d σ H')
def JI (X : Cx) (W : WX) (tg it : Expr) (t : KI) : Prop := PI X tg it (upI W t)
theorem pi_mono {X : Cx} {tg it : Expr} {t t' : TI} (h : PI X tg it t) (i : ∀ σ H Q, t' σ H Q → t σ H Q) : PI X tg it t' := ⟨fun pins s σ H Q I q => h.run pins s σ H Q I (i σ H Q q)⟩
def srcL (K : PySem.W.Frag) (a : Addr) (xs : List V) : Src := ⟨xs.length, fun i => .inl (xs.getD i .non), fun G M => LstAt K G M a xs⟩
def srcT (K : PySem.W.Frag) (a : Addr) (xs : List V) : Src := ⟨xs.length, fun i => .inl (xs.getD i .non), fun G M => SqT K G a xs⟩
def srcR (lo : Int) (n : Nat) : Src := ⟨n, fun i => .inl (.int (lo + i)), fun _ _ => True⟩
def srcC (lo c : Int) (n : Nat) : Src := ⟨n, fun i => .inl (.int (lo + (i : Nat) * c)), fun _ _ => True⟩
def srcE (K : PySem.W.Frag) (a : Addr) (xs : List V) : Src := ⟨xs.length, fun i => .inr [.int i, xs.getD i .non], fun G M => LstAt K G M a xs⟩
def srcZ (K : PySem.W.Frag) (a b : Addr) (xs ys : List V) : Src := ⟨min xs.length ys.length, fun i => .inr [xs.getD i .non, ys.getD i .non], fun G M => LstAt K G M a xs ∧ LstAt K G M b ys⟩
def srcV (K : PySem.W.Frag) (a : Addr) (xs : List V) : Src := ⟨xs.length, fun i => .inl (xs.getD (xs.length - 1 - i) .non), fun G M => LstAt K G M a xs⟩
theorem getD_of {xs : List V} {i : Nat} {x : V} (h : xs[i]? = some x) : xs.getD i .non = x := by
  rw [List.getD_eq_getElem?_getD, h]; rfl
theorem get_lt {xs : List V} {i : Nat} (h : i < xs.length) : xs[i]? = some (xs.getD i .non) := by
  rw [List.getD_eq_getElem?_getD, List.getElem?_eq_getElem h]; rfl
theorem goes_L {K : PySem.W.Frag} {a : Addr} {xs : List V} : Goes (srcL K a xs) (Itl K a) where
  go := fun i G M H hv ok hi => ⟨xs, _, hv.lst ok, get_lt hi⟩
  stop := fun i G M H hv ok hi => ⟨xs, hv.lst ok, hi⟩
  yld := fun i G M H x H' hv ok hi y => ⟨(getD_of (y.2 xs (hv.lst ok))).symm, y.1⟩
theorem goes_T {K : PySem.W.Frag} {a : Addr} {xs : List V} : Goes (srcT K a xs) (Itt K a) where
  go := fun i G M H hv ok hi => ⟨xs, _, hv.tup ok, get_lt hi⟩
  stop := fun i G M H hv ok hi => ⟨xs, hv.tup ok, hi⟩
  yld := fun i G M H x H' hv ok hi y => ⟨(getD_of (y.2 xs (hv.tup ok))).symm, y.1⟩
theorem goes_R {lo : Int} {n : Nat} : Goes (srcR lo n) (Itr lo n) where
  go := fun i G M H hv ok hi => hi
  stop := fun i G M H hv ok hi => hi
  yld := fun i G M H x H' hv ok hi y => ⟨y.2, y.1⟩
theorem goes_C {lo c : Int} {n : Nat} : Goes (srcC lo c n) (Itc lo c n) where
  go := fun i G M H hv ok hi => hi
  stop := fun i G M H hv ok hi => hi
  yld := fun i G M H x H' hv ok hi y => ⟨y.2, y.1⟩
theorem goes_E {K : PySem.W.Frag} {a : Addr} {xs : List V} : Goes (srcE K a xs) (Ite K a) where
  go := fun i G M H hv ok hi => ⟨xs, _, hv.lst ok, get_lt hi⟩
  stop := fun i G M H hv ok hi => ⟨xs, hv.lst ok, hi⟩
  yld := fun i G M H x H' hv ok hi y => by
    obtain ⟨T, z, e1, e2, e3, e4⟩ := y
    have e5 := getD_of (e4 xs (hv.lst ok))
    exact ⟨T, e1, e2, by rw [e3, ← e5]⟩
theorem goes_Z {K : PySem.W.Frag} {a b : Addr} {xs ys : List V} : Goes (srcZ K a b xs ys) (Itz K a b) where
  go := fun i G M H hv ok hi => ⟨xs, ys, _, _, hv.lst ok.1, hv.lst ok.2, get_lt (Nat.lt_of_lt_of_le hi (Nat.min_le_left _ _)), get_lt (Nat.lt_of_lt_of_le hi (Nat.min_le_right _ _))⟩
  stop := fun i G M H hv ok hi => ⟨xs, ys, hv.lst ok.1, hv.lst ok.2, by
    have hi : min xs.length ys.length ≤ i := hi
    omega⟩
  yld := fun i G M H x H' hv ok hi y => by
    obtain ⟨T, z, w, e1, e2, e3, e4, e5⟩ := y
    have e6 := getD_of (e4 xs (hv.lst ok.1))
    have e7 := getD_of (e5 ys (hv.lst ok.2))
    exact ⟨T, e1, e2, by rw [e3, ← e6, ← e7]⟩
theorem goes_V {K : PySem.W.Frag} {a : Addr} {xs : List V} : Goes (srcV K a xs) (Itv K a xs.length) where
  go := fun i G M H hv ok hi => ⟨hi, xs, _, hv.lst ok, get_lt (by have hi : i < xs.length := hi; omega)⟩
  stop := fun i G M H hv ok hi => hi
  yld := fun i G M H x H' hv ok hi y => ⟨(getD_of (y.2 xs (hv.lst ok))).symm, y.1⟩
section
variable {X : Cx} {W : WX} {pos p tpos : Pos} {e e2 a b c : Expr} {es : List Expr} {tg : Expr}
def kiSeq (K : PySem.W.Frag) (t : KE) : KI := fun σ G M R E => t σ G M (fun x G M => match x with
  | .ref a => ∃ xs, LstAt K G M a xs ∧ R (srcL K a xs) G M
  | _ => False) E
def kiTup (K : PySem.W.Frag) (t : KE) : KI := fun σ G M R E => t σ G M (fun x G M => match x with
  | .ref a => ∃ xs, SqT K G a xs ∧ R (srcT K a xs) G M
  | _ => False) E
theorem ji_list {t : KE} (h : JE X W e t) : JI X W tg e (kiSeq X.K t) := pi_mono (pi_list h) fun σ H Q ⟨G, M, R, E, hv, h, hR, hE⟩ => ⟨G, M, _, E, hv, h, fun x G1 M1 H1 hv1 q => by
    match x, q with
    | .ref a, ⟨xs, q1, q2⟩ => exact ⟨a, rfl, ⟨xs, hv1.lst q1⟩, hR _ G1 M1 H1 hv1 q2 _ goes_L⟩, hE⟩
theorem ji_tup {t : KE} (h : JE X W e t) : JI X W tg e (kiTup X.K t) := pi_mono (pi_tup h) fun σ H Q ⟨G, M, R, E, hv, h, hR, hE⟩ => ⟨G, M, _, E, hv, h, fun x G1 M1 H1 hv1 q => by
    match x, q with
    | .ref a, ⟨xs, q1, q2⟩ => exact ⟨a, rfl, ⟨xs, hv1.tup q1⟩, hR _ G1 M1 H1 hv1 q2 _ goes_T⟩, hE⟩
/-- range(n), range(a, b), range(a, b, c) -/
def kiR1 (t : KA) : KI := fun σ G M R E => t σ G M (fun vs G M => match vs with
  | [.int j] => (-(2 ^ 62) ≤ j ∧ j < 2 ^ 62) ∧ R (srcR 0 j.toNat) G M
  | _ => False) E
def kiR2 (t : KA) : KI := fun σ G M R E => t σ G M (fun vs G M => match vs with
  | [.int i, .int j] => (-(2 ^ 62) ≤ i ∧ i < 2 ^ 62 ∧ -(2 ^ 62) ≤ j ∧ j < 2 ^ 62) ∧ R (srcR i (j - i).toNat) G M
  | _ => False) E
def kiR3 (t : KA) : KI := fun σ G M R E => t σ G M (fun vs G M => match vs with
  | [.int i, .int j, .int c] => ∃ n, RgC i j c n ∧ R (srcC i c n) G M
  | _ => False) E
theorem ji_range1 {t : KA} (hm : X.mg "range" = none) (ha : JA X W [a] t) (hg : Gl X "range" := by rfl) (hs : starEach [a] X.env = [(false, eval a X.env)] := by rfl) : JI X W tg (.Call (.Name "range" p) [a] [] pos) (kiR1 t) :=
  pi_mono (pi_range1 hg hm ha hs) fun σ H Q ⟨G, M, R, E, hv, h, hR, hE⟩ => ⟨G, M, _, E, hv, h, fun vs G1 M1 H1 hv1 q => by
    match vs, q with
    | [.int j], ⟨⟨q1, q2⟩, q3⟩ => exact ⟨j, rfl, q1, q2, hR _ G1 M1 H1 hv1 q3 _ goes_R⟩, hE⟩
theorem ji_range2 {t : KA} (hm : X.mg "range" = none) (ha : JA X W [a, b] t) (hg : Gl X "range" := by rfl) (hs : starEach [a, b] X.env = [(false, eval a X.env), (false, eval b X.env)] := by rfl) (hs2 : starEach [b] X.env = [(false, eval b X.env)] := by rfl) : JI X W tg (.Call (.Name "range" p) [a, b] [] pos) (kiR2 t) :=
  pi_mono (pi_range2 hg hm ha hs hs2) fun σ H Q ⟨G, M, R, E, hv, h, hR, hE⟩ => ⟨G, M, _, E, hv, h, fun vs G1 M1 H1 hv1 q => by
    match vs, q with
    | [.int i, .int j], ⟨q1, q3⟩ => exact ⟨i, j, rfl, q1, hR _ G1 M1 H1 hv1 q3 _ goes_R⟩, hE⟩
theorem ji_range3 {t : KA} (hm : X.mg "range" = none) (ha : JA X W [a, b, c] t) (hg : Gl X "range" := by rfl) (hs : starEach [a, b, c] X.env = (false, eval a X.env) :: starEach [b, c] X.env := by rfl) (hpl : (backTo pos (starEach [b, c] X.env)).any (·.1) = false := by rfl) : JI X W tg (.Call (.Name "range" p) [a, b, c] [] pos) (kiR3 t) :=
  pi_mono (pi_range3 hg hm ha hs hpl) fun σ H Q ⟨G, M, R, E, hv, h, hR, hE⟩ => ⟨G, M, _, E, hv, h, fun vs G1 M1 H1 hv1 q => by
    match vs, q with
    | [.int i, .int j, .int c], ⟨n, q1, q3⟩ => exact ⟨i, j, c, n, rfl, q1, hR _ G1 M1 H1 hv1 q3 _ goes_C⟩, hE⟩
def kiEnum (K : PySem.W.Frag) (t : KA) : KI := fun σ G M R E => t σ G M (fun vs G M => match vs with
  | [.ref a] => ∃ xs, LstAt K G M a xs ∧ R (srcE K a xs) G M
  | _ => False) E
def kiRev (K : PySem.W.Frag) (t : KA) : KI := fun σ G M R E => t σ G M (fun vs G M => match vs with
  | [.ref a] => ∃ xs, LstAt K G M a xs ∧ R (srcV K a xs) G M
  | _ => False) E
def kiZip (K : PySem.W.Frag) (t : KA) : KI := fun σ G M R E => t σ G M (fun vs G M => match vs with
  | [.ref a, .ref b] => ∃ xs ys, LstAt K G M a xs ∧ LstAt K G M b ys ∧ R (srcZ K a b xs ys) G M
  | _ => False) E
variable {elts : List Expr} {kk : Nat}
theorem ji_enum {t : KA} (hm : X.mg "enumerate" = none) (ha : JA X W [e] t) (hg : Gl X "enumerate" := by rfl) (hs : starEach [e] X.env = [(false, eval e X.env)] := by rfl) : JI X W (.Tuple elts kk tpos) (.Call (.Name "enumerate" p) [e] [] pos) (kiEnum X.K t) :=
  pi_mono (pi_enum hg hm ha hs) fun σ H Q ⟨G, M, R, E, hv, h, hR, hE⟩ => ⟨G, M, _, E, hv, h, fun vs G1 M1 H1 hv1 q => by
    match vs, q with
    | [.ref a], ⟨xs, q1, q3⟩ => exact ⟨a, xs, rfl, hv1.lst q1, hR _ G1 M1 H1 hv1 q3 _ goes_E⟩, hE⟩
theorem ji_rev {t : KA} (hm : X.mg "reversed" = none) (ha : JA X W [e] t) (hg : Gl X "reversed" := by rfl) (hs : starEach [e] X.env = [(false, eval e X.env)] := by rfl) : JI X W tg (.Call (.Name "reversed" p) [e] [] pos) (kiRev X.K t) :=
  pi_mono (pi_reversed hg hm ha hs) fun σ H Q ⟨G, M, R, E, hv, h, hR, hE⟩ => ⟨G, M, _, E, hv, h, fun vs G1 M1 H1 hv1 q => by
    match vs, q with
    | [.ref a], ⟨xs, q1, q3⟩ => exact ⟨a, xs, rfl, hv1.lst q1, hR _ G1 M1 H1 hv1 q3 _ goes_V⟩, hE⟩
theorem ji_zip {t : KA} (hm : X.mg "zip" = none) (ha : JA X W [e, e2] t) (hg : Gl X "zip" := by rfl) (hs : starEach [e, e2] X.env = (false, eval e X.env) :: starEach [e2] X.env := by rfl) (hpl : (backTo pos (starEach [e2] X.env)).any (·.1) = false := by rfl) :
    JI X W (.Tuple elts kk tpos) (.Call (.Name "zip" p) [e, e2] [] pos) (kiZip X.K t) :=
  pi_mono (pi_zip hg hm ha hs hpl) fun σ H Q ⟨G, M, R, E, hv, h, hR, hE⟩ => ⟨G, M, _, E, hv, h, fun vs G1 M1 H1 hv1 q => by
    match vs, q with
    | [.ref a, .ref b], ⟨xs, ys, q1, q2, q3⟩ => exact ⟨a, b, xs, ys, rfl, hv1.lst q1, hv1.lst q2, hR _ G1 M1 H1 hv1 q3 _ goes_Z⟩, hE⟩
/-! ### for -/
def asg (g : KG) (w : V ⊕ List V) : St → Hp → Mem → (St → Hp → Mem → Prop) → Prop := match w with
  | .inl v => g.val v
  | .inr vs => g.tup vs
def wk1 (Pv : St → Hp → Mem → Prop) : St → Hp → Mem → Prop := fun σ G M => ∃ G' M', Wk G M G' M' ∧ Pv σ G' M'
def kFor (ti : KI) (g : KG) (tb : KS) : KS := fun D σ G M => ti σ G M (fun src G M => ∃ Pv : Nat → St → Hp → Mem → Prop, Pv 0 σ G M ∧ (∀ i σ G M, i ≤ src.n → Pv i σ G M → src.ok G M) ∧
  (∀ i σ G M, i < src.n → Pv i σ G M → asg g (src.get i) σ G M (fun σ G M => tb { D with nx := wk1 (Pv (i + 1)), ct := wk1 (Pv (i + 1)), bk := D.nx } σ G M)) ∧ (∀ σ G M, Pv src.n σ G M → D.nx σ G M)) (D.x σ)
theorem asg_sim {g : KG} {gr : TG} (hg : JG X tg g gr) {w : V ⊕ List V} {σ : St} {G : Hp} {M : Mem} {R : St → Hp → Mem → Prop} {H H' : Hp} {x : V} {Q : St → Hp → Prop} (hv : Hv G M H)
    (y : match w with | .inl v => x = v ∧ H' = H | .inr vs => ∃ T, x = .ref T ∧ H T = none ∧ H' = upd H T (.tup vs)) (h : asg g w σ G M R) (hR : ∀ σ' G' M' H', Hv G' M' H' → R σ' G' M' → Q σ' H') : gr x σ H' Q := by
  cases w with
  | inl v =>
    obtain ⟨rfl, rfl⟩ := y
    exact hg.val _ σ G M R _ Q hv h hR
  | inr vs =>
    obtain ⟨T, rfl, hT, rfl⟩ := y
    exact hg.tup T vs σ G M R H Q hv hT h hR
theorem js_for {it : Expr} {body : List Stmt} {ti : KI} {g : KG} {gr : TG} {tb : KS} (hp : PassesOwn (model X.prog X.w) X.A X.env X.xe) (hc : X.calm = true) (hi : JI X W tg it ti) (hg : JG X tg g gr) (hb : JSs X W body tb)
    (hs : ∀ x, foldedSetIterable it X.env x = pure x := by intro _; rfl) : JS X W (.For tg it body [] pos) (kFor ti g tb) := ps_mono (ps_for hp hc hi hg.pg hb hs) fun D σ H ⟨G, M, d, hv, h, en⟩ => by
  refine ⟨G, M, _, _, hv, h, fun src G1 M1 H1 hv1 q J go => ?_, fun c a G' M' H' hv' q => en.xc c a σ G' M' H' hv' q⟩
  obtain ⟨Pv, p0, pok, pst, pend⟩ := q
  refine ⟨fun i m σ H => m = src.n - i ∧ i ≤ src.n ∧ ∃ G M, Hv G M H ∧ Pv i σ G M, ⟨src.n, by simp, Nat.zero_le _, G1, M1, hv1, p0⟩, ?_⟩
  rintro i m σ2 H2 ⟨rfl, hi2, G2, M2, hv2, p2⟩
  have ok := pok i σ2 G2 M2 hi2 p2
  by_cases hlt : i < src.n
  · refine .inr ⟨go.go i G2 M2 H2 hv2 ok hlt, fun σ' H' => ∃ G M, Hv G M H' ∧ Pv (i + 1) σ' G M, fun σ' H' ⟨G3, M3, hv3, p3⟩ => ⟨src.n - (i + 1), by omega, rfl, hlt, G3, M3, hv3, p3⟩, fun x H' y => ?_⟩
    refine asg_sim hg hv2 (go.yld i G2 M2 H2 x H' hv2 ok hlt y) (pst i σ2 G2 M2 hlt p2) fun σ3 G3 M3 H3 hv3 q3 => ?_
    have e1 : ∀ σ G M H, Hv G M H → wk1 (Pv (i + 1)) σ G M → ∃ G M, Hv G M H ∧ Pv (i + 1) σ G M := fun σ G M H hv ⟨G', M', wk, q⟩ => ⟨G', M', wk H hv, q⟩
    exact ⟨G3, M3, _, hv3, q3, ⟨e1, en.rt, en.nx, e1, en.xc⟩⟩
  · have e : i = src.n := by omega
    subst e
    exact .inl ⟨go.stop _ G2 M2 H2 hv2 ok (Nat.le_refl _), en.nx _ G2 M2 H2 hv2 (pend σ2 G2 M2 p2)⟩
/-! ### while -/
def kWhile (c : KT) (tb : KS) : KS := fun D σ G M => ∃ Pv : Nat → St → Hp → Mem → Prop, (∃ m, Pv m σ G M) ∧ ∀ m σ G M, Pv m σ G M →
  c σ G M (fun b G M => if b = true then tb { D with nx := fun σ G M => ∃ m', m' < m ∧ wk1 (Pv m') σ G M, ct := fun σ G M => ∃ m', m' < m ∧ wk1 (Pv m') σ G M, bk := D.nx } σ G M else D.nx σ G M) (D.x σ)
theorem js_while {c : Expr} {body : List Stmt} {tc : KT} {tb : KS} (hp : PassesOwn (model X.prog X.w) X.A X.env X.xe) (hc : JT X W c tc) (hb : JSs X W body tb) : JS X W (.While c body [] pos) (kWhile tc tb) := ps_mono (ps_while hp hc hb) fun D σ H ⟨G, M, d, hv, ⟨Pv, ⟨m0, p0⟩, st⟩, en⟩ => by
  refine ⟨fun m σ H => ∃ G M, Hv G M H ∧ Pv m σ G M, ⟨m0, G, M, hv, p0⟩, ?_⟩
  rintro m σ1 H1 ⟨G1, M1, hv1, p1⟩
  refine ⟨G1, M1, _, _, hv1, st m σ1 G1 M1 p1, fun b G2 M2 H2 hv2 q2 => ?_, fun c a G' M' H' hv' q => en.xc c a σ1 G' M' H' hv' q⟩
  cases b with
  | true =>
    rw [if_pos rfl] at q2 ⊢
    refine ⟨fun σ' H' => ∃ m', m' < m ∧ ∃ G M, Hv G M H' ∧ Pv m' σ' G M, fun σ' H' h => h, ?_⟩
    have e1 : ∀ σ G M H, Hv G M H → (∃ m', m' < m ∧ wk1 (Pv m') σ G M) → ∃ m', m' < m ∧ ∃ G M, Hv G M H ∧ Pv m' σ G M := fun σ G M H hv ⟨m', l, G', M', wk, q⟩ => ⟨m', l, G', M', wk H hv, q⟩
    exact ⟨G2, M2, _, hv2, q2, ⟨e1, en.rt, en.nx, e1, en.xc⟩⟩
  | false =>
    rw [if_neg Bool.false_ne_true] at q2 ⊢
    exact en.nx _ G2 M2 H2 hv2 q2
/-! ### list comprehensions -/
def E0 : KX := fun _ _ _ _ => False
def kYes : KT := fun _ G M R _ => R true G M
def JTs (X : Cx) (W : WX) (es : List Expr) (t : KT) : Prop := PTs X es (upG W t)
theorem jts_nil : JTs X W [] kYes := ⟨fun pins s σ H Q I ⟨G, M, R, E, hv, h, hR, _⟩ => pts_nil.run pins s σ H Q I (hR _ G M H hv h)⟩
theorem jts_one {t : KT} (h : JT X W c t) : JTs X W [c] t := pts_one h
def kComp (ti : KI) (g : KG) (tt : KT) (te : KE) (own : List Nat) : KE := fun σ G M R E => ti σ G M (fun src G M => src.n ≤ sizeLine ∧ ∃ Pv : Nat → List V → Hp → Mem → Prop, Pv 0 [] G M ∧ (∀ i acc G M, i ≤ src.n → Pv i acc G M → src.ok G M) ∧
  (∀ i acc G M D, i < src.n → acc.length ≤ i → Pv i acc G M → Fr G M D → asg g (src.get i) (wipe σ own) G ((D, .lst acc) :: M) (fun σ2 G M => wipe σ2 own = wipe σ own ∧ tt σ2 G M (fun b G M =>
    if b = true then te σ2 G M (fun y G M => ∃ G' M', Wk G M G' ((D, .lst acc) :: M') ∧ Pv (i + 1) (acc ++ [y]) G' M') E0 else ∃ G' M', Wk G M G' ((D, .lst acc) :: M') ∧ Pv (i + 1) acc G' M') E0)) ∧
  (∀ acc G M p, Pv src.n acc G M → acc.length ≤ src.n → Fr G M p → R (.ref p) G ((p, .lst acc) :: M))) E
theorem comp_sim {K : PySem.W.Frag} {ti : KI} {g : KG} {gr : TG} {tt : KT} {te : KE} {own : List Nat} {σ : St} {H : Hp} {Q : VK}
    (hgv : ∀ v σ G M R H Q, Hv G M H → g.val v σ G M R → (∀ σ' G' M' H', Hv G' M' H' → R σ' G' M' → Q σ' H') → gr v σ H Q)
    (hgt : ∀ T vs σ G M R H Q, Hv G M H → H T = none → g.tup vs σ G M R → (∀ σ' G' M' H', Hv G' M' H' → R σ' G' M' → Q σ' H') → gr (.ref T) σ (upd H T (.tup vs)) Q)
    (h : upG W (kComp ti g tt te own) σ H Q) : tLc (upI W ti) gr (upG W0 tt) (upG W0 te) own σ H Q := by
  obtain ⟨G, M, R, E, hv, h, hR, hE⟩ := h
  refine ⟨G, M, _, E, hv, h, fun src G1 M1 H1 hv1 q J go => ?_, hE⟩
  obtain ⟨hn, Pv, p0, pok, pst, pend⟩ := q
  intro D hD
  refine ⟨fun i m H => m = src.n - i ∧ i ≤ src.n ∧ ∃ acc G M, acc.length ≤ i ∧ Hv G ((D, .lst acc) :: M) H ∧ Pv i acc G M, ⟨src.n, by simp, Nat.zero_le _, [], G1, M1, Nat.le_refl _, hv1.newM hD, p0⟩, ?_⟩
  rintro i m H2 ⟨rfl, hi2, acc, G2, M2, hacc, hv2, p2⟩
  have hv2' : Hv G2 M2 H2 := Wk.drop0 H2 hv2
  have ok := pok i acc G2 M2 hi2 p2
  have fD : Fr G2 M2 D := by
    refine ⟨hv2.dj (D, .lst acc) List.mem_cons_self, fun x hx e => ?_⟩
    have nd := hv2.nd
    rw [List.map_cons, List.nodup_cons] at nd
    exact nd.1 (by rw [← e]; exact List.mem_map.mpr ⟨x, hx, rfl⟩)
  by_cases hlt : i < src.n
  · refine .inr ⟨go.go i G2 M2 H2 hv2' ok hlt, fun H' => ∃ acc G M, acc.length ≤ i + 1 ∧ Hv G ((D, .lst acc) :: M) H' ∧ Pv (i + 1) acc G M, fun H' ⟨acc', G3, M3, l3, hv3, p3⟩ => ⟨src.n - (i + 1), by omega, rfl, hlt, acc', G3, M3, l3, hv3, p3⟩, fun x H' y => ?_⟩
    have step := pst i acc G2 M2 D hlt hacc p2 fD
    have yy := go.yld i G2 M2 H2 x H' hv2' ok hlt y
    have fin : ∀ σ3 G3 M3 H3, Hv G3 M3 H3 → (wipe σ3 own = wipe σ own ∧ tt σ3 G3 M3 (fun b G M =>
        if b = true then te σ3 G M (fun y G M => ∃ G' M', Wk G M G' ((D, .lst acc) :: M') ∧ Pv (i + 1) (acc ++ [y]) G' M') E0 else ∃ G' M', Wk G M G' ((D, .lst acc) :: M') ∧ Pv (i + 1) acc G' M') E0) →
        (wipe σ3 own = wipe σ own ∧ upG W0 tt σ3 H3 fun b H3 => if b = true then upG W0 te σ3 H3 fun y H4 => ∃ acc, H4 D = some (.lst acc) ∧ acc.length < sizeLine ∧ (∃ acc' G M, acc'.length ≤ i + 1 ∧ Hv G ((D, .lst acc') :: M) (upd H4 D (.lst (acc ++ [y]))) ∧ Pv (i + 1) acc' G M) else ∃ acc' G M, acc'.length ≤ i + 1 ∧ Hv G ((D, .lst acc') :: M) H3 ∧ Pv (i + 1) acc' G M) := by
      rintro σ3 G3 M3 H3 hv3 ⟨ew, q3⟩
      refine ⟨ew, G3, M3, _, _, hv3, q3, fun b G4 M4 H4 hv4 q4 => ?_, fun _ _ _ _ _ _ z => z.elim⟩
      cases b with
      | true =>
        rw [if_pos rfl] at q4 ⊢
        refine ⟨G4, M4, _, _, hv4, q4, fun y G5 M5 H5 hv5 ⟨G6, M6, wk, p6⟩ => ?_, fun _ _ _ _ _ _ z => z.elim⟩
        have hv6 := wk H5 hv5
        refine ⟨acc, hv6.mu (D, .lst acc) List.mem_cons_self, by omega, acc ++ [y], G6, M6, by rw [List.length_append]; exact Nat.succ_le_succ hacc, ?_, p6⟩
        exact hv6.set (n := 0) (o' := .lst (acc ++ [y])) rfl
      | false =>
        rw [if_neg Bool.false_ne_true] at q4 ⊢
        obtain ⟨G6, M6, wk, p6⟩ := q4
        exact ⟨acc, G6, M6, by omega, wk H4 hv4, p6⟩
    revert yy step
    cases src.get i with
    | inl v =>
      rintro step ⟨rfl, rfl⟩
      exact hgv _ _ G2 _ _ _ _ hv2 step fin
    | inr vs =>
      rintro step ⟨T, rfl, hT, rfl⟩
      exact hgt T vs _ G2 _ _ _ _ hv2 hT step fin
  · have e : i = src.n := by omega
    subst e
    exact .inl ⟨go.stop _ G2 M2 H2 hv2' ok (Nat.le_refl _), hR _ _ _ _ hv2 (pend acc G2 M2 D p2 hacc fD)⟩
variable {elt it : Expr} {ifs : List Expr} {scope : Scope} {own : List (Str × Nat)} {spos py : Pos}
theorem je_comp {ti : KI} {g : KG} {gr : TG} {tt : KT} {te : KE} (hc : X.calm = true) (hN : X.N.Nodup) (hi : JI X W tg it ti) (ok : BlkOk X.N X.env.scope scope own)
    (hg : ∀ (s : Shared) (H : Hp) (C : Addr) (cl : List (Str × Addr)) (fp : List Addr), JG (X.blk s H scope (compEnvC scope cl C X.env) fp) tg g gr) (ht : ∀ (s : Shared) (H : Hp) (C : Addr) (cl : List (Str × Addr)) (fp : List Addr), JTs (X.blk s H scope (compEnvC scope cl C X.env) fp) W0 ifs tt)
    (he : ∀ (s : Shared) (H : Hp) (C : Addr) (cl : List (Str × Addr)) (fp : List Addr), JE (X.blk s H scope (compEnvC scope cl C X.env) fp) W0 elt te) (hs : ∀ x, foldedSetIterable it X.env x = pure x := by intro _; rfl) :
    JE X W (.ListComp elt [⟨tg, it, ifs, 0⟩] scope pos) (kComp ti g tt te (own.map (·.2))) :=
  pe_mono (pe_lc hc hN hi ok (fun s H C cl fp => (hg s H C cl fp).pg) ht he hs) fun σ H Q h =>
    comp_sim (K := X.K) (fun v σ G M R H Q hv => ((hg X.s_0 H 0 [] []).val v σ G M R H Q hv)) (fun T vs σ G M R H Q hv => ((hg X.s_0 H 0 [] []).tup T vs σ G M R H Q hv)) h
theorem js_setComp {i : Nat} {y : Str} {ti : KI} {g : KG} {gr : TG} {tt : KT} {te : KE} (hc : X.calm = true) (hN : X.N.Nodup) (hsw : swapsWith (.ListComp elt [⟨tg, it, ifs, 0⟩] scope pos) (some (.Name y py)) spos.line X.env = pure true) (hi : JI X W tg it ti) (ok : BlkOk X.N X.env.scope scope own)
    (hg : ∀ (s : Shared) (H : Hp) (C : Addr) (cl : List (Str × Addr)) (fp : List Addr), JG (X.blk s H scope (compEnvC scope cl C X.env) fp) tg g gr) (ht : ∀ (s : Shared) (H : Hp) (C : Addr) (cl : List (Str × Addr)) (fp : List Addr), JTs (X.blk s H scope (compEnvC scope cl C X.env) fp) W0 ifs tt)
    (he : ∀ (s : Shared) (H : Hp) (C : Addr) (cl : List (Str × Addr)) (fp : List Addr), JE (X.blk s H scope (compEnvC scope cl C X.env) fp) W0 elt te) (hy : X.N[i]? = some y := by rfl) (hyl : X.env.scope.names.lookup y = some .local := by rfl) (hs : ∀ x, foldedSetIterable it X.env x = pure x := by intro _; rfl) :
    JS X W (.Assign [.Name y py] (.ListComp elt [⟨tg, it, ifs, 0⟩] scope pos) spos) (kSet i (kComp ti g tt te (own.map (·.2)))) :=
  ps_mono (ps_setLc hc hN hy hyl hsw hi ok (fun s H C cl fp => (hg s H C cl fp).pg) ht he hs) fun D σ H ⟨G, M, d, hv, h, en⟩ =>
    comp_sim (K := X.K) (fun v σ G M R H Q hv => ((hg X.s_0 H 0 [] []).val v σ G M R H Q hv)) (fun T vs σ G M R H Q hv => ((hg X.s_0 H 0 [] []).tup T vs σ G M R H Q hv))
      ⟨G, M, _, _, hv, h, fun v G' M' H' hv' q => en.nx _ G' M' H' hv' q, fun c a G' M' H' hv' q => en.xc c a σ G' M' H' hv' q⟩
end
/-! ### a def -/
/-- what is known may be weakened at the end -/
def wkR (R : KR) : KR := fun v G M => ∃ G' M', Wk G M G' M' ∧ R v G' M'
def wkX (Z : KX) : KX := fun c d G M => ∃ G' M', Wk G M G' M' ∧ Z c d G' M'
theorem ret0 {R : KR} {v : V} {G : Hp} {M : Mem} (h : R v G M) : wkR R v G M := ⟨G, M, Wk.refl, h⟩
theorem retW {R : KR} {v : V} {G G' : Hp} {M M' : Mem} (w : Wk G M G' M') (h : R v G' M') : wkR R v G M := ⟨G', M', w, h⟩
section
variable {P : Program} {w : World} {K : PySem.W.Frag} {mg : Str → Option Value} {base : Heap}
theorem fn_ok {x qual : Str} {st : Stmt} {f : Addr} {fd : FuncData} {N ps : List Str} {k : Nat} {S : KSp} (F : Fun K x qual st f fd) (sc : FnScope N ps (defScope st)) (len : ∀ vs G M R X, S vs G M R X → vs.length = ps.length)
    (hbody : ∀ (cdv : Value) (A : Around) (outer : List Env) (s : Shared) (H : Hp) (E : XK), Room k (A.deeper (envOfC qual (defScope st) s.heap.objs.size f cdv)) →
      ∃ t, JSs (cxOf (L2.CX P w) P w K mg base N qual (defScope st) f cdv A outer s H E) (fun c d _ H => E c d H) (defBody st) t ∧
        ∀ vs G M R Z, S vs G M R Z → t { nx := fun _ G M => wkR R .non G M, rt := wkR R, xc := fun c d _ G M => wkX Z c d G M } (start N vs) G M) : FnOk P w K mg base (L2.CX P w) (k + 1) f fd ps (lift S) := by
  refine F.okX sc (fun vs H Q E ⟨G, M, R, Z, _, h, _⟩ => len vs G M R Z h) fun cdv A outer s H vs Q E hr ⟨G, M, R, Z, hv, h, hR, hZ⟩ => ?_
  obtain ⟨t, j, q⟩ := hbody cdv A outer s H E hr
  exact ⟨_, j, G, M, _, hv, q vs G M R Z h, ⟨fun σ G M H hv ⟨G', M', w, q⟩ => hR _ G' M' H (w H hv) q, fun v G M H hv ⟨G', M', w, q⟩ => hR _ G' M' H (w H hv) q, fun _ _ _ _ _ z => z.elim, fun _ _ _ _ _ z => z.elim, fun c a σ G M H hv ⟨G', M', w, q⟩ => hZ c a G' M' H (w H hv) q⟩⟩
/-- a def that keeps its promise -/
structure Def (P : Program) (w : World) (K : PySem.W.Frag) (mg : Str → Option Value) (base : Heap) (lev : Nat) (x : Str) (ps : List Str) (S : KSp) : Prop where
  ex : ∃ f fd, FnOk P w K mg base (L2.CX P w) lev f fd ps (lift S) ∧ mg x = some (.ref f) ∧ PySem.W.keepIn K (.ref f) = true ∧ Binds K fd ps []
end
section
variable {X : Cx} {W : WX} {pos p : Pos} {e : Expr} {es : List Expr} {x : Str} {k lev : Nat} {ps : List Str} {S : KSp} {t : KA}
theorem je_callD (D : Def X.prog X.w X.K X.mg X.base lev x ps S) (hr : Room k X.A) (tk : Takes X W) (ha : JA X W (e :: es) t) (hl : lev ≤ k := by decide) (hg : Gl X x := by rfl)
    (hdb : (x == ("__debug__" : Str)) = false := by decide) (he : starEach (e :: es) X.env = (false, eval e X.env) :: starEach es X.env := by rfl) (hpl : (backTo pos (starEach es X.env)).any (·.1) = false := by rfl) :
    JE X W (.Call (.Name x p) (e :: es) [] pos) (kCall S t) := by
  obtain ⟨f, fd, F, hm, hk, hb⟩ := D.ex
  exact je_call (F.mono hl) hr tk hm hk hb ha hg hdb he hpl
end
end BT
set_option Elab.async false
set_option linter.all false
set_option maxRecDepth 100000
set_option maxHeartbeats 4000000
namespace BT
open PySem PySem.Spec L2
open PyProof.Rows hiding St
/-! ### promises by the number of arguments -/
def sp1 (f : V → Hp → Mem → KR → KX → Prop) : KSp := fun vs G M R Z => match vs with
  | [x] => f x G M R Z
  | _ => False
def sp2 (f : V → V → Hp → Mem → KR → KX → Prop) : KSp := fun vs G M R Z => match vs with
  | [x, y] => f x y G M R Z
  | _ => False
def sp3 (f : V → V → V → Hp → Mem → KR → KX → Prop) : KSp := fun vs G M R Z => match vs with
  | [x, y, z] => f x y z G M R Z
  | _ => False
def sp4 (f : V → V → V → V → Hp → Mem → KR → KX → Prop) : KSp := fun vs G M R Z => match vs with
  | [x, y, z, u] => f x y z u G M R Z
  | _ => False
def sp5 (f : V → V → V → V → V → Hp → Mem → KR → KX → Prop) : KSp := fun vs G M R Z => match vs with
  | [x, y, z, u, t] => f x y z u t G M R Z
  | _ => False
section
variable {vs : List V} {G : Hp} {M : Mem} {R : KR} {Z : KX}
theorem sp1_of {f} (h : sp1 f vs G M R Z) : ∃ x, vs = [x] ∧ f x G M R Z := by
  match vs, h with
  | [x], h => exact ⟨x, rfl, h⟩
theorem sp2_of {f} (h : sp2 f vs G M R Z) : ∃ x y, vs = [x, y] ∧ f x y G M R Z := by
  match vs, h with
  | [x, y], h => exact ⟨x, y, rfl, h⟩
theorem sp3_of {f} (h : sp3 f vs G M R Z) : ∃ x y z, vs = [x, y, z] ∧ f x y z G M R Z := by
  match vs, h with
  | [x, y, z], h => exact ⟨x, y, z, rfl, h⟩
theorem sp4_of {f} (h : sp4 f vs G M R Z) : ∃ x y z u, vs = [x, y, z, u] ∧ f x y z u G M R Z := by
  match vs, h with
  | [x, y, z, u], h => exact ⟨x, y, z, u, rfl, h⟩
theorem sp5_of {f} (h : sp5 f vs G M R Z) : ∃ x y z u t, vs = [x, y, z, u, t] ∧ f x y z u t G M R Z := by
  match vs, h with
  | [x, y, z, u, t], h => exact ⟨x, y, z, u, t, rfl, h⟩
theorem sp_len1 {f} (h : sp1 f vs G M R Z) : vs.length = 1 := by obtain ⟨_, rfl, _⟩ := sp1_of h; rfl
theorem sp_len2 {f} (h : sp2 f vs G M R Z) : vs.length = 2 := by obtain ⟨_, _, rfl, _⟩ := sp2_of h; rfl
theorem sp_len3 {f} (h : sp3 f vs G M R Z) : vs.length = 3 := by obtain ⟨_, _, _, rfl, _⟩ := sp3_of h; rfl
theorem sp_len4 {f} (h : sp4 f vs G M R Z) : vs.length = 4 := by obtain ⟨_, _, _, _, rfl, _⟩ := sp4_of h; rfl
theorem sp_len5 {f} (h : sp5 f vs G M R Z) : vs.length = 5 := by obtain ⟨_, _, _, _, _, rfl, _⟩ := sp5_of h; rfl
end
/-- what a body has at its ends -/
abbrev ends (R : KR) (Z : KX) : Kd := { nx := fun _ G M => wkR R .non G M, rt := wkR R, xc := fun c d _ G M => wkX Z c d G M }
/-! ### small helps -/
section
variable {K : PySem.W.Frag} {G : Hp} {M : Mem} {a p : Addr} {xs : List V} {o : HO} {n : Nat}
theorem lst_n (h : M[n]? = some (a, .lst xs)) : SeqAt' K G M a xs := .inl (.inl (List.mem_of_getElem? h))
theorem lat_n (h : M[n]? = some (a, .lst xs)) : LstAt K G M a xs := .inl (List.mem_of_getElem? h)
theorem lst_g (h : SqL K G a xs) : SeqAt' K G M a xs := .inl (.inr h)
theorem lat_g (h : SqL K G a xs) : LstAt K G M a xs := .inr h
theorem tup_g (h : SqT K G a xs) : SeqAt' K G M a xs := .inr h
theorem at_n (h : M[n]? = some (a, o)) : At G M a o := .inl (List.mem_of_getElem? h)
theorem set_n {x : Addr × HO} (h : M[n]? = some (p, o)) : (M.set n x)[n]? = some x := List.getElem?_set_self (List.getElem?_eq_some_iff.mp h).1
theorem sqt_new {xs : List V} : SqT K (upd G p (.tup xs)) p xs := .inl (.inl upd_same)
theorem sql_new {xs : List V} : SqL K (upd G p (.lst xs)) p xs := .inl (.inl upd_same)
theorem ite2' {c : Bool} {A B : Prop} (h1 : c = true → A) (h2 : c = false → B) : if c = true then A else B := by
  cases c with
  | true => rw [if_pos rfl]; exact h1 rfl
  | false => rw [if_neg Bool.false_ne_true]; exact h2 rfl
theorem sz {n : Nat} (h : n ≤ 16777216) : n ≤ sizeLine := h
theorem tyl_n (h : M[n]? = some (a, .lst xs)) : ∀ H, Hv G M H → tyV K "list" (.ref a) H := fun H hv => .inl ⟨rfl, xs, .inl (.inl (hv.get h))⟩
theorem tyl_g (h : SqL K G a xs) : ∀ H, Hv G M H → tyV K "list" (.ref a) H := fun H hv => .inl ⟨rfl, xs, ex_l hv.exx h⟩
end
/-! ### the law's pool of numbers -/
def pool (c s : Int) : HO := .lst [.int c, .int s]
def PoolOk (s : Int) : Prop := 0 ≤ s ∧ s < 2147483647
def S_law_take (K : PySem.W.Frag) : KSp := sp2 fun x y G M R Z => ∃ (p : Addr) (m : Int) (n : Nat) (c s : Int), x = .ref p ∧ y = .int m ∧ M[n]? = some (p, pool c s) ∧ PoolOk s ∧ 0 < m ∧ m < 2 ^ 200 ∧
  ∀ r c' s', 0 ≤ r → r < m → PoolOk s' → R (.int r) G (M.set n (p, pool c' s'))
def S_law_pool (K : PySem.W.Frag) : KSp := sp2 fun x y G M R Z => ∃ (a : Addr) (ns : List Int) (k : Int), x = .ref a ∧ y = .int k ∧ SqL K G a (ns.map V.int) ∧ 0 ≤ k ∧ k ≤ 100 ∧ ns.length ≤ 63 ∧
  ∀ p c s, Fr G M p → PoolOk s → R (.ref p) G ((p, pool c s) :: M)
end BT
set_option Elab.async false
set_option linter.all false
set_option maxRecDepth 100000
set_option maxHeartbeats 4000000
namespace BT
open PySem PySem.Spec L2
open PyProof.Rows hiding St
/-! ### shapes of data -/
inductive Shp : Nat → PyData → Prop
  | non {n} : Shp n .none
  | bl {n b} : Shp n (.bool b)
  | int {n i} : Shp n (.int i)
  | str {n x} : PyData.strOk x = true → Shp n (.str x)
  | list {n ds} : (∀ d, d ∈ ds → Shp n d) → Shp (n + 1) (.list ds)
  | tuple {n ds} : (∀ d, d ∈ ds → Shp n d) → Shp (n + 1) (.tuple ds)
theorem shp_all {n : Nat} (ih : ∀ d, Shp n d → d.canLay0 = true ∧ d.depth ≤ n) : ∀ ds : List PyData, (∀ d, d ∈ ds → Shp n d) → PyData.canLayAll0 ds = true ∧ PyData.depthAll ds ≤ n
  | [], _ => by
    refine ⟨by simp [PyData.canLayAll0], by simp [PyData.depthAll]⟩
  | d :: ds, h => by
    obtain ⟨a, b⟩ := ih d (h d List.mem_cons_self)
    obtain ⟨c, e⟩ := shp_all ih ds fun x hx => h x (List.mem_cons_of_mem _ hx)
    refine ⟨by simp [PyData.canLayAll0, a, c], ?_⟩
    show max d.depth (PyData.depthAll ds) ≤ n
    omega
theorem shp_of : ∀ (n : Nat) (d : PyData), Shp n d → d.canLay0 = true ∧ d.depth ≤ n
  | n, _, .non => by refine ⟨by simp [PyData.canLay0], by simp [PyData.depth]⟩
  | n, _, .bl => by refine ⟨by simp [PyData.canLay0], by simp [PyData.depth]⟩
  | n, _, .int => by refine ⟨by simp [PyData.canLay0], by simp [PyData.depth]⟩
  | n, _, .str h => by refine ⟨by simp [PyData.canLay0, h], by simp [PyData.depth]⟩
  | n + 1, .list ds, .list h => by
    obtain ⟨a, b⟩ := shp_all (shp_of n) ds h
    refine ⟨by simp [PyData.canLay0, a], ?_⟩
    show PyData.depthAll ds + 1 ≤ n + 1
    omega
  | n + 1, .tuple ds, .tuple h => by
    obtain ⟨a, b⟩ := shp_all (shp_of n) ds h
    refine ⟨by simp [PyData.canLay0, a], ?_⟩
    show PyData.depthAll ds + 1 ≤ n + 1
    omega
theorem Shp.shaped {n : Nat} {d : PyData} (h : Shp n d) (hn : n ≤ 64) : SeqAt.shaped d = true := by
  obtain ⟨a, b⟩ := shp_of n d h
  unfold SeqAt.shaped
  rw [a, decide_eq_true (Nat.le_trans b hn)]; rfl
theorem Shp.refl {n : Nat} {d : PyData} (h : Shp n d) : PyData.eqv d d = true := by
  obtain ⟨a, b⟩ := shp_of n d h
  exact SeqAt.eqv_refl d a
theorem shp_ints {n : Nat} (ns : List Int) : Shp (n + 1) (.list (ns.map .int)) := .list fun d hd => by
  obtain ⟨i, _, rfl⟩ := List.mem_map.mp hd
  exact .int
/-! ### data known -/
section
variable {K : PySem.W.Frag} {G G' : Hp} {M : Mem} {a : Addr} {v : V} {d : PyData} {vs : List V} {ds : List PyData}
def DatAll (K : PySem.W.Frag) (G : Hp) (M : Mem) (vs : List V) (ds : List PyData) : Prop := ∀ H, Hv G M H → DpAll K H vs ds
theorem dat_g (h : Dp K G v d) : DatAt K G M v d := fun H hv => ex_d hv.exx d h
theorem dats_g (h : DpAll K G vs ds) : DatAll K G M vs ds := fun H hv => ex_ds hv.exx ds h
theorem dat_list (h : LstAt K G M a vs) (hs : DatAll K G M vs ds) : DatAt K G M (.ref a) (.list ds) := fun H hv => .lst (hv.lst h) (hs H hv)
theorem dat_tup (h : SqT K G a vs) (hs : DatAll K G M vs ds) : DatAt K G M (.ref a) (.tuple ds) := fun H hv => .tup (hv.tup h) (hs H hv)
theorem dat_int {i : Int} : DatAt K G M (.int i) (.int i) := fun H hv => .int i
theorem dat_bl {i : Bool} : DatAt K G M (.bl i) (.bool i) := fun H hv => .bl i
theorem dat_non : DatAt K G M .non .none := fun H hv => .non
theorem dat_str {i : Str} : DatAt K G M (.str i) (.str i) := fun H hv => .str i
theorem dats_nil : DatAll K G M [] [] := fun H hv => .nil
theorem dats_cons (h : DatAt K G M v d) (hs : DatAll K G M vs ds) : DatAll K G M (v :: vs) (d :: ds) := fun H hv => .cons (h H hv) (hs H hv)
theorem dpall_ints : ∀ ns : List Int, DpAll K G (ns.map V.int) (ns.map PyData.int)
  | [] => .nil
  | n :: ns => .cons (.int n) (dpall_ints ns)
theorem dats_ints {ns : List Int} : DatAll K G M (ns.map V.int) (ns.map PyData.int) := fun H hv => dpall_ints ns
theorem dat_ints {ns : List Int} (h : LstAt K G M a (ns.map V.int)) : DatAt K G M (.ref a) (.list (ns.map .int)) := dat_list h dats_ints
theorem dp_ints {ns : List Int} (h : SqL K G a (ns.map V.int)) : Dp K G (.ref a) (.list (ns.map .int)) := .lst h (dpall_ints ns)
theorem dpall_snoc : ∀ {vs : List V} {ds : List PyData}, DpAll K G vs ds → Dp K G v d → DpAll K G (vs ++ [v]) (ds ++ [d])
  | _, _, .nil, h => .cons h .nil
  | _, _, .cons a b, h => .cons a (dpall_snoc b h)
theorem dpall_len : ∀ {vs : List V} {ds : List PyData}, DpAll K G vs ds → vs.length = ds.length
  | _, _, .nil => rfl
  | _, _, .cons _ b => by simp [dpall_len b]
theorem dpall_get : ∀ {vs : List V} {ds : List PyData} {i : Nat} {d : PyData}, DpAll K G vs ds → ds[i]? = some d → ∃ v, vs[i]? = some v ∧ Dp K G v d
  | _, _, _, _, .nil, e => by simp at e
  | _, _, 0, _, .cons a _, e => by
    rw [List.getElem?_cons_zero] at e
    cases e; exact ⟨_, rfl, a⟩
  | _, _, i + 1, d, .cons _ b, e => by
    obtain ⟨v, h1, h2⟩ := dpall_get (i := i) (d := d) b (by simpa using e)
    exact ⟨v, by simpa using h1, h2⟩
theorem dpall_get' : ∀ {vs : List V} {ds : List PyData} {i : Nat} {v : V}, DpAll K G vs ds → vs[i]? = some v → ∃ d, ds[i]? = some d ∧ Dp K G v d
  | _, _, _, _, .nil, e => by simp at e
  | _, _, 0, _, .cons a _, e => by
    rw [List.getElem?_cons_zero] at e
    cases e; exact ⟨_, rfl, a⟩
  | _, _, i + 1, d, .cons _ b, e => by
    obtain ⟨v, h1, h2⟩ := dpall_get' (i := i) (v := d) b (by simpa using e)
    exact ⟨v, by simpa using h1, h2⟩
theorem dpall_one {x : V} {i : PyData} (h : DpAll K G [x] [i]) : Dp K G x i := by
  cases h with
  | cons a b => exact a
theorem dp_int_inv {i : Int} (h : Dp K G v (.int i)) : v = .int i := by cases h; rfl
theorem dp_tup_inv (h : Dp K G v (.tuple ds)) : ∃ t xs, v = .ref t ∧ SqT K G t xs ∧ DpAll K G xs ds := by
  cases h with
  | tup s a => exact ⟨_, _, rfl, s, a⟩
theorem dp_list_inv (h : Dp K G v (.list ds)) : ∃ t xs, v = .ref t ∧ SqL K G t xs ∧ DpAll K G xs ds := by
  cases h with
  | lst s a => exact ⟨_, _, rfl, s, a⟩
theorem dpall_ints_inv : ∀ {vs : List V} {ns : List Int}, DpAll K G vs (ns.map .int) → vs = ns.map V.int
  | _, [], h => by cases h; rfl
  | _, n :: ns, h => by
    cases h with
    | cons a b =>
      have e := dp_int_inv a
      subst e
      rw [dpall_ints_inv b]; rfl
end
/-! ### pairs of ints -/
def prD (p : Int × Int) : PyData := .tuple [.int p.1, .int p.2]
theorem dp_pr_inv {K : PySem.W.Frag} {G : Hp} {v : V} {p : Int × Int} (h : Dp K G v (prD p)) : ∃ t, v = .ref t ∧ SqT K G t [.int p.1, .int p.2] := by
  obtain ⟨t, xs, rfl, s, a⟩ := dp_tup_inv h
  have e : xs = [V.int p.1, V.int p.2] := dpall_ints_inv (ns := [p.1, p.2]) a
  rw [e] at s
  exact ⟨t, rfl, s⟩
theorem dp_pr {K : PySem.W.Frag} {G : Hp} {t : Addr} {a b : Int} (h : SqT K G t [.int a, .int b]) : Dp K G (.ref t) (prD (a, b)) := .tup h (.cons (.int a) (.cons (.int b) .nil))
theorem shp_prs {n : Nat} (ps : List (Int × Int)) : Shp (n + 2) (.list (ps.map prD)) := .list fun d hd => by
  obtain ⟨p, _, rfl⟩ := List.mem_map.mp hd
  refine .tuple fun d hd => ?_
  rcases List.mem_cons.mp hd with rfl | hd
  · exact .int
  · rcases List.mem_cons.mp hd with rfl | hd
    · exact .int
    · cases hd
/-! ### lists of ints by place -/
section
theorem atI_int {ns : List Int} {k : Int} (h0 : 0 ≤ k) (h1 : k < ns.length) : atI (ns.map V.int) k = some (.int (ns.getD k.toNat 0)) := by
  obtain ⟨j, rfl⟩ : ∃ j : Nat, k = j := ⟨k.toNat, by omega⟩
  have hj : j < ns.length := by omega
  refine atI_nat ?_
  rw [List.getElem?_map, List.getElem?_eq_getElem hj, Int.toNat_natCast, List.getD_eq_getElem?_getD, List.getElem?_eq_getElem hj]; rfl
theorem ixN_int {n : Nat} {k : Int} (h0 : 0 ≤ k) (h1 : k < n) : ixN n k = some k.toNat := by
  unfold ixN
  rw [if_pos h0, if_pos h1]
theorem map_set_int {ns : List Int} {j : Nat} {i : Int} : (ns.map V.int).set j (.int i) = (ns.set j i).map V.int := by rw [List.map_set]
theorem lat_cons {K : PySem.W.Frag} {G : Hp} {M : Mem} {a : Addr} {xs : List V} {x : Addr × HO} (h : LstAt K G M a xs) : LstAt K G (x :: M) a xs := by
  rcases h with h | h
  · exact .inl (List.mem_cons_of_mem _ h)
  · exact .inr h
theorem lat_ex {K : PySem.W.Frag} {G G' : Hp} {M : Mem} {a : Addr} {xs : List V} (e : Ex G G') (h : LstAt K G M a xs) : LstAt K G' M a xs := by
  rcases h with h | h
  · exact .inl h
  · exact .inr (ex_l e h)
theorem lat_0 {K : PySem.W.Frag} {G : Hp} {M : Mem} {a : Addr} {xs : List V} : LstAt K G ((a, .lst xs) :: M) a xs := .inl List.mem_cons_self
theorem seq_0 {K : PySem.W.Frag} {G : Hp} {M : Mem} {a : Addr} {xs : List V} : SeqAt' K G ((a, .lst xs) :: M) a xs := .inl lat_0
theorem isi_list {K : PySem.W.Frag} {G : Hp} {M : Mem} {a : Addr} {xs : List V} {R : KR} {n : Nat} (h : M[n]? = some (a, .lst xs)) (q : R (.bl true) G M) : kIsi K [.ref a, .ty "list"] G M R :=
  ⟨.type "list", .type "list", true, .ty "list", fun H hv => .base (.lst (hv.get h)), kit_ty (by decide +kernel), q⟩
theorem mul_l {i j : Int} (h0 : -(2 ^ 64) < i) (h1 : i < 2 ^ 64) : MulOk i j := .inl (.inl ⟨h0, h1⟩)
theorem mul_r {i j : Int} (h0 : -(2 ^ 64) < j) (h1 : j < 2 ^ 64) : MulOk i j := .inl (.inr ⟨h0, h1⟩)
theorem divW {m : Int} (h0 : 0 < m) (h1 : m < 2 ^ 200) (c : Int) : CDivW c m := wide_div (b := 200) h0 (by omega) (by decide) (by decide)
theorem sz0 : (0 : Nat) ≤ sizeLine := by decide
theorem sz1 : (1 : Nat) ≤ sizeLine := by decide
theorem sz2 : (2 : Nat) ≤ sizeLine := by decide
theorem sz3 : (3 : Nat) ≤ sizeLine := by decide
theorem sz4 : (4 : Nat) ≤ sizeLine := by decide
theorem sz5 : (5 : Nat) ≤ sizeLine := by decide
theorem sz6 : (6 : Nat) ≤ sizeLine := by decide
theorem sz7 : (7 : Nat) ≤ sizeLine := by decide
theorem sz8 : (8 : Nat) ≤ sizeLine := by decide
theorem pow10_18 : CPow 10 18 := ⟨by decide, by decide, by decide⟩
end
end BT
namespace BT
open PySem PySem.Spec L2
section
variable {K : PySem.W.Frag} {G : Hp} {M : Mem} {a b : Addr} {vs ws : List V} {i : Nat} {v u : V} {g : KG} {σ : St} {R : St → Hp → Mem → Prop}
theorem asg_L (h : vs[i]? = some v) (q : g.val v σ G M R) : asg g ((srcL K a vs).get i) σ G M R := by
  show g.val (vs.getD i .non) σ G M R
  rw [getD_of h]; exact q
theorem asg_T (h : vs[i]? = some v) (q : g.val v σ G M R) : asg g ((srcT K a vs).get i) σ G M R := by
  show g.val (vs.getD i .non) σ G M R
  rw [getD_of h]; exact q
theorem asg_V (h : vs[vs.length - 1 - i]? = some v) (q : g.val v σ G M R) : asg g ((srcV K a vs).get i) σ G M R := by
  show g.val (vs.getD (vs.length - 1 - i) .non) σ G M R
  rw [getD_of h]; exact q
theorem asg_E (h : vs[i]? = some v) (q : g.tup [.int i, v] σ G M R) : asg g ((srcE K a vs).get i) σ G M R := by
  show g.tup [.int i, vs.getD i .non] σ G M R
  rw [getD_of h]; exact q
theorem asg_Z (h : vs[i]? = some v) (h2 : ws[i]? = some u) (q : g.tup [v, u] σ G M R) : asg g ((srcZ K a b vs ws).get i) σ G M R := by
  show g.tup [vs.getD i .non, ws.getD i .non] σ G M R
  rw [getD_of h, getD_of h2]; exact q
theorem dpall_at {ds : List PyData} {d : PyData} (h : DpAll K G vs ds) (e : ds[i]? = some d) : ∃ v, vs[i]? = some v ∧ Dp K G v d := dpall_get h e
end
end BT
namespace BT
open PySem PySem.Spec L2
/-- a cell becomes frozen -/
theorem frz {G : Hp} {M : Mem} {p : Addr} (o : HO) (h : Fr G M p) : ∃ G', Ex G G' ∧ G' p = some o ∧ Wk G ((p, o) :: M) G' M ∧ ∀ q M0, Fr G M0 q → q ≠ p → Fr G' M0 q :=
  ⟨upd G p o, Ex.new h, upd_same, Wk.frz0, fun q M0 f hq => ⟨by rw [upd_ne hq]; exact f.1, f.2⟩⟩
theorem Wk.nil' {G : Hp} {M : Mem} : Wk G M G [] := fun H h => ⟨h.ex, fun _ z => (nomatch z), List.nodup_nil, fun _ z => (nomatch z)⟩
theorem sql_of {K : PySem.W.Frag} {G : Hp} {a : Addr} {xs : List V} (h : G a = some (.lst xs)) : SqL K G a xs := .inl (.inl h)
theorem sqt_of {K : PySem.W.Frag} {G : Hp} {a : Addr} {xs : List V} (h : G a = some (.tup xs)) : SqT K G a xs := .inl (.inl h)
theorem Fr.cons {G : Hp} {M : Mem} {p : Addr} {x : Addr × HO} (h : Fr G (x :: M) p) : Fr G M p := ⟨h.1, fun y hy => h.2 y (List.mem_cons_of_mem _ hy)⟩
end BT
set_option Elab.async false
set_option linter.all false
set_option maxRecDepth 100000
set_option maxHeartbeats 4000000
namespace BT
open PySem PySem.Spec L2
open PyProof.Rows hiding St
/-- the slots at a body's start -/
def sta (n : Nat) (vs : List V) : St := vs.map some ++ List.replicate (n - vs.length) none
/-! ### ranges with a step -/
theorem rg_up {i j c : Int} (hc : 0 < c) (hc2 : c < 1000000) (hi : -1000000000000 < i) (hi2 : i < 1000000000000) (hj : -1000000000000 < j) (hj2 : j < 1000000000000) :
    RgC i j c (if i < j then ((j - i - 1) / c + 1).toNat else 0) := by
  have e : Builtin.Range.rangeSize i j c = if i < j then (j - i - 1) / c + 1 else 0 := by
    unfold Builtin.Range.rangeSize
    rw [if_pos hc]
  have hb : 0 ≤ (j - i - 1) / c ∨ ¬ i < j := by
    by_cases h : i < j
    · exact .inl (Int.ediv_nonneg (by omega) (by omega))
    · exact .inr h
  have hb2 : (j - i - 1) / c ≤ 2000000000000 ∨ ¬ i < j := by
    by_cases h : i < j
    · left
      have := Int.ediv_le_self c (show 0 ≤ j - i - 1 by omega)
      omega
    · exact .inr h
  refine ⟨by omega, by omega, ?_, ?_⟩
  · unfold Builtin.Range.small
    rw [e]
    simp only [Builtin.Range.rangeFitsLong, Bool.and_eq_true, Bool.or_eq_true, decide_eq_true_eq, beq_iff_eq, hc, gt_iff_lt, if_true]
    by_cases h : i < j
    · rw [if_pos h]; omega
    · rw [if_neg h]; omega
  · rw [e]
    by_cases h : i < j
    · rw [if_pos h, if_pos h]; omega
    · rw [if_neg h, if_neg h]; rfl
theorem rg_down {i j : Int} (hi : -1000000000000 < i) (hi2 : i < 1000000000000) (hj : -1000000000000 < j) (hj2 : j < 1000000000000) : RgC i j (-1) (i - j).toNat :=
  RgC.neg (by omega) (by omega) (by omega) (by omega)
section
variable {X : Cx} {W : WX} {pos : Pos} {a b c e : Expr} {es : List Expr}
/-! ### sorted, xs[::-1] -/
def kSorted (K : PySem.W.Frag) : KC := fun vs G M R => match vs with
  | [.ref a] => ∃ ns : List Int, LstAt K G M a (ns.map V.int) ∧ ∀ (ns' : List Int) (p : Addr), ns'.Perm ns → ns'.Pairwise (· ≤ ·) → Fr G M p → R (.ref p) G ((p, .lst (ns'.map V.int)) :: M)
  | _ => False
theorem kc_sorted : KCall X (.builtin "sorted") (kSorted X.K) := kcall_of cr_sortedI fun vs G M R H Q hv h hR => by
  match vs, h with
  | [.ref a], ⟨ns, h1, h2⟩ => exact ⟨a, ns, rfl, hv.lst h1, fun ns' p q1 q2 q3 => hR _ G _ _ (hv.newM q3) (h2 ns' p q1 q2 (hv.fr q3))⟩
def kRevL (K : PySem.W.Frag) : V → Hp → Mem → KR → Prop := fun x G M R => match x with
  | .ref a => ∃ xs, LstAt K G M a xs ∧ ∀ p, Fr G M p → R (.ref p) G ((p, .lst xs.reverse) :: M)
  | _ => False
theorem je_revl {t : KE} {k : Nat} {p1 p2 p3 : Pos} (he : JE X W e t) : JE X W (.Subscript e (.Slice none none (some (.UnaryOp .USub (.Constant (.int 1) k p1) p2)) p3) pos) (kUn (kRevL X.K) t) :=
  pe_mono (pe_revL he) fun σ H Q ⟨G, M, R, E, hv, h, hR, hE⟩ => ⟨G, M, _, E, hv, h, fun x G1 M1 H1 hv1 h1 => by
    match x, h1 with
    | .ref a, ⟨xs, q1, q2⟩ => exact ⟨a, xs, rfl, hv1.lst q1, fun p hp => hR _ G1 _ _ (hv1.newM hp) (q2 p (hv1.fr hp))⟩, hE⟩
/-! ### in, not in: flat things in a list or a tuple -/
def kIn (neg : Bool) (K : PySem.W.Frag) : KR2 := fun x y G M R => match y with
  | .ref a => ∃ xs, SeqAt' K G M a xs ∧ flatV x = true ∧ xs.all flatV = true ∧ R (.bl (if neg then !inV x xs else inV x xs)) G M
  | _ => False
theorem kop_in : KOp X (compareOp .In) (kIn false X.K) := kop_of op_in_seq fun x y G M R H Q hv h hR => by
  match y, h with
  | .ref a, ⟨xs, h1, h2, h3, h4⟩ => exact ⟨a, xs, rfl, h1.elim (fun q => .inl (hv.lst q)) (fun q => .inr (hv.tup q)), h2, h3, hR _ G M H hv h4⟩
theorem kop_notin : KOp X (compareOp .NotIn) (kIn true X.K) := kop_of op_notIn_seq fun x y G M R H Q hv h hR => by
  match y, h with
  | .ref a, ⟨xs, h1, h2, h3, h4⟩ => exact ⟨a, xs, rfl, h1.elim (fun q => .inl (hv.lst q)) (fun q => .inr (hv.tup q)), h2, h3, hR _ G M H hv h4⟩
/-! ### list.index, list.insert, tuple(xs), bool(x), list(range) -/
def kIndex (K : PySem.W.Frag) : KM := fun x vs G M R => match x, vs with
  | .ref a, [y] => ∃ ys j z, LstAt K G M a ys ∧ flatV y = true ∧ ys.all flatV = true ∧ ys[j]? = some z ∧ eqV z y = true ∧ (∀ m z', m < j → ys[m]? = some z' → eqV z' y = false) ∧ R (.int (j : Nat)) G M
  | _, _ => False
end
end BT
namespace BT
open PySem PySem.Spec L2
open PyProof.Rows hiding St
theorem rg_mul {i c : Int} {n : Nat} (hc : 0 < c) (hc2 : c < 1000000) (hi : -1000000000 < i) (hi2 : i < 1000000000) (hn : n < 100000) : RgC i (i + c * n) c n := by
  have hm : c * n < 100000000000 := by
    have h1 : c * (n : Int) ≤ 1000000 * (n : Int) := Int.mul_le_mul_of_nonneg_right (by omega) (by omega)
    omega
  have hm0 : 0 ≤ c * n := Int.mul_nonneg (by omega) (by omega)
  have q := rg_up (i := i) (j := i + c * n) hc hc2 (by omega) (by omega) (by omega) (by omega)
  have e : (if i < i + c * n then ((i + c * n - i - 1) / c + 1).toNat else 0) = n := by
    cases n with
    | zero => rw [if_neg (by simp)]
    | succ k =>
      have hk : 0 < c * ((k + 1 : Nat) : Int) := Int.mul_pos hc (by omega)
      rw [if_pos (by omega)]
      have e1 : i + c * ((k + 1 : Nat) : Int) - i - 1 = (c - 1) + c * (k : Int) := by
        rw [show ((k + 1 : Nat) : Int) = (k : Int) + 1 by omega, Int.mul_add]; omega
      rw [e1, ((Int.ediv_emod_unique hc).mpr ⟨rfl, by omega, by omega⟩).1]
      omega
  rw [e] at q
  exact q
theorem fn_false {P : Program} {w : World} {K : PySem.W.Frag} {mg : Str → Option Value} {base : Heap} {CX : CXT} {k : Nat} {f : Addr} {fd : FuncData} {ps : List Str} {S : KSp} (h : ∀ vs G M R Z, ¬ S vs G M R Z) : FnOk P w K mg base CX k f fd ps (lift S) :=
  ⟨fun vs H Q E ⟨G, M, R, Z, _, q, _⟩ => (h vs G M R Z q).elim, fun A outer s H args us vs Q E _ _ _ _ ⟨G, M, R, Z, _, q, _⟩ => (h vs G M R Z q).elim⟩
theorem cx_none {P : Program} {w : World} {l : List Env} {H : Hp} {s : Shared} {e : Value} {s' : Shared} (h : L2.CX P w l H s (fun _ _ _ => False) e s') : False := by
  obtain ⟨_, _, _, _, _, _, _, _, _, _, _, _, z⟩ := h
  exact z.elim
/-- a law's promise -/
def S_law (K : PySem.W.Frag) : KSp := sp1 fun x G M R Z => ∃ (a : Addr) (ns : List Int), x = .ref a ∧ SqL K G a (ns.map V.int) ∧ ns.length ≤ 63 ∧ ∀ G' M', R (.bl true) G' M'
theorem law_start {K : PySem.W.Frag} {H : Hp} {a : Addr} {ns : List Int} (hl : ns.length ≤ 63) (hS : SqL K H a (ns.map V.int)) : lift (S_law K) [.ref a] H (fun v _ => v = .bl true) fun _ _ _ => False :=
  ⟨H, [], fun v _ _ => v = .bl true, fun _ _ _ _ => False, Hv.self H, ⟨a, ns, rfl, hS, hl, fun _ _ => rfl⟩, fun _ _ _ _ _ h => h, fun _ _ _ _ _ _ z => z⟩
end BT
namespace BT
open PySem PySem.Spec L2
open PyProof.Rows hiding St
/-! ### is of None and of truths -/
def kIs2 (neg : Bool) : KR2 := fun x y G M R => match x, y with
  | .bl a, .bl b => R (.bl (if neg then !decide (a = b) else decide (a = b))) G M
  | x, .non => R (.bl (if neg then !decide (x = .non) else decide (x = .non))) G M
  | _, _ => False
theorem kop_is2 {X : Cx} : KOp X (compareOp .Is) (kIs2 false) := fun pins s σ H x y v u Q G M R I rx ry hv h hR => by
  cases y <;> cases x <;> first
    | exact op_isBl pins s σ H _ _ v u Q I rx ry ⟨_, _, rfl, rfl, hR _ G M H hv h⟩
    | exact op_isN pins s σ H _ _ v u Q I rx ry ⟨rfl, hR _ G M H hv h⟩
    | exact h.elim
theorem kop_isnot2 {X : Cx} : KOp X (compareOp .IsNot) (kIs2 true) := fun pins s σ H x y v u Q G M R I rx ry hv h hR => by
  cases y <;> cases x <;> first
    | exact op_notBl pins s σ H _ _ v u Q I rx ry ⟨_, _, rfl, rfl, hR _ G M H hv h⟩
    | exact op_notN pins s σ H _ _ v u Q I rx ry ⟨rfl, hR _ G M H hv h⟩
    | exact h.elim
/-! ### types of values -/
inductive PT | int | bool | non | str | list | tuple | dict
  deriving DecidableEq
def PT.name : PT → String
  | .int => "int" | .bool => "bool" | .non => "NoneType" | .str => "str" | .list => "list" | .tuple => "tuple" | .dict => "dict"
def TyK (K : PySem.W.Frag) (G : Hp) (M : Mem) (x : V) (T : PT) : Prop := ∀ H, Hv G M H → TyX K H x (.type T.name)
section
variable {K : PySem.W.Frag} {G : Hp} {M : Mem} {a : Addr} {xs : List V} {n : Nat}
theorem ty_int {i : Int} : TyK K G M (.int i) .int := fun H hv => .base (.int i)
theorem ty_bl {i : Bool} : TyK K G M (.bl i) .bool := fun H hv => .base (.bl i)
theorem ty_non : TyK K G M .non .non := fun H hv => .base .non
theorem ty_str {i : Str} : TyK K G M (.str i) .str := fun H hv => .base (.str i)
theorem ty_lst (h : LstAt K G M a xs) : TyK K G M (.ref a) .list := fun H hv => by
  rcases hv.lst h with (z | ⟨o, z⟩) | ⟨o, its, m, z1, z2, _⟩
  · exact .base (.lst z)
  · exact .base (.frz z)
  · exact .kList z1 z2
theorem ty_tup (h : SqT K G a xs) : TyK K G M (.ref a) .tuple := fun H hv => by
  rcases hv.tup h with (z | ⟨o, z⟩) | ⟨o, its, m, z1, z2, _⟩
  · exact .base (.tup z)
  · exact .fTuple z
  · exact .kTuple z1 z2
theorem ty_dict {kvs : List (Key × V)} (h : At G M a (.dK kvs)) : TyK K G M (.ref a) .dict := fun H hv => .base (.dK (hv.at h))
/-- isinstance(x, T): both answers -/
def isaB (T U : PT) : Bool := T == U || (T == .bool && U == .int)
theorem kit_pt (T U : PT) : PySem.W.kitOne K (.type T.name) (.type U.name) = some (isaB T U) := by
  cases T <;> cases U <;> exact kit_ty (by decide +kernel)
theorem isi_pt {x : V} {T : PT} {R : KR} (U : PT) (h : TyK K G M x T) (q : R (.bl (isaB T U)) G M) : kIsi K [x, .ty U.name] G M R :=
  ⟨.type T.name, .type U.name, _, .ty U.name, h, kit_pt T U, q⟩
end
end BT
namespace BT
open PySem PySem.Spec L2
/-! ### steps by name -/
section
variable {D : Kd} {σ : St} {G : Hp} {M : Mem} {i : Nat} {te ta tb : KE}
theorem kset_of (h : te σ G M (fun v G M => D.nx (σ.set i (some v)) G M) (D.x σ)) : kSet i te D σ G M := h
theorem kret_of (h : te σ G M D.rt (D.x σ)) : kRet te D σ G M := h
theorem kexpr_of (h : te σ G M (fun _ G M => D.nx σ G M) (D.x σ)) : kExpr te D σ G M := h
theorem kbin_of {β : Type} {k : V → V → Hp → Mem → (β → Hp → Mem → Prop) → Prop} {R : β → Hp → Mem → Prop} {E : KX} (h : ta σ G M (fun x G M => tb σ G M (fun y G M => k x y G M R) E) E) : kBin k ta tb σ G M R E := h
theorem kcb_of {k : KC} {t : KA} {R : KR} {E : KX} (h : t σ G M (fun vs G M => k vs G M R) E) : kCB k t σ G M R E := h
theorem kcons_of {t : KE} {u : KA} {R : List V → Hp → Mem → Prop} {E : KX} (h : t σ G M (fun x G M => u σ G M (fun xs G M => R (x :: xs) G M) E) E) : kCons t u σ G M R E := h
end
end BT
namespace BT
open PySem PySem.Spec L2
open PyProof.Rows hiding St
/-! ### nets: what they are -/
def joinL : Nat → Int → Int → List (Int × Int)
  | 0, f, s => [(f, f + s)]
  | j + 1, f, s => joinL j f (2 * s) ++ joinL j (f + s) (2 * s) ++ (List.range (2 ^ (j + 1) - 1)).map fun (i : Nat) => (f + s + (i : Int) * (2 * s), f + s + (i : Int) * (2 * s) + s)
def sortL : Nat → Int → List (Int × Int)
  | 0, _ => []
  | j + 1, f => sortL j f ++ sortL j (f + 2 ^ j) ++ joinL j f 1
def lg (n : Int) : Nat := if n ≤ 1 then 0 else if n ≤ 2 then 1 else if n ≤ 4 then 2 else if n ≤ 8 then 3 else if n ≤ 16 then 4 else if n ≤ 32 then 5 else 6
def netL (n : Int) : List (Int × Int) := (sortL (lg n) 0).filter fun p => decide (p.2 < n)
/-- a new list of pairs is told -/
def NetR (K : PySem.W.Frag) (ps : List (Int × Int)) (G : Hp) (M : Mem) (R : KR) : Prop := ∀ (t : Addr) (vs : List V) (G' : Hp), Ex G G' → Fr G' M t → DpAll K G' vs (ps.map prD) → R (.ref t) G' ((t, .lst vs) :: M)
def joinSp (d : Nat) (K : PySem.W.Frag) : V → V → V → Hp → Mem → KR → KX → Prop := fun x y z G M R Z => ∃ (f w s : Int) (j : Nat), x = .int f ∧ y = .int w ∧ z = .int s ∧ j < d ∧ w = 2 * s * 2 ^ j ∧ 0 < s ∧ w ≤ 64 ∧ 0 ≤ f ∧ f ≤ 5000 - 100 * (j : Int) ∧ j < 8 ∧ NetR K (joinL j f s) G M R
def sortSp (d : Nat) (K : PySem.W.Frag) : V → V → Hp → Mem → KR → KX → Prop := fun x y G M R Z => ∃ (f w : Int) (j : Nat), x = .int f ∧ y = .int w ∧ j < d ∧ w = 2 ^ j ∧ j ≤ 6 ∧ 0 ≤ f ∧ f + w ≤ 1000 ∧ NetR K (sortL j f) G M R
def netSp1 (K : PySem.W.Frag) : V → Hp → Mem → KR → KX → Prop := fun x G M R Z => ∃ n : Int, x = .int n ∧ 1 ≤ n ∧ n ≤ 64 ∧ NetR K (netL n) G M R
def S_joining (d : Nat) (K : PySem.W.Frag) : KSp := sp3 (joinSp d K)
def S_sorting (d : Nat) (K : PySem.W.Frag) : KSp := sp2 (sortSp d K)
def S_net_of (K : PySem.W.Frag) : KSp := sp1 (netSp1 K)
/-! ### the run of a net -/
def stepN (l : List Int) (p : Int × Int) : List Int :=
  if l.getD p.2.toNat 0 < l.getD p.1.toNat 0 then (l.set p.1.toNat (l.getD p.2.toNat 0)).set p.2.toNat (l.getD p.1.toNat 0) else l
def runN (ps : List (Int × Int)) (ns : List Int) : List Int := ps.foldl stepN ns
def GoodP (n : Nat) (p : Int × Int) : Prop := 0 ≤ p.1 ∧ p.1 < p.2 ∧ p.2 < n
def netSp (K : PySem.W.Frag) : V → V → Hp → Mem → KR → KX → Prop := fun x y G M R Z => ∃ (a b : Addr) (vs : List V) (ps : List (Int × Int)) (ns : List Int), x = .ref a ∧ y = .ref b ∧
  LstAt K G M a vs ∧ DpAll K G vs (ps.map prD) ∧ LstAt K G M b (ns.map V.int) ∧ (∀ p, p ∈ ps → GoodP ns.length p) ∧ ∀ t, Fr G M t → R (.ref t) G ((t, .lst ((runN ps ns).map V.int)) :: M)
def S_run_net (K : PySem.W.Frag) : KSp := sp2 (netSp K)
/-! ### whole numbers -/
def isIntV : V → Bool
  | .int _ => true
  | _ => false
def withinV (x : V) (lo hi : Int) : Bool := match x with
  | .int i => decide (lo ≤ i) && decide (i ≤ hi)
  | _ => false
def S_is_whole (K : PySem.W.Frag) : KSp := sp1 fun x G M R Z => ∃ T : PT, TyK K G M x T ∧ R (.bl (T == .int)) G M
def S_is_within (K : PySem.W.Frag) : KSp := sp3 fun x y z G M R Z => ∃ (T : PT) (lo hi : Int), y = .int lo ∧ z = .int hi ∧ TyK K G M x T ∧ (T == .int) = isIntV x ∧ R (.bl (withinV x lo hi)) G M
/-! ### lists of lists of ints, frozen -/
inductive LL (G : Hp) : List V → List (List Int) → Prop
  | nil : LL G [] []
  | cons {w : Addr} {r : List Int} {vs : List V} {rs : List (List Int)} : G w = some (.lst (r.map V.int)) → LL G vs rs → LL G (.ref w :: vs) (r :: rs)
def rowsB : Nat → List (List Int)
  | 0 => [[]]
  | n + 1 => (rowsB n).map (fun r => r ++ [0]) ++ (rowsB n).map fun r => r ++ [1]
def srtB (n : Nat) (ps : List (Int × Int)) : Bool := (rowsB n).all fun r => decide ((runN ps r).Pairwise (· ≤ ·))
def S_is_pair (K : PySem.W.Frag) : KSp := sp2 fun x y G M R Z => ∃ (n : Int) (t : Addr) (a b : Int), x = .int n ∧ y = .ref t ∧ SqT K G t [.int a, .int b] ∧ 0 ≤ a ∧ a < b ∧ b < n ∧ R (.bl true) G M
def S_rows_of (K : PySem.W.Frag) : KSp := sp1 fun x G M R Z => ∃ n : Int, x = .int n ∧ 0 ≤ n ∧ n ≤ 10 ∧ ∀ (t : Addr) (vs : List V) (G' : Hp), Ex G G' → G' t = some (.lst vs) → LL G' vs (rowsB n.toNat) → R (.ref t) G' M
def S_sorts (K : PySem.W.Frag) : KSp := sp2 fun x y G M R Z => ∃ (n : Int) (a : Addr) (vs : List V) (ps : List (Int × Int)), x = .int n ∧ y = .ref a ∧ 1 ≤ n ∧ n ≤ 10 ∧ LstAt K G M a vs ∧ DpAll K G vs (ps.map prD) ∧ (∀ p, p ∈ ps → GoodP n.toNat p) ∧ ps.length ≤ 1000000 ∧
  ∀ G', Ex G G' → R (.bl (srtB n.toNat ps)) G' M
def S_law_pair (K : PySem.W.Frag) : KSp := sp2 fun x y G M R Z => ∃ (p : Addr) (m : Int) (n : Nat) (c s : Int), x = .ref p ∧ y = .int m ∧ M[n]? = some (p, pool c s) ∧ PoolOk s ∧ 2 ≤ m ∧ m ≤ 64 ∧
  ∀ (t : Addr) (a b : Int) (G' : Hp) (c' s' : Int), Ex G G' → SqT K G' t [.int a, .int b] → GoodP m.toNat (a, b) → PoolOk s' → R (.ref t) G' (M.set n (p, pool c' s'))
def S_law_net (K : PySem.W.Frag) : KSp := sp2 fun x y G M R Z => ∃ (p : Addr) (m : Int) (n : Nat) (c s : Int), x = .ref p ∧ y = .int m ∧ M[n]? = some (p, pool c s) ∧ PoolOk s ∧ 2 ≤ m ∧ m ≤ 7 ∧
  ∀ (t : Addr) (vs : List V) (ps : List (Int × Int)) (G' : Hp) (c' s' : Int), Ex G G' → Fr G' (M.set n (p, pool c' s')) t → DpAll K G' vs (ps.map prD) → (∀ q, q ∈ ps → GoodP m.toNat q) → ps.length ≤ 600000 → PoolOk s' → R (.ref t) G' ((t, .lst vs) :: M.set n (p, pool c' s'))
def S_law_missed (K : PySem.W.Frag) : KSp := sp2 fun x y G M R Z => ∃ (n : Int) (a : Addr) (vs : List V) (ps : List (Int × Int)), x = .int n ∧ y = .ref a ∧ 1 ≤ n ∧ n ≤ 10 ∧ LstAt K G M a vs ∧ DpAll K G vs (ps.map prD) ∧ (∀ p, p ∈ ps → GoodP n.toNat p) ∧
  R (.bl (!srtB n.toNat ps)) G M
def S_law_right (K : PySem.W.Frag) : KSp := sp1 fun x G M R Z => ∃ (p : Addr) (n : Nat) (c s : Int), x = .ref p ∧ M[n]? = some (p, pool c s) ∧ PoolOk s ∧ ∀ G' M', Ex G G' → R (.bl true) G' M'
/-! readings of the defs, printed by gen.py -/
/-- is_whole(thing); slots 0 thing -/
def rd_is_whole (K : PySem.W.Frag) : KS :=
  kSeq (kRet (kAndV (kCB (kIsi K) (kCons (kVar 0) (kCons (kC (.ty "int")) (kNil)))) (kNotV (kCB (kIsi K) (kCons (kVar 0) (kCons (kC (.ty "bool")) (kNil))))))) (kNext)
/-- is_within(thing, least, most); slots 0 thing, 1 least, 2 most -/
def rd_is_within (K : PySem.W.Frag) : KS :=
  kSeq (kRet (kAndV (kCall (S_is_whole K) (kCons (kVar 0) (kNil))) (kChain (kI0 fun i j => .bl (decide (i ≤ j))) (kI0 fun i j => .bl (decide (i ≤ j))) (kVar 1) (kVar 0) (kVar 2)))) (kNext)
/-- run_net(net, row); slots 0 net, 1 row, 2 told, 3 one, 4 other -/
def rd_run_net_b0 (K : PySem.W.Frag) : KS :=
  kSeq (kIf (kT (kBin (kI0 fun i j => .bl (decide (j < i))) (kBin (kIx K) (kVar 2) (kVar 3)) (kBin (kIx K) (kVar 2) (kVar 4)))) (kSeq (kAsg (kTup (kCons (kBin (kIx K) (kVar 2) (kVar 4)) (kCons (kBin (kIx K) (kVar 2) (kVar 3)) (kNil)))) (kgTup K 2 (kgsCons (kgIx (kVar 2) (kVar 3)) (kgsCons (kgIx (kVar 2) (kVar 4)) (kgsNil))))) (kNext)) (kNext)) (kNext)
def rd_run_net_2 (K : PySem.W.Frag) : KS :=
  kSeq (kRet (kVar 2)) (kNext)
def rd_run_net_1 (K : PySem.W.Frag) : KS :=
  kSeq (kFor (kiSeq K (kVar 0)) (kgTup K 2 (kgsCons (kgName 3) (kgsCons (kgName 4) (kgsNil)))) (rd_run_net_b0 K)) (rd_run_net_2 K)
def rd_run_net (K : PySem.W.Frag) : KS :=
  kSeq (kSet 2 (kCB (kList K) (kCons (kVar 1) (kNil)))) (rd_run_net_1 K)
/-- joining(first, width, step); slots 0 first, 1 width, 2 step, 3 found, 4 place -/
def rd_joining_2 (K : PySem.W.Frag) (Sr : KSp) : KS :=
  kSeq (kRet (kBin (kAdd) (kVar 3) (kComp (kiR3 (kCons (kBin (kAdd) (kVar 0) (kVar 2)) (kCons (kBin (kI0 fun i j => .int (i - j)) (kBin (kAdd) (kVar 0) (kVar 1)) (kVar 2)) (kCons (kBin (kMul) (kC (.int 2)) (kVar 2)) (kNil))))) (kgName 4) (kYes) (kTup (kCons (kVar 4) (kCons (kBin (kAdd) (kVar 4) (kVar 2)) (kNil)))) [4]))) (kNext)
def rd_joining_1 (K : PySem.W.Frag) (Sr : KSp) : KS :=
  kSeq (kSet 3 (kBin (kAdd) (kCall Sr (kCons (kVar 0) (kCons (kVar 1) (kCons (kBin (kMul) (kC (.int 2)) (kVar 2)) (kNil))))) (kCall Sr (kCons (kBin (kAdd) (kVar 0) (kVar 2)) (kCons (kVar 1) (kCons (kBin (kMul) (kC (.int 2)) (kVar 2)) (kNil))))))) (rd_joining_2 K Sr)
def rd_joining (K : PySem.W.Frag) (Sr : KSp) : KS :=
  kSeq (kIf (kT (kBin (kEqv false K) (kBin (kMul) (kC (.int 2)) (kVar 2)) (kVar 1))) (kSeq (kRet (kLst (kCons (kTup (kCons (kVar 0) (kCons (kBin (kAdd) (kVar 0) (kVar 2)) (kNil)))) (kNil)))) (kNext)) (kNext)) (rd_joining_1 K Sr)
/-- sorting(first, width); slots 0 first, 1 width, 2 half -/
def rd_sorting_2 (K : PySem.W.Frag) (Sr : KSp) : KS :=
  kSeq (kRet (kBin (kAdd) (kBin (kAdd) (kCall Sr (kCons (kVar 0) (kCons (kVar 2) (kNil)))) (kCall Sr (kCons (kBin (kAdd) (kVar 0) (kVar 2)) (kCons (kVar 2) (kNil))))) (kCall (S_joining 6 K) (kCons (kVar 0) (kCons (kVar 1) (kCons (kC (.int 1)) (kNil))))))) (kNext)
def rd_sorting_1 (K : PySem.W.Frag) (Sr : KSp) : KS :=
  kSeq (kSet 2 (kBin (kI CDivW fun i j => .int (i / j)) (kVar 1) (kC (.int 2)))) (rd_sorting_2 K Sr)
def rd_sorting (K : PySem.W.Frag) (Sr : KSp) : KS :=
  kSeq (kIf (kT (kBin (kEqv false K) (kVar 1) (kC (.int 1)))) (kSeq (kRet (kLst (kNil))) (kNext)) (kNext)) (rd_sorting_1 K Sr)
/-- net_of(size); slots 0 size, 1 width, 2 pair -/
def rd_net_of_b0 (K : PySem.W.Frag) : KS :=
  kSeq (kSet 1 (kBin (kMul) (kC (.int 2)) (kVar 1))) (kNext)
def rd_net_of_2 (K : PySem.W.Frag) : KS :=
  kSeq (kRet (kComp (kiSeq K (kCall (S_sorting 7 K) (kCons (kC (.int 0)) (kCons (kVar 1) (kNil))))) (kgName 2) (kT (kBin (kI0 fun i j => .bl (decide (i < j))) (kBin (kIx K) (kVar 2) (kC (.int 1))) (kVar 0))) (kVar 2) [2])) (kNext)
def rd_net_of_1 (K : PySem.W.Frag) : KS :=
  kSeq (kWhile (kT (kBin (kI0 fun i j => .bl (decide (i < j))) (kVar 1) (kVar 0))) (rd_net_of_b0 K)) (rd_net_of_2 K)
def rd_net_of (K : PySem.W.Frag) : KS :=
  kSeq (kSet 1 (kC (.int 1))) (rd_net_of_1 K)
/-- is_pair(size, thing); slots 0 size, 1 thing -/
def rd_is_pair_1 (K : PySem.W.Frag) : KS :=
  kSeq (kRet (kAndV (kCall (S_is_within K) (kCons (kBin (kIx K) (kVar 1) (kC (.int 1))) (kCons (kC (.int 0)) (kCons (kBin (kI0 fun i j => .int (i - j)) (kVar 0) (kC (.int 1))) (kNil))))) (kCall (S_is_within K) (kCons (kBin (kIx K) (kVar 1) (kC (.int 0))) (kCons (kC (.int 0)) (kCons (kBin (kI0 fun i j => .int (i - j)) (kBin (kIx K) (kVar 1) (kC (.int 1))) (kC (.int 1))) (kNil))))))) (kNext)
def rd_is_pair (K : PySem.W.Frag) : KS :=
  kSeq (kIf (kOr (kNot (kT (kCB (kIsi K) (kCons (kVar 1) (kCons (kC (.ty "tuple")) (kNil)))))) (kT (kBin (kEqv true K) (kCB (kLen K) (kCons (kVar 1) (kNil))) (kC (.int 2))))) (kSeq (kRet (kC (.bl false))) (kNext)) (kNext)) (rd_is_pair_1 K)
/-- rows_of(size); slots 0 size, 1 rows, 2 place, 3 row -/
def rd_rows_of_b0 (K : PySem.W.Frag) : KS :=
  kSeq (kSet 1 (kBin (kAdd) (kComp (kiSeq K (kVar 1)) (kgName 3) (kYes) (kBin (kAdd) (kVar 3) (kLst (kCons (kC (.int 0)) (kNil)))) [3]) (kComp (kiSeq K (kVar 1)) (kgName 3) (kYes) (kBin (kAdd) (kVar 3) (kLst (kCons (kC (.int 1)) (kNil)))) [3]))) (kNext)
def rd_rows_of_2 (K : PySem.W.Frag) : KS :=
  kSeq (kRet (kVar 1)) (kNext)
def rd_rows_of_1 (K : PySem.W.Frag) : KS :=
  kSeq (kFor (kiR1 (kCons (kVar 0) (kNil))) (kgName 2) (rd_rows_of_b0 K)) (rd_rows_of_2 K)
def rd_rows_of (K : PySem.W.Frag) : KS :=
  kSeq (kSet 1 (kLst (kCons (kLst (kNil)) (kNil)))) (rd_rows_of_1 K)
/-- sorts(size, thing); slots 0 size, 1 thing, 2 pair, 3 row -/
def rd_sorts_1 (K : PySem.W.Frag) : KS :=
  kSeq (kRet (kCB (kAll K) (kCons (kComp (kiSeq K (kCall (S_rows_of K) (kCons (kVar 0) (kNil)))) (kgName 3) (kYes) (kBin (kEqv false K) (kCall (S_run_net K) (kCons (kVar 1) (kCons (kVar 3) (kNil)))) (kCB (kSorted K) (kCons (kVar 3) (kNil)))) [3]) (kNil)))) (kNext)
def rd_sorts (K : PySem.W.Frag) : KS :=
  kSeq (kIf (kOr (kNot (kT (kCB (kIsi K) (kCons (kVar 1) (kCons (kC (.ty "list")) (kNil)))))) (kNot (kT (kCB (kAll K) (kCons (kComp (kiSeq K (kVar 1)) (kgName 2) (kYes) (kCall (S_is_pair K) (kCons (kVar 0) (kCons (kVar 2) (kNil)))) [2]) (kNil)))))) (kSeq (kRet (kC (.bl false))) (kNext)) (kNext)) (rd_sorts_1 K)
/-- law_pool(_law_script, _law_k); slots 0 _law_script, 1 _law_k, 2 _law_cell, 3 _law_seed -/
def rd_law_pool_3 (K : PySem.W.Frag) : KS :=
  kSeq (kRet (kLst (kCons (kBin (kMul) (kVar 2) (kCB (kInt) (kCons (kBin (kI0 fun i j => .bl (decide (j ≤ i))) (kVar 2) (kBin (kI CPow fun i j => .int (i ^ j.toNat)) (kC (.int 10)) (kC (.int 18)))) (kNil)))) (kCons (kVar 3) (kNil))))) (kNext)
def rd_law_pool_2 (K : PySem.W.Frag) : KS :=
  kSeq (kSet 3 (kBin (kI (fun _ j => 0 < j) fun i j => .int (i % j)) (kBin (kMul) (kBin (kAdd) (kBin (kAdd) (kBin (kI (fun _ j => 0 < j) fun i j => .int (i % j)) (kVar 2) (kC (.int 1000003))) (kBin (kMul) (kC (.int 104729)) (kVar 1))) (kC (.int 17))) (kC (.int 48271))) (kC (.int 2147483647)))) (rd_law_pool_3 K)
def rd_law_pool_1 (K : PySem.W.Frag) : KS :=
  kSeq (kIf (kT (kBin (kI0 fun i j => .bl (decide (i < j))) (kVar 1) (kCB (kLen K) (kCons (kVar 0) (kNil))))) (kSeq (kSet 2 (kBin (kIx K) (kVar 0) (kVar 1))) (kNext)) (kNext)) (rd_law_pool_2 K)
def rd_law_pool (K : PySem.W.Frag) : KS :=
  kSeq (kSet 2 (kCB (kLen K) (kCons (kVar 0) (kNil)))) (rd_law_pool_1 K)
/-- law_take(_law_pool_here, _law_many); slots 0 _law_pool_here, 1 _law_many, 2 _law_digit -/
def rd_law_take_2 (K : PySem.W.Frag) : KS :=
  kSeq (kRet (kBin (kI (fun _ j => 0 < j) fun i j => .int (i % j)) (kBin (kI CDivW fun i j => .int (i / j)) (kBin (kI (fun _ j => 0 < j) fun i j => .int (i % j)) (kBin (kMul) (kBin (kIx K) (kVar 0) (kC (.int 1))) (kBin (kIx K) (kVar 0) (kC (.int 1)))) (kC (.int 2147483629))) (kC (.int 64))) (kVar 1))) (kNext)
def rd_law_take_1 (K : PySem.W.Frag) : KS :=
  kSeq (kAsg (kBin (kI (fun _ j => 0 < j) fun i j => .int (i % j)) (kBin (kAdd) (kBin (kMul) (kBin (kIx K) (kVar 0) (kC (.int 1))) (kC (.int 48271))) (kC (.int 11))) (kC (.int 2147483647))) (kgIx (kVar 0) (kC (.int 1)))) (rd_law_take_2 K)
def rd_law_take (K : PySem.W.Frag) : KS :=
  kSeq (kIf (kT (kBin (kI0 fun i j => .bl (decide (j < i))) (kBin (kIx K) (kVar 0) (kC (.int 0))) (kC (.int 0)))) (kSeq (kSet 2 (kBin (kI (fun _ j => 0 < j) fun i j => .int (i % j)) (kBin (kIx K) (kVar 0) (kC (.int 0))) (kVar 1))) (kSeq (kAsg (kBin (kI CDivW fun i j => .int (i / j)) (kBin (kIx K) (kVar 0) (kC (.int 0))) (kVar 1)) (kgIx (kVar 0) (kC (.int 0)))) (kSeq (kRet (kVar 2)) (kNext)))) (kNext)) (rd_law_take_1 K)
/-- law_pair(_law_pool_here, _law_size); slots 0 _law_pool_here, 1 _law_size, 2 _law_b -/
def rd_law_pair_1 (K : PySem.W.Frag) : KS :=
  kSeq (kRet (kTup (kCons (kCall (S_law_take K) (kCons (kVar 0) (kCons (kVar 2) (kNil)))) (kCons (kVar 2) (kNil))))) (kNext)
def rd_law_pair (K : PySem.W.Frag) : KS :=
  kSeq (kSet 2 (kBin (kAdd) (kC (.int 1)) (kCall (S_law_take K) (kCons (kVar 0) (kCons (kBin (kI0 fun i j => .int (i - j)) (kVar 1) (kC (.int 1))) (kNil)))))) (rd_law_pair_1 K)
/-- law_net(_law_pool_here, _law_size); slots 0 _law_pool_here, 1 _law_size, 2 _law_way, 3 _law_k, 4 _law_net_here, 5 _law_at -/
def rd_law_net_b0_1 (K : PySem.W.Frag) : KS :=
  kSeq (kSet 4 (kBin (kAdd) (kBin (kAdd) (kSl K (kVar 4) (kNoP) (kPart (kVar 5))) (kBin (kIx K) (kLst (kCons (kLst (kCons (kCall (S_law_pair K) (kCons (kVar 0) (kCons (kVar 1) (kNil)))) (kNil))) (kCons (kLst (kNil)) (kNil)))) (kBin (kI (fun _ j => 0 < j) fun i j => .int (i % j)) (kVar 2) (kC (.int 2))))) (kSl K (kVar 4) (kPart (kBin (kAdd) (kVar 5) (kBin (kI (fun _ j => 0 < j) fun i j => .int (i % j)) (kVar 2) (kC (.int 2))))) (kNoP)))) (kNext)
def rd_law_net_b0 (K : PySem.W.Frag) : KS :=
  kSeq (kSet 5 (kCall (S_law_take K) (kCons (kVar 0) (kCons (kBin (kAdd) (kCB (kLen K) (kCons (kVar 4) (kNil))) (kC (.int 1))) (kNil))))) (rd_law_net_b0_1 K)
def rd_law_net_5 (K : PySem.W.Frag) : KS :=
  kSeq (kRet (kVar 4)) (kNext)
def rd_law_net_4 (K : PySem.W.Frag) : KS :=
  kSeq (kFor (kiR1 (kCons (kCall (S_law_take K) (kCons (kVar 0) (kCons (kC (.int 4)) (kNil)))) (kNil))) (kgName 3) (rd_law_net_b0 K)) (rd_law_net_5 K)
def rd_law_net_3 (K : PySem.W.Frag) : KS :=
  kSeq (kIf (kT (kBin (kI0 fun i j => .bl (decide (j < i))) (kVar 2) (kC (.int 1)))) (kSeq (kSet 4 (kBin (kMul) (kComp (kiR1 (kCons (kBin (kI0 fun i j => .int (i - j)) (kVar 1) (kC (.int 1))) (kNil))) (kgName 3) (kYes) (kTup (kCons (kVar 3) (kCons (kBin (kAdd) (kVar 3) (kC (.int 1))) (kNil)))) [3]) (kVar 1))) (kNext)) (kNext)) (rd_law_net_4 K)
def rd_law_net_2 (K : PySem.W.Frag) : KS :=
  kSeq (kSet 4 (kCall (S_net_of K) (kCons (kVar 1) (kNil)))) (rd_law_net_3 K)
def rd_law_net_1 (K : PySem.W.Frag) : KS :=
  kSeq (kIf (kT (kBin (kEqv false K) (kVar 2) (kC (.int 4)))) (kSeq (kRet (kComp (kiR1 (kCons (kCall (S_law_take K) (kCons (kVar 0) (kCons (kC (.int 16)) (kNil)))) (kNil))) (kgName 3) (kYes) (kCall (S_law_pair K) (kCons (kVar 0) (kCons (kVar 1) (kNil)))) [3])) (kNext)) (kNext)) (rd_law_net_2 K)
def rd_law_net (K : PySem.W.Frag) : KS :=
  kSeq (kSet 2 (kCall (S_law_take K) (kCons (kVar 0) (kCons (kC (.int 5)) (kNil))))) (rd_law_net_1 K)
/-- law_missed(_law_size, _law_net_here); slots 0 _law_size, 1 _law_net_here, 2 _law_number, 3 _law_row, 4 _law_k -/
def rd_law_missed_b0_1 (K : PySem.W.Frag) : KS :=
  kSeq (kIf (kT (kBin (kEqv true K) (kCall (S_run_net K) (kCons (kVar 1) (kCons (kVar 3) (kNil)))) (kCB (kSorted K) (kCons (kVar 3) (kNil))))) (kSeq (kRet (kC (.bl true))) (kNext)) (kNext)) (kNext)
def rd_law_missed_b0 (K : PySem.W.Frag) : KS :=
  kSeq (kSet 3 (kComp (kiR1 (kCons (kVar 0) (kNil))) (kgName 4) (kYes) (kBin (kI (fun _ j => 0 < j) fun i j => .int (i % j)) (kBin (kI CDivW fun i j => .int (i / j)) (kVar 2) (kBin (kI CPow fun i j => .int (i * 2 ^ j.toNat)) (kC (.int 1)) (kVar 4))) (kC (.int 2))) [4])) (rd_law_missed_b0_1 K)
def rd_law_missed_1 (K : PySem.W.Frag) : KS :=
  kSeq (kRet (kC (.bl false))) (kNext)
def rd_law_missed (K : PySem.W.Frag) : KS :=
  kSeq (kFor (kiR1 (kCons (kBin (kI CPow fun i j => .int (i * 2 ^ j.toNat)) (kC (.int 1)) (kVar 0)) (kNil))) (kgName 2) (rd_law_missed_b0 K)) (rd_law_missed_1 K)
/-- law_right(_law_pool_here); slots 0 _law_pool_here, 1 _law_size, 2 _law_net_here, 3 _law_found, 4 _law_least, 5 _law_many, 6 _law_row, 7 _law_k -/
def rd_law_right_b0_1 (K : PySem.W.Frag) : KS :=
  kSeq (kIf (kT (kBin (kEqv true K) (kCall (S_run_net K) (kCons (kVar 2) (kCons (kVar 6) (kNil)))) (kCB (kSorted K) (kCons (kVar 6) (kNil))))) (kSeq (kRet (kC (.bl false))) (kNext)) (kNext)) (kNext)
def rd_law_right_b0 (K : PySem.W.Frag) : KS :=
  kSeq (kSet 6 (kComp (kiR1 (kCons (kVar 1) (kNil))) (kgName 7) (kYes) (kBin (kAdd) (kVar 4) (kCall (S_law_take K) (kCons (kVar 0) (kCons (kVar 5) (kNil))))) [7])) (rd_law_right_b0_1 K)
def rd_law_right_5 (K : PySem.W.Frag) : KS :=
  kSeq (kRet (kAndV (kBin (kIs2 false) (kVar 3) (kC (.bl true))) (kBin (kIs2 false) (kCall (S_sorts K) (kCons (kVar 1) (kCons (kBin (kAdd) (kVar 2) (kLst (kCons (kCall (S_law_pair K) (kCons (kVar 0) (kCons (kVar 1) (kNil)))) (kNil)))) (kNil)))) (kC (.bl true))))) (kNext)
def rd_law_right_4 (K : PySem.W.Frag) : KS :=
  kSeq (kFor (kiSeq K (kLst (kCons (kTup (kCons (kUn kNeg (kC (.int 3))) (kCons (kC (.int 7)) (kNil)))) (kCons (kTup (kCons (kUn kNeg (kBin (kI CPow fun i j => .int (i ^ j.toNat)) (kC (.int 10)) (kC (.int 18)))) (kCons (kBin (kAdd) (kBin (kMul) (kC (.int 2)) (kBin (kI CPow fun i j => .int (i ^ j.toNat)) (kC (.int 10)) (kC (.int 18)))) (kC (.int 1))) (kNil)))) (kCons (kTup (kCons (kC (.int 0)) (kCons (kC (.int 2)) (kNil)))) (kNil)))))) (kgTup K 2 (kgsCons (kgName 4) (kgsCons (kgName 5) (kgsNil)))) (rd_law_right_b0 K)) (rd_law_right_5 K)
def rd_law_right_3 (K : PySem.W.Frag) : KS :=
  kSeq (kIf (kT (kBin (kIs2 false) (kVar 3) (kC (.bl false)))) (kSeq (kRet (kCall (S_law_missed K) (kCons (kVar 1) (kCons (kVar 2) (kNil))))) (kNext)) (kNext)) (rd_law_right_4 K)
def rd_law_right_2 (K : PySem.W.Frag) : KS :=
  kSeq (kSet 3 (kCall (S_sorts K) (kCons (kVar 1) (kCons (kVar 2) (kNil))))) (rd_law_right_3 K)
def rd_law_right_1 (K : PySem.W.Frag) : KS :=
  kSeq (kSet 2 (kCall (S_law_net K) (kCons (kVar 0) (kCons (kVar 1) (kNil))))) (rd_law_right_2 K)
def rd_law_right (K : PySem.W.Frag) : KS :=
  kSeq (kSet 1 (kBin (kAdd) (kC (.int 2)) (kCall (S_law_take K) (kCons (kVar 0) (kCons (kC (.int 6)) (kNil)))))) (rd_law_right_1 K)
/-- law(_law_script); slots 0 _law_script, 1 _law_k, 2 _law_size, 3 _law_net_here -/
def rd_law_b0 (K : PySem.W.Frag) : KS :=
  kSeq (kIf (kNot (kT (kCall (S_law_right K) (kCons (kCall (S_law_pool K) (kCons (kVar 0) (kCons (kVar 1) (kNil)))) (kNil))))) (kSeq (kRet (kC (.bl false))) (kNext)) (kNext)) (kNext)
def rd_law_4 (K : PySem.W.Frag) : KS :=
  kSeq (kRet (kAndV (kBin (kIs2 false) (kCall (S_sorts K) (kCons (kC (.int 10)) (kCons (kCall (S_net_of K) (kCons (kC (.int 10)) (kNil))) (kNil)))) (kC (.bl true))) (kAndV (kBin (kIs2 false) (kCall (S_sorts K) (kCons (kC (.int 10)) (kCons (kBin (kMul) (kCall (S_net_of K) (kCons (kC (.int 10)) (kNil))) (kC (.int 12))) (kNil)))) (kC (.bl true))) (kBin (kIs2 false) (kCall (S_sorts K) (kCons (kC (.int 10)) (kCons (kLst (kNil)) (kNil)))) (kC (.bl false)))))) (kNext)
def rd_law_3 (K : PySem.W.Frag) : KS :=
  kSeq (kIf (kT (kBin (kEqv false K) (kCall (S_sorts K) (kCons (kVar 2) (kCons (kVar 3) (kNil)))) (kCall (S_law_missed K) (kCons (kVar 2) (kCons (kVar 3) (kNil)))))) (kSeq (kRet (kC (.bl false))) (kNext)) (kNext)) (rd_law_4 K)
def rd_law_2 (K : PySem.W.Frag) : KS :=
  kSeq (kSet 3 (kBin (kIx K) (kLst (kCons (kSl K (kCall (S_net_of K) (kCons (kVar 2) (kNil))) (kPart (kC (.int 1))) (kNoP)) (kCons (kSl K (kCall (S_net_of K) (kCons (kVar 2) (kNil))) (kNoP) (kPart (kUn kNeg (kC (.int 1))))) (kNil)))) (kBin (kI (fun _ j => 0 < j) fun i j => .int (i % j)) (kBin (kI CDivW fun i j => .int (i / j)) (kCB (kLen K) (kCons (kVar 0) (kNil))) (kC (.int 3))) (kC (.int 2))))) (rd_law_3 K)
def rd_law_1 (K : PySem.W.Frag) : KS :=
  kSeq (kSet 2 (kBin (kAdd) (kC (.int 8)) (kBin (kI (fun _ j => 0 < j) fun i j => .int (i % j)) (kCB (kLen K) (kCons (kVar 0) (kNil))) (kC (.int 3))))) (rd_law_2 K)
def rd_law (K : PySem.W.Frag) : KS :=
  kSeq (kFor (kiR1 (kCons (kBin (kAdd) (kCB (kMin2) (kCons (kCB (kLen K) (kCons (kVar 0) (kNil))) (kCons (kC (.int 20)) (kNil)))) (kC (.int 1))) (kNil))) (kgName 1) (rd_law_b0 K)) (rd_law_1 K)
section
variable {K : PySem.W.Frag} {vs : List V} {G : Hp} {M : Mem} {R : KR} {Z : KX}
theorem pf_law_take (h : S_law_take K vs G M R Z) : rd_law_take K (ends R Z) (sta 3 vs) G M := by
  obtain ⟨_, _, rfl, p, m, n, c, s, rfl, rfl, hn, hs, hm0, hm1, q⟩ := sp2_of h
  have hS : SeqAt' K G M p [.int c, .int s] := lst_n hn
  refine ⟨G, M, Wk.refl, _, _, hS, rfl, ite2' (fun e => ?_) (fun e => ?_)⟩
  · refine ⟨G, M, Wk.refl, _, _, hS, rfl, hm0, ?_⟩
    refine ⟨G, M, Wk.refl, _, _, hS, rfl, divW hm0 hm1 c, n, _, 0, hn, rfl, ?_⟩
    refine ⟨G, _, Wk.refl, ?_⟩
    exact ret0 (q _ _ _ (Int.emod_nonneg _ (by omega)) (Int.emod_lt_of_pos _ hm0) hs)
  · obtain ⟨s0, s1⟩ := hs
    have hs' : PoolOk ((s * 48271 + 11) % 2147483647) := ⟨Int.emod_nonneg _ (by decide), Int.emod_lt_of_pos _ (by decide)⟩
    refine ⟨G, M, Wk.refl, _, _, hS, rfl, mul_r (by decide) (by decide), (by show (0 : Int) < _; decide), n, _, 1, hn, rfl, ?_⟩
    have hn' : (M.set n (p, pool c ((s * 48271 + 11) % 2147483647)))[n]? = some (p, pool c ((s * 48271 + 11) % 2147483647)) := set_n hn
    have hS' : SeqAt' K G (M.set n (p, pool c ((s * 48271 + 11) % 2147483647))) p [.int c, .int ((s * 48271 + 11) % 2147483647)] := lst_n hn'
    refine ⟨G, _, Wk.refl, _, _, hS', rfl, _, _, hS', rfl, mul_l (by have := hs'.1; omega) (by have := hs'.2; omega), (by show (0 : Int) < _; decide), divW (by decide) (by decide) _, hm0, ?_⟩
    exact ret0 (q _ _ _ (Int.emod_nonneg _ (by omega)) (Int.emod_lt_of_pos _ hm0) hs')
theorem b01 (b : Bool) : -(2 ^ 64) < (if b then (1 : Int) else 0) ∧ (if b then (1 : Int) else 0) < 2 ^ 64 := by cases b <;> decide
end
section
variable {K : PySem.W.Frag} {vs : List V} {G : Hp} {M : Mem} {R : KR} {Z : KX}
theorem pf_law_pool (h : S_law_pool K vs G M R Z) : rd_law_pool K (ends R Z) (sta 4 vs) G M := by
  obtain ⟨_, _, rfl, a, ns, k, rfl, rfl, hS, k0, k1, hl, q⟩ := sp2_of h
  have rest : ∀ cell : Int, rd_law_pool_2 K (ends R Z) [some (.ref a), some (.int k), some (.int cell), none] G M := fun cell => by
    refine ⟨G, M, Wk.refl, (by show (0 : Int) < _; decide), mul_l (by decide) (by decide), mul_r (by decide) (by decide), (by show (0 : Int) < _; decide), ?_⟩
    refine ⟨G, M, Wk.refl, pow10_18, mul_r (b01 _).1 (b01 _).2, sz2, fun p fp => ?_⟩
    exact ret0 (q p _ _ fp ⟨Int.emod_nonneg _ (by decide), Int.emod_lt_of_pos _ (by decide)⟩)
  refine ⟨G, M, Wk.refl, _, lst_g hS, ?_⟩
  refine ⟨G, M, Wk.refl, _, lst_g hS, ite2' (fun e => ?_) (fun e => rest _)⟩
  have e1 : k < ((ns.map V.int).length : Int) := of_decide_eq_true e
  rw [List.length_map] at e1
  exact ⟨G, M, Wk.refl, _, _, lst_g hS, atI_int k0 e1, rest _⟩
end
section
variable {K : PySem.W.Frag} {vs : List V} {G : Hp} {M : Mem} {R : KR} {Z : KX}
theorem at_two {x y : V} {r : Int} (h0 : 0 ≤ r) (h1 : r < 2) : ∃ v, atI [x, y] r = some v ∧ (v = x ∨ v = y) := by
  have e : r = 0 ∨ r = 1 := by omega
  rcases e with rfl | rfl
  · exact ⟨x, rfl, .inl rfl⟩
  · exact ⟨y, rfl, .inr rfl⟩
theorem fr_set {n : Nat} {p : Addr} {o : HO} {x : Addr × HO} {t : Addr} (hn : M[n]? = some (p, o)) (h : Fr G M t) (e : x.1 = p := by rfl) : Fr G (M.set n x) t := by
  refine ⟨h.1, fun y hy => ?_⟩
  rcases List.mem_or_eq_of_mem_set hy with hy | rfl
  · exact h.2 y hy
  · rw [e]; exact h.2 _ (List.mem_of_getElem? hn)
theorem fr_unset {n : Nat} {p : Addr} {o : HO} {x : Addr × HO} {t : Addr} (hn : M[n]? = some (p, o)) (h : Fr G (M.set n x) t) (e : x.1 = p := by rfl) : Fr G M t := by
  have hl : n < M.length := (List.getElem?_eq_some_iff.mp hn).1
  refine ⟨h.1, fun y hy => ?_⟩
  obtain ⟨m, hm⟩ := List.getElem?_of_mem hy
  by_cases z : n = m
  · subst z
    rw [hn] at hm; cases hm
    have := h.2 x (List.mem_of_getElem? (List.getElem?_set_self hl))
    rw [e] at this; exact this
  · exact h.2 y (List.mem_of_getElem? (by rw [List.getElem?_set_ne z]; exact hm))
end
section
variable {K : PySem.W.Frag} {vs : List V} {G : Hp} {M : Mem} {R : KR} {Z : KX} {d : Nat}
theorem z_joining {K : PySem.W.Frag} : ∀ vs G M R Z, ¬ S_joining 0 K vs G M R Z := fun vs G M R Z h => by
  obtain ⟨_, _, _, _, _, _, _, _, _, _, _, hj, _⟩ := sp3_of h
  omega
theorem z_sorting {K : PySem.W.Frag} : ∀ vs G M R Z, ¬ S_sorting 0 K vs G M R Z := fun vs G M R Z h => by
  obtain ⟨_, _, _, _, _, _, _, _, hj, _⟩ := sp2_of h
  omega
theorem pow_pos' (j : Nat) : (0 : Int) < 2 ^ j := Int.pow_pos (by decide)
theorem w_one {s : Int} (j : Nat) (hs : 0 < s) : 2 * s ≠ 2 * s * 2 ^ (j + 1) := by
  intro e
  have h1 := pow_pos' j
  rw [Int.pow_succ, show 2 * s * (2 ^ j * 2) = 2 * (2 * (s * 2 ^ j)) by simp only [Int.mul_comm, Int.mul_left_comm, Int.mul_assoc]] at e
  have h2 : s * 1 ≤ s * 2 ^ j := Int.mul_le_mul_of_nonneg_left (by omega) (by omega)
  omega
theorem w_half {s : Int} (j : Nat) : 2 * s * 2 ^ (j + 1) = 2 * (2 * s) * 2 ^ j := by
  rw [Int.pow_succ]; simp only [Int.mul_comm, Int.mul_left_comm, Int.mul_assoc]
theorem s_le {s : Int} {j : Nat} (hs : 0 < s) (h : 2 * s * 2 ^ j ≤ 64) : s ≤ 32 := by
  have h1 := pow_pos' j
  have h2 : 2 * s * 1 ≤ 2 * s * 2 ^ j := Int.mul_le_mul_of_nonneg_left (by omega) (by omega)
  omega
theorem joinL_len : ∀ (j : Nat) (f s : Int), j < 8 → (joinL j f s).length ≤ 4000
  | 0, _, _, _ => by simp [joinL]
  | 1, f, s, _ => by simp [joinL]
  | 2, f, s, _ => by simp [joinL]
  | 3, f, s, _ => by simp [joinL]
  | 4, f, s, _ => by simp [joinL]
  | 5, f, s, _ => by simp [joinL]
  | 6, f, s, _ => by simp [joinL]
  | 7, f, s, _ => by simp [joinL]
  | _ + 8, _, _, h => by omega
theorem sortL_len : ∀ (j : Nat) (f : Int), j ≤ 7 → (sortL j f).length + 4000 ≤ 4000 * 2 ^ j
  | 0, _, _ => by simp [sortL]
  | j + 1, f, h => by
    have h1 := sortL_len j f (by omega)
    have h2 := sortL_len j (f + 2 ^ j) (by omega)
    have h3 := joinL_len j f 1 (by omega)
    have h4 : 0 < 2 ^ j := Nat.pow_pos (by decide)
    simp only [sortL, List.length_append, Nat.pow_succ]
    omega
theorem range_snoc (n : Nat) (f : Nat → Int × Int) : (List.range (n + 1)).map f = (List.range n).map f ++ [f n] := by
  rw [List.range_succ, List.map_append]; rfl
theorem map_len_le {vs : List V} {ps : List (Int × Int)} {G : Hp} (h : DpAll K G vs (ps.map prD)) : vs.length = ps.length := by rw [dpall_len h, List.length_map]
theorem dpall_app {K : PySem.W.Frag} {G : Hp} : ∀ {vs ws : List V} {ds es : List PyData}, DpAll K G vs ds → DpAll K G ws es → DpAll K G (vs ++ ws) (ds ++ es)
  | _, _, _, _, .nil, h => h
  | _, _, _, _, .cons a b, h => .cons a (dpall_app b h)
theorem pf_joining (h : S_joining (d + 1) K vs G M R Z) : rd_joining K (S_joining d K) (ends R Z) (sta 5 vs) G M := by
  obtain ⟨_, _, _, rfl, f, w, s, j, rfl, rfl, rfl, hj, hw, hs, hw2, f0, f1, hj8, q⟩ := sp3_of h
  have hs32 : s ≤ 32 := s_le hs (by rw [← hw]; exact hw2)
  refine ⟨G, M, Wk.refl, mul_l (by decide) (by decide), ite2' (fun e => ?_) (fun e => ?_)⟩
  · have e : V.int (2 * s) = V.int w := of_decide_eq_true e
    have e : 2 * s = w := V.int.inj e
    have hj0 : j = 0 := by
      cases j with
      | zero => rfl
      | succ j => exact absurd (e.trans hw) (w_one j hs)
    subst hj0
    refine ⟨G, M, Wk.refl, sz2, fun t ft => ⟨sz1, fun l fl => ?_⟩⟩
    exact ret0 (q l [.ref t] _ (Ex.new ft) fl (.cons (dp_pr sqt_new) .nil))
  · obtain ⟨j, rfl⟩ : ∃ j', j = j' + 1 := by
      cases j with
      | zero =>
        have e : ¬ (V.int (2 * s) = V.int w) := of_decide_eq_false e
        exact absurd (by rw [hw]; simp) e
      | succ j => exact ⟨j, rfl⟩
    refine ⟨G, M, Wk.refl, mul_l (by decide) (by decide), f, w, 2 * s, j, rfl, rfl, rfl, by omega, by rw [hw]; exact w_half j, by omega, hw2, f0, by omega, by omega, fun t1 v1 G1 x1 f1' d1 => ?_⟩
    refine ⟨mul_l (by decide) (by decide), f + s, w, 2 * s, j, rfl, rfl, rfl, by omega, by rw [hw]; exact w_half j, by omega, hw2, by omega, by omega, by omega, fun t2 v2 G2 x2 f2 d2 => ?_⟩
    have l1 := map_len_le d1
    have l2 := map_len_le d2
    have b1 := joinL_len j f (2 * s) (by omega)
    have b2 := joinL_len j (f + s) (2 * s) (by omega)
    refine ⟨_, _, .inl (List.mem_cons_of_mem _ List.mem_cons_self), .inl List.mem_cons_self, sz (by omega), fun t3 f3 => ?_⟩
    have hn : 2 ^ (j + 1) - 1 < 100000 := by
      have : 2 ^ (j + 1) ≤ 2 ^ 8 := Nat.pow_le_pow_right (by decide) (by omega)
      omega
    have hp : 1 ≤ 2 ^ (j + 1) := Nat.one_le_two_pow
    have hend : f + w - s = f + s + 2 * s * ((2 ^ (j + 1) - 1 : Nat) : Int) := by
      rw [hw, Int.ofNat_sub hp, Int.mul_sub]
      simp only [Int.natCast_pow, Int.cast_ofNat_Int]
      omega
    have d12 : DpAll K G2 (v1 ++ v2) ((joinL j f (2 * s) ++ joinL j (f + s) (2 * s)).map prD) := by
      rw [List.map_append]
      exact dpall_app (ex_ds x2 _ d1) d2
    have dr : Wk G2 ((t3, HO.lst (v1 ++ v2)) :: (t2, HO.lst v2) :: (t1, HO.lst v1) :: M) G2 ((t3, HO.lst (v1 ++ v2)) :: M) := Wk.drop1.trans Wk.drop1
    refine ⟨G2, _, dr, mul_l (by decide) (by decide), 2 ^ (j + 1) - 1, ?_, sz (by show 2 ^ (j + 1) - 1 ≤ _; omega), fun i acc G' M' => Ex G2 G' ∧ M' = (t3, .lst (v1 ++ v2)) :: M ∧ DpAll K G' acc (((List.range i).map fun (i : Nat) => (f + s + (i : Int) * (2 * s), f + s + (i : Int) * (2 * s) + s)).map prD) ∧ Fr G' M t3,
      ⟨Ex.refl, rfl, .nil, ⟨f3.1, fun x hx => f3.2 x (List.mem_cons_of_mem _ (List.mem_cons_of_mem _ hx))⟩⟩, fun _ _ _ _ _ _ => trivial, ?_, ?_⟩
    · have := rg_mul (i := f + s) (c := 2 * s) (n := 2 ^ (j + 1) - 1) (by omega) (by omega) (by omega) (by omega) hn
      rw [← hend] at this
      exact this
    · rintro i acc G' M' D hi hacc ⟨x3, rfl, d3, f3'⟩ fD
      refine ⟨rfl, sz2, fun t ft => ⟨_, _, Wk.refl, x3.trans (Ex.new ft), rfl, ?_, ?_⟩⟩
      · rw [range_snoc, List.map_append]
        exact dpall_snoc (ex_ds (Ex.new ft) _ d3) (dp_pr sqt_new)
      · refine ⟨?_, f3'.2⟩
        rw [upd_ne (ft.2 (t3, _) (List.mem_cons_of_mem _ List.mem_cons_self))]
        exact f3'.1
    · rintro acc G' M' p ⟨x3, rfl, d3, f3'⟩ hacc fp
      have hacc : acc.length ≤ 2 ^ (j + 1) - 1 := hacc
      refine ⟨_, _, .inl (List.mem_cons_of_mem _ List.mem_cons_self), .inl List.mem_cons_self, sz (by rw [List.length_append]; omega), fun t4 f4 => ?_⟩
      refine retW (G' := G') (M' := (t4, .lst (v1 ++ v2 ++ acc)) :: M) (Wk.drop1.trans Wk.drop1) (q t4 _ G' ((x1.trans x2).trans x3) ⟨f4.1, fun x hx => f4.2 x (List.mem_cons_of_mem _ (List.mem_cons_of_mem _ hx))⟩ ?_)
      show DpAll K G' _ ((joinL j f (2 * s) ++ joinL j (f + s) (2 * s) ++ _).map prD)
      rw [List.map_append]
      exact dpall_app (ex_ds x3 _ d12) d3
theorem sort_go {j : Nat} {f w : Int} {t1 t2 t3 t4 : Addr} {v1 v2 v3 : List V} {G1 G2 G3 : Hp} (x1 : Ex G G1) (x2 : Ex G1 G2) (x3 : Ex G2 G3) (d1 : DpAll K G1 v1 ((sortL j f).map prD)) (d2 : DpAll K G2 v2 ((sortL j (f + 2 ^ j)).map prD)) (d3 : DpAll K G3 v3 ((joinL j f 1).map prD)) :
    DpAll K G3 (v1 ++ v2 ++ v3) ((sortL (j + 1) f).map prD) := by
  show DpAll K G3 _ ((sortL j f ++ sortL j (f + 2 ^ j) ++ joinL j f 1).map prD)
  rw [List.map_append, List.map_append]
  exact dpall_app (dpall_app (ex_ds (x2.trans x3) _ d1) (ex_ds x3 _ d2)) d3
theorem pf_sorting (h : S_sorting (d + 1) K vs G M R Z) : rd_sorting K (S_sorting d K) (ends R Z) (sta 3 vs) G M := by
  obtain ⟨_, _, rfl, f, w, j, rfl, rfl, hj, hw, hj6, f0, f1, q⟩ := sp2_of h
  refine ⟨G, M, Wk.refl, ite2' (fun e => ?_) (fun e => ?_)⟩
  · have e : V.int w = V.int 1 := of_decide_eq_true e
    have e : w = 1 := V.int.inj e
    have hj0 : j = 0 := by
      cases j with
      | zero => rfl
      | succ j =>
        rw [hw, Int.pow_succ] at e
        have := pow_pos' j
        omega
    subst hj0
    exact ⟨G, M, Wk.refl, sz0, fun l fl => ret0 (q l [] G Ex.refl fl .nil)⟩
  · obtain ⟨j, rfl⟩ : ∃ j', j = j' + 1 := by
      cases j with
      | zero =>
        have e : ¬ (V.int w = V.int 1) := of_decide_eq_false e
        exact absurd (by rw [hw]; rfl) e
      | succ j => exact ⟨j, rfl⟩
    have hw' : w = 2 ^ j * 2 := by rw [hw, Int.pow_succ]
    have hp := pow_pos' j
    have hh : w / 2 = 2 ^ j := by omega
    have hw64 : w ≤ 64 := by
      have : ∀ k, k < 7 → (2 : Int) ^ k ≤ 64 := by decide
      rw [hw]; exact this _ (by omega)
    refine ⟨G, M, Wk.refl, divW (by decide) (by decide) _, ?_⟩
    refine ⟨G, M, Wk.refl, f, w / 2, j, rfl, rfl, by omega, hh, by omega, f0, by omega, fun t1 v1 G1 x1 f1' d1 => ?_⟩
    refine ⟨f + w / 2, w / 2, j, rfl, rfl, by omega, hh, by omega, by omega, by omega, fun t2 v2 G2 x2 f2 d2 => ?_⟩
    rw [hh] at d2
    have l1 := map_len_le d1
    have l2 := map_len_le d2
    have b1 := sortL_len j f (by omega)
    have b2 := sortL_len j (f + 2 ^ j) (by omega)
    have b0 : 2 ^ j ≤ 2 ^ 5 := Nat.pow_le_pow_right (by decide) (by omega)
    refine ⟨_, _, .inl (List.mem_cons_of_mem _ List.mem_cons_self), .inl List.mem_cons_self, sz (by omega), fun t3 f3 => ?_⟩
    refine ⟨f, w, 1, j, rfl, rfl, rfl, by omega, by rw [hw']; omega, by decide, hw64, f0, by omega, by omega, fun t4 v3 G3 x3 f4 d3 => ?_⟩
    have l3 := map_len_le d3
    have b3 := joinL_len j f 1 (by omega)
    refine ⟨_, _, .inl (List.mem_cons_of_mem _ List.mem_cons_self), .inl List.mem_cons_self, sz (by rw [List.length_append]; omega), fun t5 f5 => ?_⟩
    refine retW (G' := G3) (M' := (t5, .lst (v1 ++ v2 ++ v3)) :: M) (((Wk.drop1.trans Wk.drop1).trans Wk.drop1).trans Wk.drop1) (q t5 _ G3 ((x1.trans x2).trans x3) ⟨f5.1, fun x hx => f5.2 x ?_⟩ (sort_go x1 x2 x3 d1 d2 d3 (w := w) (t1 := t1) (t2 := t2) (t3 := t3) (t4 := t4)))
    exact List.mem_cons_of_mem _ (List.mem_cons_of_mem _ (List.mem_cons_of_mem _ (List.mem_cons_of_mem _ hx)))
theorem lg_of {n : Int} (hn : n ≤ 64) : ∀ j : Nat, j < 7 → n ≤ 2 ^ j → (j = 0 ∨ 2 ^ (j - 1) < n) → j = lg n
  | 0, _, h, _ => by unfold lg; rw [if_pos (by simpa using h)]
  | 1, _, h, k => by
    have h : n ≤ 2 := h
    have k : 1 < n := by simpa using k
    unfold lg; rw [if_neg (by omega), if_pos (by omega)]
  | 2, _, h, k => by
    have h : n ≤ 4 := h
    have k : 2 < n := by simpa using k
    unfold lg; rw [if_neg (by omega), if_neg (by omega), if_pos (by omega)]
  | 3, _, h, k => by
    have h : n ≤ 8 := h
    have k : 4 < n := by simpa using k
    unfold lg; rw [if_neg (by omega), if_neg (by omega), if_neg (by omega), if_pos (by omega)]
  | 4, _, h, k => by
    have h : n ≤ 16 := h
    have k : 8 < n := by simpa using k
    unfold lg; rw [if_neg (by omega), if_neg (by omega), if_neg (by omega), if_neg (by omega), if_pos (by omega)]
  | 5, _, h, k => by
    have h : n ≤ 32 := h
    have k : 16 < n := by simpa using k
    unfold lg; rw [if_neg (by omega), if_neg (by omega), if_neg (by omega), if_neg (by omega), if_neg (by omega), if_pos (by omega)]
  | 6, _, h, k => by
    have k : 32 < n := by simpa using k
    unfold lg; rw [if_neg (by omega), if_neg (by omega), if_neg (by omega), if_neg (by omega), if_neg (by omega), if_neg (by omega)]
  | _ + 7, h, _, _ => by omega
theorem lg_lt (n : Int) : lg n < 7 := by unfold lg; repeat' split <;> try decide
theorem filter_snoc {p : Int × Int} {P : Int × Int → Bool} {ps : List (Int × Int)} {i : Nat} (h : ps[i]? = some p) : (ps.take (i + 1)).filter P = if P p = true then (ps.take i).filter P ++ [p] else (ps.take i).filter P := by
  rw [List.take_add_one, h, List.filter_append]
  show _ ++ [p].filter P = _
  cases e : P p with
  | true => rw [List.filter_cons_of_pos e]; rfl
  | false => rw [List.filter_cons_of_neg (by simp [e])]; simp
theorem pf_net_of (h : S_net_of K vs G M R Z) : rd_net_of K (ends R Z) (sta 3 vs) G M := by
  obtain ⟨_, rfl, n, rfl, n0, n1, q⟩ := sp1_of h
  refine ⟨G, M, Wk.refl, ?_⟩
  refine ⟨G, M, Wk.refl, fun m σ G' M' => ∃ j : Nat, σ = [some (.int n), some (.int (2 ^ j)), none] ∧ G' = G ∧ M' = M ∧ j < 7 ∧ m = 6 - j ∧ (j = 0 ∨ 2 ^ (j - 1) < n), ⟨6, 0, rfl, rfl, rfl, by decide, rfl, .inl rfl⟩, ?_⟩
  rintro m σ G' M' ⟨j, rfl, rfl, rfl, hj, rfl, hk⟩
  refine ite2' (fun e => ?_) (fun e => ?_)
  · have e : (2 : Int) ^ j < n := of_decide_eq_true e
    have hj6 : j < 6 := by
      have : ∀ k, k < 7 → ¬ k < 6 → (64 : Int) ≤ 2 ^ k := by decide
      by_cases h6 : j < 6
      · exact h6
      · have := this j hj h6; omega
    refine ⟨G', M', Wk.refl, mul_l (by decide) (by decide), 6 - (j + 1), by omega, G', M', Wk.refl, j + 1, ?_, rfl, rfl, by omega, rfl, .inr (by simpa using e)⟩
    have : (2 : Int) * 2 ^ j = 2 ^ (j + 1) := by rw [Int.pow_succ]; omega
    show [some (V.int n), some (V.int (2 * 2 ^ j)), none] = _
    rw [this]
  · have e : ¬ (2 : Int) ^ j < n := of_decide_eq_false e
    have hlg := lg_of n1 j hj (by omega) hk
    have hb := sortL_len j 0 (by omega)
    have hp : 2 ^ j ≤ 2 ^ 6 := Nat.pow_le_pow_right (by decide) (by omega)
    have hpi : ∀ k, k < 7 → (2 : Int) ^ k ≤ 64 := by decide
    refine ⟨G', M', Wk.refl, 0, 2 ^ j, j, rfl, rfl, hj, rfl, by omega, by decide, by have := hpi j hj; omega, fun t vs G1 x1 f1 d1 => ?_⟩
    have hl := map_len_le d1
    refine ⟨_, lat_0, sz (by show vs.length ≤ _; omega), fun i acc G2 M2 => G2 = G1 ∧ M2 = (t, .lst vs) :: M' ∧ DpAll K G1 acc ((((sortL j 0).take i).filter fun p => decide (p.2 < n)).map prD), ⟨rfl, rfl, .nil⟩, ?_, ?_, ?_⟩
    · rintro i acc G2 M2 hi ⟨rfl, rfl, _⟩
      exact lat_0
    · rintro i acc G2 M2 D hi hacc ⟨rfl, rfl, da⟩ fD
      have hi : i < vs.length := hi
      have hi' : i < (sortL j 0).length := by omega
      have hp := List.getElem?_eq_getElem hi'
      obtain ⟨v, hv, hd1⟩ := dpall_get (d := prD (sortL j 0)[i]) d1 (by rw [List.getElem?_map, hp]; rfl)
      obtain ⟨tt, rfl, ht⟩ := dp_pr_inv hd1
      have fs := filter_snoc (P := fun p : Int × Int => decide (p.2 < n)) hp
      refine asg_L hv ⟨rfl, _, _, tup_g ht, rfl, ite2' (fun e => ?_) (fun e => ?_)⟩
      · refine ⟨_, _, Wk.refl, rfl, rfl, ?_⟩
        rw [fs, if_pos e, List.map_append]
        exact dpall_snoc da hd1
      · refine ⟨_, _, Wk.refl, rfl, rfl, ?_⟩
        rw [fs, if_neg (by rw [e]; exact Bool.false_ne_true)]
        exact da
    · rintro acc G2 M2 p ⟨rfl, rfl, da⟩ hacc fp
      rw [List.take_of_length_le (by show (sortL j 0).length ≤ vs.length; omega)] at da
      refine retW (G' := G2) (M' := (p, .lst acc) :: M') Wk.drop1 (q p acc G2 x1 ⟨fp.1, fun x hx => fp.2 x (List.mem_cons_of_mem _ hx)⟩ ?_)
      unfold netL
      rw [← hlg]
      exact da
end
section
variable {K : PySem.W.Frag} {vs : List V} {G : Hp} {M : Mem} {R : KR} {Z : KX}
theorem stepN_len (l : List Int) (p : Int × Int) : (stepN l p).length = l.length := by
  unfold stepN; split <;> simp
theorem runN_len : ∀ (ps : List (Int × Int)) (l : List Int), (runN ps l).length = l.length
  | [], _ => rfl
  | p :: ps, l => by
    show (runN ps (stepN l p)).length = l.length
    rw [runN_len ps, stepN_len]
theorem runN_take {ps : List (Int × Int)} {i : Nat} {p : Int × Int} (h : ps[i]? = some p) (l : List Int) : runN (ps.take (i + 1)) l = stepN (runN (ps.take i) l) p := by
  unfold runN
  rw [List.take_add_one, h, List.foldl_append]; rfl
theorem pf_run_net (h : S_run_net K vs G M R Z) : rd_run_net K (ends R Z) (sta 5 vs) G M := by
  obtain ⟨_, _, rfl, a, b, us, ps, ns, rfl, rfl, ha, hd, hb, hg, q⟩ := sp2_of h
  have hlen : us.length = ps.length := by rw [dpall_len hd, List.length_map]
  refine ⟨G, M, Wk.refl, _, .inl hb, fun t ft => ?_⟩
  refine ⟨G, _, Wk.refl, _, lat_cons ha, fun i σ G' M' => ∃ y3 y4, σ = [some (.ref a), some (.ref b), some (.ref t), y3, y4] ∧ G' = G ∧ M' = (t, .lst ((runN (ps.take i) ns).map V.int)) :: M,
    ⟨none, none, rfl, rfl, rfl⟩, ?_, ?_, ?_⟩
  · rintro i σ G' M' hi ⟨y3, y4, rfl, rfl, rfl⟩
    exact lat_cons ha
  · rintro i σ G' M' hi ⟨y3, y4, rfl, rfl, rfl⟩
    have hi' : i < ps.length := by rw [← hlen]; exact hi
    have hp : ps[i]? = some ps[i] := List.getElem?_eq_getElem hi'
    obtain ⟨v, hv, hd1⟩ := dpall_get (d := prD ps[i]) hd (by rw [List.getElem?_map, hp]; rfl)
    obtain ⟨tt, rfl, ht⟩ := dp_pr_inv hd1
    obtain ⟨g0, g1, g2⟩ := hg ps[i] (List.getElem_mem hi')
    have hL : (runN (ps.take i) ns).length = ns.length := runN_len _ _
    generalize hl : runN (ps.take i) ns = l at *
    have s1 := runN_take hp ns
    rw [hl] at s1
    refine asg_L hv ⟨_, ht, ?_⟩
    refine ⟨G', _, Wk.refl, _, _, seq_0, atI_int g0 (by omega), _, _, seq_0, atI_int (by omega) (by omega), ite2' (fun e => ?_) (fun e => ?_)⟩
    · refine ⟨G', _, Wk.refl, _, _, seq_0, atI_int (by omega) (by omega), _, _, seq_0, atI_int g0 (by omega), sz2, fun w fw => ?_⟩
      refine ⟨_, sqt_new, 0, _, _, rfl, ixN_int g0 (by rw [List.length_map]; omega), 0, _, _, rfl, ixN_int (by omega) (by rw [List.length_set, List.length_map]; omega), ?_⟩
      refine ⟨G', _, (Wk.less (Ex.new fw)), _, _, rfl, rfl, ?_⟩
      rw [s1]
      unfold stepN
      rw [if_pos (of_decide_eq_true e), map_set_int, map_set_int]
      rfl
    · refine ⟨G', _, Wk.refl, _, _, rfl, rfl, ?_⟩
      rw [s1]
      unfold stepN
      rw [if_neg (of_decide_eq_false e)]
  · rintro σ G' M' ⟨y3, y4, rfl, rfl, rfl⟩
    refine ⟨G', _, Wk.refl, ?_⟩
    have e : ps.take (srcL K a us).n = ps := List.take_of_length_le (by show ps.length ≤ us.length; omega)
    rw [e]
    exact ret0 (q t ft)
end
/-! ### the told nets sort: noughts and ones first -/
section
def stB (x : Int → Bool) (p : Int × Int) : Int → Bool := fun k => if k = p.1 then (x p.1 && x p.2) else if k = p.2 then (x p.1 || x p.2) else x k
def ruB (ps : List (Int × Int)) (x : Int → Bool) : Int → Bool := ps.foldl stB x
theorem ruB_app (ps qs : List (Int × Int)) (x : Int → Bool) : ruB (ps ++ qs) x = ruB qs (ruB ps x) := List.foldl_append ..
def joinE : Nat → (Nat → Int) → List (Int × Int)
  | 0, e => [(e 0, e 1)]
  | j + 1, e => joinE j (fun i => e (2 * i)) ++ joinE j (fun i => e (2 * i + 1)) ++ (List.range (2 ^ (j + 1) - 1)).map fun i => (e (2 * i + 1), e (2 * i + 2))
theorem joinL_E : ∀ (j : Nat) (f s : Int), joinL j f s = joinE j fun i => f + (i : Int) * s
  | 0, f, s => by simp [joinL, joinE]
  | j + 1, f, s => by
    simp only [joinL, joinE]
    rw [joinL_E j f (2 * s), joinL_E j (f + s) (2 * s)]
    have e1 : (fun i : Nat => f + (i : Int) * (2 * s)) = fun i : Nat => f + ((2 * i : Nat) : Int) * s := by
      funext i
      rw [show ((2 * i : Nat) : Int) = 2 * (i : Int) by omega, show (i : Int) * (2 * s) = 2 * (i : Int) * s by simp only [Int.mul_comm, Int.mul_left_comm]]
    have e2 : (fun i : Nat => f + s + (i : Int) * (2 * s)) = fun i : Nat => f + ((2 * i + 1 : Nat) : Int) * s := by
      funext i
      rw [show ((2 * i + 1 : Nat) : Int) = 2 * (i : Int) + 1 by omega, Int.add_mul, show (i : Int) * (2 * s) = 2 * (i : Int) * s by simp only [Int.mul_comm, Int.mul_left_comm]]
      omega
    have e3 : (fun i : Nat => (f + s + (i : Int) * (2 * s), f + s + (i : Int) * (2 * s) + s)) = fun i : Nat => (f + ((2 * i + 1 : Nat) : Int) * s, f + ((2 * i + 2 : Nat) : Int) * s) := by
      funext i
      rw [show ((2 * i + 1 : Nat) : Int) = 2 * (i : Int) + 1 by omega, show ((2 * i + 2 : Nat) : Int) = 2 * (i : Int) + 1 + 1 by omega, Int.add_mul, Int.add_mul, Int.add_mul, show (i : Int) * (2 * s) = 2 * (i : Int) * s by simp only [Int.mul_comm, Int.mul_left_comm]]
      congr 1 <;> omega
    rw [e1, e2, e3]
theorem tail_run (e : Nat → Int) (inj : ∀ i i', e i = e i' → i = i') (x : Int → Bool) : ∀ n : Nat,
    (∀ i, i < n → ruB ((List.range n).map fun i => (e (2 * i + 1), e (2 * i + 2))) x (e (2 * i + 1)) = (x (e (2 * i + 1)) && x (e (2 * i + 2))) ∧
      ruB ((List.range n).map fun i => (e (2 * i + 1), e (2 * i + 2))) x (e (2 * i + 2)) = (x (e (2 * i + 1)) || x (e (2 * i + 2)))) ∧
    (∀ k, (∀ i, i < n → k ≠ e (2 * i + 1) ∧ k ≠ e (2 * i + 2)) → ruB ((List.range n).map fun i => (e (2 * i + 1), e (2 * i + 2))) x k = x k)
  | 0 => ⟨fun i h => by omega, fun k _ => rfl⟩
  | n + 1 => by
    obtain ⟨h1, h2⟩ := tail_run e inj x n
    have hs : (List.range (n + 1)).map (fun i => (e (2 * i + 1), e (2 * i + 2))) = (List.range n).map (fun i => (e (2 * i + 1), e (2 * i + 2))) ++ [(e (2 * n + 1), e (2 * n + 2))] := by
      rw [List.range_succ, List.map_append]; rfl
    rw [hs, ruB_app]
    generalize hx : ruB ((List.range n).map fun i => (e (2 * i + 1), e (2 * i + 2))) x = y at *
    have a1 : y (e (2 * n + 1)) = x (e (2 * n + 1)) := h2 _ fun i hi => ⟨fun z => by have := inj _ _ z; omega, fun z => by have := inj _ _ z; omega⟩
    have a2 : y (e (2 * n + 2)) = x (e (2 * n + 2)) := h2 _ fun i hi => ⟨fun z => by have := inj _ _ z; omega, fun z => by have := inj _ _ z; omega⟩
    have ne : e (2 * n + 2) ≠ e (2 * n + 1) := fun z => by have := inj _ _ z; omega
    refine ⟨fun i hi => ?_, fun k hk => ?_⟩
    · by_cases hin : i = n
      · subst hin
        show stB y (e (2 * i + 1), e (2 * i + 2)) _ = _ ∧ stB y (e (2 * i + 1), e (2 * i + 2)) _ = _
        unfold stB
        dsimp only
        rw [if_pos rfl, if_neg ne, if_pos rfl, a1, a2]
        exact ⟨rfl, rfl⟩
      · have hin : i < n := by omega
        have q : ∀ m, m < 2 * n + 1 → ruB [(e (2 * n + 1), e (2 * n + 2))] y (e m) = y (e m) := fun m hm => by
          show stB y (e (2 * n + 1), e (2 * n + 2)) (e m) = y (e m)
          unfold stB
          dsimp only
          rw [if_neg (fun z => by have := inj _ _ z; omega), if_neg (fun z => by have := inj _ _ z; omega)]
        rw [q _ (by omega), q _ (by omega)]
        exact h1 i hin
    · show stB y (e (2 * n + 1), e (2 * n + 2)) k = x k
      unfold stB
      dsimp only
      obtain ⟨n1, n2⟩ := hk n (by omega)
      rw [if_neg n1, if_neg n2]
      exact h2 k fun i hi => hk i (by omega)
theorem dec_half {p i : Nat} : decide (p ≤ 2 * i) = decide ((p + 1) / 2 ≤ i) := by
  rw [decide_eq_decide]; omega
theorem dec_half' {p i : Nat} : decide (p ≤ 2 * i + 1) = decide (p / 2 ≤ i) := by
  rw [decide_eq_decide]; omega
theorem join_run : ∀ (j : Nat) (e : Nat → Int) (x : Int → Bool) (p q : Nat), (∀ i i', e i = e i' → i = i') → p ≤ 2 ^ j → q ≤ 2 ^ j →
    (∀ i, i < 2 ^ j → x (e i) = decide (p ≤ i)) → (∀ i, i < 2 ^ j → x (e (2 ^ j + i)) = decide (q ≤ i)) →
    (∀ i, i < 2 ^ (j + 1) → ruB (joinE j e) x (e i) = decide (p + q ≤ i)) ∧ (∀ k, (∀ i, i < 2 ^ (j + 1) → k ≠ e i) → ruB (joinE j e) x k = x k)
  | 0, e, x, p, q, inj, hp, hq, h1, h2 => by
    have x0 : x (e 0) = decide (p ≤ 0) := h1 0 (by decide)
    have x1 : x (e 1) = decide (q ≤ 0) := h2 0 (by decide)
    have ne : e 1 ≠ e 0 := fun z => by have := inj _ _ z; omega
    have hp : p ≤ 1 := hp
    have hq : q ≤ 1 := hq
    refine ⟨fun i hi => ?_, fun k hk => ?_⟩
    · show stB x (e 0, e 1) (e i) = _
      unfold stB
      dsimp only
      have hi : i < 2 := hi
      have ei : i = 0 ∨ i = 1 := by omega
      rcases ei with rfl | rfl
      · rw [if_pos rfl, x0, x1, ← Bool.decide_and, decide_eq_decide]; omega
      · rw [if_neg ne, if_pos rfl, x0, x1, ← Bool.decide_or, decide_eq_decide]; omega
    · show stB x (e 0, e 1) k = x k
      unfold stB
      dsimp only
      rw [if_neg (hk 0 (by decide)), if_neg (hk 1 (by decide))]
  | j + 1, e, x, p, q, inj, hp, hq, h1, h2 => by
    have hpw : 2 ^ (j + 1) = 2 * 2 ^ j := by rw [Nat.pow_succ]; omega
    have hpw2 : 2 ^ (j + 1 + 1) = 2 * 2 ^ (j + 1) := by rw [Nat.pow_succ]; omega
    have i1 : ∀ i i' : Nat, e (2 * i) = e (2 * i') → i = i' := fun i i' z => by have := inj _ _ z; omega
    have i2 : ∀ i i' : Nat, e (2 * i + 1) = e (2 * i' + 1) → i = i' := fun i i' z => by have := inj _ _ z; omega
    obtain ⟨ev, eo⟩ := join_run j (fun i => e (2 * i)) x ((p + 1) / 2) ((q + 1) / 2) i1 (by omega) (by omega) (fun i hi => by rw [h1 (2 * i) (by omega)]; exact dec_half)
      (fun i hi => by
        show x (e (2 * (2 ^ j + i))) = _
        rw [show 2 * (2 ^ j + i) = 2 ^ (j + 1) + 2 * i by omega, h2 (2 * i) (by omega)]; exact dec_half)
    have hjs : joinE (j + 1) e = joinE j (fun i => e (2 * i)) ++ joinE j (fun i => e (2 * i + 1)) ++ (List.range (2 ^ (j + 1) - 1)).map fun i => (e (2 * i + 1), e (2 * i + 2)) := rfl
    rw [hjs, ruB_app, ruB_app]
    generalize hx1 : ruB (joinE j fun i => e (2 * i)) x = x1 at *
    have odd1 : ∀ i, x1 (e (2 * i + 1)) = x (e (2 * i + 1)) := fun i => eo _ fun i' _ z => by have := inj _ _ z; omega
    obtain ⟨ov, oo⟩ := join_run j (fun i => e (2 * i + 1)) x1 (p / 2) (q / 2) i2 (by omega) (by omega) (fun i hi => by rw [odd1, h1 (2 * i + 1) (by omega)]; exact dec_half')
      (fun i hi => by
        show x1 (e (2 * (2 ^ j + i) + 1)) = _
        rw [odd1, show 2 * (2 ^ j + i) + 1 = 2 ^ (j + 1) + (2 * i + 1) by omega, h2 (2 * i + 1) (by omega)]; exact dec_half')
    generalize hx2 : ruB (joinE j fun i => e (2 * i + 1)) x1 = x2 at *
    have even2 : ∀ i, i < 2 ^ (j + 1) → x2 (e (2 * i)) = decide ((p + 1) / 2 + (q + 1) / 2 ≤ i) := fun i hi => by
      rw [oo _ fun i' _ z => by have := inj _ _ z; omega]
      exact ev i hi
    have odd2 : ∀ i, i < 2 ^ (j + 1) → x2 (e (2 * i + 1)) = decide (p / 2 + q / 2 ≤ i) := fun i hi => ov i hi
    have same : ∀ k, (∀ i, i < 2 ^ (j + 1 + 1) → k ≠ e i) → x2 k = x k := fun k hk => by
      rw [oo k fun i hi => hk _ (by omega)]
      exact eo k fun i hi => hk _ (by omega)
    obtain ⟨t1, t2⟩ := tail_run e inj x2 (2 ^ (j + 1) - 1)
    have hpos : 0 < 2 ^ j := Nat.pow_pos (by decide)
    refine ⟨fun i hi => ?_, fun k hk => ?_⟩
    · by_cases i0 : i = 0
      · subst i0
        rw [t2 _ fun i' _ => ⟨fun z => by have := inj _ _ z; omega, fun z => by have := inj _ _ z; omega⟩]
        have := even2 0 (by omega)
        rw [show 2 * 0 = 0 from rfl] at this
        rw [this, decide_eq_decide]; omega
      by_cases il : i = 2 ^ (j + 1 + 1) - 1
      · rw [t2 _ fun i' _ => ⟨fun z => by have := inj _ _ z; omega, fun z => by have := inj _ _ z; omega⟩]
        rw [show i = 2 * (2 ^ (j + 1) - 1) + 1 by omega, odd2 _ (by omega), decide_eq_decide]; omega
      obtain ⟨m, hm⟩ : ∃ m, i = 2 * m + 1 ∨ i = 2 * m + 2 := ⟨(i - 1) / 2, by omega⟩
      have hm2 : m < 2 ^ (j + 1) - 1 := by omega
      rcases hm with rfl | rfl
      · rw [(t1 m hm2).1, odd2 m (by omega), show 2 * m + 2 = 2 * (m + 1) by omega, even2 (m + 1) (by omega), ← Bool.decide_and, decide_eq_decide]; omega
      · rw [(t1 m hm2).2, odd2 m (by omega), show 2 * m + 2 = 2 * (m + 1) by omega, even2 (m + 1) (by omega), ← Bool.decide_or, decide_eq_decide]; omega
    · rw [t2 _ fun i' hi' => ⟨hk _ (by omega), hk _ (by omega)⟩]
      exact same k hk
theorem sort_run : ∀ (j : Nat) (f : Int) (x : Int → Bool), (∃ p, p ≤ 2 ^ j ∧ ∀ i, i < 2 ^ j → ruB (sortL j f) x (f + (i : Nat)) = decide (p ≤ i)) ∧ (∀ k, (∀ i, i < 2 ^ j → k ≠ f + (i : Nat)) → ruB (sortL j f) x k = x k)
  | 0, f, x => by
    refine ⟨⟨if x f then 0 else 1, by split <;> decide, fun i hi => ?_⟩, fun k _ => rfl⟩
    have hi : i < 1 := hi
    have e : i = 0 := by omega
    subst e
    show x (f + ((0 : Nat) : Int)) = _
    rw [show f + ((0 : Nat) : Int) = f by omega]
    cases x f <;> rfl
  | j + 1, f, x => by
    have hpw : 2 ^ (j + 1) = 2 * 2 ^ j := by rw [Nat.pow_succ]; omega
    have hc : (((2 : Nat) ^ j : Nat) : Int) = (2 : Int) ^ j := by simp
    obtain ⟨⟨p, hp, h1⟩, s1⟩ := sort_run j f x
    have hs : sortL (j + 1) f = sortL j f ++ sortL j (f + 2 ^ j) ++ joinL j f 1 := rfl
    rw [hs, ruB_app, ruB_app]
    generalize hx1 : ruB (sortL j f) x = x1 at *
    obtain ⟨⟨q, hq, h2⟩, s2⟩ := sort_run j (f + 2 ^ j) x1
    generalize hx2 : ruB (sortL j (f + 2 ^ j)) x1 = x2 at *
    have inj : ∀ i i' : Nat, (fun i : Nat => f + (i : Int) * 1) i = (fun i : Nat => f + (i : Int) * 1) i' → i = i' := fun i i' z => by
      have z : f + (i : Int) * 1 = f + (i' : Int) * 1 := z
      omega
    obtain ⟨r1, r2⟩ := join_run j (fun i => f + (i : Int) * 1) x2 p q inj hp hq (fun i hi => by
        show x2 (f + (i : Int) * 1) = _
        rw [Int.mul_one, s2 _ fun i' _ => by omega]
        exact h1 i hi) (fun i hi => by
        show x2 (f + ((2 ^ j + i : Nat) : Int) * 1) = _
        rw [Int.mul_one, show f + ((2 ^ j + i : Nat) : Int) = f + 2 ^ j + (i : Int) by omega]
        exact h2 i hi)
    rw [← joinL_E] at r1 r2
    refine ⟨⟨p + q, by omega, fun i hi => ?_⟩, fun k hk => ?_⟩
    · have := r1 i hi
      rw [show f + (i : Int) * 1 = f + (i : Int) by omega] at this
      exact this
    · rw [r2 k fun i hi => by rw [show f + (i : Int) * 1 = f + (i : Int) by omega]; exact hk i hi, s2 k fun i hi => by
        have := hk (2 ^ j + i) (by omega)
        omega]
      exact s1 k fun i hi => hk i (by omega)
end
/-! ### .. then whole numbers -/
section
def xt (t : Int) (ns : List Int) : Int → Bool := fun k => if 0 ≤ k ∧ k < ns.length then decide (t < ns.getD k.toNat 0) else true
theorem getD_set (l : List Int) (i j : Nat) (v : Int) (hi : i < l.length) : (l.set i v).getD j 0 = if j = i then v else l.getD j 0 := by
  rw [List.getD_eq_getElem?_getD, List.getD_eq_getElem?_getD]
  by_cases e : j = i
  · subst e; rw [if_pos rfl, List.getElem?_set_self hi]; rfl
  · rw [if_neg e, List.getElem?_set_ne (Ne.symm e)]
theorem dec_min (t a b : Int) : decide (t < min a b) = (decide (t < a) && decide (t < b)) := by
  rw [← Bool.decide_and, decide_eq_decide]; omega
theorem dec_max (t a b : Int) : decide (t < max a b) = (decide (t < a) || decide (t < b)) := by
  rw [← Bool.decide_or, decide_eq_decide]; omega
theorem set_getD_self (l : List Int) (i : Nat) : l.set i (l.getD i 0) = l := by
  apply List.ext_getElem?
  intro j
  by_cases e : i = j
  · subst e
    by_cases hi : i < l.length
    · rw [List.getElem?_set_self hi, List.getD_eq_getElem?_getD, List.getElem?_eq_getElem hi]; rfl
    · rw [List.getElem?_eq_none (by rw [List.length_set]; omega), List.getElem?_eq_none (by omega)]
  · rw [List.getElem?_set_ne e]
theorem stepN_mm (l : List Int) (p : Int × Int) : stepN l p = (l.set p.1.toNat (min (l.getD p.1.toNat 0) (l.getD p.2.toNat 0))).set p.2.toNat (max (l.getD p.1.toNat 0) (l.getD p.2.toNat 0)) := by
  unfold stepN
  split
  · rw [Int.min_eq_right (by omega), Int.max_eq_left (by omega)]
  · rw [Int.min_eq_left (by omega), Int.max_eq_right (by omega), set_getD_self, set_getD_self]
theorem xt_step {t : Int} {ns : List Int} {p : Int × Int} (g : GoodP ns.length p) : xt t (stepN ns p) = stB (xt t ns) p := by
  obtain ⟨g0, g1, g2⟩ := g
  have ha : p.1.toNat < ns.length := by omega
  have hb : p.2.toNat < ns.length := by omega
  have xa : xt t ns p.1 = decide (t < ns.getD p.1.toNat 0) := by unfold xt; rw [if_pos ⟨by omega, by omega⟩]
  have xb : xt t ns p.2 = decide (t < ns.getD p.2.toNat 0) := by unfold xt; rw [if_pos ⟨by omega, by omega⟩]
  funext k
  have hl : (stepN ns p).length = ns.length := stepN_len ns p
  by_cases hk : 0 ≤ k ∧ k < ns.length
  · have : xt t (stepN ns p) k = decide (t < (stepN ns p).getD k.toNat 0) := by unfold xt; rw [hl, if_pos hk]
    rw [this, stepN_mm, getD_set _ _ _ _ (by rw [List.length_set]; exact hb), getD_set _ _ _ _ ha]
    unfold stB
    rw [xa, xb]
    by_cases e1 : k = p.1
    · rw [if_pos e1, if_neg (by omega), if_pos (by omega), dec_min]
    · rw [if_neg e1]
      by_cases e2 : k = p.2
      · rw [if_pos e2, if_pos (by omega), dec_max]
      · rw [if_neg e2, if_neg (by omega), if_neg (by omega)]
        unfold xt
        rw [if_pos hk]
  · have h1 : xt t (stepN ns p) k = true := by unfold xt; rw [hl, if_neg hk]
    have h2 : xt t ns k = true := by unfold xt; rw [if_neg hk]
    rw [h1]
    unfold stB
    rw [if_neg (by omega), if_neg (by omega), h2]
theorem xt_out {t : Int} {ns : List Int} {p : Int × Int} (h : (ns.length : Int) ≤ p.2) : stB (xt t ns) p = xt t ns := by
  have x2 : xt t ns p.2 = true := by unfold xt; rw [if_neg (by omega)]
  funext k
  unfold stB
  rw [x2]
  by_cases e1 : k = p.1
  · rw [if_pos e1, e1, Bool.and_true]
  · rw [if_neg e1]
    by_cases e2 : k = p.2
    · rw [if_pos e2, e2, Bool.or_true, x2]
    · rw [if_neg e2]
theorem xt_run {t : Int} : ∀ (ps : List (Int × Int)) (ns : List Int), (∀ p, p ∈ ps → 0 ≤ p.1 ∧ p.1 < p.2) → ruB ps (xt t ns) = xt t (runN (ps.filter fun p => decide (p.2 < (ns.length : Int))) ns)
  | [], _, _ => rfl
  | p :: ps, ns, h => by
    obtain ⟨h0, h1⟩ := h p List.mem_cons_self
    have ht := fun q hq => h q (List.mem_cons_of_mem _ hq)
    show ruB ps (stB (xt t ns) p) = _
    by_cases e : p.2 < (ns.length : Int)
    · rw [List.filter_cons_of_pos (by exact decide_eq_true e), ← xt_step ⟨h0, h1, e⟩, xt_run ps (stepN ns p) ht, stepN_len]
      rfl
    · rw [List.filter_cons_of_neg (by rw [decide_eq_false e]; exact Bool.false_ne_true), xt_out (by omega), xt_run ps ns ht]
theorem joinL_nn : ∀ (j : Nat) (f s : Int), 0 ≤ f → 0 < s → ∀ p, p ∈ joinL j f s → 0 ≤ p.1 ∧ p.1 < p.2
  | 0, f, s, hf, hs, p, h => by
    have e : p = (f, f + s) := by simpa [joinL] using h
    subst e; exact ⟨hf, by show f < f + s; omega⟩
  | j + 1, f, s, hf, hs, p, h => by
    simp only [joinL, List.mem_append] at h
    rcases h with (h | h) | h
    · exact joinL_nn j f (2 * s) hf (by omega) p h
    · exact joinL_nn j (f + s) (2 * s) (by omega) (by omega) p h
    · obtain ⟨i, _, rfl⟩ := List.mem_map.mp h
      have : 0 ≤ (i : Int) * (2 * s) := Int.mul_nonneg (by omega) (by omega)
      exact ⟨by show 0 ≤ f + s + (i : Int) * (2 * s); omega, by show f + s + (i : Int) * (2 * s) < f + s + (i : Int) * (2 * s) + s; omega⟩
theorem sortL_nn : ∀ (j : Nat) (f : Int), 0 ≤ f → ∀ p, p ∈ sortL j f → 0 ≤ p.1 ∧ p.1 < p.2
  | 0, f, _, p, h => by simp [sortL] at h
  | j + 1, f, hf, p, h => by
    have := pow_pos' j
    simp only [sortL, List.mem_append] at h
    rcases h with (h | h) | h
    · exact sortL_nn j f hf p h
    · exact sortL_nn j _ (by omega) p h
    · exact joinL_nn j f 1 hf (by decide) p h
theorem netL_good {n : Int} {p : Int × Int} (h : p ∈ netL n) : 0 ≤ p.1 ∧ p.1 < p.2 ∧ p.2 < n := by
  obtain ⟨h1, h2⟩ := List.mem_filter.mp h
  obtain ⟨a, b⟩ := sortL_nn _ _ (by decide) p h1
  exact ⟨a, b, of_decide_eq_true h2⟩
theorem lg_pow : ∀ n : Nat, n < 65 → n ≤ 2 ^ lg n := by decide
theorem net_pairwise {ns : List Int} (h1 : 1 ≤ ns.length) (h2 : ns.length ≤ 64) : (runN (netL ns.length) ns).Pairwise (· ≤ ·) := by
  rw [List.pairwise_iff_getElem]
  intro i k hi hk hik
  have hl : (runN (netL ns.length) ns).length = ns.length := runN_len _ _
  have hi' : i < ns.length := by omega
  have hk' : k < ns.length := by omega
  apply Decidable.byContradiction
  intro hn
  have e := xt_run (t := (runN (netL ns.length) ns)[k]) (sortL (lg ns.length) 0) ns (sortL_nn _ _ (by decide))
  obtain ⟨⟨p, _, hp⟩, _⟩ := sort_run (lg ns.length) 0 (xt (runN (netL ns.length) ns)[k] ns)
  rw [e] at hp
  have hpw := lg_pow ns.length (by omega)
  have q1 := hp i (by omega)
  have q2 := hp k (by omega)
  rw [show (0 : Int) + (i : Nat) = (i : Int) by omega] at q1
  rw [show (0 : Int) + (k : Nat) = (k : Int) by omega] at q2
  have v : ∀ m : Nat, (hm : m < ns.length) → xt (runN (netL ns.length) ns)[k] (runN (netL ns.length) ns) (m : Int) = decide ((runN (netL ns.length) ns)[k] < (runN (netL ns.length) ns)[m]) := fun m hm => by
    unfold xt
    rw [if_pos ⟨by omega, by omega⟩, Int.toNat_natCast, List.getD_eq_getElem?_getD, List.getElem?_eq_getElem (by omega)]; rfl
  have v1 : xt (runN (netL ns.length) ns)[k] (runN (netL ns.length) ns) (i : Int) = decide (p ≤ i) := q1
  have v2 : xt (runN (netL ns.length) ns)[k] (runN (netL ns.length) ns) (k : Int) = decide (p ≤ k) := q2
  rw [v i hi', decide_eq_decide] at v1
  rw [v k hk', decide_eq_decide] at v2
  have a1 := v1.mp (by omega)
  have a2 := v2.mpr (by omega)
  omega
theorem stepN_perm {ns : List Int} {p : Int × Int} (g : GoodP ns.length p) : (stepN ns p).Perm ns := by
  obtain ⟨g0, g1, g2⟩ := g
  unfold stepN
  split
  · have ha : p.1.toNat < ns.length := by omega
    have hb : p.2.toNat < ns.length := by omega
    rw [List.getD_eq_getElem?_getD, List.getD_eq_getElem?_getD, List.getElem?_eq_getElem ha, List.getElem?_eq_getElem hb]
    exact List.set_set_perm ha hb
  · exact .refl _
theorem runN_perm : ∀ (ps : List (Int × Int)) (ns : List Int), (∀ p, p ∈ ps → GoodP ns.length p) → (runN ps ns).Perm ns
  | [], _, _ => .refl _
  | p :: ps, ns, h => by
    have h1 := stepN_perm (h p List.mem_cons_self)
    exact (runN_perm ps (stepN ns p) fun q hq => by rw [stepN_len]; exact h q (List.mem_cons_of_mem _ hq)).trans h1
theorem net_good {ns : List Int} : ∀ p, p ∈ netL ns.length → GoodP ns.length p := fun p hp => netL_good hp
theorem sorted_eq {a b : List Int} (h : a.Perm b) (ha : a.Pairwise (· ≤ ·)) (hb : b.Pairwise (· ≤ ·)) : a = b := List.Perm.eq_of_pairwise (fun x y _ _ h1 h2 => by omega) ha hb h
end
section
variable {K : PySem.W.Frag} {vs : List V} {G : Hp} {M : Mem} {R : KR} {Z : KX}
theorem pf_is_whole (h : S_is_whole K vs G M R Z) : rd_is_whole K (ends R Z) (sta 1 vs) G M := by
  obtain ⟨x, rfl, T, hT, q⟩ := sp1_of h
  refine ⟨G, M, Wk.refl, .type T.name, .type "int", _, .ty "int", hT, kit_pt T .int, ite2' (fun e => ?_) (fun e => ?_)⟩
  · refine ⟨.type T.name, .type "bool", _, .ty "bool", hT, kit_pt T .bool, ret0 ?_⟩
    have e2 : (!isaB T .bool) = (T == .int) := by revert e; cases T <;> decide
    rw [e2]; exact q
  · have e2 : false = (T == .int) := by revert e; cases T <;> decide
    refine ret0 ?_
    rw [e2]; exact q
theorem pf_is_within (h : S_is_within K vs G M R Z) : rd_is_within K (ends R Z) (sta 3 vs) G M := by
  obtain ⟨x, _, _, rfl, T, lo, hi, rfl, rfl, hT, hx, q⟩ := sp3_of h
  refine ⟨G, M, Wk.refl, T, hT, ite2' (fun e => ?_) (fun e => ?_)⟩
  · rw [e] at hx
    cases x with
    | int i =>
      have q : R (.bl (decide (lo ≤ i) && decide (i ≤ hi))) G M := q
      refine ite2' (fun e1 => ?_) (fun e1 => ?_)
      · rw [e1, Bool.true_and] at q; exact ret0 q
      · rw [e1, Bool.false_and] at q; exact ret0 q
    | _ => cases hx
  · rw [e] at hx
    have e2 : withinV x lo hi = false := by cases x <;> first | rfl | cases hx
    rw [e2] at q
    exact ret0 q
end
section
variable {K : PySem.W.Frag} {vs : List V} {G : Hp} {M : Mem} {R : KR} {Z : KX}
theorem LL.ex {G' : Hp} (e : Ex G G') : ∀ {vs : List V} {rs : List (List Int)}, LL G vs rs → LL G' vs rs
  | _, _, .nil => .nil
  | _, _, .cons h t => .cons (e _ _ h) (LL.ex e t)
theorem LL.app : ∀ {vs ws : List V} {rs ss : List (List Int)}, LL G vs rs → LL G ws ss → LL G (vs ++ ws) (rs ++ ss)
  | _, _, _, _, .nil, h => h
  | _, _, _, _, .cons a b, h => .cons a (LL.app b h)
theorem LL.len : ∀ {vs : List V} {rs : List (List Int)}, LL G vs rs → vs.length = rs.length
  | _, _, .nil => rfl
  | _, _, .cons _ t => by simp [LL.len t]
theorem LL.get : ∀ {vs : List V} {rs : List (List Int)} {i : Nat} {r : List Int}, LL G vs rs → rs[i]? = some r → ∃ w, vs[i]? = some (.ref w) ∧ G w = some (.lst (r.map V.int))
  | _, _, _, _, .nil, e => by simp at e
  | _, _, 0, _, .cons a _, e => by rw [List.getElem?_cons_zero] at e; cases e; exact ⟨_, rfl, a⟩
  | _, _, i + 1, r, .cons _ b, e => by
    obtain ⟨w, h1, h2⟩ := LL.get (i := i) (r := r) b (by simpa using e)
    exact ⟨w, by simpa using h1, h2⟩
theorem rowsB_len : ∀ n, (rowsB n).length = 2 ^ n
  | 0 => rfl
  | n + 1 => by simp [rowsB, rowsB_len n, Nat.pow_succ]; omega
theorem rowsB_each : ∀ n r, r ∈ rowsB n → r.length = n
  | 0, r, h => by
    have e : r = [] := by simpa [rowsB] using h
    subst e; rfl
  | n + 1, r, h => by
    simp only [rowsB, List.mem_append, List.mem_map] at h
    rcases h with ⟨q, hq, rfl⟩ | ⟨q, hq, rfl⟩ <;> simp [rowsB_each n q hq]
theorem pow10 {n : Nat} (h : n ≤ 10) : 2 ^ n ≤ 1024 := Nat.pow_le_pow_right (n := 2) (by decide) h
theorem pf_is_pair (h : S_is_pair K vs G M R Z) : rd_is_pair K (ends R Z) (sta 2 vs) G M := by
  obtain ⟨_, _, rfl, n, t, a, b, rfl, rfl, ht, a0, ab, bn, q⟩ := sp2_of h
  refine ⟨G, M, Wk.refl, .type "tuple", .type "tuple", _, .ty "tuple", ty_tup ht, kit_pt .tuple .tuple, ?_⟩
  refine ⟨_, .inr ht, ?_⟩
  refine ⟨G, M, Wk.refl, _, _, .inr ht, rfl, .int, 0, n - 1, rfl, rfl, ty_int, rfl, ?_⟩
  have e1 : withinV (.int b) 0 (n - 1) = true := by
    show (decide (0 ≤ b) && decide (b ≤ n - 1)) = true
    rw [decide_eq_true (by omega), decide_eq_true (by omega)]; rfl
  rw [e1]
  refine ⟨_, _, .inr ht, rfl, _, _, .inr ht, rfl, .int, 0, b - 1, rfl, rfl, ty_int, rfl, ?_⟩
  have e2 : withinV (.int a) 0 (b - 1) = true := by
    show (decide (0 ≤ a) && decide (a ≤ b - 1)) = true
    rw [decide_eq_true (by omega), decide_eq_true (by omega)]; rfl
  rw [e2]
  exact ret0 q
/-- [row + [d] for row in rows] -/
theorem rows_comp {d : Int} {r : Addr} {us : List V} {rs : List (List Int)} {σ : St} {RR : KR} {E : KX} (h3 : ∀ v, (wipe σ [3]).set 3 (some v) = ((wipe σ [3]).set 3 (some v))) (hr : LstAt K G M r us) (hl : LL G us rs) (hz : us.length ≤ 100000) (h1 : σ[1]? = some (some (.ref r)))
    (hs : ∀ v, wipe ((wipe σ [3]).set 3 (some v)) [3] = wipe σ [3]) (hv : ∀ v, ((wipe σ [3]).set 3 (some v))[3]? = some (some v)) (hlen : ∀ q, q ∈ rs → q.length ≤ 1000)
    (q : ∀ G' p vs, Ex G G' → Fr G' M p → LL G' vs (rs.map fun r => r ++ [d]) → RR (.ref p) G' ((p, .lst vs) :: M)) :
    kComp (kiSeq K (kVar 1)) (kgName 3) kYes (kBin kAdd (kVar 3) (kLst (kCons (kC (.int d)) kNil))) [3] σ G M RR E := by
  unfold kComp kiSeq kVar
  rw [h1]
  refine ⟨us, hr, sz (by show us.length ≤ _; omega), fun i acc G' M' => Ex G G' ∧ M' = M ∧ LL G' acc ((rs.take i).map fun r => r ++ [d]), ⟨Ex.refl, rfl, .nil⟩, ?_, ?_, ?_⟩
  · rintro i acc G' M' hi ⟨ex, rfl, _⟩
    exact lat_ex ex hr
  · rintro i acc G' M' D hi hacc ⟨ex, rfl, hL⟩ fD
    have hi : i < us.length := hi
    have hi' : i < rs.length := by rw [← hl.len]; exact hi
    have hp := List.getElem?_eq_getElem hi'
    obtain ⟨w, hw, hg⟩ := hl.get hp
    have hlr := hlen _ (List.getElem_mem hi')
    refine asg_L hw ⟨hs _, ?_⟩
    show kBin kAdd (kVar 3) _ _ _ _ _ _
    unfold kBin kVar
    rw [hv]
    refine ⟨sz1, fun z fz => ⟨_, _, .inr (ex _ _ hg), .inl List.mem_cons_self, sz (by rw [List.length_map]; show _ + 1 ≤ _; omega), fun u fu => ?_⟩⟩
    have fu' : Fr G' ((D, HO.lst acc) :: M') u := ⟨fu.1, fun x hx => fu.2 x (List.mem_cons_of_mem _ hx)⟩
    obtain ⟨G2, x2, g2, w2, _⟩ := frz (.lst ((rs[i]).map V.int ++ [.int d])) fu'
    refine ⟨G2, M', Wk.drop1.trans w2, ex.trans x2, rfl, ?_⟩
    rw [List.take_add_one, hp, List.map_append]
    refine (hL.ex x2).app (.cons (r := rs[i] ++ [d]) ?_ .nil)
    rw [g2, List.map_append]; rfl
  · rintro acc G' M' p ⟨ex, rfl, hL⟩ hacc fp
    rw [List.take_of_length_le (by show rs.length ≤ us.length; rw [hl.len]; exact Nat.le_refl _)] at hL
    exact q G' p acc ex fp hL
theorem pf_rows_of (h : S_rows_of K vs G M R Z) : rd_rows_of K (ends R Z) (sta 4 vs) G M := by
  obtain ⟨_, rfl, n, rfl, n0, n1, q⟩ := sp1_of h
  refine ⟨G, M, Wk.refl, sz0, fun w fw => ⟨sz1, fun r fr => ?_⟩⟩
  have fr' : Fr G M r := ⟨fr.1, fun x hx => fr.2 x (List.mem_cons_of_mem _ hx)⟩
  obtain ⟨G1, x1, g1, w1, f1⟩ := frz (.lst [.ref w]) fr
  obtain ⟨G2, x2, g2, w2, f2⟩ := frz (.lst []) (f1 w _ fw (fr.2 (w, _) List.mem_cons_self))
  refine ⟨G2, M, w1.trans w2, ⟨by omega, by omega⟩, fun i σ G' M' => ∃ (y2 : Option V) (r : Addr) (us : List V), σ = [some (.int n), some (.ref r), y2, none] ∧ Ex G G' ∧ M' = M ∧ G' r = some (.lst us) ∧ LL G' us (rowsB i),
    ⟨none, r, [.ref w], rfl, x1.trans x2, rfl, x2 _ _ g1, .cons g2 .nil⟩, fun _ _ _ _ _ _ => trivial, ?_, ?_⟩
  · rintro i σ G' M' hi ⟨y2, r, us, rfl, ex, rfl, hr, hL⟩
    have hi : i < n.toNat := hi
    have hlen := hL.len
    rw [rowsB_len] at hlen
    have hb : us.length ≤ 1024 := by rw [hlen]; exact pow10 (by omega)
    have hq : ∀ q, q ∈ rowsB i → q.length ≤ 1000 := fun q hq => by rw [rowsB_each i q hq]; omega
    refine ⟨G', M', Wk.refl, kset_of (kbin_of (rows_comp (fun _ => rfl) (lat_g (sql_of hr)) hL (by omega) rfl (fun _ => rfl) (fun _ => rfl) hq fun G3 p3 v3 x3 f3 l3 => ?_))⟩
    refine rows_comp (fun _ => rfl) (lat_g (sql_of (x3 _ _ hr))) (hL.ex x3) (by omega) rfl (fun _ => rfl) (fun _ => rfl) hq fun G4 p4 v4 x4 f4 l4 => ?_
    have b3 := l3.len
    have b4 := l4.len
    rw [List.length_map, rowsB_len, ← hlen] at b3 b4
    refine ⟨_, _, .inl (List.mem_cons_of_mem _ List.mem_cons_self), .inl List.mem_cons_self, sz (by omega), fun p5 f5 => ?_⟩
    have f5' : Fr G4 M' p5 := ⟨f5.1, fun x hx => f5.2 x (List.mem_cons_of_mem _ (List.mem_cons_of_mem _ hx))⟩
    obtain ⟨G5, x5, g5, w5, _⟩ := frz (.lst (v3 ++ v4)) f5'
    exact ⟨G5, M', (Wk.drop1.trans Wk.drop1).trans w5, _, p5, _, rfl, ((ex.trans x3).trans x4).trans x5, rfl, g5, ((l3.ex (x4.trans x5)).app (l4.ex x5))⟩
  · rintro σ G' M' ⟨y2, r, us, rfl, ex, rfl, hr, hL⟩
    exact ⟨G', M', Wk.refl, ret0 (q r us G' ex hr hL)⟩
theorem eqv_ints : ∀ xs ys : List Int, PyData.eqvAll (xs.map .int) (ys.map .int) = decide (xs = ys)
  | [], [] => by simp [PyData.eqvAll]
  | [], y :: ys => by simp [PyData.eqvAll]
  | x :: xs, [] => by simp [PyData.eqvAll]
  | x :: xs, y :: ys => by
    rw [List.map_cons, List.map_cons, PyData.eqvAll, eqv_ints xs ys, PyData.eqv]
    by_cases h : x = y
    · subst h; simp
    · simp [h]
theorem eqv_lints (xs ys : List Int) : PyData.eqv (.list (xs.map .int)) (.list (ys.map .int)) = decide (xs = ys) := by
  rw [PyData.eqv]; exact eqv_ints xs ys
theorem eq_srt {ps : List (Int × Int)} {r ns : List Int} (hg : ∀ p, p ∈ ps → GoodP r.length p) (pm : ns.Perm r) (pw : ns.Pairwise (· ≤ ·)) : decide (runN ps r = ns) = decide ((runN ps r).Pairwise (· ≤ ·)) := by
  rw [decide_eq_decide]
  constructor
  · intro e; rw [e]; exact pw
  · intro h; exact sorted_eq ((runN_perm ps r hg).trans pm.symm) h pw
theorem pf_sorts (h : S_sorts K vs G M R Z) : rd_sorts K (ends R Z) (sta 4 vs) G M := by
  obtain ⟨_, _, rfl, n, a, us, ps, rfl, rfl, n0, n1, ha, hd, hg, hlp, q⟩ := sp2_of h
  have hl : us.length = ps.length := by rw [dpall_len hd, List.length_map]
  refine ⟨G, M, Wk.refl, .type "list", .type "list", _, .ty "list", ty_lst ha, kit_pt .list .list, ?_⟩
  refine ⟨_, ha, sz (by show us.length ≤ _; omega), fun i acc G' M' => G' = G ∧ M' = M ∧ acc = (List.replicate i true).map V.bl, ⟨rfl, rfl, rfl⟩, ?_, ?_, ?_⟩
  · rintro i acc G' M' hi ⟨rfl, rfl, rfl⟩
    exact ha
  · rintro i acc G' M' D hi hacc ⟨rfl, rfl, rfl⟩ fD
    have hi : i < us.length := hi
    have hi' : i < ps.length := by omega
    have hp := List.getElem?_eq_getElem hi'
    obtain ⟨v, hv, hd1⟩ := dpall_get (d := prD ps[i]) hd (by rw [List.getElem?_map, hp]; rfl)
    obtain ⟨tt, rfl, ht⟩ := dp_pr_inv hd1
    obtain ⟨g0, g1, g2⟩ := hg ps[i] (List.getElem_mem hi')
    refine asg_L hv ⟨rfl, n, tt, ps[i].1, ps[i].2, rfl, rfl, ht, g0, g1, by omega, ?_⟩
    refine ⟨_, _, Wk.refl, rfl, rfl, ?_⟩
    rw [List.replicate_succ', List.map_append]; rfl
  · rintro acc G' M' p ⟨rfl, rfl, rfl⟩ hacc fp
    refine ⟨List.replicate us.length true, lat_0, ?_⟩
    have et : (List.replicate us.length true).all id = true := by simp
    rw [et]
    refine ⟨G', M', Wk.drop0, n, rfl, by omega, n1, fun t ws G1 x1 gt hL => ?_⟩
    have hlw := hL.len
    have hlw2 : ws.length = 2 ^ n.toNat := by rw [hlw, rowsB_len]
    have hb : ws.length ≤ 1024 := by rw [hlw2]; exact pow10 (by omega)
    refine ⟨_, lat_g (sql_of gt), sz (by show ws.length ≤ _; omega), fun i acc G2 M2 => G2 = G1 ∧ M2 = M' ∧ acc = (((rowsB n.toNat).take i).map fun r => decide ((runN ps r).Pairwise (· ≤ ·))).map V.bl, ⟨rfl, rfl, rfl⟩, ?_, ?_, ?_⟩
    · rintro i acc G2 M2 hi ⟨rfl, rfl, rfl⟩
      exact lat_g (sql_of gt)
    · rintro i acc G2 M2 D hi hacc ⟨rfl, rfl, rfl⟩ fD
      have hi : i < ws.length := hi
      have hi' : i < (rowsB n.toNat).length := by omega
      have hp := List.getElem?_eq_getElem hi'
      obtain ⟨w, hw, hgw⟩ := hL.get hp
      have hrl := rowsB_each _ _ (List.getElem_mem hi')
      have hgr : ∀ z, z ∈ ps → GoodP (rowsB n.toNat)[i].length z := fun z hz => by rw [hrl]; exact hg z hz
      refine asg_L hw ⟨rfl, a, w, us, ps, (rowsB n.toNat)[i], rfl, rfl, lat_cons (lat_ex x1 ha), ex_ds x1 _ hd, lat_g (sql_of hgw), hgr, fun f ff => ?_⟩
      refine ⟨(rowsB n.toNat)[i], lat_g (sql_of hgw), fun ns u pm pw fu => ?_⟩
      refine ⟨_, _, dat_ints (lat_cons lat_0), dat_ints lat_0, (shp_ints (n := 0) _).shaped (by decide), (shp_ints (n := 0) _).shaped (by decide), ?_⟩
      refine ⟨_, _, Wk.drop0.trans Wk.drop0, rfl, rfl, ?_⟩
      rw [List.take_add_one, hp, List.map_append, List.map_append]
      show _ ++ [V.bl (PyData.eqv _ _)] = _
      rw [eqv_lints, eq_srt hgr pm pw]; rfl
    · rintro acc G2 M2 p ⟨rfl, rfl, rfl⟩ hacc fp
      refine ⟨(rowsB n.toNat).map fun r => decide ((runN ps r).Pairwise (· ≤ ·)), ?_, ?_⟩
      · rw [List.take_of_length_le (by show (rowsB n.toNat).length ≤ ws.length; omega)]
        exact lat_0
      · refine retW (G' := G2) (M' := M2) Wk.drop0 ?_
        have e : (((rowsB n.toNat).map fun r => decide ((runN ps r).Pairwise (· ≤ ·))).all id) = srtB n.toNat ps := by
          unfold srtB
          rw [List.all_map]; rfl
        rw [e]
        exact q G2 x1
end
section
variable {K : PySem.W.Frag} {vs : List V} {G : Hp} {M : Mem} {R : KR} {Z : KX}
/-! ### noughts and ones are enough -/
theorem map_getD {f : Int → Int} {l : List Int} {i : Nat} (h : i < l.length) : (l.map f).getD i 0 = f (l.getD i 0) := by
  rw [List.getD_eq_getElem?_getD, List.getD_eq_getElem?_getD, List.getElem?_map, List.getElem?_eq_getElem h]; rfl
def th (t v : Int) : Int := if t < v then 1 else 0
theorem th_min (t a b : Int) : min (th t a) (th t b) = th t (min a b) := by unfold th; repeat' split <;> omega
theorem th_max (t a b : Int) : max (th t a) (th t b) = th t (max a b) := by unfold th; repeat' split <;> omega
theorem stepN_map {t : Int} {l : List Int} {p : Int × Int} (g : GoodP l.length p) : stepN (l.map (th t)) p = (stepN l p).map (th t) := by
  obtain ⟨g0, g1, g2⟩ := g
  rw [stepN_mm, stepN_mm, map_getD (by omega), map_getD (by omega), th_min, th_max, List.map_set, List.map_set]
theorem runN_map {t : Int} : ∀ (ps : List (Int × Int)) (l : List Int), (∀ p, p ∈ ps → GoodP l.length p) → runN ps (l.map (th t)) = (runN ps l).map (th t)
  | [], _, _ => rfl
  | p :: ps, l, h => by
    show runN ps (stepN (l.map (th t)) p) = (runN ps (stepN l p)).map (th t)
    rw [stepN_map (h p List.mem_cons_self)]
    exact runN_map ps _ fun q hq => by rw [stepN_len]; exact h q (List.mem_cons_of_mem _ hq)
theorem mem_rowsB : ∀ (n : Nat) (r : List Int), r.length = n → (∀ v, v ∈ r → v = 0 ∨ v = 1) → r ∈ rowsB n
  | 0, r, h, _ => by
    have e : r = [] := List.length_eq_zero_iff.mp h
    subst e; simp [rowsB]
  | n + 1, r, h, hv => by
    have hne : r ≠ [] := fun e => by rw [e] at h; simp at h
    have e := List.dropLast_concat_getLast hne
    have hd : r.dropLast ∈ rowsB n := mem_rowsB n _ (by rw [List.length_dropLast]; omega) fun v hm => hv v ((List.dropLast_sublist r).subset hm)
    rw [← e]
    simp only [rowsB, List.mem_append, List.mem_map]
    rcases hv _ (List.getLast_mem hne) with z | z
    · exact .inl ⟨_, hd, by rw [z]⟩
    · exact .inr ⟨_, hd, by rw [z]⟩
theorem srt_each {n : Nat} {ps : List (Int × Int)} : srtB n ps = true ↔ ∀ r, r ∈ rowsB n → (runN ps r).Pairwise (· ≤ ·) := by
  unfold srtB
  rw [List.all_eq_true]
  exact ⟨fun h r hr => of_decide_eq_true (h r hr), fun h r hr => decide_eq_true (h r hr)⟩
theorem zero_one {n : Nat} {ps : List (Int × Int)} {ns : List Int} (h : srtB n ps = true) (hg : ∀ p, p ∈ ps → GoodP n p) (hl : ns.length = n) : (runN ps ns).Pairwise (· ≤ ·) := by
  have hg' : ∀ p, p ∈ ps → GoodP ns.length p := fun p hp => by rw [hl]; exact hg p hp
  rw [List.pairwise_iff_getElem]
  intro i k hi hk hik
  apply Decidable.byContradiction
  intro hn
  have hm : ns.map (th (runN ps ns)[k]) ∈ rowsB n := mem_rowsB n _ (by rw [List.length_map]; exact hl) fun v hv => by
    obtain ⟨w, _, rfl⟩ := List.mem_map.mp hv
    unfold th; split
    · exact .inr rfl
    · exact .inl rfl
  have hp := srt_each.mp h _ hm
  rw [runN_map ps ns hg', List.pairwise_iff_getElem] at hp
  have := hp i k (by rw [List.length_map]; exact hi) (by rw [List.length_map]; exact hk) hik
  rw [List.getElem_map, List.getElem_map] at this
  unfold th at this
  rw [if_pos (by omega), if_neg (by omega)] at this
  omega
def bitsL (n N : Nat) : List Int := (List.range n).map fun k => ((N / 2 ^ k % 2 : Nat) : Int)
theorem bits_mem (n N : Nat) : bitsL n N ∈ rowsB n := mem_rowsB n _ (by simp [bitsL]) fun v hv => by
  obtain ⟨k, _, rfl⟩ := List.mem_map.mp hv
  omega
theorem bit_low {N b n k : Nat} (h : k < n) : (N + b * 2 ^ n) / 2 ^ k % 2 = N / 2 ^ k % 2 := by
  obtain ⟨d, rfl⟩ : ∃ d, n = k + (d + 1) := ⟨n - k - 1, by omega⟩
  rw [Nat.pow_add, show b * (2 ^ k * 2 ^ (d + 1)) = 2 ^ k * (b * 2 ^ (d + 1)) by simp only [Nat.mul_comm, Nat.mul_left_comm, Nat.mul_assoc], Nat.add_mul_div_left _ _ (Nat.pow_pos (by decide)), Nat.pow_succ, ← Nat.mul_assoc, Nat.add_mul_mod_self_right]
theorem bits_all : ∀ (n : Nat) (r : List Int), r ∈ rowsB n → ∃ N, N < 2 ^ n ∧ r = bitsL n N
  | 0, r, h => by
    have e : r = [] := by simpa [rowsB] using h
    subst e; exact ⟨0, by decide, rfl⟩
  | n + 1, r, h => by
    have step : ∀ (q : List Int) (b : Nat), b < 2 → q ∈ rowsB n → r = q ++ [(b : Int)] → ∃ N, N < 2 ^ (n + 1) ∧ r = bitsL (n + 1) N := fun q b hb hq e => by
      obtain ⟨N, hN, rfl⟩ := bits_all n q hq
      have hbm : b * 2 ^ n ≤ 1 * 2 ^ n := Nat.mul_le_mul_right _ (by omega)
      refine ⟨N + b * 2 ^ n, by rw [Nat.pow_succ]; omega, ?_⟩
      rw [e]
      unfold bitsL
      rw [List.range_succ, List.map_append]
      congr 1
      · apply List.map_congr_left
        intro k hk
        rw [bit_low (List.mem_range.mp hk)]
      · show [(b : Int)] = [((((N + b * 2 ^ n) / 2 ^ n % 2 : Nat)) : Int)]
        rw [Nat.add_mul_div_right _ _ (Nat.pow_pos (by decide)), Nat.div_eq_of_lt hN, Nat.zero_add, Nat.mod_eq_of_lt hb]
    simp only [rowsB, List.mem_append, List.mem_map] at h
    rcases h with ⟨q, hq, rfl⟩ | ⟨q, hq, rfl⟩
    · exact step q 0 (by decide) hq rfl
    · exact step q 1 (by decide) hq rfl
theorem Wk.sub {G : Hp} {M M' : Mem} (h : List.Sublist M' M) : Wk G M G M' := fun H hv => ⟨hv.ex, fun x hx => hv.mu x (h.subset hx), hv.nd.sublist (h.map _), fun x hx => hv.dj x (h.subset hx)⟩
theorem cut_dp {us : List V} {ps : List (Int × Int)} (lo hi : Option Int) (h : DpAll K G us (ps.map prD)) : ∃ ps' : List (Int × Int), DpAll K G (cutV us lo hi) (ps'.map prD) ∧ (∀ p, p ∈ ps' → p ∈ ps) ∧ ps'.length ≤ ps.length := by
  have dr : ∀ (k : Nat) {us : List V} {ds : List PyData}, DpAll K G us ds → DpAll K G (us.drop k) (ds.drop k) := fun k => by
    induction k with
    | zero => intro us ds h; exact h
    | succ k ih =>
      intro us ds h
      cases h with
      | nil => exact .nil
      | cons a b => exact ih b
  have tk : ∀ (k : Nat) {us : List V} {ds : List PyData}, DpAll K G us ds → DpAll K G (us.take k) (ds.take k) := fun k => by
    induction k with
    | zero => intro us ds h; exact .nil
    | succ k ih =>
      intro us ds h
      cases h with
      | nil => exact .nil
      | cons a b => exact .cons a (ih b)
  unfold cutV
  refine ⟨(ps.drop (HT.sIx us.length 0 lo)).take (HT.sIx us.length us.length hi - HT.sIx us.length 0 lo), ?_, fun p hp => List.mem_of_mem_drop (List.mem_of_mem_take hp), ?_⟩
  · rw [List.map_take, List.map_drop]
    exact tk _ (dr _ h)
  · rw [List.length_take, List.length_drop]; omega
theorem pf_law_pair (h : S_law_pair K vs G M R Z) : rd_law_pair K (ends R Z) (sta 3 vs) G M := by
  obtain ⟨_, _, rfl, p, m, n, c, s, rfl, rfl, hn, hs, m0, m1, q⟩ := sp2_of h
  refine ⟨G, M, Wk.refl, p, m - 1, n, c, s, rfl, rfl, hn, hs, by omega, by omega, fun b c1 s1 b0 b1 hs1 => ?_⟩
  refine ⟨G, _, Wk.refl, p, 1 + b, n, c1, s1, rfl, rfl, set_n hn, hs1, by omega, by omega, fun a c2 s2 a0 a1 hs2 => ⟨sz2, fun t ft => ret0 ?_⟩⟩
  rw [List.set_set]
  exact q t a (1 + b) _ c2 s2 (Ex.new ft) sqt_new ⟨a0, a1, by show 1 + b < (m.toNat : Int); omega⟩ hs2
theorem pf_law_missed (h : S_law_missed K vs G M R Z) : rd_law_missed K (ends R Z) (sta 5 vs) G M := by
  obtain ⟨_, _, rfl, n, a, us, ps, rfl, rfl, n0, n1, ha, hd, hg, q⟩ := sp2_of h
  have e2 : ((2 : Int) ^ n.toNat) = ((2 ^ n.toNat : Nat) : Int) := by simp
  have hb : 2 ^ n.toNat ≤ 1024 := pow10 (by omega)
  have hcp : CPow 1 n := ⟨by omega, by omega, by decide⟩
  have hpi : (0 : Int) < 2 ^ n.toNat ∧ (2 : Int) ^ n.toNat ≤ 1024 := ⟨pow_pos' _, by rw [e2]; exact Int.ofNat_le.mpr hb⟩
  refine ⟨G, M, Wk.refl, hcp, ⟨by omega, by omega⟩, fun i σ G' M' => ∃ y2 y3 y4, σ = [some (.int n), some (.ref a), y2, y3, y4] ∧ G' = G ∧ M' = M ∧ ∀ N, N < i → (runN ps (bitsL n.toNat N)).Pairwise (· ≤ ·), ⟨none, none, none, rfl, rfl, rfl, fun N hN => by omega⟩, fun _ _ _ _ _ _ => trivial, ?_, ?_⟩
  · rintro i σ G' M' hi ⟨y2, y3, y4, rfl, rfl, rfl, hall⟩
    refine ⟨G', M', Wk.refl, ⟨by omega, by omega⟩, sz (by show n.toNat ≤ _; omega), fun k acc G2 M2 => G2 = G' ∧ M2 = M' ∧ acc = ((List.range k).map fun k => ((i / 2 ^ k % 2 : Nat) : Int)).map V.int, ⟨rfl, rfl, rfl⟩, fun _ _ _ _ _ _ => trivial, ?_, ?_⟩
    · rintro k acc G2 M2 D hk hacc ⟨rfl, rfl, rfl⟩ fD
      have hk : k < n.toNat := hk
      have ek : (1 : Int) * 2 ^ (0 + (k : Int)).toNat = ((2 ^ k : Nat) : Int) := by
        rw [show (0 + (k : Int)).toNat = k by omega]; simp
      have hpk : 2 ^ k ≤ 1024 := pow10 (by omega)
      have hpos : 0 < 2 ^ k := Nat.pow_pos (by decide)
      refine ⟨rfl, ⟨by omega, by omega, by decide⟩, by rw [ek]; exact divW (by omega) (by omega) _, (by show (0 : Int) < _; decide), _, _, Wk.refl, rfl, rfl, ?_⟩
      rw [List.range_succ, List.map_append, List.map_append]
      have e3 : (0 + (i : Int)) / ((2 ^ k : Nat) : Int) % 2 = ((i / 2 ^ k % 2 : Nat) : Int) := by
        rw [Int.zero_add]; simp
      show _ ++ [V.int ((0 + (i : Int)) / (1 * 2 ^ (0 + (k : Int)).toNat) % 2)] = _
      rw [ek, e3]; rfl
    · rintro acc G2 M2 w ⟨rfl, rfl, rfl⟩ hacc fw
      have hrl : (bitsL n.toNat i).length = n.toNat := by simp [bitsL]
      have hgr : ∀ z, z ∈ ps → GoodP (bitsL n.toNat i).length z := fun z hz => by rw [hrl]; exact hg z hz
      refine ⟨G2, _, Wk.refl, a, w, us, ps, bitsL n.toNat i, rfl, rfl, lat_cons ha, hd, lat_0, hgr, fun f ff => ?_⟩
      refine ⟨bitsL n.toNat i, lat_cons lat_0, fun ns u pm pw fu => ?_⟩
      refine ⟨_, _, dat_ints (lat_cons lat_0), dat_ints lat_0, (shp_ints (n := 0) _).shaped (by decide), (shp_ints (n := 0) _).shaped (by decide), ?_⟩
      refine ite2' (c := !PyData.eqv (.list ((runN ps (bitsL n.toNat i)).map .int)) (.list (ns.map .int))) (fun e => ?_) (fun e => ?_)
      · rw [eqv_lints, eq_srt hgr pm pw] at e
        have hs : srtB n.toNat ps = false := by
          cases hb : srtB n.toNat ps with
          | false => rfl
          | true =>
            have := srt_each.mp hb _ (bits_mem n.toNat i)
            rw [decide_eq_true this] at e; cases e
        rw [hs] at q
        exact ⟨_, _, Wk.refl, retW ((Wk.drop0.trans Wk.drop0).trans Wk.drop0) q⟩
      · rw [eqv_lints, eq_srt hgr pm pw] at e
        have hp : (runN ps (bitsL n.toNat i)).Pairwise (· ≤ ·) := by
          apply Decidable.byContradiction
          intro hn
          rw [decide_eq_false hn] at e; cases e
        refine ⟨_, _, (Wk.drop0.trans Wk.drop0).trans Wk.drop0, _, _, _, rfl, rfl, rfl, fun N hN => ?_⟩
        by_cases hNi : N = i
        · rw [hNi]; exact hp
        · exact hall N (by omega)
  · rintro σ G' M' ⟨y2, y3, y4, rfl, rfl, rfl, hall⟩
    have hn : (1 * (2 : Int) ^ n.toNat).toNat = 2 ^ n.toNat := by omega
    have hs : srtB n.toNat ps = true := srt_each.mpr fun r hr => by
      obtain ⟨N, hN, rfl⟩ := bits_all _ _ hr
      exact hall N (by show N < (1 * (2 : Int) ^ n.toNat).toNat; rw [hn]; exact hN)
    rw [hs] at q
    exact ⟨_, _, Wk.refl, ret0 q⟩
theorem kseq_wk {t u : KS} {D : Kd} {σ : St} {G G' : Hp} {M M' : Mem} (w : Wk G M G' M') (h : kSeq t u D σ G' M') : kSeq t u D σ G M := by
  obtain ⟨a, b, c, d⟩ := h
  exact ⟨a, b, w.trans c, d⟩
theorem GoodP.mono {n : Nat} {p : Int × Int} (h : p.1 < p.2 ∧ 0 ≤ p.1 ∧ p.2 < (n : Int)) : GoodP n p := ⟨h.2.1, h.1, h.2.2⟩
theorem flat_dp : ∀ (k : Nat) {us : List V} {ps : List (Int × Int)}, DpAll K G us (ps.map prD) → DpAll K G (List.replicate k us).flatten ((List.replicate k ps).flatten.map prD)
  | 0, _, _, _ => .nil
  | k + 1, us, ps, h => by
    rw [List.replicate_succ, List.replicate_succ, List.flatten_cons, List.flatten_cons, List.map_append]
    exact dpall_app h (flat_dp k h)
theorem mem_flat {k : Nat} {ps : List (Int × Int)} {p : Int × Int} (h : p ∈ (List.replicate k ps).flatten) : p ∈ ps := by
  obtain ⟨l, hl, hp⟩ := List.mem_flatten.mp h
  rw [(List.mem_replicate.mp hl).2] at hp
  exact hp
theorem len_flat (k : Nat) (ps : List (Int × Int)) : (List.replicate k ps).flatten.length = k * ps.length := by
  rw [List.length_flatten, List.map_replicate, List.sum_replicate_nat]
theorem len_flatV (k : Nat) (ps : List V) : (List.replicate k ps).flatten.length = k * ps.length := by
  rw [List.length_flatten, List.map_replicate, List.sum_replicate_nat]
theorem netL_len {n : Int} : (netL n).length + 4000 ≤ 4000 * 2 ^ lg n := by
  have h1 : (netL n).length ≤ (sortL (lg n) 0).length := List.length_filter_le _ _
  have h2 := sortL_len (lg n) 0 (by have := lg_lt n; omega)
  omega
theorem lg_small : ∀ n : Nat, n < 17 → lg n ≤ 4 := by decide
theorem netL_len16 {n : Int} (h : n ≤ 16) (h0 : 0 ≤ n) : (netL n).length ≤ 60000 := by
  have h1 := netL_len (n := n)
  have h2 := lg_small n.toNat (by omega)
  rw [show ((n.toNat : Nat) : Int) = n by omega] at h2
  have h3 : 2 ^ lg n ≤ 2 ^ 4 := Nat.pow_le_pow_right (by decide) h2
  omega
theorem pf_law_net (h : S_law_net K vs G M R Z) : rd_law_net K (ends R Z) (sta 6 vs) G M := by
  obtain ⟨_, _, rfl, p, m, n, c, s, rfl, rfl, hn, hs, m0, m1, q⟩ := sp2_of h
  refine ⟨G, M, Wk.refl, p, 5, n, c, s, rfl, rfl, hn, hs, by decide, by decide, fun way c1 s1 w0 w1 hs1 => ?_⟩
  refine ⟨G, _, Wk.refl, ite2' (fun e => ?_) (fun e => ?_)⟩
  · -- drawn pairs
    refine ⟨G, _, Wk.refl, p, 16, n, c1, s1, rfl, rfl, set_n hn, hs1, by decide, by decide, fun k c2 s2 k0 k1 hs2 => ⟨⟨by omega, by omega⟩, sz (by show k.toNat ≤ _; omega), fun i acc G' M' => ∃ (ps : List (Int × Int)) (c' s' : Int), Ex G G' ∧ M' = ((M.set n (p, pool c1 s1)).set n (p, pool c2 s2)).set n (p, pool c' s') ∧ PoolOk s' ∧ DpAll K G' acc (ps.map prD) ∧ (∀ z, z ∈ ps → GoodP m.toNat z) ∧ ps.length = i,
      ⟨[], c2, s2, Ex.refl, by simp only [List.set_set], hs2, .nil, fun _ z => absurd z List.not_mem_nil, rfl⟩, fun _ _ _ _ _ _ => trivial, ?_, ?_⟩⟩
    · rintro i acc G' M' D hi hacc ⟨ps, c3, s3, ex, rfl, hs3, hd, hg, rfl⟩ fD
      refine ⟨rfl, p, m, n + 1, c3, s3, rfl, rfl, set_n (set_n (set_n hn)), hs3, m0, by omega, fun t a b G2 c4 s4 x2 ht hab hs4 => ?_⟩
      refine ⟨G2, _, Wk.refl, ps ++ [(a, b)], c4, s4, ex.trans x2, ?_, hs4, ?_, ?_, by simp⟩
      · simp only [List.set_set]
      · rw [List.map_append]
        exact dpall_snoc (ex_ds x2 _ hd) (dp_pr ht)
      · intro z hz
        rcases List.mem_append.mp hz with hz | hz
        · exact hg z hz
        · have e : z = (a, b) := by simpa using hz
          subst e; exact hab
    · rintro acc G' M' w ⟨ps, c3, s3, ex, rfl, hs3, hd, hg, hl⟩ hacc fw
      have hl : ps.length = k.toNat := hl
      refine ret0 ?_
      simp only [List.set_set] at fw ⊢
      exact q w acc ps G' c3 s3 ex fw hd hg (by omega) hs3
  · -- a told net, bent
    have rest : ∀ (t : Addr) (us : List V) (ps : List (Int × Int)) (G1 : Hp) (y3 : Option V), Ex G G1 → Fr G1 (M.set n (p, pool c1 s1)) t → DpAll K G1 us (ps.map prD) → (∀ z, z ∈ ps → GoodP m.toNat z) → ps.length + 1 ≤ 70000 →
        rd_law_net_4 K (ends R Z) [some (.ref p), some (.int m), some (.int way), y3, some (.ref t), none] G1 ((t, .lst us) :: M.set n (p, pool c1 s1)) := by
      intro t us ps G1 y3 x1 f1 d1 hg1 hl1
      refine ⟨G1, _, Wk.refl, p, 4, n + 1, c1, s1, rfl, rfl, set_n hn, hs1, by decide, by decide, fun k c2 s2 k0 k1 hs2 => ⟨⟨by omega, by omega⟩, fun i σ G' M' => ∃ (y3 y5 : Option V) (t : Addr) (us : List V) (ps : List (Int × Int)) (c' s' : Int), σ = [some (.ref p), some (.int m), some (.int way), y3, some (.ref t), y5] ∧ Ex G G' ∧ Fr G' (M.set n (p, pool c' s')) t ∧ M' = (t, .lst us) :: M.set n (p, pool c' s') ∧ PoolOk s' ∧ DpAll K G' us (ps.map prD) ∧ (∀ z, z ∈ ps → GoodP m.toNat z) ∧ ps.length + 1 ≤ 70000 * 2 ^ i,
        ⟨y3, none, t, us, ps, c2, s2, rfl, x1, fr_set hn (fr_unset hn f1), ?_, hs2, d1, hg1, by omega⟩, fun _ _ _ _ _ _ => trivial, ?_, ?_⟩⟩
      · simp only [List.set_cons_succ, List.set_set]
      · rintro i σ G' M' hi ⟨y3, y5, t, us, ps, c3, s3, rfl, ex, ft, rfl, hs3, hd, hg, hl⟩
        have hi : i < k.toNat := hi
        have hpw : 2 ^ i ≤ 2 ^ 2 := Nat.pow_le_pow_right (by decide) (by omega)
        have hul := map_len_le hd
        refine ⟨G', _, Wk.refl, _, seq_0, p, ((us.length : Nat) : Int) + 1, n + 1, c3, s3, rfl, rfl, set_n hn, hs3, by omega, by omega, fun at_ c4 s4 a0 a1 hs4 => ?_⟩
        obtain ⟨ps1, dd1, hm1, hle1⟩ := cut_dp none (some at_) hd
        refine ⟨G', _, Wk.refl, _, lat_0, fun p1 f1' => ?_⟩
        refine ⟨p, m, n + 2, c4, s4, rfl, rfl, set_n (set_n hn), hs4, m0, by omega, fun tt a b G2 c5 s5 x2 htt hab hs5 => ⟨sz1, fun q1 fq1 => ⟨sz0, fun q2 fq2 => ⟨sz2, fun q3 fq3 => ⟨(by show (0 : Int) < _; decide), ?_⟩⟩⟩⟩⟩
        obtain ⟨v, hv, hv2⟩ := at_two (x := .ref q1) (y := .ref q2) (r := way % 2) (Int.emod_nonneg _ (by decide)) (Int.emod_lt_of_pos _ (by decide))
        have hc1 := map_len_le dd1
        obtain ⟨qz, zs, pz, rfl, hatz, dz, hmz, hlz⟩ : ∃ (qz : Addr) (zs : List V) (pz : List (Int × Int)), v = .ref qz ∧ ((qz = q1 ∧ zs = [.ref tt]) ∨ (qz = q2 ∧ zs = [])) ∧ DpAll K G2 zs (pz.map prD) ∧ (∀ z, z ∈ pz → GoodP m.toNat z) ∧ zs.length ≤ 1 := by
          rcases hv2 with rfl | rfl
          · exact ⟨q1, [.ref tt], [(a, b)], rfl, .inl ⟨rfl, rfl⟩, .cons (dp_pr htt) .nil, fun z hz => by
              have e : z = (a, b) := by simpa using hz
              subst e; exact hab, by simp⟩
          · exact ⟨q2, [], [], rfl, .inr ⟨rfl, rfl⟩, .nil, fun _ z => absurd z List.not_mem_nil, by simp⟩
        have hpzl := map_len_le dz
        refine ⟨_, _, seq_0, hv, _, zs, .inl (List.mem_cons_of_mem _ (List.mem_cons_of_mem _ (List.mem_cons_of_mem _ List.mem_cons_self))), ?_, sz (by omega), fun p4 f4 => ?_⟩
        · rcases hatz with ⟨rfl, rfl⟩ | ⟨rfl, rfl⟩
          · exact .inl (List.mem_cons_of_mem _ (List.mem_cons_of_mem _ List.mem_cons_self))
          · exact .inl (List.mem_cons_of_mem _ List.mem_cons_self)
        obtain ⟨ps2, dd2, hm2, hle2⟩ := cut_dp (some (at_ + way % 2)) none (ex_ds x2 _ hd)
        have hc2 := map_len_le dd2
        refine ⟨(by show (0 : Int) < _; decide), us, ?_, fun p5 f5 => ?_⟩
        · exact .inl (List.mem_cons_of_mem _ (List.mem_cons_of_mem _ (List.mem_cons_of_mem _ (List.mem_cons_of_mem _ (List.mem_cons_of_mem _ List.mem_cons_self)))))
        refine ⟨_, _, .inl (List.mem_cons_of_mem _ List.mem_cons_self), .inl List.mem_cons_self, sz (by rw [List.length_append]; omega), fun p6 f6 => ?_⟩
        have sb := ((((((((List.Sublist.refl (M.set n (p, pool c5 s5))).cons (t, HO.lst us)).cons (p1, HO.lst (cutV us none (some at_)))).cons (q1, HO.lst [.ref tt])).cons (q2, HO.lst [])).cons (q3, HO.lst [.ref q1, .ref q2])).cons (p4, HO.lst (cutV us none (some at_) ++ zs))).cons (p5, HO.lst (cutV us (some (at_ + way % 2)) none))).cons_cons (p6, HO.lst (cutV us none (some at_) ++ zs ++ cutV us (some (at_ + way % 2)) none))
        refine ⟨G2, (p6, HO.lst (cutV us none (some at_) ++ zs ++ cutV us (some (at_ + way % 2)) none)) :: M.set n (p, pool c5 s5), ?_, _, _, p6, _, ps1 ++ pz ++ ps2, c5, s5, rfl, ex.trans x2, ?_, rfl, hs5, ?_, ?_, ?_⟩
        · have := Wk.sub (G := G2) sb
          simp only [List.set_cons_succ, List.set_set] at this ⊢
          exact this
        · refine ⟨f6.1, fun x hx => f6.2 x ?_⟩
          simp only [List.set_cons_succ, List.set_set, List.mem_cons]
          exact .inr (.inr (.inr (.inr (.inr (.inr (.inr hx))))))
        · rw [List.map_append, List.map_append]
          exact dpall_app (dpall_app (ex_ds x2 _ dd1) dz) dd2
        · intro z hz
          rcases List.mem_append.mp hz with hz | hz
          · rcases List.mem_append.mp hz with hz | hz
            · exact hg z (hm1 z hz)
            · exact hmz z hz
          · exact hg z (hm2 z hz)
        · simp only [List.length_append]
          rw [Nat.pow_succ]
          omega
      · rintro σ G' M' ⟨y3, y5, t, us, ps, c3, s3, rfl, ex, ft, rfl, hs3, hd, hg, hl⟩
        have hpw : 2 ^ k.toNat ≤ 2 ^ 3 := Nat.pow_le_pow_right (by decide) (by omega)
        have hl : ps.length + 1 ≤ 70000 * 2 ^ k.toNat := hl
        have hl2 : ps.length ≤ 600000 := by omega
        exact ⟨G', _, Wk.refl, ret0 (q t us ps G' c3 s3 ex ft hd hg hl2 hs3)⟩
    refine ⟨G, _, Wk.refl, m, rfl, by omega, by omega, fun t us G1 x1 f1 d1 => ?_⟩
    refine ⟨G1, _, Wk.refl, ite2' (fun e => ?_) (fun e => ?_)⟩
    · refine ⟨G1, _, Wk.drop0, ⟨by omega, by omega⟩, sz (by show (m - 1).toNat ≤ _; omega), fun i acc G' M' => Ex G1 G' ∧ M' = M.set n (p, pool c1 s1) ∧ DpAll K G' acc (((List.range i).map fun (i : Nat) => ((0 + (i : Int)), (0 + (i : Int) + 1))).map prD), ⟨Ex.refl, rfl, .nil⟩, fun _ _ _ _ _ _ => trivial, ?_, ?_⟩
      · rintro i acc G' M' D hi hacc ⟨ex, rfl, hd⟩ fD
        refine ⟨rfl, sz2, fun w fw => ⟨_, _, Wk.refl, ex.trans (Ex.new fw), rfl, ?_⟩⟩
        rw [range_snoc, List.map_append]
        exact dpall_snoc (ex_ds (Ex.new fw) _ hd) (dp_pr sqt_new)
      · rintro acc G' M' w ⟨ex, rfl, hd⟩ hacc fw
        have hacc : acc.length ≤ (m - 1).toNat := hacc
        have hmul : acc.length * m.toNat ≤ 6 * 7 := Nat.mul_le_mul (by omega) (by omega)
        refine ⟨acc, .inl List.mem_cons_self, by omega, by omega, sz (by omega), fun w2 fw2 => ?_⟩
        show rd_law_net_4 K (ends R Z) [some (.ref p), some (.int m), some (.int way), none, some (.ref w2), none] G' _
        refine kseq_wk Wk.drop1 (rest w2 _ _ G' _ (x1.trans ex) ⟨fw2.1, fun x hx => fw2.2 x (List.mem_cons_of_mem _ hx)⟩ (flat_dp m.toNat hd) (fun z hz => ?_) ?_)
        · obtain ⟨i, hi, rfl⟩ := List.mem_map.mp (mem_flat hz)
          have hi : i < (m - 1).toNat := List.mem_range.mp hi
          exact ⟨by show 0 ≤ 0 + (i : Int); omega, by show 0 + (i : Int) < 0 + (i : Int) + 1; omega, by show 0 + (i : Int) + 1 < (m.toNat : Int); omega⟩
        · rw [len_flat, List.length_map, List.length_range]
          have : m.toNat * (m - 1).toNat ≤ 7 * 7 := Nat.mul_le_mul (by omega) (by omega)
          show m.toNat * (m - 1).toNat + 1 ≤ 70000
          omega
    · exact rest t us (netL m) G1 _ x1 f1 d1 (fun z hz => by
        obtain ⟨a, b, c⟩ := netL_good hz
        exact ⟨a, b, by omega⟩) (by have := netL_len16 (n := m) (by omega) (by omega); omega)
theorem step_sorted {l : List Int} {p : Int × Int} (g : GoodP l.length p) (h : l.Pairwise (· ≤ ·)) : stepN l p = l := by
  obtain ⟨g0, g1, g2⟩ := g
  unfold stepN
  rw [if_neg]
  have ha : p.1.toNat < l.length := by omega
  have hb : p.2.toNat < l.length := by omega
  rw [List.getD_eq_getElem?_getD, List.getD_eq_getElem?_getD, List.getElem?_eq_getElem ha, List.getElem?_eq_getElem hb]
  have := List.pairwise_iff_getElem.mp h p.1.toNat p.2.toNat ha hb (by omega)
  show ¬ l[p.2.toNat] < l[p.1.toNat]
  omega
theorem run_sorted : ∀ (ps : List (Int × Int)) (l : List Int), (∀ p, p ∈ ps → GoodP l.length p) → l.Pairwise (· ≤ ·) → runN ps l = l
  | [], _, _, _ => rfl
  | p :: ps, l, h, hp => by
    show runN ps (stepN l p) = l
    rw [step_sorted (h p List.mem_cons_self) hp]
    exact run_sorted ps l (fun q hq => h q (List.mem_cons_of_mem _ hq)) hp
theorem runN_app (ps qs : List (Int × Int)) (l : List Int) : runN (ps ++ qs) l = runN qs (runN ps l) := List.foldl_append ..
theorem srt_more {n : Nat} {ps qs : List (Int × Int)} (h : srtB n ps = true) (hq : ∀ p, p ∈ qs → GoodP n p) : srtB n (ps ++ qs) = true := srt_each.mpr fun r hr => by
  have h1 := srt_each.mp h r hr
  rw [runN_app, run_sorted qs _ (fun p hp => by rw [runN_len, rowsB_each n r hr]; exact hq p hp) h1]
  exact h1
theorem srt_net {n : Int} (h1 : 1 ≤ n) (h2 : n ≤ 64) : srtB n.toNat (netL n) = true := srt_each.mpr fun r hr => by
  have hl := rowsB_each _ r hr
  rw [show n = (r.length : Int) by omega]
  exact net_pairwise (by omega) (by omega)
theorem srt_none : srtB 10 [] = false := by
  cases h : srtB 10 [] with
  | false => rfl
  | true =>
    have := srt_each.mp h [1, 0, 0, 0, 0, 0, 0, 0, 0, 0] (mem_rowsB 10 _ rfl (by decide))
    exact absurd this (by decide)
theorem pf_law_right (h : S_law_right K vs G M R Z) : rd_law_right K (ends R Z) (sta 8 vs) G M := by
  obtain ⟨_, rfl, p, n, c, s, rfl, hn, hs, q⟩ := sp1_of h
  refine ⟨G, M, Wk.refl, p, 6, n, c, s, rfl, rfl, hn, hs, by decide, by decide, fun r c1 s1 r0 r1 hs1 => ?_⟩
  show rd_law_right_1 K (ends R Z) [some (.ref p), some (.int (2 + r)), none, none, none, none, none, none] G (M.set n (p, pool c1 s1))
  obtain ⟨m, hm⟩ : ∃ m, m = 2 + r := ⟨_, rfl⟩
  have hm0 : 2 ≤ m := by omega
  have hm1 : m ≤ 7 := by omega
  rw [← hm]
  refine ⟨G, _, Wk.refl, p, m, n, c1, s1, rfl, rfl, set_n hn, hs1, hm0, hm1, fun t us ps G1 c2 s2 x1 f1 d1 hg hl hs2 => ?_⟩
  rw [List.set_set] at f1
  rw [List.set_set]
  obtain ⟨G2, x2, g2, w2, fr2⟩ := frz (.lst us) f1
  have d2 := ex_ds x2 _ d1
  refine ⟨G2, _, w2, m, t, us, ps, rfl, rfl, by omega, by omega, lat_g (sql_of g2), d2, hg, by omega, fun G3 x3 => ?_⟩
  have l3 : SqL K G3 t us := sql_of (x3 _ _ g2)
  have d3 := ex_ds x3 _ d2
  refine ⟨G3, _, Wk.refl, ite2' (fun e => ?_) (fun e => ?_)⟩
  · have e : srtB m.toNat ps = false := of_decide_eq_true e
    refine ⟨G3, _, Wk.refl, m, t, us, ps, rfl, rfl, by omega, by omega, lat_g l3, d3, hg, ret0 ?_⟩
    rw [e]
    exact q _ _ ((x1.trans x2).trans x3)
  have hsrt : srtB m.toNat ps = true := by
    have := of_decide_eq_false e
    cases hb : srtB m.toNat ps with
    | true => rfl
    | false => exact absurd hb this
  rw [hsrt]
  refine ⟨G3, _, Wk.refl, sz2, fun ta fa => ⟨pow10_18, pow10_18, mul_l (by decide) (by decide), sz2, fun tb fb => ⟨sz2, fun tc fc => ⟨sz3, fun tl fl => ?_⟩⟩⟩⟩
  have xa := Ex.new (o := .tup [.int (-3), .int 7]) fa
  have xb := Ex.new (o := .tup [.int (-10 ^ Int.toNat 18), .int (2 * 10 ^ Int.toNat 18 + 1)]) fb
  have xc := Ex.new (o := .tup [.int 0, .int 2]) fc
  have ya : SqT K _ ta [.int (-3), .int 7] := ex_t (xb.trans xc) sqt_new
  have yb : SqT K _ tb [.int (-10 ^ Int.toNat 18), .int (2 * 10 ^ Int.toNat 18 + 1)] := ex_t xc sqt_new
  have yc : SqT K _ tc [.int 0, .int 2] := sqt_new (G := upd (upd G3 ta (.tup [.int (-3), .int 7])) tb (.tup [.int (-10 ^ Int.toNat 18), .int (2 * 10 ^ Int.toNat 18 + 1)]))
  have x34 := (xa.trans xb).trans xc
  generalize upd (upd (upd G3 ta (.tup [.int (-3), .int 7])) tb (.tup [.int (-10 ^ Int.toNat 18), .int (2 * 10 ^ Int.toNat 18 + 1)])) tc (.tup [.int 0, .int 2]) = G4 at *
  have l4 := ex_l x34 l3
  have d4 := ex_ds x34 _ d3
  have items : ∀ i, i < 3 → ∃ (t : Addr) (le ma : Int), [V.ref ta, .ref tb, .ref tc][i]? = some (.ref t) ∧ SqT K G4 t [.int le, .int ma] ∧ 0 < ma ∧ ma < 2 ^ 200 := fun i hi => by
    have e : i = 0 ∨ i = 1 ∨ i = 2 := by omega
    rcases e with rfl | rfl | rfl
    · exact ⟨ta, _, _, rfl, ya, by decide, by decide⟩
    · exact ⟨tb, _, _, rfl, yb, by decide, by decide⟩
    · exact ⟨tc, _, _, rfl, yc, by decide, by decide⟩
  refine ⟨_, lat_0, fun i σ G' M' => ∃ (y4 y5 y6 y7 : Option V) (c' s' : Int), σ = [some (.ref p), some (.int m), some (.ref t), some (.bl true), y4, y5, y6, y7] ∧ G' = G4 ∧ M' = (tl, .lst [.ref ta, .ref tb, .ref tc]) :: M.set n (p, pool c' s') ∧ PoolOk s', ⟨none, none, none, none, c2, s2, rfl, rfl, rfl, hs2⟩, ?_, ?_, ?_⟩
  · rintro i σ G' M' hi ⟨_, _, _, _, _, _, rfl, rfl, rfl, _⟩
    exact lat_0
  · rintro i σ G' M' hi ⟨y4, y5, y6, y7, c3, s3, rfl, rfl, rfl, hs3⟩
    obtain ⟨ti, le, ma, ht, hT, ma0, ma1⟩ := items i hi
    refine asg_L ht ⟨_, hT, ?_⟩
    refine ⟨G', _, Wk.refl, ⟨by omega, by omega⟩, sz (by show m.toNat ≤ _; omega), fun i acc G2 M2 => ∃ (ns : List Int) (c' s' : Int), G2 = G' ∧ M2 = (tl, .lst [.ref ta, .ref tb, .ref tc]) :: M.set n (p, pool c' s') ∧ PoolOk s' ∧ acc = ns.map V.int ∧ ns.length = i,
      ⟨[], c3, s3, rfl, rfl, hs3, rfl, rfl⟩, fun _ _ _ _ _ _ => trivial, ?_, ?_⟩
    · rintro i acc G2 M2 D hi hacc ⟨ns, c4, s4, rfl, rfl, hs4, rfl, rfl⟩ fD
      refine ⟨rfl, p, ma, n + 2, c4, s4, rfl, rfl, set_n hn, hs4, ma0, ma1, fun r c5 s5 r0 r1 hs5 => ?_⟩
      refine ⟨_, _, Wk.refl, ns ++ [le + r], c5, s5, rfl, ?_, hs5, by simp, by simp⟩
      simp only [List.set_cons_succ, List.set_set]
    · rintro acc G2 M2 w ⟨ns, c4, s4, rfl, rfl, hs4, rfl, hln⟩ hacc fw
      have hln : ns.length = m.toNat := hln
      have hgr : ∀ z, z ∈ ps → GoodP ns.length z := fun z hz => by rw [hln]; exact hg z hz
      refine ⟨G2, _, Wk.refl, t, w, us, ps, ns, rfl, rfl, lat_g l4, d4, lat_0, hgr, fun f ff => ?_⟩
      refine ⟨ns, lat_cons lat_0, fun ns2 u pm pw fu => ?_⟩
      have e2 : ns2 = runN ps ns := sorted_eq (pm.trans (runN_perm _ _ hgr).symm) pw (zero_one hsrt hg hln)
      subst e2
      refine ⟨_, _, dat_ints (lat_cons lat_0), dat_ints lat_0, (shp_ints (n := 0) _).shaped (by decide), (shp_ints (n := 0) _).shaped (by decide), ite2' (fun e => ?_) (fun e => ?_)⟩
      · have e : (!PyData.eqv (.list ((runN ps ns).map .int)) (.list ((runN ps ns).map .int))) = true := e
        rw [(shp_ints (n := 0) _).refl] at e; cases e
      · exact ⟨_, _, (Wk.drop0.trans Wk.drop0).trans Wk.drop0, _, _, _, _, c4, s4, rfl, rfl, rfl, hs4⟩
  · rintro σ G' M' ⟨y4, y5, y6, y7, c3, s3, rfl, rfl, rfl, hs3⟩
    have hgt : G' t = some (.lst us) := x34 _ _ (x3 _ _ g2)
    have hul := map_len_le d4
    refine ⟨G', _, Wk.drop0, ?_⟩
    refine ⟨p, m, n, c3, s3, rfl, rfl, set_n hn, hs3, hm0, by omega, fun tt a b G5 c5 s5 x5 htt hab hs5 => ⟨sz1, fun q1 fq1 => ?_⟩⟩
    refine ⟨us, [.ref tt], .inr (x5 _ _ hgt), .inl List.mem_cons_self, sz (by show us.length + 1 ≤ _; omega), fun q2 fq2 => ?_⟩
    have dd : DpAll K G5 (us ++ [.ref tt]) ((ps ++ [(a, b)]).map prD) := by
      rw [List.map_append]
      exact dpall_snoc (ex_ds x5 _ d4) (dp_pr htt)
    have hg2 : ∀ z, z ∈ [(a, b)] → GoodP m.toNat z := fun z hz => by
      have e : z = (a, b) := by simpa using hz
      subst e; exact hab
    refine ⟨m, q2, us ++ [.ref tt], ps ++ [(a, b)], rfl, rfl, by omega, by omega, lat_0, dd, fun z hz => (List.mem_append.mp hz).elim (hg z) (hg2 z), by simp; omega, fun G6 x6 => ?_⟩
    rw [srt_more hsrt hg2]
    exact ret0 (q _ _ ((((x1.trans x2).trans x3).trans x34).trans (x5.trans x6)))
theorem pf_law (h : S_law K vs G M R Z) : rd_law K (ends R Z) (sta 4 vs) G M := by
  obtain ⟨_, rfl, a, ns, rfl, hS, hl, q⟩ := sp1_of h
  refine ⟨G, M, Wk.refl, _, lst_g hS, ?_⟩
  have hlen : ((ns.map V.int).length : Int) ≤ 63 := by rw [List.length_map]; omega
  refine ⟨⟨by omega, by omega⟩, fun i σ G' M' => ∃ y1, σ = [some (.ref a), y1, none, none] ∧ Ex G G', ⟨none, rfl, Ex.refl⟩, fun _ _ _ _ _ _ => trivial, ?_, ?_⟩
  · rintro i σ G' M' hi ⟨y1, rfl, ex⟩
    have hi : i < (min ((ns.map V.int).length : Int) 20 + 1).toNat := hi
    refine ⟨G', M', Wk.refl, a, ns, 0 + i, rfl, rfl, ex_l ex hS, by omega, by omega, hl, fun p c s fp hs => ⟨p, 0, c, s, rfl, rfl, hs, fun G2 M2 ex2 => ?_⟩⟩
    exact ⟨G2, M2, Wk.refl, _, rfl, ex.trans ex2⟩
  · rintro σ G' M' ⟨y1, rfl, ex⟩
    have hS' := ex_l ex hS
    refine ⟨G', [], Wk.nil', _, lst_g hS', (by show (0 : Int) < _; decide), ?_⟩
    have k0 : 0 ≤ ((ns.map V.int).length : Int) % 3 := Int.emod_nonneg _ (by decide)
    have k1 : ((ns.map V.int).length : Int) % 3 < 3 := Int.emod_lt_of_pos _ (by decide)
    show rd_law_2 K (ends R Z) [some (.ref a), y1, some (.int (8 + ((ns.map V.int).length : Int) % 3)), none] G' []
    generalize hk : ((ns.map V.int).length : Int) % 3 = k at *
    refine ⟨G', [], Wk.refl, 8 + k, rfl, by omega, by omega, fun t1 v1 G1 x1 f1 d1 => ⟨_, lat_0, fun u1 fu1 => ?_⟩⟩
    refine ⟨8 + k, rfl, by omega, by omega, fun t2 v2 G2 x2 f2 d2 => ⟨_, lat_0, fun u2 fu2 => ⟨sz2, fun u3 fu3 => ⟨_, lst_g (ex_l (x1.trans x2) hS'), divW (by decide) (by decide) _, (by show (0 : Int) < _; decide), ?_⟩⟩⟩⟩
    obtain ⟨p1, e1, m1, le1⟩ := cut_dp (some 1) none (ex_ds x2 _ d1)
    obtain ⟨p2, e2, m2, le2⟩ := cut_dp none (some (-1)) d2
    obtain ⟨v, hv, hv2⟩ := at_two (x := .ref u1) (y := .ref u2) (r := ((ns.map V.int).length : Int) / 3 % 2) (Int.emod_nonneg _ (by decide)) (Int.emod_lt_of_pos _ (by decide))
    have hN := netL_len16 (n := 8 + k) (by omega) (by omega)
    refine ⟨_, _, seq_0, hv, ?_⟩
    obtain ⟨u, zs, pz, rfl, hat, dz, hmz, hlz⟩ : ∃ (u : Addr) (zs : List V) (pz : List (Int × Int)), v = .ref u ∧ LstAt K G2 ((u3, HO.lst [.ref u1, .ref u2]) :: (u2, HO.lst (cutV v2 none (some (-1)))) :: (t2, HO.lst v2) :: (u1, HO.lst (cutV v1 (some 1) none)) :: (t1, HO.lst v1) :: []) u zs ∧ DpAll K G2 zs (pz.map prD) ∧ (∀ z, z ∈ pz → z ∈ netL (8 + k)) ∧ pz.length ≤ 60000 := by
      rcases hv2 with rfl | rfl
      · exact ⟨u1, _, p1, rfl, .inl (List.mem_cons_of_mem _ (List.mem_cons_of_mem _ (List.mem_cons_of_mem _ List.mem_cons_self))), e1, m1, by omega⟩
      · exact ⟨u2, _, p2, rfl, .inl (List.mem_cons_of_mem _ List.mem_cons_self), e2, m2, by omega⟩
    have hgz : ∀ z, z ∈ pz → GoodP (8 + k).toNat z := fun z hz => by
      obtain ⟨a, b, c⟩ := netL_good (hmz z hz)
      exact ⟨a, b, by omega⟩
    refine ⟨G2, _, Wk.refl, 8 + k, u, zs, pz, rfl, rfl, by omega, by omega, hat, dz, hgz, by omega, fun G3 x3 => ?_⟩
    refine ⟨8 + k, u, zs, pz, rfl, rfl, by omega, by omega, lat_ex x3 hat, ex_ds x3 _ dz, hgz, ite2' (fun e => ?_) (fun e => ?_)⟩
    · have e : V.bl (srtB (8 + k).toNat pz) = V.bl (!srtB (8 + k).toNat pz) := of_decide_eq_true e
      have e := V.bl.inj e
      cases hb : srtB (8 + k).toNat pz <;> rw [hb] at e <;> cases e
    have hN10 := netL_len16 (n := 10) (by decide) (by decide)
    have hg10 : ∀ z, z ∈ netL 10 → GoodP 10 z := fun z hz => netL_good hz
    refine ⟨G3, [], Wk.nil', 10, rfl, by decide, by decide, fun t4 v4 G4 x4 f4 d4 => ?_⟩
    refine ⟨10, t4, v4, netL 10, rfl, rfl, by decide, by decide, lat_0, d4, hg10, by omega, fun G5 x5 => ?_⟩
    rw [show srtB (Int.toNat 10) (netL 10) = true from srt_net (n := 10) (by decide) (by decide)]
    refine ⟨10, rfl, by decide, by decide, fun t6 v6 G6 x6 f6 d6 => ?_⟩
    have hl6 := map_len_le d6
    refine ⟨v6, .inl List.mem_cons_self, by decide, by decide, sz (by show v6.length * 12 ≤ _; omega), fun t7 f7 => ?_⟩
    refine ⟨10, t7, _, _, rfl, rfl, by decide, by decide, lat_0, flat_dp _ d6, fun z hz => hg10 z (mem_flat hz), ?_, fun G8 x8 => ?_⟩
    · rw [len_flat]; show 12 * _ ≤ _; omega
    have hfl : srtB (Int.toNat 10) (List.replicate (Int.toNat 12) (netL 10)).flatten = true := by
      show srtB 10 (List.replicate 12 (netL 10)).flatten = true
      rw [List.replicate_succ, List.flatten_cons]
      exact srt_more (srt_net (n := 10) (by decide) (by decide)) fun z hz => hg10 z (mem_flat hz)
    rw [hfl]
    refine ⟨sz0, fun t9 f9 => ⟨10, t9, [], [], rfl, rfl, by decide, by decide, lat_0, .nil, fun _ z => absurd z List.not_mem_nil, by decide, fun G9 x9 => ?_⟩⟩
    rw [show srtB (Int.toNat 10) [] = false from srt_none]
    exact ret0 (q _ _)
end
def topS (i : Nat) : Stmt := PySem.Challenge.pw_blindtouch_k24_whole_let_by_and_sorts.main.body.getD i (.Pass ⟨0, 0, 0, 0⟩)
structure Bs (mg : Str → Option Value) : Prop where
  all : mg "all" = none
  bool : mg "bool" = none
  int : mg "int" = none
  isinstance : mg "isinstance" = none
  len : mg "len" = none
  list : mg "list" = none
  min : mg "min" = none
  range : mg "range" = none
  sorted : mg "sorted" = none
  tuple : mg "tuple" = none
abbrev s_is_whole : Stmt := topS 1
abbrev N_is_whole : List Str := ["thing"]
theorem sc_is_whole : FnScope N_is_whole ["thing"] (defScope s_is_whole) := ⟨rfl, rfl, rfl, by decide +kernel, rfl, by decide +kernel, by decide +kernel⟩
theorem fo_is_whole {P : Program} {w : World} {K : PySem.W.Frag} {mg : Str → Option Value} {base : Heap} {f : Addr} {fd : FuncData} (B : Bs mg) (F : Fun K "is_whole" "is_whole" s_is_whole f fd)  :
    FnOk P w K mg base (L2.CX P w) 1 f fd ["thing"] (lift (S_is_whole K)) := by
  refine fn_ok F sc_is_whole (fun vs G M R Z h => sp_len1 h) (fun cdv A outer s H E hr => ?_)
  have nd : N_is_whole.Nodup := sc_is_whole.nd
  have hu : _ + 64 < cLine := hr.units
  have tk : Takes (cxOf (L2.CX P w) P w K mg base N_is_whole "is_whole" (defScope s_is_whole) f cdv A outer s H E) (fun c d _ H => E c d H) := takes_of rfl rfl rfl rfl
  have po : PassesOwn (model P w) _ _ _ := passes_of (X := cxOf (L2.CX P w) P w K mg base N_is_whole "is_whole" (defScope s_is_whole) f cdv A outer s H E) rfl
  exact ⟨rd_is_whole K, jss_cons (js_ret (je_and (je_callB kc_isi B.isinstance (ja_cons (je_var 0) (ja_cons (je_ty B.int) (ja_nil)))) (je_one (je_not (je_callB kc_isi B.isinstance (ja_cons (je_var 0) (ja_cons (je_ty B.bool) (ja_nil)))))))) (jss_nil), fun vs G M R Z h => pf_is_whole h⟩
theorem df_is_whole {P : Program} {w : World} {K : PySem.W.Frag} {mg : Str → Option Value} {base : Heap} {f : Addr} {fd : FuncData} (B : Bs mg) (F : Fun K "is_whole" "is_whole" s_is_whole f fd) (b : Binds K fd ["thing"] []) (gm : mg "is_whole" = some (.ref f))  :
    Def P w K mg base 1 "is_whole" ["thing"] (S_is_whole K) := ⟨f, fd, fo_is_whole B F , gm, F.kp, b⟩
abbrev s_is_within : Stmt := topS 2
abbrev N_is_within : List Str := ["thing", "least", "most"]
theorem sc_is_within : FnScope N_is_within ["thing", "least", "most"] (defScope s_is_within) := ⟨rfl, rfl, rfl, by decide +kernel, rfl, by decide +kernel, by decide +kernel⟩
theorem fo_is_within {P : Program} {w : World} {K : PySem.W.Frag} {mg : Str → Option Value} {base : Heap} {f : Addr} {fd : FuncData} (B : Bs mg) (F : Fun K "is_within" "is_within" s_is_within f fd) (D_is_whole : Def P w K mg base 1 "is_whole" ["thing"] (S_is_whole K)) :
    FnOk P w K mg base (L2.CX P w) 2 f fd ["thing", "least", "most"] (lift (S_is_within K)) := by
  refine fn_ok F sc_is_within (fun vs G M R Z h => sp_len3 h) (fun cdv A outer s H E hr => ?_)
  have nd : N_is_within.Nodup := sc_is_within.nd
  have hu : _ + 64 < cLine := hr.units
  have tk : Takes (cxOf (L2.CX P w) P w K mg base N_is_within "is_within" (defScope s_is_within) f cdv A outer s H E) (fun c d _ H => E c d H) := takes_of rfl rfl rfl rfl
  have po : PassesOwn (model P w) _ _ _ := passes_of (X := cxOf (L2.CX P w) P w K mg base N_is_within "is_within" (defScope s_is_within) f cdv A outer s H E) rfl
  exact ⟨rd_is_within K, jss_cons (js_ret (je_and (je_callD D_is_whole hr tk (ja_cons (je_var 0) (ja_nil))) (je_one (je_chain (kop_le) (kop_le) (je_var 1) (je_var 0) (je_var 2))))) (jss_nil), fun vs G M R Z h => pf_is_within h⟩
theorem df_is_within {P : Program} {w : World} {K : PySem.W.Frag} {mg : Str → Option Value} {base : Heap} {f : Addr} {fd : FuncData} (B : Bs mg) (F : Fun K "is_within" "is_within" s_is_within f fd) (b : Binds K fd ["thing", "least", "most"] []) (gm : mg "is_within" = some (.ref f)) (D_is_whole : Def P w K mg base 1 "is_whole" ["thing"] (S_is_whole K)) :
    Def P w K mg base 2 "is_within" ["thing", "least", "most"] (S_is_within K) := ⟨f, fd, fo_is_within B F D_is_whole, gm, F.kp, b⟩
abbrev s_run_net : Stmt := topS 4
abbrev N_run_net : List Str := ["net", "row", "told", "one", "other"]
theorem sc_run_net : FnScope N_run_net ["net", "row"] (defScope s_run_net) := ⟨rfl, rfl, rfl, by decide +kernel, rfl, by decide +kernel, by decide +kernel⟩
theorem fo_run_net {P : Program} {w : World} {K : PySem.W.Frag} {mg : Str → Option Value} {base : Heap} {f : Addr} {fd : FuncData} (B : Bs mg) (F : Fun K "run_net" "run_net" s_run_net f fd)  :
    FnOk P w K mg base (L2.CX P w) 1 f fd ["net", "row"] (lift (S_run_net K)) := by
  refine fn_ok F sc_run_net (fun vs G M R Z h => sp_len2 h) (fun cdv A outer s H E hr => ?_)
  have nd : N_run_net.Nodup := sc_run_net.nd
  have hu : _ + 64 < cLine := hr.units
  have tk : Takes (cxOf (L2.CX P w) P w K mg base N_run_net "run_net" (defScope s_run_net) f cdv A outer s H E) (fun c d _ H => E c d H) := takes_of rfl rfl rfl rfl
  have po : PassesOwn (model P w) _ _ _ := passes_of (X := cxOf (L2.CX P w) P w K mg base N_run_net "run_net" (defScope s_run_net) f cdv A outer s H E) rfl
  exact ⟨rd_run_net K, jss_cons (js_set (i := 2) (je_callTy kc_list B.list (ja_cons (je_var 1) (ja_nil))) nd) (jss_cons (js_for po rfl (ji_list (je_var 0)) (jg_tup rfl (jgs_cons (jg_name (i := 3) nd) (jgs_cons (jg_name (i := 4) nd) (jgs_nil)))) (jss_cons (js_if (jt_cmp (kop_gt) (je_ix (je_var 2) (je_var 3)) (je_ix (je_var 2) (je_var 4)) (nomark _)) (jss_cons (js_asg (je_tup (ja_cons (je_ix (je_var 2) (je_var 4)) (ja_cons (je_ix (je_var 2) (je_var 3)) (ja_nil)))) (jg_tup rfl (jgs_cons (jg_ix (je_var 2) (je_var 3)) (jgs_cons (jg_ix (je_var 2) (je_var 4)) (jgs_nil))))) (jss_nil)) (jss_nil)) (jss_nil))) (jss_cons (js_ret (je_var 2)) (jss_nil))), fun vs G M R Z h => pf_run_net h⟩
theorem df_run_net {P : Program} {w : World} {K : PySem.W.Frag} {mg : Str → Option Value} {base : Heap} {f : Addr} {fd : FuncData} (B : Bs mg) (F : Fun K "run_net" "run_net" s_run_net f fd) (b : Binds K fd ["net", "row"] []) (gm : mg "run_net" = some (.ref f))  :
    Def P w K mg base 1 "run_net" ["net", "row"] (S_run_net K) := ⟨f, fd, fo_run_net B F , gm, F.kp, b⟩
abbrev s_joining : Stmt := topS 5
abbrev N_joining : List Str := ["first", "width", "step", "found", "place"]
theorem sc_joining : FnScope N_joining ["first", "width", "step"] (defScope s_joining) := ⟨rfl, rfl, rfl, by decide +kernel, rfl, by decide +kernel, by decide +kernel⟩
theorem fo_joining {P : Program} {w : World} {K : PySem.W.Frag} {mg : Str → Option Value} {base : Heap} {f : Addr} {fd : FuncData} {d : Nat} (B : Bs mg) (F : Fun K "joining" "joining" s_joining f fd) (D_rec : Def P w K mg base (0 + d) "joining" ["first", "width", "step"] (S_joining d K))  :
    FnOk P w K mg base (L2.CX P w) (0 + d + 1) f fd ["first", "width", "step"] (lift (S_joining (d + 1) K)) := by
  refine fn_ok F sc_joining (fun vs G M R Z h => sp_len3 h) (fun cdv A outer s H E hr => ?_)
  have nd : N_joining.Nodup := sc_joining.nd
  have hu : _ + 64 < cLine := hr.units
  have tk : Takes (cxOf (L2.CX P w) P w K mg base N_joining "joining" (defScope s_joining) f cdv A outer s H E) (fun c d _ H => E c d H) := takes_of rfl rfl rfl rfl
  have po : PassesOwn (model P w) _ _ _ := passes_of (X := cxOf (L2.CX P w) P w K mg base N_joining "joining" (defScope s_joining) f cdv A outer s H E) rfl
  exact ⟨rd_joining K (S_joining d K), jss_cons (js_if (jt_cmp (kop_eq hu) (je_op kop_mul (je_int) (je_var 2)) (je_var 1) (nomark _)) (jss_cons (js_ret (je_lst (ja_cons (je_tup (ja_cons (je_var 0) (ja_cons (je_op kop_add (je_var 0) (je_var 2)) (ja_nil)))) (ja_nil)))) (jss_nil)) (jss_nil)) (jss_cons (js_set (i := 3) (je_op kop_add (je_callD D_rec hr tk (ja_cons (je_var 0) (ja_cons (je_var 1) (ja_cons (je_op kop_mul (je_int) (je_var 2)) (ja_nil)))) (hl := by omega)) (je_callD D_rec hr tk (ja_cons (je_op kop_add (je_var 0) (je_var 2)) (ja_cons (je_var 1) (ja_cons (je_op kop_mul (je_int) (je_var 2)) (ja_nil)))) (hl := by omega))) nd) (jss_cons (js_ret (je_op kop_add (je_var 3) (je_comp (own := [("place", 4)]) rfl nd (ji_range3 B.range (ja_cons (je_op kop_add (je_var 0) (je_var 2)) (ja_cons (je_op kop_sub (je_op kop_add (je_var 0) (je_var 1)) (je_var 2)) (ja_cons (je_op kop_mul (je_int) (je_var 2)) (ja_nil))))) (blkOk_by (own := [("place", 4)]) (N := N_joining) (sc := defScope s_joining) (by decide +kernel)) (fun _ _ _ _ _ => by exact jg_name (i := 4) nd) (fun _ _ _ _ _ => by exact jts_nil) (fun _ _ _ _ _ => by exact je_tup (ja_cons (je_var 4) (ja_cons (je_op kop_add (je_var 4) (je_var 2)) (ja_nil))))))) (jss_nil))), fun vs G M R Z h => pf_joining h⟩
theorem df_joining {P : Program} {w : World} {K : PySem.W.Frag} {mg : Str → Option Value} {base : Heap} {f : Addr} {fd : FuncData} (B : Bs mg) (F : Fun K "joining" "joining" s_joining f fd) (b : Binds K fd ["first", "width", "step"] []) (gm : mg "joining" = some (.ref f))  :
    ∀ d : Nat, Def P w K mg base (0 + d) "joining" ["first", "width", "step"] (S_joining d K)
  | 0 => ⟨f, fd, fn_false z_joining, gm, F.kp, b⟩
  | d + 1 => ⟨f, fd, fo_joining B F (df_joining B F b gm  d) , gm, F.kp, b⟩
abbrev s_sorting : Stmt := topS 6
abbrev N_sorting : List Str := ["first", "width", "half"]
theorem sc_sorting : FnScope N_sorting ["first", "width"] (defScope s_sorting) := ⟨rfl, rfl, rfl, by decide +kernel, rfl, by decide +kernel, by decide +kernel⟩
theorem fo_sorting {P : Program} {w : World} {K : PySem.W.Frag} {mg : Str → Option Value} {base : Heap} {f : Addr} {fd : FuncData} {d : Nat} (B : Bs mg) (F : Fun K "sorting" "sorting" s_sorting f fd) (D_rec : Def P w K mg base (6 + d) "sorting" ["first", "width"] (S_sorting d K)) (D_joining : Def P w K mg base 6 "joining" ["first", "width", "step"] (S_joining 6 K)) :
    FnOk P w K mg base (L2.CX P w) (6 + d + 1) f fd ["first", "width"] (lift (S_sorting (d + 1) K)) := by
  refine fn_ok F sc_sorting (fun vs G M R Z h => sp_len2 h) (fun cdv A outer s H E hr => ?_)
  have nd : N_sorting.Nodup := sc_sorting.nd
  have hu : _ + 64 < cLine := hr.units
  have tk : Takes (cxOf (L2.CX P w) P w K mg base N_sorting "sorting" (defScope s_sorting) f cdv A outer s H E) (fun c d _ H => E c d H) := takes_of rfl rfl rfl rfl
  have po : PassesOwn (model P w) _ _ _ := passes_of (X := cxOf (L2.CX P w) P w K mg base N_sorting "sorting" (defScope s_sorting) f cdv A outer s H E) rfl
  exact ⟨rd_sorting K (S_sorting d K), jss_cons (js_if (jt_cmp (kop_eq hu) (je_var 1) (je_int) (nomark _)) (jss_cons (js_ret (je_lst (ja_nil))) (jss_nil)) (jss_nil)) (jss_cons (js_set (i := 2) (je_op kop_fdiv (je_var 1) (je_int)) nd) (jss_cons (js_ret (je_op kop_add (je_op kop_add (je_callD D_rec hr tk (ja_cons (je_var 0) (ja_cons (je_var 2) (ja_nil))) (hl := by omega)) (je_callD D_rec hr tk (ja_cons (je_op kop_add (je_var 0) (je_var 2)) (ja_cons (je_var 2) (ja_nil))) (hl := by omega))) (je_callD D_joining hr tk (ja_cons (je_var 0) (ja_cons (je_var 1) (ja_cons (je_int) (ja_nil)))) (hl := by omega)))) (jss_nil))), fun vs G M R Z h => pf_sorting h⟩
theorem df_sorting {P : Program} {w : World} {K : PySem.W.Frag} {mg : Str → Option Value} {base : Heap} {f : Addr} {fd : FuncData} (B : Bs mg) (F : Fun K "sorting" "sorting" s_sorting f fd) (b : Binds K fd ["first", "width"] []) (gm : mg "sorting" = some (.ref f)) (D_joining : Def P w K mg base 6 "joining" ["first", "width", "step"] (S_joining 6 K)) :
    ∀ d : Nat, Def P w K mg base (6 + d) "sorting" ["first", "width"] (S_sorting d K)
  | 0 => ⟨f, fd, fn_false z_sorting, gm, F.kp, b⟩
  | d + 1 => ⟨f, fd, fo_sorting B F (df_sorting B F b gm D_joining d) D_joining, gm, F.kp, b⟩
abbrev s_net_of : Stmt := topS 7
abbrev N_net_of : List Str := ["size", "width", "pair"]
theorem sc_net_of : FnScope N_net_of ["size"] (defScope s_net_of) := ⟨rfl, rfl, rfl, by decide +kernel, rfl, by decide +kernel, by decide +kernel⟩
theorem fo_net_of {P : Program} {w : World} {K : PySem.W.Frag} {mg : Str → Option Value} {base : Heap} {f : Addr} {fd : FuncData} (B : Bs mg) (F : Fun K "net_of" "net_of" s_net_of f fd) (D_sorting : Def P w K mg base 13 "sorting" ["first", "width"] (S_sorting 7 K)) :
    FnOk P w K mg base (L2.CX P w) 14 f fd ["size"] (lift (S_net_of K)) := by
  refine fn_ok F sc_net_of (fun vs G M R Z h => sp_len1 h) (fun cdv A outer s H E hr => ?_)
  have nd : N_net_of.Nodup := sc_net_of.nd
  have hu : _ + 64 < cLine := hr.units
  have tk : Takes (cxOf (L2.CX P w) P w K mg base N_net_of "net_of" (defScope s_net_of) f cdv A outer s H E) (fun c d _ H => E c d H) := takes_of rfl rfl rfl rfl
  have po : PassesOwn (model P w) _ _ _ := passes_of (X := cxOf (L2.CX P w) P w K mg base N_net_of "net_of" (defScope s_net_of) f cdv A outer s H E) rfl
  exact ⟨rd_net_of K, jss_cons (js_set (i := 1) (je_int) nd) (jss_cons (js_while po (jt_cmp (kop_lt) (je_var 1) (je_var 0) (nomark _)) (jss_cons (js_set (i := 1) (je_op kop_mul (je_int) (je_var 1)) nd) (jss_nil))) (jss_cons (js_ret (je_comp (own := [("pair", 2)]) rfl nd (ji_list (je_callD D_sorting hr tk (ja_cons (je_int) (ja_cons (je_var 1) (ja_nil))))) (blkOk_by (own := [("pair", 2)]) (N := N_net_of) (sc := defScope s_net_of) (by decide +kernel)) (fun _ _ _ _ _ => by exact jg_name (i := 2) nd) (fun _ _ _ _ _ => by exact jts_one (jt_cmp (kop_lt) (je_ix (je_var 2) (je_int)) (je_var 0) (nomark _))) (fun _ _ _ _ _ => by exact je_var 2))) (jss_nil))), fun vs G M R Z h => pf_net_of h⟩
theorem df_net_of {P : Program} {w : World} {K : PySem.W.Frag} {mg : Str → Option Value} {base : Heap} {f : Addr} {fd : FuncData} (B : Bs mg) (F : Fun K "net_of" "net_of" s_net_of f fd) (b : Binds K fd ["size"] []) (gm : mg "net_of" = some (.ref f)) (D_sorting : Def P w K mg base 13 "sorting" ["first", "width"] (S_sorting 7 K)) :
    Def P w K mg base 14 "net_of" ["size"] (S_net_of K) := ⟨f, fd, fo_net_of B F D_sorting, gm, F.kp, b⟩
abbrev s_is_pair : Stmt := topS 8
abbrev N_is_pair : List Str := ["size", "thing"]
theorem sc_is_pair : FnScope N_is_pair ["size", "thing"] (defScope s_is_pair) := ⟨rfl, rfl, rfl, by decide +kernel, rfl, by decide +kernel, by decide +kernel⟩
theorem fo_is_pair {P : Program} {w : World} {K : PySem.W.Frag} {mg : Str → Option Value} {base : Heap} {f : Addr} {fd : FuncData} (B : Bs mg) (F : Fun K "is_pair" "is_pair" s_is_pair f fd) (D_is_within : Def P w K mg base 2 "is_within" ["thing", "least", "most"] (S_is_within K)) :
    FnOk P w K mg base (L2.CX P w) 3 f fd ["size", "thing"] (lift (S_is_pair K)) := by
  refine fn_ok F sc_is_pair (fun vs G M R Z h => sp_len2 h) (fun cdv A outer s H E hr => ?_)
  have nd : N_is_pair.Nodup := sc_is_pair.nd
  have hu : _ + 64 < cLine := hr.units
  have tk : Takes (cxOf (L2.CX P w) P w K mg base N_is_pair "is_pair" (defScope s_is_pair) f cdv A outer s H E) (fun c d _ H => E c d H) := takes_of rfl rfl rfl rfl
  have po : PassesOwn (model P w) _ _ _ := passes_of (X := cxOf (L2.CX P w) P w K mg base N_is_pair "is_pair" (defScope s_is_pair) f cdv A outer s H E) rfl
  exact ⟨rd_is_pair K, jss_cons (js_if ((jw_or (jt_not (jt_val (je_callB kc_isi B.isinstance (ja_cons (je_var 1) (ja_cons (je_ty B.tuple) (ja_nil)))))) (jw_or1 (jt_cmp (kop_ne hu) (je_callB kc_len B.len (ja_cons (je_var 1) (ja_nil))) (je_int) (nomark _)))).jt) (jss_cons (js_ret (je_bl)) (jss_nil)) (jss_nil)) (jss_cons (js_ret (je_and (je_callD D_is_within hr tk (ja_cons (je_ix (je_var 1) (je_int)) (ja_cons (je_int) (ja_cons (je_op kop_sub (je_var 0) (je_int)) (ja_nil))))) (je_one (je_callD D_is_within hr tk (ja_cons (je_ix (je_var 1) (je_int)) (ja_cons (je_int) (ja_cons (je_op kop_sub (je_ix (je_var 1) (je_int)) (je_int)) (ja_nil)))))))) (jss_nil)), fun vs G M R Z h => pf_is_pair h⟩
theorem df_is_pair {P : Program} {w : World} {K : PySem.W.Frag} {mg : Str → Option Value} {base : Heap} {f : Addr} {fd : FuncData} (B : Bs mg) (F : Fun K "is_pair" "is_pair" s_is_pair f fd) (b : Binds K fd ["size", "thing"] []) (gm : mg "is_pair" = some (.ref f)) (D_is_within : Def P w K mg base 2 "is_within" ["thing", "least", "most"] (S_is_within K)) :
    Def P w K mg base 3 "is_pair" ["size", "thing"] (S_is_pair K) := ⟨f, fd, fo_is_pair B F D_is_within, gm, F.kp, b⟩
abbrev s_rows_of : Stmt := topS 9
abbrev N_rows_of : List Str := ["size", "rows", "place", "row"]
theorem sc_rows_of : FnScope N_rows_of ["size"] (defScope s_rows_of) := ⟨rfl, rfl, rfl, by decide +kernel, rfl, by decide +kernel, by decide +kernel⟩
theorem fo_rows_of {P : Program} {w : World} {K : PySem.W.Frag} {mg : Str → Option Value} {base : Heap} {f : Addr} {fd : FuncData} (B : Bs mg) (F : Fun K "rows_of" "rows_of" s_rows_of f fd)  :
    FnOk P w K mg base (L2.CX P w) 1 f fd ["size"] (lift (S_rows_of K)) := by
  refine fn_ok F sc_rows_of (fun vs G M R Z h => sp_len1 h) (fun cdv A outer s H E hr => ?_)
  have nd : N_rows_of.Nodup := sc_rows_of.nd
  have hu : _ + 64 < cLine := hr.units
  have tk : Takes (cxOf (L2.CX P w) P w K mg base N_rows_of "rows_of" (defScope s_rows_of) f cdv A outer s H E) (fun c d _ H => E c d H) := takes_of rfl rfl rfl rfl
  have po : PassesOwn (model P w) _ _ _ := passes_of (X := cxOf (L2.CX P w) P w K mg base N_rows_of "rows_of" (defScope s_rows_of) f cdv A outer s H E) rfl
  exact ⟨rd_rows_of K, jss_cons (js_set (i := 1) (je_lst (ja_cons (je_lst (ja_nil)) (ja_nil))) nd) (jss_cons (js_for po rfl (ji_range1 B.range (ja_cons (je_var 0) (ja_nil))) (jg_name (i := 2) nd) (jss_cons (js_set (i := 1) (je_op kop_add (je_comp (own := [("row", 3)]) rfl nd (ji_list (je_var 1)) (blkOk_by (own := [("row", 3)]) (N := N_rows_of) (sc := defScope s_rows_of) (by decide +kernel)) (fun _ _ _ _ _ => by exact jg_name (i := 3) nd) (fun _ _ _ _ _ => by exact jts_nil) (fun _ _ _ _ _ => by exact je_op kop_add (je_var 3) (je_lst (ja_cons (je_int) (ja_nil))))) (je_comp (own := [("row", 3)]) rfl nd (ji_list (je_var 1)) (blkOk_by (own := [("row", 3)]) (N := N_rows_of) (sc := defScope s_rows_of) (by decide +kernel)) (fun _ _ _ _ _ => by exact jg_name (i := 3) nd) (fun _ _ _ _ _ => by exact jts_nil) (fun _ _ _ _ _ => by exact je_op kop_add (je_var 3) (je_lst (ja_cons (je_int) (ja_nil)))))) nd) (jss_nil))) (jss_cons (js_ret (je_var 1)) (jss_nil))), fun vs G M R Z h => pf_rows_of h⟩
theorem df_rows_of {P : Program} {w : World} {K : PySem.W.Frag} {mg : Str → Option Value} {base : Heap} {f : Addr} {fd : FuncData} (B : Bs mg) (F : Fun K "rows_of" "rows_of" s_rows_of f fd) (b : Binds K fd ["size"] []) (gm : mg "rows_of" = some (.ref f))  :
    Def P w K mg base 1 "rows_of" ["size"] (S_rows_of K) := ⟨f, fd, fo_rows_of B F , gm, F.kp, b⟩
abbrev s_sorts : Stmt := topS 10
abbrev N_sorts : List Str := ["size", "thing", "pair", "row"]
theorem sc_sorts : FnScope N_sorts ["size", "thing"] (defScope s_sorts) := ⟨rfl, rfl, rfl, by decide +kernel, rfl, by decide +kernel, by decide +kernel⟩
theorem fo_sorts {P : Program} {w : World} {K : PySem.W.Frag} {mg : Str → Option Value} {base : Heap} {f : Addr} {fd : FuncData} (B : Bs mg) (F : Fun K "sorts" "sorts" s_sorts f fd) (D_is_pair : Def P w K mg base 3 "is_pair" ["size", "thing"] (S_is_pair K)) (D_rows_of : Def P w K mg base 1 "rows_of" ["size"] (S_rows_of K)) (D_run_net : Def P w K mg base 1 "run_net" ["net", "row"] (S_run_net K)) :
    FnOk P w K mg base (L2.CX P w) 4 f fd ["size", "thing"] (lift (S_sorts K)) := by
  refine fn_ok F sc_sorts (fun vs G M R Z h => sp_len2 h) (fun cdv A outer s H E hr => ?_)
  have nd : N_sorts.Nodup := sc_sorts.nd
  have hu : _ + 64 < cLine := hr.units
  have tk : Takes (cxOf (L2.CX P w) P w K mg base N_sorts "sorts" (defScope s_sorts) f cdv A outer s H E) (fun c d _ H => E c d H) := takes_of rfl rfl rfl rfl
  have po : PassesOwn (model P w) _ _ _ := passes_of (X := cxOf (L2.CX P w) P w K mg base N_sorts "sorts" (defScope s_sorts) f cdv A outer s H E) rfl
  exact ⟨rd_sorts K, jss_cons (js_if ((jw_or (jt_not (jt_val (je_callB kc_isi B.isinstance (ja_cons (je_var 1) (ja_cons (je_ty B.list) (ja_nil)))))) (jw_or1 (jt_not (jt_val (je_callB kc_all B.all (ja_cons (je_comp (own := [("pair", 2)]) rfl nd (ji_list (je_var 1)) (blkOk_by (own := [("pair", 2)]) (N := N_sorts) (sc := defScope s_sorts) (by decide +kernel)) (fun _ _ _ _ _ => by exact jg_name (i := 2) nd) (fun _ _ _ _ _ => by exact jts_nil) (fun _ _ _ _ _ => by exact je_callD D_is_pair hr takes0 (ja_cons (je_var 0) (ja_cons (je_var 2) (ja_nil))))) (ja_nil))))))).jt) (jss_cons (js_ret (je_bl)) (jss_nil)) (jss_nil)) (jss_cons (js_ret (je_callB kc_all B.all (ja_cons (je_comp (own := [("row", 3)]) rfl nd (ji_list (je_callD D_rows_of hr tk (ja_cons (je_var 0) (ja_nil)))) (blkOk_by (own := [("row", 3)]) (N := N_sorts) (sc := defScope s_sorts) (by decide +kernel)) (fun _ _ _ _ _ => by exact jg_name (i := 3) nd) (fun _ _ _ _ _ => by exact jts_nil) (fun _ _ _ _ _ => by exact je_cmp (kop_eq hu) (je_callD D_run_net hr takes0 (ja_cons (je_var 1) (ja_cons (je_var 3) (ja_nil)))) (je_callB kc_sorted B.sorted (ja_cons (je_var 3) (ja_nil))) (nomark _))) (ja_nil)))) (jss_nil)), fun vs G M R Z h => pf_sorts h⟩
theorem df_sorts {P : Program} {w : World} {K : PySem.W.Frag} {mg : Str → Option Value} {base : Heap} {f : Addr} {fd : FuncData} (B : Bs mg) (F : Fun K "sorts" "sorts" s_sorts f fd) (b : Binds K fd ["size", "thing"] []) (gm : mg "sorts" = some (.ref f)) (D_is_pair : Def P w K mg base 3 "is_pair" ["size", "thing"] (S_is_pair K)) (D_rows_of : Def P w K mg base 1 "rows_of" ["size"] (S_rows_of K)) (D_run_net : Def P w K mg base 1 "run_net" ["net", "row"] (S_run_net K)) :
    Def P w K mg base 4 "sorts" ["size", "thing"] (S_sorts K) := ⟨f, fd, fo_sorts B F D_is_pair D_rows_of D_run_net, gm, F.kp, b⟩
abbrev s_law_pool : Stmt := topS 12
abbrev N_law_pool : List Str := ["_law_script", "_law_k", "_law_cell", "_law_seed"]
theorem sc_law_pool : FnScope N_law_pool ["_law_script", "_law_k"] (defScope s_law_pool) := ⟨rfl, rfl, rfl, by decide +kernel, rfl, by decide +kernel, by decide +kernel⟩
theorem fo_law_pool {P : Program} {w : World} {K : PySem.W.Frag} {mg : Str → Option Value} {base : Heap} {f : Addr} {fd : FuncData} (B : Bs mg) (F : Fun K "_law_pool" "_law_pool" s_law_pool f fd)  :
    FnOk P w K mg base (L2.CX P w) 1 f fd ["_law_script", "_law_k"] (lift (S_law_pool K)) := by
  refine fn_ok F sc_law_pool (fun vs G M R Z h => sp_len2 h) (fun cdv A outer s H E hr => ?_)
  have nd : N_law_pool.Nodup := sc_law_pool.nd
  have hu : _ + 64 < cLine := hr.units
  have tk : Takes (cxOf (L2.CX P w) P w K mg base N_law_pool "_law_pool" (defScope s_law_pool) f cdv A outer s H E) (fun c d _ H => E c d H) := takes_of rfl rfl rfl rfl
  have po : PassesOwn (model P w) _ _ _ := passes_of (X := cxOf (L2.CX P w) P w K mg base N_law_pool "_law_pool" (defScope s_law_pool) f cdv A outer s H E) rfl
  exact ⟨rd_law_pool K, jss_cons (js_set (i := 2) (je_callB kc_len B.len (ja_cons (je_var 0) (ja_nil))) nd) (jss_cons (js_if (jt_cmp (kop_lt) (je_var 1) (je_callB kc_len B.len (ja_cons (je_var 0) (ja_nil))) (nomark _)) (jss_cons (js_set (i := 2) (je_ix (je_var 0) (je_var 1)) nd) (jss_nil)) (jss_nil)) (jss_cons (js_set (i := 3) (je_op kop_mod (je_op kop_mul (je_op kop_add (je_op kop_add (je_op kop_mod (je_var 2) (je_int)) (je_op kop_mul (je_int) (je_var 1))) (je_int)) (je_int)) (je_int)) nd) (jss_cons (js_ret (je_lst (ja_cons (je_op kop_mul (je_var 2) (je_callTy kc_int B.int (ja_cons (je_cmp (kop_ge) (je_var 2) (je_op kop_pow (je_int) (je_int)) (nomark _)) (ja_nil)))) (ja_cons (je_var 3) (ja_nil))))) (jss_nil)))), fun vs G M R Z h => pf_law_pool h⟩
theorem df_law_pool {P : Program} {w : World} {K : PySem.W.Frag} {mg : Str → Option Value} {base : Heap} {f : Addr} {fd : FuncData} (B : Bs mg) (F : Fun K "_law_pool" "_law_pool" s_law_pool f fd) (b : Binds K fd ["_law_script", "_law_k"] []) (gm : mg "_law_pool" = some (.ref f))  :
    Def P w K mg base 1 "_law_pool" ["_law_script", "_law_k"] (S_law_pool K) := ⟨f, fd, fo_law_pool B F , gm, F.kp, b⟩
abbrev s_law_take : Stmt := topS 13
abbrev N_law_take : List Str := ["_law_pool_here", "_law_many", "_law_digit"]
theorem sc_law_take : FnScope N_law_take ["_law_pool_here", "_law_many"] (defScope s_law_take) := ⟨rfl, rfl, rfl, by decide +kernel, rfl, by decide +kernel, by decide +kernel⟩
theorem fo_law_take {P : Program} {w : World} {K : PySem.W.Frag} {mg : Str → Option Value} {base : Heap} {f : Addr} {fd : FuncData} (B : Bs mg) (F : Fun K "_law_take" "_law_take" s_law_take f fd)  :
    FnOk P w K mg base (L2.CX P w) 1 f fd ["_law_pool_here", "_law_many"] (lift (S_law_take K)) := by
  refine fn_ok F sc_law_take (fun vs G M R Z h => sp_len2 h) (fun cdv A outer s H E hr => ?_)
  have nd : N_law_take.Nodup := sc_law_take.nd
  have hu : _ + 64 < cLine := hr.units
  have tk : Takes (cxOf (L2.CX P w) P w K mg base N_law_take "_law_take" (defScope s_law_take) f cdv A outer s H E) (fun c d _ H => E c d H) := takes_of rfl rfl rfl rfl
  have po : PassesOwn (model P w) _ _ _ := passes_of (X := cxOf (L2.CX P w) P w K mg base N_law_take "_law_take" (defScope s_law_take) f cdv A outer s H E) rfl
  exact ⟨rd_law_take K, jss_cons (js_if (jt_cmp (kop_gt) (je_ix (je_var 0) (je_int)) (je_int) (nomark _)) (jss_cons (js_set (i := 2) (je_op kop_mod (je_ix (je_var 0) (je_int)) (je_var 1)) nd) (jss_cons (js_asg (je_op kop_fdiv (je_ix (je_var 0) (je_int)) (je_var 1)) (jg_ix (je_var 0) (je_int))) (jss_cons (js_ret (je_var 2)) (jss_nil)))) (jss_nil)) (jss_cons (js_asg (je_op kop_mod (je_op kop_add (je_op kop_mul (je_ix (je_var 0) (je_int)) (je_int)) (je_int)) (je_int)) (jg_ix (je_var 0) (je_int))) (jss_cons (js_ret (je_op kop_mod (je_op kop_fdiv (je_op kop_mod (je_op kop_mul (je_ix (je_var 0) (je_int)) (je_ix (je_var 0) (je_int))) (je_int)) (je_int)) (je_var 1))) (jss_nil))), fun vs G M R Z h => pf_law_take h⟩
theorem df_law_take {P : Program} {w : World} {K : PySem.W.Frag} {mg : Str → Option Value} {base : Heap} {f : Addr} {fd : FuncData} (B : Bs mg) (F : Fun K "_law_take" "_law_take" s_law_take f fd) (b : Binds K fd ["_law_pool_here", "_law_many"] []) (gm : mg "_law_take" = some (.ref f))  :
    Def P w K mg base 1 "_law_take" ["_law_pool_here", "_law_many"] (S_law_take K) := ⟨f, fd, fo_law_take B F , gm, F.kp, b⟩
abbrev s_law_pair : Stmt := topS 14
abbrev N_law_pair : List Str := ["_law_pool_here", "_law_size", "_law_b"]
theorem sc_law_pair : FnScope N_law_pair ["_law_pool_here", "_law_size"] (defScope s_law_pair) := ⟨rfl, rfl, rfl, by decide +kernel, rfl, by decide +kernel, by decide +kernel⟩
theorem fo_law_pair {P : Program} {w : World} {K : PySem.W.Frag} {mg : Str → Option Value} {base : Heap} {f : Addr} {fd : FuncData} (B : Bs mg) (F : Fun K "_law_pair" "_law_pair" s_law_pair f fd) (D_law_take : Def P w K mg base 1 "_law_take" ["_law_pool_here", "_law_many"] (S_law_take K)) :
    FnOk P w K mg base (L2.CX P w) 2 f fd ["_law_pool_here", "_law_size"] (lift (S_law_pair K)) := by
  refine fn_ok F sc_law_pair (fun vs G M R Z h => sp_len2 h) (fun cdv A outer s H E hr => ?_)
  have nd : N_law_pair.Nodup := sc_law_pair.nd
  have hu : _ + 64 < cLine := hr.units
  have tk : Takes (cxOf (L2.CX P w) P w K mg base N_law_pair "_law_pair" (defScope s_law_pair) f cdv A outer s H E) (fun c d _ H => E c d H) := takes_of rfl rfl rfl rfl
  have po : PassesOwn (model P w) _ _ _ := passes_of (X := cxOf (L2.CX P w) P w K mg base N_law_pair "_law_pair" (defScope s_law_pair) f cdv A outer s H E) rfl
  exact ⟨rd_law_pair K, jss_cons (js_set (i := 2) (je_op kop_add (je_int) (je_callD D_law_take hr tk (ja_cons (je_var 0) (ja_cons (je_op kop_sub (je_var 1) (je_int)) (ja_nil))))) nd) (jss_cons (js_ret (je_tup (ja_cons (je_callD D_law_take hr tk (ja_cons (je_var 0) (ja_cons (je_var 2) (ja_nil)))) (ja_cons (je_var 2) (ja_nil))))) (jss_nil)), fun vs G M R Z h => pf_law_pair h⟩
theorem df_law_pair {P : Program} {w : World} {K : PySem.W.Frag} {mg : Str → Option Value} {base : Heap} {f : Addr} {fd : FuncData} (B : Bs mg) (F : Fun K "_law_pair" "_law_pair" s_law_pair f fd) (b : Binds K fd ["_law_pool_here", "_law_size"] []) (gm : mg "_law_pair" = some (.ref f)) (D_law_take : Def P w K mg base 1 "_law_take" ["_law_pool_here", "_law_many"] (S_law_take K)) :
    Def P w K mg base 2 "_law_pair" ["_law_pool_here", "_law_size"] (S_law_pair K) := ⟨f, fd, fo_law_pair B F D_law_take, gm, F.kp, b⟩
abbrev s_law_net : Stmt := topS 15
abbrev N_law_net : List Str := ["_law_pool_here", "_law_size", "_law_way", "_law_k", "_law_net_here", "_law_at"]
theorem sc_law_net : FnScope N_law_net ["_law_pool_here", "_law_size"] (defScope s_law_net) := ⟨rfl, rfl, rfl, by decide +kernel, rfl, by decide +kernel, by decide +kernel⟩
theorem fo_law_net {P : Program} {w : World} {K : PySem.W.Frag} {mg : Str → Option Value} {base : Heap} {f : Addr} {fd : FuncData} (B : Bs mg) (F : Fun K "_law_net" "_law_net" s_law_net f fd) (D_law_take : Def P w K mg base 1 "_law_take" ["_law_pool_here", "_law_many"] (S_law_take K)) (D_law_pair : Def P w K mg base 2 "_law_pair" ["_law_pool_here", "_law_size"] (S_law_pair K)) (D_net_of : Def P w K mg base 14 "net_of" ["size"] (S_net_of K)) :
    FnOk P w K mg base (L2.CX P w) 15 f fd ["_law_pool_here", "_law_size"] (lift (S_law_net K)) := by
  refine fn_ok F sc_law_net (fun vs G M R Z h => sp_len2 h) (fun cdv A outer s H E hr => ?_)
  have nd : N_law_net.Nodup := sc_law_net.nd
  have hu : _ + 64 < cLine := hr.units
  have tk : Takes (cxOf (L2.CX P w) P w K mg base N_law_net "_law_net" (defScope s_law_net) f cdv A outer s H E) (fun c d _ H => E c d H) := takes_of rfl rfl rfl rfl
  have po : PassesOwn (model P w) _ _ _ := passes_of (X := cxOf (L2.CX P w) P w K mg base N_law_net "_law_net" (defScope s_law_net) f cdv A outer s H E) rfl
  exact ⟨rd_law_net K, jss_cons (js_set (i := 2) (je_callD D_law_take hr tk (ja_cons (je_var 0) (ja_cons (je_int) (ja_nil)))) nd) (jss_cons (js_if (jt_cmp (kop_eq hu) (je_var 2) (je_int) (nomark _)) (jss_cons (js_ret (je_comp (own := [("_law_k", 3)]) rfl nd (ji_range1 B.range (ja_cons (je_callD D_law_take hr tk (ja_cons (je_var 0) (ja_cons (je_int) (ja_nil)))) (ja_nil))) (blkOk_by (own := [("_law_k", 3)]) (N := N_law_net) (sc := defScope s_law_net) (by decide +kernel)) (fun _ _ _ _ _ => by exact jg_name (i := 3) nd) (fun _ _ _ _ _ => by exact jts_nil) (fun _ _ _ _ _ => by exact je_callD D_law_pair hr takes0 (ja_cons (je_var 0) (ja_cons (je_var 1) (ja_nil)))))) (jss_nil)) (jss_nil)) (jss_cons (js_set (i := 4) (je_callD D_net_of hr tk (ja_cons (je_var 1) (ja_nil))) nd) (jss_cons (js_if (jt_cmp (kop_gt) (je_var 2) (je_int) (nomark _)) (jss_cons (js_set (i := 4) (je_op kop_mul (je_comp (own := [("_law_k", 3)]) rfl nd (ji_range1 B.range (ja_cons (je_op kop_sub (je_var 1) (je_int)) (ja_nil))) (blkOk_by (own := [("_law_k", 3)]) (N := N_law_net) (sc := defScope s_law_net) (by decide +kernel)) (fun _ _ _ _ _ => by exact jg_name (i := 3) nd) (fun _ _ _ _ _ => by exact jts_nil) (fun _ _ _ _ _ => by exact je_tup (ja_cons (je_var 3) (ja_cons (je_op kop_add (je_var 3) (je_int)) (ja_nil))))) (je_var 1)) nd) (jss_nil)) (jss_nil)) (jss_cons (js_for po rfl (ji_range1 B.range (ja_cons (je_callD D_law_take hr tk (ja_cons (je_var 0) (ja_cons (je_int) (ja_nil)))) (ja_nil))) (jg_name (i := 3) nd) (jss_cons (js_set (i := 5) (je_callD D_law_take hr tk (ja_cons (je_var 0) (ja_cons (je_op kop_add (je_callB kc_len B.len (ja_cons (je_var 4) (ja_nil))) (je_int)) (ja_nil)))) nd) (jss_cons (js_set (i := 4) (je_op kop_add (je_op kop_add (je_slice (je_var 4) (jo_none) (jo_some (je_var 5))) (je_ix (je_lst (ja_cons (je_lst (ja_cons (je_callD D_law_pair hr tk (ja_cons (je_var 0) (ja_cons (je_var 1) (ja_nil)))) (ja_nil))) (ja_cons (je_lst (ja_nil)) (ja_nil)))) (je_op kop_mod (je_var 2) (je_int)))) (je_slice (je_var 4) (jo_some (je_op kop_add (je_var 5) (je_op kop_mod (je_var 2) (je_int)))) (jo_none))) nd) (jss_nil)))) (jss_cons (js_ret (je_var 4)) (jss_nil)))))), fun vs G M R Z h => pf_law_net h⟩
theorem df_law_net {P : Program} {w : World} {K : PySem.W.Frag} {mg : Str → Option Value} {base : Heap} {f : Addr} {fd : FuncData} (B : Bs mg) (F : Fun K "_law_net" "_law_net" s_law_net f fd) (b : Binds K fd ["_law_pool_here", "_law_size"] []) (gm : mg "_law_net" = some (.ref f)) (D_law_take : Def P w K mg base 1 "_law_take" ["_law_pool_here", "_law_many"] (S_law_take K)) (D_law_pair : Def P w K mg base 2 "_law_pair" ["_law_pool_here", "_law_size"] (S_law_pair K)) (D_net_of : Def P w K mg base 14 "net_of" ["size"] (S_net_of K)) :
    Def P w K mg base 15 "_law_net" ["_law_pool_here", "_law_size"] (S_law_net K) := ⟨f, fd, fo_law_net B F D_law_take D_law_pair D_net_of, gm, F.kp, b⟩
abbrev s_law_missed : Stmt := topS 16
abbrev N_law_missed : List Str := ["_law_size", "_law_net_here", "_law_number", "_law_row", "_law_k"]
theorem sc_law_missed : FnScope N_law_missed ["_law_size", "_law_net_here"] (defScope s_law_missed) := ⟨rfl, rfl, rfl, by decide +kernel, rfl, by decide +kernel, by decide +kernel⟩
theorem fo_law_missed {P : Program} {w : World} {K : PySem.W.Frag} {mg : Str → Option Value} {base : Heap} {f : Addr} {fd : FuncData} (B : Bs mg) (F : Fun K "_law_missed" "_law_missed" s_law_missed f fd) (D_run_net : Def P w K mg base 1 "run_net" ["net", "row"] (S_run_net K)) :
    FnOk P w K mg base (L2.CX P w) 2 f fd ["_law_size", "_law_net_here"] (lift (S_law_missed K)) := by
  refine fn_ok F sc_law_missed (fun vs G M R Z h => sp_len2 h) (fun cdv A outer s H E hr => ?_)
  have nd : N_law_missed.Nodup := sc_law_missed.nd
  have hu : _ + 64 < cLine := hr.units
  have tk : Takes (cxOf (L2.CX P w) P w K mg base N_law_missed "_law_missed" (defScope s_law_missed) f cdv A outer s H E) (fun c d _ H => E c d H) := takes_of rfl rfl rfl rfl
  have po : PassesOwn (model P w) _ _ _ := passes_of (X := cxOf (L2.CX P w) P w K mg base N_law_missed "_law_missed" (defScope s_law_missed) f cdv A outer s H E) rfl
  exact ⟨rd_law_missed K, jss_cons (js_for po rfl (ji_range1 B.range (ja_cons (je_op kop_shl (je_int) (je_var 0)) (ja_nil))) (jg_name (i := 2) nd) (jss_cons (js_setComp (own := [("_law_k", 4)]) (i := 3) rfl nd (sw_true rfl rfl rfl (by decide +kernel)) (ji_range1 B.range (ja_cons (je_var 0) (ja_nil))) (blkOk_by (own := [("_law_k", 4)]) (N := N_law_missed) (sc := defScope s_law_missed) (by decide +kernel)) (fun _ _ _ _ _ => by exact jg_name (i := 4) nd) (fun _ _ _ _ _ => by exact jts_nil) (fun _ _ _ _ _ => by exact je_op kop_mod (je_op kop_fdiv (je_var 2) (je_op kop_shl (je_int) (je_var 4))) (je_int))) (jss_cons (js_if (jt_cmp (kop_ne hu) (je_callD D_run_net hr tk (ja_cons (je_var 1) (ja_cons (je_var 3) (ja_nil)))) (je_callB kc_sorted B.sorted (ja_cons (je_var 3) (ja_nil))) (nomark _)) (jss_cons (js_ret (je_bl)) (jss_nil)) (jss_nil)) (jss_nil)))) (jss_cons (js_ret (je_bl)) (jss_nil)), fun vs G M R Z h => pf_law_missed h⟩
theorem df_law_missed {P : Program} {w : World} {K : PySem.W.Frag} {mg : Str → Option Value} {base : Heap} {f : Addr} {fd : FuncData} (B : Bs mg) (F : Fun K "_law_missed" "_law_missed" s_law_missed f fd) (b : Binds K fd ["_law_size", "_law_net_here"] []) (gm : mg "_law_missed" = some (.ref f)) (D_run_net : Def P w K mg base 1 "run_net" ["net", "row"] (S_run_net K)) :
    Def P w K mg base 2 "_law_missed" ["_law_size", "_law_net_here"] (S_law_missed K) := ⟨f, fd, fo_law_missed B F D_run_net, gm, F.kp, b⟩
abbrev s_law_right : Stmt := topS 17
abbrev N_law_right : List Str := ["_law_pool_here", "_law_size", "_law_net_here", "_law_found", "_law_least", "_law_many", "_law_row", "_law_k"]
theorem sc_law_right : FnScope N_law_right ["_law_pool_here"] (defScope s_law_right) := ⟨rfl, rfl, rfl, by decide +kernel, rfl, by decide +kernel, by decide +kernel⟩
theorem fo_law_right {P : Program} {w : World} {K : PySem.W.Frag} {mg : Str → Option Value} {base : Heap} {f : Addr} {fd : FuncData} (B : Bs mg) (F : Fun K "_law_right" "_law_right" s_law_right f fd) (D_law_take : Def P w K mg base 1 "_law_take" ["_law_pool_here", "_law_many"] (S_law_take K)) (D_law_net : Def P w K mg base 15 "_law_net" ["_law_pool_here", "_law_size"] (S_law_net K)) (D_sorts : Def P w K mg base 4 "sorts" ["size", "thing"] (S_sorts K)) (D_law_missed : Def P w K mg base 2 "_law_missed" ["_law_size", "_law_net_here"] (S_law_missed K)) (D_run_net : Def P w K mg base 1 "run_net" ["net", "row"] (S_run_net K)) (D_law_pair : Def P w K mg base 2 "_law_pair" ["_law_pool_here", "_law_size"] (S_law_pair K)) :
    FnOk P w K mg base (L2.CX P w) 16 f fd ["_law_pool_here"] (lift (S_law_right K)) := by
  refine fn_ok F sc_law_right (fun vs G M R Z h => sp_len1 h) (fun cdv A outer s H E hr => ?_)
  have nd : N_law_right.Nodup := sc_law_right.nd
  have hu : _ + 64 < cLine := hr.units
  have tk : Takes (cxOf (L2.CX P w) P w K mg base N_law_right "_law_right" (defScope s_law_right) f cdv A outer s H E) (fun c d _ H => E c d H) := takes_of rfl rfl rfl rfl
  have po : PassesOwn (model P w) _ _ _ := passes_of (X := cxOf (L2.CX P w) P w K mg base N_law_right "_law_right" (defScope s_law_right) f cdv A outer s H E) rfl
  exact ⟨rd_law_right K, jss_cons (js_set (i := 1) (je_op kop_add (je_int) (je_callD D_law_take hr tk (ja_cons (je_var 0) (ja_cons (je_int) (ja_nil))))) nd) (jss_cons (js_set (i := 2) (je_callD D_law_net hr tk (ja_cons (je_var 0) (ja_cons (je_var 1) (ja_nil)))) nd) (jss_cons (js_set (i := 3) (je_callD D_sorts hr tk (ja_cons (je_var 1) (ja_cons (je_var 2) (ja_nil)))) nd) (jss_cons (js_if (jt_cmp (kop_is2) (je_var 3) (je_bl) (nomark _)) (jss_cons (js_ret (je_callD D_law_missed hr tk (ja_cons (je_var 1) (ja_cons (je_var 2) (ja_nil))))) (jss_nil)) (jss_nil)) (jss_cons (js_for po rfl (ji_list (je_lst (ja_cons (je_tup (ja_cons (je_neg (je_int)) (ja_cons (je_int) (ja_nil)))) (ja_cons (je_tup (ja_cons (je_neg (je_op kop_pow (je_int) (je_int))) (ja_cons (je_op kop_add (je_op kop_mul (je_int) (je_op kop_pow (je_int) (je_int))) (je_int)) (ja_nil)))) (ja_cons (je_tup (ja_cons (je_int) (ja_cons (je_int) (ja_nil)))) (ja_nil)))))) (jg_tup rfl (jgs_cons (jg_name (i := 4) nd) (jgs_cons (jg_name (i := 5) nd) (jgs_nil)))) (jss_cons (js_setComp (own := [("_law_k", 7)]) (i := 6) rfl nd (sw_true rfl rfl rfl (by decide +kernel)) (ji_range1 B.range (ja_cons (je_var 1) (ja_nil))) (blkOk_by (own := [("_law_k", 7)]) (N := N_law_right) (sc := defScope s_law_right) (by decide +kernel)) (fun _ _ _ _ _ => by exact jg_name (i := 7) nd) (fun _ _ _ _ _ => by exact jts_nil) (fun _ _ _ _ _ => by exact je_op kop_add (je_var 4) (je_callD D_law_take hr takes0 (ja_cons (je_var 0) (ja_cons (je_var 5) (ja_nil)))))) (jss_cons (js_if (jt_cmp (kop_ne hu) (je_callD D_run_net hr tk (ja_cons (je_var 2) (ja_cons (je_var 6) (ja_nil)))) (je_callB kc_sorted B.sorted (ja_cons (je_var 6) (ja_nil))) (nomark _)) (jss_cons (js_ret (je_bl)) (jss_nil)) (jss_nil)) (jss_nil)))) (jss_cons (js_ret (je_and (je_cmp (kop_is2) (je_var 3) (je_bl) (nomark _)) (je_one (je_cmp (kop_is2) (je_callD D_sorts hr tk (ja_cons (je_var 1) (ja_cons (je_op kop_add (je_var 2) (je_lst (ja_cons (je_callD D_law_pair hr tk (ja_cons (je_var 0) (ja_cons (je_var 1) (ja_nil)))) (ja_nil)))) (ja_nil)))) (je_bl) (nomark _))))) (jss_nil)))))), fun vs G M R Z h => pf_law_right h⟩
theorem df_law_right {P : Program} {w : World} {K : PySem.W.Frag} {mg : Str → Option Value} {base : Heap} {f : Addr} {fd : FuncData} (B : Bs mg) (F : Fun K "_law_right" "_law_right" s_law_right f fd) (b : Binds K fd ["_law_pool_here"] []) (gm : mg "_law_right" = some (.ref f)) (D_law_take : Def P w K mg base 1 "_law_take" ["_law_pool_here", "_law_many"] (S_law_take K)) (D_law_net : Def P w K mg base 15 "_law_net" ["_law_pool_here", "_law_size"] (S_law_net K)) (D_sorts : Def P w K mg base 4 "sorts" ["size", "thing"] (S_sorts K)) (D_law_missed : Def P w K mg base 2 "_law_missed" ["_law_size", "_law_net_here"] (S_law_missed K)) (D_run_net : Def P w K mg base 1 "run_net" ["net", "row"] (S_run_net K)) (D_law_pair : Def P w K mg base 2 "_law_pair" ["_law_pool_here", "_law_size"] (S_law_pair K)) :
    Def P w K mg base 16 "_law_right" ["_law_pool_here"] (S_law_right K) := ⟨f, fd, fo_law_right B F D_law_take D_law_net D_sorts D_law_missed D_run_net D_law_pair, gm, F.kp, b⟩
abbrev s_law : Stmt := topS 18
abbrev N_law : List Str := ["_law_script", "_law_k", "_law_size", "_law_net_here"]
theorem sc_law : FnScope N_law ["_law_script"] (defScope s_law) := ⟨rfl, rfl, rfl, by decide +kernel, rfl, by decide +kernel, by decide +kernel⟩
theorem fo_law {P : Program} {w : World} {K : PySem.W.Frag} {mg : Str → Option Value} {base : Heap} {f : Addr} {fd : FuncData} (B : Bs mg) (F : Fun K "law" "law" s_law f fd) (D_law_pool : Def P w K mg base 1 "_law_pool" ["_law_script", "_law_k"] (S_law_pool K)) (D_law_right : Def P w K mg base 16 "_law_right" ["_law_pool_here"] (S_law_right K)) (D_net_of : Def P w K mg base 14 "net_of" ["size"] (S_net_of K)) (D_sorts : Def P w K mg base 4 "sorts" ["size", "thing"] (S_sorts K)) (D_law_missed : Def P w K mg base 2 "_law_missed" ["_law_size", "_law_net_here"] (S_law_missed K)) :
    FnOk P w K mg base (L2.CX P w) 17 f fd ["_law_script"] (lift (S_law K)) := by
  refine fn_ok F sc_law (fun vs G M R Z h => sp_len1 h) (fun cdv A outer s H E hr => ?_)
  have nd : N_law.Nodup := sc_law.nd
  have hu : _ + 64 < cLine := hr.units
  have tk : Takes (cxOf (L2.CX P w) P w K mg base N_law "law" (defScope s_law) f cdv A outer s H E) (fun c d _ H => E c d H) := takes_of rfl rfl rfl rfl
  have po : PassesOwn (model P w) _ _ _ := passes_of (X := cxOf (L2.CX P w) P w K mg base N_law "law" (defScope s_law) f cdv A outer s H E) rfl
  exact ⟨rd_law K, jss_cons (js_for po rfl (ji_range1 B.range (ja_cons (je_op kop_add (je_callB kc_min2 B.min (ja_cons (je_callB kc_len B.len (ja_cons (je_var 0) (ja_nil))) (ja_cons (je_int) (ja_nil)))) (je_int)) (ja_nil))) (jg_name (i := 1) nd) (jss_cons (js_if (jt_not (jt_val (je_callD D_law_right hr tk (ja_cons (je_callD D_law_pool hr tk (ja_cons (je_var 0) (ja_cons (je_var 1) (ja_nil)))) (ja_nil))))) (jss_cons (js_ret (je_bl)) (jss_nil)) (jss_nil)) (jss_nil))) (jss_cons (js_set (i := 2) (je_op kop_add (je_int) (je_op kop_mod (je_callB kc_len B.len (ja_cons (je_var 0) (ja_nil))) (je_int))) nd) (jss_cons (js_set (i := 3) (je_ix (je_lst (ja_cons (je_slice (je_callD D_net_of hr tk (ja_cons (je_var 2) (ja_nil))) (jo_some (je_int)) (jo_none)) (ja_cons (je_slice (je_callD D_net_of hr tk (ja_cons (je_var 2) (ja_nil))) (jo_none) (jo_some (je_neg (je_int)))) (ja_nil)))) (je_op kop_mod (je_op kop_fdiv (je_callB kc_len B.len (ja_cons (je_var 0) (ja_nil))) (je_int)) (je_int))) nd) (jss_cons (js_if (jt_cmp (kop_eq hu) (je_callD D_sorts hr tk (ja_cons (je_var 2) (ja_cons (je_var 3) (ja_nil)))) (je_callD D_law_missed hr tk (ja_cons (je_var 2) (ja_cons (je_var 3) (ja_nil)))) (nomark _)) (jss_cons (js_ret (je_bl)) (jss_nil)) (jss_nil)) (jss_cons (js_ret (je_and (je_cmp (kop_is2) (je_callD D_sorts hr tk (ja_cons (je_int) (ja_cons (je_callD D_net_of hr tk (ja_cons (je_int) (ja_nil))) (ja_nil)))) (je_bl) (nomark _)) (je_and (je_cmp (kop_is2) (je_callD D_sorts hr tk (ja_cons (je_int) (ja_cons (je_op kop_mul (je_callD D_net_of hr tk (ja_cons (je_int) (ja_nil))) (je_int)) (ja_nil)))) (je_bl) (nomark _)) (je_one (je_cmp (kop_is2) (je_callD D_sorts hr tk (ja_cons (je_int) (ja_cons (je_lst (ja_nil)) (ja_nil)))) (je_bl) (nomark _)))))) (jss_nil))))), fun vs G M R Z h => pf_law h⟩
theorem df_law {P : Program} {w : World} {K : PySem.W.Frag} {mg : Str → Option Value} {base : Heap} {f : Addr} {fd : FuncData} (B : Bs mg) (F : Fun K "law" "law" s_law f fd) (b : Binds K fd ["_law_script"] []) (gm : mg "law" = some (.ref f)) (D_law_pool : Def P w K mg base 1 "_law_pool" ["_law_script", "_law_k"] (S_law_pool K)) (D_law_right : Def P w K mg base 16 "_law_right" ["_law_pool_here"] (S_law_right K)) (D_net_of : Def P w K mg base 14 "net_of" ["size"] (S_net_of K)) (D_sorts : Def P w K mg base 4 "sorts" ["size", "thing"] (S_sorts K)) (D_law_missed : Def P w K mg base 2 "_law_missed" ["_law_size", "_law_net_here"] (S_law_missed K)) :
    Def P w K mg base 17 "law" ["_law_script"] (S_law K) := ⟨f, fd, fo_law B F D_law_pool D_law_right D_net_of D_sorts D_law_missed, gm, F.kp, b⟩
theorem all_mk {l : PySem.W.OpenLaw} {w : World} {K : PySem.W.Frag} {h : Heap} {mg : Str → Option Value} {fa f0 f1 f2 f3 f4 f5 f6 f7 f8 f9 f10 f11 f12 f13 f14 f15 : Addr} (X : K.In h) (G : h.Ns mainGlobals mg) (hfa : mg "law" = some (.ref fa))
    {od0 an0 od1 an1 od2 an2 od3 an3 od4 an4 od5 an5 od6 an6 od7 an7 od8 an8 od9 an9 od10 an10 od11 an11 od12 an12 od13 an13 od14 an14 od15 an15 : Option Addr} {sl0 sl1 sl2 sl3 sl4 sl5 sl6 sl7 sl8 sl9 sl10 sl11 sl12 sl13 sl14 sl15 : Array (Option Value)} {oc0 kV0 dc0 pm0 cd0 ct0 oc1 kV1 dc1 pm1 cd1 ct1 oc2 kV2 dc2 pm2 cd2 ct2 oc3 kV3 dc3 pm3 cd3 ct3 oc4 kV4 dc4 pm4 cd4 ct4 oc5 kV5 dc5 pm5 cd5 ct5 oc6 kV6 dc6 pm6 cd6 ct6 oc7 kV7 dc7 pm7 cd7 ct7 oc8 kV8 dc8 pm8 cd8 ct8 oc9 kV9 dc9 pm9 cd9 ct9 oc10 kV10 dc10 pm10 cd10 ct10 oc11 kV11 dc11 pm11 cd11 ct11 oc12 kV12 dc12 pm12 cd12 ct12 oc13 kV13 dc13 pm13 cd13 ct13 oc14 kV14 dc14 pm14 cd14 ct14 oc15 kV15 dc15 pm15 cd15 ct15 : Value}
    (a0 : PySem.W.nsIn K mainGlobals "is_whole" = some (some (.ref f0))) (l0 : K.lookup f0 = some ⟨oc0, od0, .func (PySem.W.fnOf "is_whole" "is_whole" (defArgs s_is_whole) (defBody s_is_whole) (defScope s_is_whole) .none kV0 dc0 pm0 an0 cd0 ct0), sl0⟩) (c0 : PySem.W.codeIn K cd0 "is_whole" = true) (k0 : PySem.W.keepIn K (.ref f0) = true)
    (a1 : PySem.W.nsIn K mainGlobals "is_within" = some (some (.ref f1))) (l1 : K.lookup f1 = some ⟨oc1, od1, .func (PySem.W.fnOf "is_within" "is_within" (defArgs s_is_within) (defBody s_is_within) (defScope s_is_within) .none kV1 dc1 pm1 an1 cd1 ct1), sl1⟩) (c1 : PySem.W.codeIn K cd1 "is_within" = true) (k1 : PySem.W.keepIn K (.ref f1) = true)
    (a2 : PySem.W.nsIn K mainGlobals "run_net" = some (some (.ref f2))) (l2 : K.lookup f2 = some ⟨oc2, od2, .func (PySem.W.fnOf "run_net" "run_net" (defArgs s_run_net) (defBody s_run_net) (defScope s_run_net) .none kV2 dc2 pm2 an2 cd2 ct2), sl2⟩) (c2 : PySem.W.codeIn K cd2 "run_net" = true) (k2 : PySem.W.keepIn K (.ref f2) = true)
    (a3 : PySem.W.nsIn K mainGlobals "joining" = some (some (.ref f3))) (l3 : K.lookup f3 = some ⟨oc3, od3, .func (PySem.W.fnOf "joining" "joining" (defArgs s_joining) (defBody s_joining) (defScope s_joining) .none kV3 dc3 pm3 an3 cd3 ct3), sl3⟩) (c3 : PySem.W.codeIn K cd3 "joining" = true) (k3 : PySem.W.keepIn K (.ref f3) = true)
    (a4 : PySem.W.nsIn K mainGlobals "sorting" = some (some (.ref f4))) (l4 : K.lookup f4 = some ⟨oc4, od4, .func (PySem.W.fnOf "sorting" "sorting" (defArgs s_sorting) (defBody s_sorting) (defScope s_sorting) .none kV4 dc4 pm4 an4 cd4 ct4), sl4⟩) (c4 : PySem.W.codeIn K cd4 "sorting" = true) (k4 : PySem.W.keepIn K (.ref f4) = true)
    (a5 : PySem.W.nsIn K mainGlobals "net_of" = some (some (.ref f5))) (l5 : K.lookup f5 = some ⟨oc5, od5, .func (PySem.W.fnOf "net_of" "net_of" (defArgs s_net_of) (defBody s_net_of) (defScope s_net_of) .none kV5 dc5 pm5 an5 cd5 ct5), sl5⟩) (c5 : PySem.W.codeIn K cd5 "net_of" = true) (k5 : PySem.W.keepIn K (.ref f5) = true)
    (a6 : PySem.W.nsIn K mainGlobals "is_pair" = some (some (.ref f6))) (l6 : K.lookup f6 = some ⟨oc6, od6, .func (PySem.W.fnOf "is_pair" "is_pair" (defArgs s_is_pair) (defBody s_is_pair) (defScope s_is_pair) .none kV6 dc6 pm6 an6 cd6 ct6), sl6⟩) (c6 : PySem.W.codeIn K cd6 "is_pair" = true) (k6 : PySem.W.keepIn K (.ref f6) = true)
    (a7 : PySem.W.nsIn K mainGlobals "rows_of" = some (some (.ref f7))) (l7 : K.lookup f7 = some ⟨oc7, od7, .func (PySem.W.fnOf "rows_of" "rows_of" (defArgs s_rows_of) (defBody s_rows_of) (defScope s_rows_of) .none kV7 dc7 pm7 an7 cd7 ct7), sl7⟩) (c7 : PySem.W.codeIn K cd7 "rows_of" = true) (k7 : PySem.W.keepIn K (.ref f7) = true)
    (a8 : PySem.W.nsIn K mainGlobals "sorts" = some (some (.ref f8))) (l8 : K.lookup f8 = some ⟨oc8, od8, .func (PySem.W.fnOf "sorts" "sorts" (defArgs s_sorts) (defBody s_sorts) (defScope s_sorts) .none kV8 dc8 pm8 an8 cd8 ct8), sl8⟩) (c8 : PySem.W.codeIn K cd8 "sorts" = true) (k8 : PySem.W.keepIn K (.ref f8) = true)
    (a9 : PySem.W.nsIn K mainGlobals "_law_pool" = some (some (.ref f9))) (l9 : K.lookup f9 = some ⟨oc9, od9, .func (PySem.W.fnOf "_law_pool" "_law_pool" (defArgs s_law_pool) (defBody s_law_pool) (defScope s_law_pool) .none kV9 dc9 pm9 an9 cd9 ct9), sl9⟩) (c9 : PySem.W.codeIn K cd9 "_law_pool" = true) (k9 : PySem.W.keepIn K (.ref f9) = true)
    (a10 : PySem.W.nsIn K mainGlobals "_law_take" = some (some (.ref f10))) (l10 : K.lookup f10 = some ⟨oc10, od10, .func (PySem.W.fnOf "_law_take" "_law_take" (defArgs s_law_take) (defBody s_law_take) (defScope s_law_take) .none kV10 dc10 pm10 an10 cd10 ct10), sl10⟩) (c10 : PySem.W.codeIn K cd10 "_law_take" = true) (k10 : PySem.W.keepIn K (.ref f10) = true)
    (a11 : PySem.W.nsIn K mainGlobals "_law_pair" = some (some (.ref f11))) (l11 : K.lookup f11 = some ⟨oc11, od11, .func (PySem.W.fnOf "_law_pair" "_law_pair" (defArgs s_law_pair) (defBody s_law_pair) (defScope s_law_pair) .none kV11 dc11 pm11 an11 cd11 ct11), sl11⟩) (c11 : PySem.W.codeIn K cd11 "_law_pair" = true) (k11 : PySem.W.keepIn K (.ref f11) = true)
    (a12 : PySem.W.nsIn K mainGlobals "_law_net" = some (some (.ref f12))) (l12 : K.lookup f12 = some ⟨oc12, od12, .func (PySem.W.fnOf "_law_net" "_law_net" (defArgs s_law_net) (defBody s_law_net) (defScope s_law_net) .none kV12 dc12 pm12 an12 cd12 ct12), sl12⟩) (c12 : PySem.W.codeIn K cd12 "_law_net" = true) (k12 : PySem.W.keepIn K (.ref f12) = true)
    (a13 : PySem.W.nsIn K mainGlobals "_law_missed" = some (some (.ref f13))) (l13 : K.lookup f13 = some ⟨oc13, od13, .func (PySem.W.fnOf "_law_missed" "_law_missed" (defArgs s_law_missed) (defBody s_law_missed) (defScope s_law_missed) .none kV13 dc13 pm13 an13 cd13 ct13), sl13⟩) (c13 : PySem.W.codeIn K cd13 "_law_missed" = true) (k13 : PySem.W.keepIn K (.ref f13) = true)
    (a14 : PySem.W.nsIn K mainGlobals "_law_right" = some (some (.ref f14))) (l14 : K.lookup f14 = some ⟨oc14, od14, .func (PySem.W.fnOf "_law_right" "_law_right" (defArgs s_law_right) (defBody s_law_right) (defScope s_law_right) .none kV14 dc14 pm14 an14 cd14 ct14), sl14⟩) (c14 : PySem.W.codeIn K cd14 "_law_right" = true) (k14 : PySem.W.keepIn K (.ref f14) = true)
    (a15 : PySem.W.nsIn K mainGlobals "law" = some (some (.ref f15))) (l15 : K.lookup f15 = some ⟨oc15, od15, .func (PySem.W.fnOf "law" "law" (defArgs s_law) (defBody s_law) (defScope s_law) .none kV15 dc15 pm15 an15 cd15 ct15), sl15⟩) (c15 : PySem.W.codeIn K cd15 "law" = true) (k15 : PySem.W.keepIn K (.ref f15) = true)
    (z_all : PySem.W.nsIn K mainGlobals "all" = some none)
    (z_bool : PySem.W.nsIn K mainGlobals "bool" = some none)
    (z_int : PySem.W.nsIn K mainGlobals "int" = some none)
    (z_isinstance : PySem.W.nsIn K mainGlobals "isinstance" = some none)
    (z_len : PySem.W.nsIn K mainGlobals "len" = some none)
    (z_list : PySem.W.nsIn K mainGlobals "list" = some none)
    (z_min : PySem.W.nsIn K mainGlobals "min" = some none)
    (z_range : PySem.W.nsIn K mainGlobals "range" = some none)
    (z_sorted : PySem.W.nsIn K mainGlobals "sorted" = some none)
    (z_tuple : PySem.W.nsIn K mainGlobals "tuple" = some none)
    : ∃ fd : FuncData, (∀ (s : Shared) (v : Value), BindsTo s fd ⟨[v], []⟩ [("_law_script", v)]) ∧ ∀ base : Heap, K.In base → base.Ns mainGlobals mg → FnOk l.prog w K mg base (L2.CX l.prog w) 17 fa fd ["_law_script"] (lift (S_law K)) := by
  have e := hfa.symm.trans (PySem.W.mg_of X G a15)
  cases e
  have B : Bs mg := ⟨PySem.W.mg_none_of X G z_all, PySem.W.mg_none_of X G z_bool, PySem.W.mg_none_of X G z_int, PySem.W.mg_none_of X G z_isinstance, PySem.W.mg_none_of X G z_len, PySem.W.mg_none_of X G z_list, PySem.W.mg_none_of X G z_min, PySem.W.mg_none_of X G z_range, PySem.W.mg_none_of X G z_sorted, PySem.W.mg_none_of X G z_tuple⟩
  have F0 := fun_mk (st := s_is_whole) l0 c0 k0
  have b0 := F0.binds (ps := ["thing"]) fun _ _ _ _ _ _ us hl => match us, hl with | [_], _ => rfl
  have F1 := fun_mk (st := s_is_within) l1 c1 k1
  have b1 := F1.binds (ps := ["thing", "least", "most"]) fun _ _ _ _ _ _ us hl => match us, hl with | [_, _, _], _ => rfl
  have F2 := fun_mk (st := s_run_net) l2 c2 k2
  have b2 := F2.binds (ps := ["net", "row"]) fun _ _ _ _ _ _ us hl => match us, hl with | [_, _], _ => rfl
  have F3 := fun_mk (st := s_joining) l3 c3 k3
  have b3 := F3.binds (ps := ["first", "width", "step"]) fun _ _ _ _ _ _ us hl => match us, hl with | [_, _, _], _ => rfl
  have F4 := fun_mk (st := s_sorting) l4 c4 k4
  have b4 := F4.binds (ps := ["first", "width"]) fun _ _ _ _ _ _ us hl => match us, hl with | [_, _], _ => rfl
  have F5 := fun_mk (st := s_net_of) l5 c5 k5
  have b5 := F5.binds (ps := ["size"]) fun _ _ _ _ _ _ us hl => match us, hl with | [_], _ => rfl
  have F6 := fun_mk (st := s_is_pair) l6 c6 k6
  have b6 := F6.binds (ps := ["size", "thing"]) fun _ _ _ _ _ _ us hl => match us, hl with | [_, _], _ => rfl
  have F7 := fun_mk (st := s_rows_of) l7 c7 k7
  have b7 := F7.binds (ps := ["size"]) fun _ _ _ _ _ _ us hl => match us, hl with | [_], _ => rfl
  have F8 := fun_mk (st := s_sorts) l8 c8 k8
  have b8 := F8.binds (ps := ["size", "thing"]) fun _ _ _ _ _ _ us hl => match us, hl with | [_, _], _ => rfl
  have F9 := fun_mk (st := s_law_pool) l9 c9 k9
  have b9 := F9.binds (ps := ["_law_script", "_law_k"]) fun _ _ _ _ _ _ us hl => match us, hl with | [_, _], _ => rfl
  have F10 := fun_mk (st := s_law_take) l10 c10 k10
  have b10 := F10.binds (ps := ["_law_pool_here", "_law_many"]) fun _ _ _ _ _ _ us hl => match us, hl with | [_, _], _ => rfl
  have F11 := fun_mk (st := s_law_pair) l11 c11 k11
  have b11 := F11.binds (ps := ["_law_pool_here", "_law_size"]) fun _ _ _ _ _ _ us hl => match us, hl with | [_, _], _ => rfl
  have F12 := fun_mk (st := s_law_net) l12 c12 k12
  have b12 := F12.binds (ps := ["_law_pool_here", "_law_size"]) fun _ _ _ _ _ _ us hl => match us, hl with | [_, _], _ => rfl
  have F13 := fun_mk (st := s_law_missed) l13 c13 k13
  have b13 := F13.binds (ps := ["_law_size", "_law_net_here"]) fun _ _ _ _ _ _ us hl => match us, hl with | [_, _], _ => rfl
  have F14 := fun_mk (st := s_law_right) l14 c14 k14
  have b14 := F14.binds (ps := ["_law_pool_here"]) fun _ _ _ _ _ _ us hl => match us, hl with | [_], _ => rfl
  have F15 := fun_mk (st := s_law) l15 c15 k15
  have b15 := F15.binds (ps := ["_law_script"]) fun _ _ _ _ _ _ us hl => match us, hl with | [_], _ => rfl
  refine ⟨PySem.W.fnOf "law" "law" (defArgs s_law) (defBody s_law) (defScope s_law) .none kV15 dc15 pm15 an15 cd15 ct15, fun s v => .of_eq rfl, fun base _ _ => ?_⟩
  have D_is_whole := df_is_whole (P := l.prog) (w := w) (base := base) B F0 b0 (PySem.W.mg_of X G a0) 
  have D_is_within := df_is_within (P := l.prog) (w := w) (base := base) B F1 b1 (PySem.W.mg_of X G a1) D_is_whole
  have D_run_net := df_run_net (P := l.prog) (w := w) (base := base) B F2 b2 (PySem.W.mg_of X G a2) 
  have D_joining := df_joining (P := l.prog) (w := w) (base := base) B F3 b3 (PySem.W.mg_of X G a3)  6
  have D_sorting := df_sorting (P := l.prog) (w := w) (base := base) B F4 b4 (PySem.W.mg_of X G a4) D_joining 7
  have D_net_of := df_net_of (P := l.prog) (w := w) (base := base) B F5 b5 (PySem.W.mg_of X G a5) D_sorting
  have D_is_pair := df_is_pair (P := l.prog) (w := w) (base := base) B F6 b6 (PySem.W.mg_of X G a6) D_is_within
  have D_rows_of := df_rows_of (P := l.prog) (w := w) (base := base) B F7 b7 (PySem.W.mg_of X G a7) 
  have D_sorts := df_sorts (P := l.prog) (w := w) (base := base) B F8 b8 (PySem.W.mg_of X G a8) D_is_pair D_rows_of D_run_net
  have D_law_pool := df_law_pool (P := l.prog) (w := w) (base := base) B F9 b9 (PySem.W.mg_of X G a9) 
  have D_law_take := df_law_take (P := l.prog) (w := w) (base := base) B F10 b10 (PySem.W.mg_of X G a10) 
  have D_law_pair := df_law_pair (P := l.prog) (w := w) (base := base) B F11 b11 (PySem.W.mg_of X G a11) D_law_take
  have D_law_net := df_law_net (P := l.prog) (w := w) (base := base) B F12 b12 (PySem.W.mg_of X G a12) D_law_take D_law_pair D_net_of
  have D_law_missed := df_law_missed (P := l.prog) (w := w) (base := base) B F13 b13 (PySem.W.mg_of X G a13) D_run_net
  have D_law_right := df_law_right (P := l.prog) (w := w) (base := base) B F14 b14 (PySem.W.mg_of X G a14) D_law_take D_law_net D_sorts D_law_missed D_run_net D_law_pair
  exact fo_law (P := l.prog) (w := w) (base := base) B F15 D_law_pool D_law_right D_net_of D_sorts D_law_missed
end BT
open PySem PySem.W PyProof.Rows
set_option maxHeartbeats 0 in
theorem PySem.Challenge.cw_blindtouch_k24_whole_let_by_and_sorts_holds : PySem.Challenge.rw_blindtouch_k24_whole_let_by_and_sorts.Holds := by
  w_on; o_law; k_head; (case hw => w_witness2)
  k_fill
  refine L2.walk_of (l := PySem.Challenge.rw_blindtouch_k24_whole_let_by_and_sorts) (n := 63) (k := 17) (x := "_law_script") (CX := fun w => L2.CX (PySem.Challenge.rw_blindtouch_k24_whole_let_by_and_sorts).prog w) (sp := fun w => BT.lift (BT.S_law _)) rfl (by decide) rfl ⟨rfl, by decide, by decide⟩ (fun w h Y => PySem.W.kIn_of Y) ?F (fun _ H a ns hl _ hS => BT.law_start hl hS) (fun _ _ _ _ _ h => BT.cx_none h)
  case F =>
    intro w mg fa h KX G hmg
    refine' BT.all_mk KX G hmg ?a0 ?l0 ?c0 ?k0 ?a1 ?l1 ?c1 ?k1 ?a2 ?l2 ?c2 ?k2 ?a3 ?l3 ?c3 ?k3 ?a4 ?l4 ?c4 ?k4 ?a5 ?l5 ?c5 ?k5 ?a6 ?l6 ?c6 ?k6 ?a7 ?l7 ?c7 ?k7 ?a8 ?l8 ?c8 ?k8 ?a9 ?l9 ?c9 ?k9 ?a10 ?l10 ?c10 ?k10 ?a11 ?l11 ?c11 ?k11 ?a12 ?l12 ?c12 ?k12 ?a13 ?l13 ?c13 ?k13 ?a14 ?l14 ?c14 ?k14 ?a15 ?l15 ?c15 ?k15 ?z_all ?z_bool ?z_int ?z_isinstance ?z_len ?z_list ?z_min ?z_range ?z_sorted ?z_tuple
    (case a0 => k_is); (case l0 => k_is); (case c0 => k_is); (case k0 => k_is); (case a1 => k_is); (case l1 => k_is); (case c1 => k_is); (case k1 => k_is); (case a2 => k_is); (case l2 => k_is); (case c2 => k_is); (case k2 => k_is); (case a3 => k_is); (case l3 => k_is); (case c3 => k_is); (case k3 => k_is); (case a4 => k_is); (case l4 => k_is); (case c4 => k_is); (case k4 => k_is); (case a5 => k_is); (case l5 => k_is); (case c5 => k_is); (case k5 => k_is); (case a6 => k_is); (case l6 => k_is); (case c6 => k_is); (case k6 => k_is); (case a7 => k_is); (case l7 => k_is); (case c7 => k_is); (case k7 => k_is); (case a8 => k_is); (case l8 => k_is); (case c8 => k_is); (case k8 => k_is); (case a9 => k_is); (case l9 => k_is); (case c9 => k_is); (case k9 => k_is); (case a10 => k_is); (case l10 => k_is); (case c10 => k_is); (case k10 => k_is); (case a11 => k_is); (case l11 => k_is); (case c11 => k_is); (case k11 => k_is); (case a12 => k_is); (case l12 => k_is); (case c12 => k_is); (case k12 => k_is); (case a13 => k_is); (case l13 => k_is); (case c13 => k_is); (case k13 => k_is); (case a14 => k_is); (case l14 => k_is); (case c14 => k_is); (case k14 => k_is); (case a15 => k_is); (case l15 => k_is); (case c15 => k_is); (case k15 => k_is); (case z_all => k_is); (case z_bool => k_is); (case z_int => k_is); (case z_isinstance => k_is); (case z_len => k_is); (case z_list => k_is); (case z_min => k_is); (case z_range => k_is); (case z_sorted => k_is); (case z_tuple => k_is)
