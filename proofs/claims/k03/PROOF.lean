import PyProof.Rows.All
import Wide.All
import OpenK.AllK
import Wide.FinOn
import HandS.ForMost
import HandS.Exc
import HandS.TryOnly
import HandS.ExcOwn
import HandS.WordsExc
import HandS.Wide
import HandS.WideBits
import HandS.IsInst
import HandS.SortInts
import HandS.Style
import HandS.ExcIs
import HandS.ExcValue
import PySem.Challenge.RW_blindtouch_k03_rows_numbered
set_option Elab.async false
set_option linter.all false
set_option maxRecDepth 100000
set_option maxHeartbeats 4000000
/-! KL: readings over what is known of the heap: a frozen part G, and cells M that may be written. -/
namespace BT
open PySem PySem.Spec L2
open PyProof.Rows hiding St

abbrev Mem := List (Addr × HO)
structure Hv (G : Hp) (M : Mem) (H : Hp) : Prop where
  ex : ∀ a o, G a = some o → H a = some o
  mu : ∀ x, x ∈ M → H x.1 = some x.2
  nd : (M.map (·.1)).Nodup
  dj : ∀ x, x ∈ M → G x.1 = none
def Fr (G : Hp) (M : Mem) (p : Addr) : Prop := G p = none ∧ ∀ x, x ∈ M → x.1 ≠ p
def At (G : Hp) (M : Mem) (a : Addr) (o : HO) : Prop := (a, o) ∈ M ∨ G a = some o
section
variable {G : Hp} {M : Mem} {H : Hp} {p a : Addr} {o o' : HO} {n : Nat}
theorem Hv.self (H : Hp) : Hv H [] H := ⟨fun _ _ h => h, fun _ h => (nomatch h), List.nodup_nil, fun _ h => (nomatch h)⟩
theorem Hv.fr (h : Hv G M H) (hp : H p = none) : Fr G M p := by
  refine ⟨?_, fun x hx e => ?_⟩
  · cases e : G p with
    | none => rfl
    | some o => rw [h.ex p o e] at hp; cases hp
  · have := h.mu x hx
    rw [e, hp] at this; cases this
theorem Hv.at (h : Hv G M H) (q : At G M a o) : H a = some o := by
  rcases q with q | q
  · exact h.mu _ q
  · exact h.ex _ _ q
theorem Hv.newM (h : Hv G M H) (hp : H p = none) : Hv G ((p, o) :: M) (upd H p o) := by
  have f := h.fr hp
  refine ⟨fun b u e => ?_, fun x hx => ?_, ?_, fun x hx => ?_⟩
  · rw [upd_ne (ne_of_none (h.ex b u e) hp)]; exact h.ex b u e
  · rcases List.mem_cons.mp hx with rfl | hx
    · exact upd_same
    · rw [upd_ne (f.2 x hx)]; exact h.mu x hx
  · rw [List.map_cons, List.nodup_cons]
    refine ⟨fun hm => ?_, h.nd⟩
    obtain ⟨x, hx, e⟩ := List.mem_map.mp hm
    exact f.2 x hx e
  · rcases List.mem_cons.mp hx with rfl | hx
    · exact f.1
    · exact h.dj x hx
theorem Hv.newG (h : Hv G M H) (hp : H p = none) : Hv (upd G p o) M (upd H p o) := by
  have f := h.fr hp
  refine ⟨fun b u e => ?_, fun x hx => ?_, h.nd, fun x hx => ?_⟩
  · by_cases hb : b = p
    · subst hb; rw [upd_same] at e ⊢; exact e
    · rw [upd_ne hb] at e ⊢; exact h.ex b u e
  · rw [upd_ne (f.2 x hx)]; exact h.mu x hx
  · rw [upd_ne (f.2 x hx)]; exact h.dj x hx
/-- an object that nobody knows of is laid: nothing known changes -/
theorem Hv.junk (h : Hv G M H) (hp : H p = none) : Hv G M (upd H p o) := by
  have f := h.fr hp
  refine ⟨fun b u e => ?_, fun x hx => ?_, h.nd, h.dj⟩
  · rw [upd_ne (ne_of_none (h.ex b u e) hp)]; exact h.ex b u e
  · rw [upd_ne (f.2 x hx)]; exact h.mu x hx
theorem Hv.get (h : Hv G M H) (hn : M[n]? = some (p, o)) : H p = some o := h.mu _ (List.mem_of_getElem? hn)
theorem map_set_fst : ∀ (M : Mem) (n : Nat) (p : Addr) (o o' : HO), M[n]? = some (p, o) → (M.set n (p, o')).map (·.1) = M.map (·.1)
  | [], _, _, _, _, h => by simp at h
  | x :: M, 0, p, o, o', h => by
    have e : x = (p, o) := by simpa using h
    subst e; rfl
  | x :: M, n + 1, p, o, o', h => by
    have e : M[n]? = some (p, o) := by simpa using h
    show x.1 :: (M.set n (p, o')).map (·.1) = _
    rw [map_set_fst M n p o o' e]; rfl
theorem nodup_at : ∀ (M : Mem) (n : Nat) (p : Addr) (o : HO) (x : Addr × HO) (m : Nat), (M.map (·.1)).Nodup → M[n]? = some (p, o) → M[m]? = some x → x.1 = p → m = n := by
  intro M n p o x m hd h1 h2 e
  have q1 : (M.map (·.1))[n]? = some p := by rw [List.getElem?_map, h1]; rfl
  have q2 : (M.map (·.1))[m]? = some p := by rw [List.getElem?_map, h2, ← e]; rfl
  obtain ⟨l1, e1⟩ := List.getElem?_eq_some_iff.mp q1
  obtain ⟨l2, e2⟩ := List.getElem?_eq_some_iff.mp q2
  exact (List.getElem_inj hd).mp (e2.trans e1.symm)
theorem Hv.set (h : Hv G M H) (hn : M[n]? = some (p, o)) : Hv G (M.set n (p, o')) (upd H p o') := by
  have hlt : n < M.length := (List.getElem?_eq_some_iff.mp hn).1
  refine ⟨fun b u e => ?_, fun x hx => ?_, ?_, fun x hx => ?_⟩
  · have : b ≠ p := fun z => by
      have q := h.dj _ (List.mem_of_getElem? hn)
      rw [z] at e
      rw [show G p = none from q] at e; cases e
    rw [upd_ne this]; exact h.ex b u e
  · obtain ⟨m, hm⟩ := List.getElem?_of_mem hx
    by_cases e : m = n
    · subst e
      rw [List.getElem?_set_self hlt] at hm
      cases hm
      exact upd_same
    · rw [List.getElem?_set_ne (Ne.symm e)] at hm
      have : x.1 ≠ p := fun z => e (nodup_at M n p o x m h.nd hn hm z)
      rw [upd_ne this]
      exact h.mu x (List.mem_of_getElem? hm)
  · rw [map_set_fst M n p o o' hn]; exact h.nd
  · have : x.1 ∈ M.map (·.1) := by
      rw [← map_set_fst M n p o o' hn]; exact List.mem_map.mpr ⟨x, hx, rfl⟩
    obtain ⟨y, hy, e⟩ := List.mem_map.mp this
    rw [← e]; exact h.dj y hy
/-- what is known may be forgotten, and what may be written may be frozen -/
def Wk (G : Hp) (M : Mem) (G' : Hp) (M' : Mem) : Prop := ∀ H, Hv G M H → Hv G' M' H
theorem Wk.refl : Wk G M G M := fun _ h => h
theorem Wk.trans {G1 G2 G3 : Hp} {M1 M2 M3 : Mem} (a : Wk G1 M1 G2 M2) (b : Wk G2 M2 G3 M3) : Wk G1 M1 G3 M3 := fun H h => b H (a H h)
theorem Wk.drop (M1 : Mem) {x : Addr × HO} {M2 : Mem} : Wk G (M1 ++ x :: M2) G (M1 ++ M2) := fun H h => by
  refine ⟨h.ex, fun y hy => h.mu y ?_, ?_, fun y hy => h.dj y ?_⟩
  · rcases List.mem_append.mp hy with q | q
    · exact List.mem_append.mpr (.inl q)
    · exact List.mem_append.mpr (.inr (List.mem_cons_of_mem _ q))
  · refine h.nd.sublist ?_
    simp
  · rcases List.mem_append.mp hy with q | q
    · exact List.mem_append.mpr (.inl q)
    · exact List.mem_append.mpr (.inr (List.mem_cons_of_mem _ q))
theorem Wk.drop0 {x : Addr × HO} : Wk G (x :: M) G M := Wk.drop []
theorem Wk.drop1 {x y : Addr × HO} : Wk G (y :: x :: M) G (y :: M) := Wk.drop [y]
theorem Wk.drop2 {x y z : Addr × HO} : Wk G (z :: y :: x :: M) G (z :: y :: M) := Wk.drop [z, y]
theorem Wk.frz (M1 : Mem) {M2 : Mem} : Wk G (M1 ++ (p, o) :: M2) (upd G p o) (M1 ++ M2) := fun H h => by
  have hp : H p = some o := h.mu (p, o) (by simp)
  have hg : G p = none := h.dj (p, o) (by simp)
  have h2 := Wk.drop (G := G) M1 (x := (p, o)) (M2 := M2) H h
  refine ⟨fun b u e => ?_, h2.mu, h2.nd, fun x hx => ?_⟩
  · by_cases hb : b = p
    · subst hb; rw [upd_same] at e; cases e; exact hp
    · rw [upd_ne hb] at e; exact h.ex b u e
  · have : x.1 ≠ p := fun z => by
      have nd := h.nd
      rw [List.map_append, List.map_cons, List.nodup_append] at nd
      obtain ⟨n1, n2, n3⟩ := nd
      rcases List.mem_append.mp hx with q | q
      · exact n3 x.1 (List.mem_map.mpr ⟨x, q, rfl⟩) p (by simp) z
      · rw [List.nodup_cons] at n2
        exact n2.1 (by rw [← z]; exact List.mem_map.mpr ⟨x, q, rfl⟩)
    rw [upd_ne this]; exact h2.dj x hx
theorem Wk.frz0 : Wk G ((p, o) :: M) (upd G p o) M := Wk.frz []
theorem Wk.frz1 {y : Addr × HO} : Wk G (y :: (p, o) :: M) (upd G p o) (y :: M) := Wk.frz [y]
theorem Wk.perm {M' : Mem} (e : M'.Perm M) : Wk G M G M' := fun H h =>
  ⟨h.ex, fun x hx => h.mu x (e.mem_iff.mp hx), (e.map _).nodup_iff.mpr h.nd, fun x hx => h.dj x (e.mem_iff.mp hx)⟩
theorem Wk.swap {x y : Addr × HO} : Wk G (x :: y :: M) G (y :: x :: M) := Wk.perm (List.Perm.swap x y M)
/-- less of the frozen part -/
theorem Wk.less {G' : Hp} (e : ∀ a o, G' a = some o → G a = some o) : Wk G M G' M := fun H h =>
  ⟨fun a o q => h.ex a o (e a o q), h.mu, h.nd, fun x hx => by
    cases q : G' x.1 with
    | none => rfl
    | some o => have := h.dj x hx; rw [e _ _ q] at this; cases this⟩
end

/-! ### extension of the frozen part -/
def Ex (G G' : Hp) : Prop := ∀ a o, G a = some o → G' a = some o
theorem Ex.refl {G : Hp} : Ex G G := fun _ _ h => h
theorem Ex.trans {G G1 G2 : Hp} (a : Ex G G1) (b : Ex G1 G2) : Ex G G2 := fun x o h => b x o (a x o h)
theorem Ex.new {G : Hp} {M : Mem} {p : Addr} {o : HO} (h : Fr G M p) : Ex G (upd G p o) := fun a u e => by
  rw [upd_ne (ne_of_none e h.1)]; exact e
theorem Ex.new' {G : Hp} {p : Addr} {o : HO} (h : G p = none) : Ex G (upd G p o) := fun a u e => by
  rw [upd_ne (ne_of_none e h)]; exact e
theorem ex_rd {H H' : Hp} {a : Addr} {u : HO} (e : Ex H H') (h : Rd H a u) : Rd H' a u := by
  rcases h with h | ⟨o, h⟩
  · exact .inl (e a _ h)
  · exact .inr ⟨o, e a _ h⟩
theorem ex_l {K : PySem.W.Frag} {H H' : Hp} {a : Addr} {xs : List V} (e : Ex H H') (h : SqL K H a xs) : SqL K H' a xs := by
  rcases h with h | h
  · exact .inl (ex_rd e h)
  · exact .inr h
theorem ex_t {K : PySem.W.Frag} {H H' : Hp} {a : Addr} {xs : List V} (e : Ex H H') (h : SqT K H a xs) : SqT K H' a xs := by
  rcases h with h | h
  · exact .inl (ex_rd e h)
  · exact .inr h
mutual
theorem ex_d {K : PySem.W.Frag} {H H' : Hp} (e : Ex H H') : ∀ (d : PyData) {v : V}, Dp K H v d → Dp K H' v d
  | _, _, .non => .non
  | _, _, .bl b => .bl b
  | _, _, .int b => .int b
  | _, _, .str b => .str b
  | .list ds, _, .lst s a => .lst (ex_l e s) (ex_ds e ds a)
  | .tuple ds, _, .tup s a => .tup (ex_t e s) (ex_ds e ds a)
theorem ex_ds {K : PySem.W.Frag} {H H' : Hp} (e : Ex H H') : ∀ (ds : List PyData) {vs : List V}, DpAll K H vs ds → DpAll K H' vs ds
  | _, _, .nil => .nil
  | d :: ds, _, .cons a b => .cons (ex_d e d a) (ex_ds e ds b)
end
/-- a list, a tuple that can be read -/
def LstAt (K : PySem.W.Frag) (G : Hp) (M : Mem) (a : Addr) (xs : List V) : Prop := (a, HO.lst xs) ∈ M ∨ SqL K G a xs
def TupAt (K : PySem.W.Frag) (G : Hp) (M : Mem) (a : Addr) (xs : List V) : Prop := SqT K G a xs
def SeqAt' (K : PySem.W.Frag) (G : Hp) (M : Mem) (a : Addr) (xs : List V) : Prop := LstAt K G M a xs ∨ SqT K G a xs
/-- data that can be read -/
def DatAt (K : PySem.W.Frag) (G : Hp) (M : Mem) (v : V) (d : PyData) : Prop := ∀ H, Hv G M H → Dp K H v d
section
variable {K : PySem.W.Frag} {G : Hp} {M : Mem} {H : Hp} {a : Addr} {xs : List V}
theorem Hv.exx (h : Hv G M H) : Ex G H := h.ex
theorem Hv.lst (h : Hv G M H) (q : LstAt K G M a xs) : SqL K H a xs := by
  rcases q with q | q
  · exact .inl (.inl (h.mu _ q))
  · exact ex_l h.exx q
theorem Hv.tup (h : Hv G M H) (q : SqT K G a xs) : SqT K H a xs := ex_t h.exx q
theorem Hv.dat (h : Hv G M H) {v : V} {d : PyData} (q : DatAt K G M v d) : Dp K H v d := q H h
end

/-! ### judgements -/
abbrev KR := V → Hp → Mem → Prop
abbrev KX := Value → Option Addr → Hp → Mem → Prop
abbrev KK (α : Type) := St → Hp → Mem → (α → Hp → Mem → Prop) → KX → Prop
abbrev KE := KK V
abbrev KA := KK (List V)
abbrev KT := KK Bool
def upG {α : Type} (W : WX) (t : KK α) : St → Hp → (α → Hp → Prop) → Prop := fun σ H Q =>
  ∃ G M R E, Hv G M H ∧ t σ G M R E ∧ (∀ v G' M' H', Hv G' M' H' → R v G' M' → Q v H') ∧ (∀ c d G' M' H', Hv G' M' H' → E c d G' M' → W c d σ H')
def JE (X : Cx) (W : WX) (e : Expr) (t : KE) : Prop := PE X e (upG W t)
def JT (X : Cx) (W : WX) (e : Expr) (t : KT) : Prop := PT X e (upG W t)
def JW (X : Cx) (W : WX) (e : Expr) (t : KT) : Prop := PW X e (upG W t)
def JA (X : Cx) (W : WX) (es : List Expr) (t : KA) : Prop := PA X es (upG W t)
theorem pe_mono {X : Cx} {e : Expr} {t t' : TE} (h : PE X e t) (i : ∀ σ H Q, t' σ H Q → t σ H Q) : PE X e t' := ⟨fun pins s σ H Q I q => h.run pins s σ H Q I (i σ H Q q)⟩
theorem pt_mono {X : Cx} {e : Expr} {t t' : TT} (h : PT X e t) (i : ∀ σ H Q, t' σ H Q → t σ H Q) : PT X e t' := ⟨fun pins s σ H Q I q => h.run pins s σ H Q I (i σ H Q q)⟩
theorem pw_mono {X : Cx} {e : Expr} {t t' : TT} (h : PW X e t) (i : ∀ σ H Q, t' σ H Q → t σ H Q) : PW X e t' := ⟨fun wh pins s σ H Q I q => h.run wh pins s σ H Q I (i σ H Q q)⟩
theorem pa_mono {X : Cx} {e : List Expr} {t t' : TA} (h : PA X e t) (i : ∀ σ H Q, t' σ H Q → t σ H Q) : PA X e t' := ⟨fun pos pins s σ H Q I q => h.run pos pins s σ H Q I (i σ H Q q)⟩

section
variable {X : Cx} {W : WX} {pos : Pos}
/-- names, constants -/
def kVar (i : Nat) : KE := fun σ G M R _ => match σ[i]? with
  | some (some v) => R v G M
  | _ => False
def kC (v : V) : KE := fun _ G M R _ => R v G M
theorem je_var (i : Nat) {x : Str} (hN : X.N[i]? = some x := by rfl) (hv : Vis X.env.scope x := by first | exact Or.inl rfl | exact Or.inr (Or.inl rfl) | exact Or.inr (Or.inr rfl)) (hd : (x == ("__debug__" : Str)) = false := by decide)
    (hcd : (x == ("__classdict__" : Str)) = false := by decide) : JE X W (.Name x pos) (kVar i) := pe_mono (pe_var hN hv hd hcd) fun σ H Q ⟨G, M, R, E, hv, h, hR, _⟩ => by
  unfold kVar at h
  split at h
  · rename_i v e
    exact ⟨v, e, hR v G M H hv h⟩
  · exact h.elim
theorem je_c {e : Expr} {v : V} (h : PE X e (tC v)) : JE X W e (kC v) := pe_mono h fun σ H Q ⟨G, M, R, E, hv, h, hR, _⟩ => hR v G M H hv h
theorem je_int {i : Int} {j pos} : JE X W (.Constant (.int i) j pos) (kC (.int i)) := je_c pe_int
theorem je_bl {i : Bool} {j pos} : JE X W (.Constant (.bool i) j pos) (kC (.bl i)) := je_c pe_bl
theorem je_non {j pos} : JE X W (.Constant .none j pos) (kC .non) := je_c pe_non
theorem je_str {i : Str} {j pos} : JE X W (.Constant (.str i) j pos) (kC (.str i)) := je_c pe_str
/-- two in a row -/
def kBin {β : Type} (k : V → V → Hp → Mem → (β → Hp → Mem → Prop) → Prop) (ta tb : KE) : KK β := fun σ G M R E => ta σ G M (fun x G M => tb σ G M (fun y G M => k x y G M R) E) E
abbrev KR2 := V → V → Hp → Mem → KR → Prop
def KOp (X : Cx) (f : Value → Value → Sem Value) (k : KR2) : Prop :=
  ∀ (pins : List (Addr × Obj)) (s : Shared) (σ : St) (H : Hp) (x y : V) (v u : Value) (Q : VK) (G : Hp) (M : Mem) (R : KR), Inv X pins σ H s → RelV x v → RelV y u → Hv G M H → k x y G M R →
    (∀ v G' M' H', Hv G' M' H' → R v G' M' → Q v H') → wpAny (model X.prog X.w) X.A (f v u) (EP X pins σ Q) X.xe s
theorem kop_of {f : Value → Value → Sem Value} {r : R2} {k : KR2} (ho : OpR X f r)
    (s : ∀ x y G M R H Q, Hv G M H → k x y G M R → (∀ v G' M' H', Hv G' M' H' → R v G' M' → Q v H') → r x y H Q) : KOp X f k :=
  fun pins st σ H x y v u Q G M R I rx ry hv h hR => ho pins st σ H x y v u Q I rx ry (s x y G M R H Q hv h hR)
/-- an OpR whose reading is: it holds of k in some knowledge -/
def rUp (k : KR2) : R2 := fun x y H Q => ∃ G M R, Hv G M H ∧ k x y G M R ∧ ∀ v G' M' H', Hv G' M' H' → R v G' M' → Q v H'
theorem KOp.opr {f : Value → Value → Sem Value} {k : KR2} (h : KOp X f k) : OpR X f (rUp k) := fun pins s σ H x y v u Q I rx ry ⟨G, M, R, hv, hk, hR⟩ => h pins s σ H x y v u Q G M R I rx ry hv hk hR
theorem bin_sim {ta tb : KE} {k : KR2} {σ : St} {H : Hp} {Q : VK} (h : upG W (kBin k ta tb) σ H Q) : tOp (rUp k) (upG W ta) (upG W tb) σ H Q := by
  obtain ⟨G, M, R, E, hv, h, hR, hE⟩ := h
  exact ⟨G, M, _, E, hv, h, fun x G1 M1 H1 hv1 h1 => ⟨G1, M1, _, E, hv1, h1, fun y G2 M2 H2 hv2 h2 => ⟨G2, M2, R, hv2, h2, hR⟩, hE⟩, hE⟩
theorem je_op {a b : Expr} {op : Operator} {k : KR2} {ta tb : KE} (ho : KOp X (binaryOp op) k) (ha : JE X W a ta) (hb : JE X W b tb) : JE X W (.BinOp a op b pos) (kBin k ta tb) :=
  pe_mono (pe_op ho.opr ha hb) fun _ _ _ h => bin_sim h
theorem je_cmp {a b : Expr} {op : CmpOp} {k : KR2} {ta tb : KE} (ho : KOp X (compareOp op) k) (ha : JE X W a ta) (hb : JE X W b tb) (hm : behindInMarks op b = false) : JE X W (.Compare a [op] [b] pos) (kBin k ta tb) :=
  pe_mono (pe_cmpR ho.opr ha hb hm) fun _ _ _ h => bin_sim h
/-- a value as a test -/
def asB (R : Bool → Hp → Mem → Prop) : KR := fun v G M => match v with
  | .bl b => R b G M
  | _ => False
def kT (t : KE) : KT := fun σ G M R E => t σ G M (asB R) E
theorem asB_of {R : Bool → Hp → Mem → Prop} {v : V} {G : Hp} {M : Mem} (h : asB R v G M) : ∃ c, v = .bl c ∧ R c G M := by
  cases v <;> first | exact ⟨_, rfl, h⟩ | exact h.elim
theorem t_sim {t : KE} {σ : St} {H : Hp} {Q : Bool → Hp → Prop} (h : upG W (kT t) σ H Q) : tTest (upG W t) σ H Q := by
  obtain ⟨G, M, R, E, hv, h, hR, hE⟩ := h
  refine ⟨G, M, _, E, hv, h, fun v G1 M1 H1 hv1 h1 => ?_, hE⟩
  obtain ⟨c, rfl, h2⟩ := asB_of h1
  exact ⟨c, rfl, hR c G1 M1 H1 hv1 h2⟩
theorem jt_cmp {a b : Expr} {op : CmpOp} {k : KR2} {ta tb : KE} (ho : KOp X (compareOp op) k) (ha : JE X W a ta) (hb : JE X W b tb) (hm : behindInMarks op b = false) : JT X W (.Compare a [op] [b] pos) (kT (kBin k ta tb)) :=
  pt_mono (pt_cmpR ho.opr ha hb hm) fun σ H Q h => by
    have h2 := t_sim h
    exact bin_sim h2
theorem jt_val {e : Expr} {t : KE} (h : JE X W e t) (he : ∀ whole, isTrue e X.env whole = (do let v ← whole; standAt e.pos; holding [v] (truthy v)) := by intro _; rfl) : JT X W e (kT t) :=
  pt_mono (pt_val h he) fun σ H Q h => t_sim h
/-- chains -/
def kChain (k k' : KR2) (ta tb tc : KE) : KE := fun σ G M R E => ta σ G M (fun x G M => tb σ G M (fun y G M => k x y G M (asB fun c G M => if c = true then tc σ G M (fun z G M => k' y z G M R) E else R (.bl false) G M)) E) E
theorem chain_sim {ta tb tc : KE} {k k' : KR2} {σ : St} {H : Hp} {Q : VK} (h : upG W (kChain k k' ta tb tc) σ H Q) : tChain (rUp k) (rUp k') (upG W ta) (upG W tb) (upG W tc) σ H Q := by
  obtain ⟨G, M, R, E, hv, h, hR, hE⟩ := h
  refine ⟨G, M, _, E, hv, h, fun x G1 M1 H1 hv1 h1 => ⟨G1, M1, _, E, hv1, h1, fun y G2 M2 H2 hv2 h2 => ⟨G2, M2, _, hv2, h2, fun v G3 M3 H3 hv3 h3 => ?_⟩, hE⟩, hE⟩
  obtain ⟨c, rfl, h4⟩ := asB_of h3
  refine ⟨c, rfl, ?_⟩
  cases c with
  | true =>
    rw [if_pos rfl] at h4 ⊢
    exact ⟨G3, M3, _, E, hv3, h4, fun z G4 M4 H4 hv4 h5 => ⟨G4, M4, R, hv4, h5, hR⟩, hE⟩
  | false =>
    rw [if_neg Bool.false_ne_true] at h4 ⊢
    exact hR _ G3 M3 H3 hv3 h4
theorem je_chain {a b c : Expr} {op op' : CmpOp} {k k' : KR2} {ta tb tc : KE} (ho : KOp X (compareOp op) k) (ho' : KOp X (compareOp op') k') (ha : JE X W a ta) (hb : JE X W b tb) (hc : JE X W c tc)
    (hm : lastMarks [op, op'] [b, c] = false := by with_unfolding_all rfl) : JE X W (.Compare a [op, op'] [b, c] pos) (kChain k k' ta tb tc) := pe_mono (pe_chain ho.opr ho'.opr ha hb hc hm) fun _ _ _ h => chain_sim h
theorem jt_chain {a b c : Expr} {op op' : CmpOp} {k k' : KR2} {ta tb tc : KE} (ho : KOp X (compareOp op) k) (ho' : KOp X (compareOp op') k') (ha : JE X W a ta) (hb : JE X W b tb) (hc : JE X W c tc)
    (hm : lastMarks [op, op'] [b, c] = false := by with_unfolding_all rfl) : JT X W (.Compare a [op, op'] [b, c] pos) (kT (kChain k k' ta tb tc)) := pt_mono (pt_chain ho.opr ho'.opr ha hb hc hm) fun _ _ _ h => chain_sim (t_sim h)
/-- and, or, not -/
def kAnd (t u : KT) : KT := fun σ G M R E => t σ G M (fun c G M => if c = true then u σ G M R E else R false G M) E
def kOr (t u : KT) : KT := fun σ G M R E => t σ G M (fun c G M => if c = true then R true G M else u σ G M R E) E
def kNot (t : KT) : KT := fun σ G M R E => t σ G M (fun c G M => R (!c) G M) E
def kAndV (t u : KE) : KE := fun σ G M R E => t σ G M (asB fun c G M => if c = true then u σ G M R E else R (.bl false) G M) E
def kOrV (t u : KE) : KE := fun σ G M R E => t σ G M (asB fun c G M => if c = true then R (.bl true) G M else u σ G M R E) E
def kNotV (t : KE) : KE := fun σ G M R E => t σ G M (asB fun c G M => R (.bl (!c)) G M) E
variable {a b : Expr} {rest : List Expr}
theorem jw_and1 {t : KT} (h : JT X W a t) : JW X W (.BoolOp .And [a] pos) t := pw_and1 h
theorem jw_or1 {t : KT} (h : JT X W a t) : JW X W (.BoolOp .Or [a] pos) t := pw_or1 h
theorem jw_and {t u : KT} (ha : JT X W a t) (hb : JW X W (.BoolOp .And (b :: rest) pos) u) : JW X W (.BoolOp .And (a :: b :: rest) pos) (kAnd t u) :=
  pw_mono (pw_and ha hb) fun σ H Q ⟨G, M, R, E, hv, h, hR, hE⟩ => ⟨G, M, _, E, hv, h, fun c G1 M1 H1 hv1 h1 => by
    cases c with
    | true => rw [if_pos rfl] at h1 ⊢; exact ⟨G1, M1, R, E, hv1, h1, hR, hE⟩
    | false => rw [if_neg Bool.false_ne_true] at h1 ⊢; exact hR _ G1 M1 H1 hv1 h1, hE⟩
theorem jw_or {t u : KT} (ha : JT X W a t) (hb : JW X W (.BoolOp .Or (b :: rest) pos) u) : JW X W (.BoolOp .Or (a :: b :: rest) pos) (kOr t u) :=
  pw_mono (pw_or ha hb) fun σ H Q ⟨G, M, R, E, hv, h, hR, hE⟩ => ⟨G, M, _, E, hv, h, fun c G1 M1 H1 hv1 h1 => by
    cases c with
    | true => rw [if_pos rfl] at h1 ⊢; exact hR _ G1 M1 H1 hv1 h1
    | false => rw [if_neg Bool.false_ne_true] at h1 ⊢; exact ⟨G1, M1, R, E, hv1, h1, hR, hE⟩, hE⟩
theorem JW.jt {e : Expr} {t : KT} (h : JW X W e t) : JT X W e t := PW.pt h
theorem jt_not {t : KT} (h : JT X W a t) : JT X W (.UnaryOp .Not a pos) (kNot t) :=
  pt_mono (pt_not h) fun σ H Q ⟨G, M, R, E, hv, h, hR, hE⟩ => ⟨G, M, _, E, hv, h, fun c G1 M1 H1 hv1 h1 => hR _ G1 M1 H1 hv1 h1, hE⟩
theorem je_one {op} {t : KE} (h : JE X W a t) : JE X W (.BoolOp op [a] pos) t := pe_one h
theorem je_and {t u : KE} (ha : JE X W a t) (hb : JE X W (.BoolOp .And (b :: rest) pos) u) : JE X W (.BoolOp .And (a :: b :: rest) pos) (kAndV t u) :=
  pe_mono (pe_and ha hb) fun σ H Q ⟨G, M, R, E, hv, h, hR, hE⟩ => ⟨G, M, _, E, hv, h, fun v G1 M1 H1 hv1 h1 => by
    obtain ⟨c, rfl, h2⟩ := asB_of h1
    refine ⟨c, rfl, ?_⟩
    cases c with
    | true => rw [if_pos rfl] at h2 ⊢; exact ⟨G1, M1, R, E, hv1, h2, hR, hE⟩
    | false => rw [if_neg Bool.false_ne_true] at h2 ⊢; exact hR _ G1 M1 H1 hv1 h2, hE⟩
theorem je_or {t u : KE} (ha : JE X W a t) (hb : JE X W (.BoolOp .Or (b :: rest) pos) u) : JE X W (.BoolOp .Or (a :: b :: rest) pos) (kOrV t u) :=
  pe_mono (pe_or ha hb) fun σ H Q ⟨G, M, R, E, hv, h, hR, hE⟩ => ⟨G, M, _, E, hv, h, fun v G1 M1 H1 hv1 h1 => by
    obtain ⟨c, rfl, h2⟩ := asB_of h1
    refine ⟨c, rfl, ?_⟩
    cases c with
    | true => rw [if_pos rfl] at h2 ⊢; exact hR _ G1 M1 H1 hv1 h2
    | false => rw [if_neg Bool.false_ne_true] at h2 ⊢; exact ⟨G1, M1, R, E, hv1, h2, hR, hE⟩, hE⟩
theorem je_not {t : KE} (h : JE X W a t) : JE X W (.UnaryOp .Not a pos) (kNotV t) :=
  pe_mono (pe_not h) fun σ H Q ⟨G, M, R, E, hv, h, hR, hE⟩ => ⟨G, M, _, E, hv, h, fun v G1 M1 H1 hv1 h1 => by
    obtain ⟨c, rfl, h2⟩ := asB_of h1
    exact ⟨c, rfl, hR _ G1 M1 H1 hv1 h2⟩, hE⟩
/-- a if c else b -/
def kIte (t : KT) (ta tb : KE) : KE := fun σ G M R E => t σ G M (fun c G M => if c = true then ta σ G M R E else tb σ G M R E) E
end
end BT
set_option Elab.async false
set_option linter.all false
set_option maxRecDepth 100000
set_option maxHeartbeats 4000000
namespace BT
open PySem PySem.Spec L2
open PyProof.Rows hiding St
section
variable {X : Cx} {W : WX} {pos : Pos} {a b c e : Expr} {es : List Expr}
theorem je_ite {t : KT} {ta tb : KE} (hc : JT X W c t) (ha : JE X W a ta) (hb : JE X W b tb) : JE X W (.IfExp c a b pos) (kIte t ta tb) :=
  pe_mono (pe_ifExp hc ha hb) fun σ H Q ⟨G, M, R, E, hv, h, hR, hE⟩ => ⟨G, M, _, E, hv, h, fun c G1 M1 H1 hv1 h1 => by
    cases c with
    | true => rw [if_pos rfl] at h1 ⊢; exact ⟨G1, M1, R, E, hv1, h1, hR, hE⟩
    | false => rw [if_neg Bool.false_ne_true] at h1 ⊢; exact ⟨G1, M1, R, E, hv1, h1, hR, hE⟩, hE⟩
/-! ### arguments, displays -/
def kNil : KA := fun _ G M R _ => R [] G M
def kCons (t : KE) (u : KA) : KA := fun σ G M R E => t σ G M (fun x G M => u σ G M (fun xs G M => R (x :: xs) G M) E) E
theorem ja_nil : JA X W [] kNil := pa_mono pa_nil fun σ H Q ⟨G, M, R, E, hv, h, hR, _⟩ => hR _ G M H hv h
theorem ja_cons {t : KE} {u : KA} (ha : JE X W e t) (hr : JA X W es u) (hs : starEach (e :: es) X.env = (false, eval e X.env) :: starEach es X.env := by rfl) : JA X W (e :: es) (kCons t u) :=
  pa_mono (pa_cons ha hr hs) fun σ H Q ⟨G, M, R, E, hv, h, hR, hE⟩ => ⟨G, M, _, E, hv, h, fun x G1 M1 H1 hv1 h1 => ⟨G1, M1, _, E, hv1, h1, fun xs G2 M2 H2 hv2 h2 => hR _ G2 M2 H2 hv2 h2, hE⟩, hE⟩
def kLst (t : KA) : KE := fun σ G M R E => t σ G M (fun xs G M => xs.length ≤ sizeLine ∧ ∀ p, Fr G M p → R (.ref p) G ((p, .lst xs) :: M)) E
def kTup (t : KA) : KE := fun σ G M R E => t σ G M (fun xs G M => xs.length ≤ sizeLine ∧ ∀ p, Fr G M p → R (.ref p) (upd G p (.tup xs)) M) E
theorem je_lst {t : KA} (h : JA X W es t) : JE X W (.List es pos) (kLst t) :=
  pe_mono (pe_lst h) fun σ H Q ⟨G, M, R, E, hv, h, hR, hE⟩ => ⟨G, M, _, E, hv, h, fun xs G1 M1 H1 hv1 h1 => ⟨h1.1, fun p hp => hR _ G1 _ _ (hv1.newM hp) (h1.2 p (hv1.fr hp))⟩, hE⟩
theorem je_tup {t : KA} {k : Nat} (h : JA X W es t) : JE X W (.Tuple es k pos) (kTup t) :=
  pe_mono (pe_tup h) fun σ H Q ⟨G, M, R, E, hv, h, hR, hE⟩ => ⟨G, M, _, E, hv, h, fun xs G1 M1 H1 hv1 h1 => ⟨h1.1, fun p hp => hR _ _ M1 _ (hv1.newG hp) (h1.2 p (hv1.fr hp))⟩, hE⟩
/-! ### operators -/
def kAdd : KR2 := fun x y G M R => match x, y with
  | .int i, .int j => R (.int (i + j)) G M
  | .str i, .str j => i.length + j.length ≤ sizeLine ∧ R (.str (i ++ j)) G M
  | .ref a, .ref b => ∃ xs ys, At G M a (.lst xs) ∧ At G M b (.lst ys) ∧ xs.length + ys.length ≤ sizeLine ∧ ∀ p, Fr G M p → R (.ref p) G ((p, .lst (xs ++ ys)) :: M)
  | _, _ => False
theorem kop_add : KOp X (binaryOp .Add) kAdd := fun pins s σ H x y v u Q G M R I rx ry hv h hR => by
  cases x <;> cases y <;> first
    | exact op_add pins s σ H _ _ v u Q I rx ry ⟨_, _, rfl, rfl, hR _ G M H hv h⟩
    | exact op_add_str pins s σ H _ _ v u Q I rx ry ⟨_, _, rfl, rfl, h.1, hR _ G M H hv h.2⟩
    | (obtain ⟨xs, ys, h1, h2, h3, h4⟩ := h
       exact op_cat pins s σ H _ _ v u Q I rx ry ⟨_, _, xs, ys, rfl, rfl, hv.at h1, hv.at h2, h3, fun p hp => hR _ G _ _ (hv.newM hp) (h4 p (hv.fr hp))⟩)
    | exact h.elim
def kI (C : Int → Int → Prop) (g : Int → Int → V) : KR2 := fun x y G M R => match x, y with
  | .int i, .int j => C i j ∧ R (g i j) G M
  | _, _ => False
def kI0 (g : Int → Int → V) : KR2 := fun x y G M R => match x, y with
  | .int i, .int j => R (g i j) G M
  | _, _ => False
theorem kop_I {f : Value → Value → Sem Value} {C : Int → Int → Prop} {g : Int → Int → V} (h : OpR X f (rI C g)) : KOp X f (kI C g) := kop_of h fun x y G M R H Q hv h hR => by
  cases x <;> cases y <;> first
    | exact ⟨_, _, rfl, rfl, h.1, hR _ G M H hv h.2⟩
    | exact h.elim
theorem kop_I0 {f : Value → Value → Sem Value} {g : Int → Int → V} (h : OpR X f (rI0 g)) : KOp X f (kI0 g) := kop_of h fun x y G M R H Q hv h hR => by
  cases x <;> cases y <;> first
    | exact ⟨_, _, rfl, rfl, hR _ G M H hv h⟩
    | exact h.elim
/-- sizes of products, quotients -/
def MulOk (i j : Int) : Prop := CMul i j ∨ CMulW i j
theorem kop_sub : KOp X (binaryOp .Sub) (kI0 fun i j => .int (i - j)) := kop_I0 op_sub
/-- a product of ints, a list repeated -/
def kMul : KR2 := fun x y G M R => match x, y with
  | .int i, .int j => MulOk i j ∧ R (.int (i * j)) G M
  | .ref a, .int k => ∃ xs, At G M a (.lst xs) ∧ -(2 ^ 63) ≤ k ∧ k < 2 ^ 63 ∧ xs.length * k.toNat ≤ sizeLine ∧ ∀ p, Fr G M p → R (.ref p) G ((p, .lst (List.replicate k.toNat xs).flatten) :: M)
  | _, _ => False
theorem kop_mul : KOp X (binaryOp .Mult) kMul := fun pins s σ H x y v u Q G M R I rx ry hv h hR => by
  cases x <;> cases y <;> first
    | (obtain ⟨hc, h⟩ := h
       rcases hc with hc | hc
       · exact op_mul pins s σ H _ _ v u Q I rx ry ⟨_, _, rfl, rfl, hc, hR _ G M H hv h⟩
       · exact op_mulW pins s σ H _ _ v u Q I rx ry ⟨_, _, rfl, rfl, hc, hR _ G M H hv h⟩)
    | (obtain ⟨xs, h1, h2, h3, h4, h5⟩ := h
       exact op_rep pins s σ H _ _ v u Q I rx ry ⟨_, _, xs, rfl, rfl, hv.at h1, h2, h3, h4, fun p hp => hR _ G _ _ (hv.newM hp) (h5 p (hv.fr hp))⟩)
    | exact h.elim
theorem kop_mod : KOp X (binaryOp .Mod) (kI (fun _ j => 0 < j) fun i j => .int (i % j)) := kop_I op_mod
theorem kop_fdiv : KOp X (binaryOp .FloorDiv) (kI CDivW fun i j => .int (i / j)) := kop_I op_fdivW
theorem kop_pow : KOp X (binaryOp .Pow) (kI CPow fun i j => .int (i ^ j.toNat)) := kop_I op_pow
theorem kop_shl : KOp X (binaryOp .LShift) (kI CPow fun i j => .int (i * 2 ^ j.toNat)) := kop_I op_shl
theorem kop_shr : KOp X (binaryOp .RShift) (kI (fun _ j => 0 ≤ j) fun i j => .int (i / 2 ^ j.toNat)) := kop_I op_shr
theorem kop_lt : KOp X (compareOp .Lt) (kI0 fun i j => .bl (decide (i < j))) := kop_I0 op_lt
theorem kop_le : KOp X (compareOp .LtE) (kI0 fun i j => .bl (decide (i ≤ j))) := kop_I0 op_le
theorem kop_gt : KOp X (compareOp .Gt) (kI0 fun i j => .bl (decide (j < i))) := kop_I0 op_gt
theorem kop_ge : KOp X (compareOp .GtE) (kI0 fun i j => .bl (decide (j ≤ i))) := kop_I0 op_ge
/-- equality: of plain values at once, of data by what they hold -/
def kEqv (neg : Bool) (K : PySem.W.Frag) : KR2 := fun x y G M R =>
  match scal x y with
  | true => R (.bl (if neg then !decide (x = y) else decide (x = y))) G M
  | false => ∃ d e, DatAt K G M x d ∧ DatAt K G M y e ∧ SeqAt.shaped d = true ∧ SeqAt.shaped e = true ∧ R (.bl (if neg then !PyData.eqv d e else PyData.eqv d e)) G M
theorem kop_eq (hu : X.A.units + 64 < cLine) : KOp X (compareOp .Eq) (kEqv false X.K) := fun pins s σ H x y v u Q G M R I rx ry hv h hR => by
  unfold kEqv at h
  split at h
  · rename_i e
    exact op_eq pins s σ H _ _ v u Q I rx ry ⟨e, hR _ G M H hv h⟩
  · obtain ⟨d, e, h1, h2, h3, h4, h5⟩ := h
    exact op_eqD hu pins s σ H _ _ v u Q I rx ry ⟨d, e, hv.dat h1, hv.dat h2, h3, h4, hR _ G M H hv h5⟩
theorem kop_ne (hu : X.A.units + 64 < cLine) : KOp X (compareOp .NotEq) (kEqv true X.K) := fun pins s σ H x y v u Q G M R I rx ry hv h hR => by
  unfold kEqv at h
  split at h
  · rename_i e
    exact op_ne pins s σ H _ _ v u Q I rx ry ⟨e, hR _ G M H hv h⟩
  · obtain ⟨d, e, h1, h2, h3, h4, h5⟩ := h
    exact op_neD hu pins s σ H _ _ v u Q I rx ry ⟨d, e, hv.dat h1, hv.dat h2, h3, h4, hR _ G M H hv h5⟩
def kIs (neg : Bool) : KR2 := fun x y G M R => match y with
  | .non => R (.bl (if neg then !decide (x = .non) else decide (x = .non))) G M
  | _ => False
theorem kop_is : KOp X (compareOp .Is) (kIs false) := kop_of op_isN fun x y G M R H Q hv h hR => by
  cases y <;> first
    | exact ⟨rfl, hR _ G M H hv h⟩
    | exact h.elim
theorem kop_isnot : KOp X (compareOp .IsNot) (kIs true) := kop_of op_notN fun x y G M R H Q hv h hR => by
  cases y <;> first
    | exact ⟨rfl, hR _ G M H hv h⟩
    | exact h.elim
def kUn (k : V → Hp → Mem → KR → Prop) (t : KE) : KE := fun σ G M R E => t σ G M (fun x G M => k x G M R) E
def kNeg : V → Hp → Mem → KR → Prop := fun x G M R => match x with
  | .int i => R (.int (-i)) G M
  | _ => False
theorem je_neg {t : KE} (h : JE X W a t) : JE X W (.UnaryOp .USub a pos) (kUn kNeg t) :=
  pe_mono (pe_un un_neg h) fun σ H Q ⟨G, M, R, E, hv, h, hR, hE⟩ => ⟨G, M, _, E, hv, h, fun x G1 M1 H1 hv1 h1 => by
    cases x <;> first
      | exact ⟨_, rfl, hR _ G1 M1 H1 hv1 h1⟩
      | exact h1.elim, hE⟩
/-! ### subscripts, slices -/
def kIx (K : PySem.W.Frag) : KR2 := fun x y G M R => match x, y with
  | .ref a, .int i => ∃ xs v, SeqAt' K G M a xs ∧ atI xs i = some v ∧ R v G M
  | .str z, .int i => ∃ c, z.length ≤ sizeLine ∧ atI z.cps.toList i = some c ∧ R (.str ⟨#[c]⟩) G M
  | _, _ => False
theorem ix_k : IxR X (rUp (kIx X.K)) := fun value slice pins s σ H x y v u Q I rx ry ⟨G, M, R, hv, h, hR⟩ hs => by
  cases x <;> cases y <;> first
    | (obtain ⟨xs, w, h1, h2, h3⟩ := h
       rcases h1 with h1 | h1
       · exact ix_list value slice pins s σ H _ _ v u Q I rx ry ⟨_, xs, _, w, rfl, rfl, hv.lst h1, h2, hR _ G M H hv h3⟩ hs
       · exact ix_tup value slice pins s σ H _ _ v u Q I rx ry ⟨_, xs, _, w, rfl, rfl, hv.tup h1, h2, hR _ G M H hv h3⟩ hs)
    | (obtain ⟨c, h1, h2, h3⟩ := h
       exact ix_str value slice pins s σ H _ _ v u Q I rx ry ⟨_, _, c, rfl, rfl, h1, h2, hR _ G M H hv h3⟩ hs)
    | exact h.elim
theorem je_ix {ta tb : KE} (ha : JE X W a ta) (hb : JE X W b tb) (hs : PlainIx b := by exact fun _ _ => rfl) : JE X W (.Subscript a b pos) (kBin (kIx X.K) ta tb) :=
  pe_mono (pe_ix ix_k ha hb hs) fun _ _ _ h => bin_sim h
abbrev KO := KK (Option Int)
def JO (X : Cx) (W : WX) (e : Option Expr) (t : KO) : Prop := PO X e (upG W t)
theorem po_mono {X : Cx} {e : Option Expr} {t t' : TO} (h : PO X e t) (i : ∀ σ H Q, t' σ H Q → t σ H Q) : PO X e t' := ⟨fun pins s σ H Q I q => h.run pins s σ H Q I (i σ H Q q)⟩
def kNoP : KO := fun _ G M R _ => R none G M
def asI (R : Option Int → Hp → Mem → Prop) : KR := fun v G M => match v with
  | .int i => R (some i) G M
  | _ => False
def kPart (t : KE) : KO := fun σ G M R E => t σ G M (asI R) E
theorem jo_none : JO X W none kNoP := po_mono po_none fun σ H Q ⟨G, M, R, E, hv, h, hR, _⟩ => hR _ G M H hv h
theorem jo_some {t : KE} (h : JE X W e t) : JO X W (some e) (kPart t) := po_mono (po_some h) fun σ H Q ⟨G, M, R, E, hv, h, hR, hE⟩ => ⟨G, M, _, E, hv, h, fun v G1 M1 H1 hv1 h1 => by
    cases v <;> first
      | exact ⟨_, rfl, hR _ G1 M1 H1 hv1 h1⟩
      | exact h1.elim, hE⟩
/-- xs[lo:hi] of a list -/
def kSl (K : PySem.W.Frag) (t : KE) (tl th : KO) : KE := fun σ G M R E => t σ G M (fun x G M => tl σ G M (fun l G M => th σ G M (fun u G M => match x with
  | .ref a => ∃ xs, LstAt K G M a xs ∧ ∀ p, Fr G M p → R (.ref p) G ((p, .lst (cutV xs l u)) :: M)
  | _ => False) E) E) E
theorem je_slice {t : KE} {lo hi : Option Expr} {tl th : KO} {p2 : Pos} (he : JE X W e t) (hl : JO X W lo tl) (hu : JO X W hi th) : JE X W (.Subscript e (.Slice lo hi none p2) pos) (kSl X.K t tl th) :=
  pe_mono (pe_slice sl_list he hl hu) fun σ H Q ⟨G, M, R, E, hv, h, hR, hE⟩ => ⟨G, M, _, E, hv, h, fun x G1 M1 H1 hv1 h1 => ⟨G1, M1, _, E, hv1, h1, fun l G2 M2 H2 hv2 h2 => ⟨G2, M2, _, E, hv2, h2, fun u G3 M3 H3 hv3 h3 => by
    cases x <;> first
      | (obtain ⟨xs, q1, q2⟩ := h3
         exact ⟨_, xs, rfl, hv3.lst q1, fun p hp => hR _ G3 _ _ (hv3.newM hp) (q2 p (hv3.fr hp))⟩)
      | exact h3.elim, hE⟩, hE⟩, hE⟩
/-! ### calls of built-ins -/
abbrev KC := List V → Hp → Mem → KR → Prop
def rUpC (k : KC) : List V → Hp → VK → Prop := fun vs H Q => ∃ G M R, Hv G M H ∧ k vs G M R ∧ ∀ v G' M' H', Hv G' M' H' → R v G' M' → Q v H'
def kCB (k : KC) (t : KA) : KE := fun σ G M R E => t σ G M (fun vs G M => k vs G M R) E
def KCall (X : Cx) (f : Value) (k : KC) : Prop := CallR X f (rUpC k)
theorem kcall_of {f : Value} {r : List V → Hp → VK → Prop} {k : KC} (h : CallR X f r)
    (s : ∀ vs G M R H Q, Hv G M H → k vs G M R → (∀ v G' M' H', Hv G' M' H' → R v G' M' → Q v H') → r vs H Q) : KCall X f k :=
  fun pins st σ H xs us Q I rv ⟨G, M, R, hv, hk, hR⟩ => h pins st σ H xs us Q I rv (s xs G M R H Q hv hk hR)
theorem cb_sim {t : KA} {k : KC} {σ : St} {H : Hp} {Q : VK} (h : upG W (kCB k t) σ H Q) : tCB (rUpC k) (upG W t) σ H Q := by
  obtain ⟨G, M, R, E, hv, h, hR, hE⟩ := h
  exact ⟨G, M, _, E, hv, h, fun vs G1 M1 H1 hv1 h1 => ⟨G1, M1, R, hv1, h1, hR⟩, hE⟩
variable {x : Str} {p : Pos} {id T : String}
theorem je_callB {k : KC} {t : KA} (hc : KCall X (.builtin id) k) (hm : X.mg x = none) (ha : JA X W (e :: es) t) (hv : bootBuiltins x = some (.builtin id) := by decide +kernel) (hg : Gl X x := by rfl) (hn : x ≠ "__name__" := by decide) (hdb : (x == ("__debug__" : Str)) = false := by decide)
    (he : starEach (e :: es) X.env = (false, eval e X.env) :: starEach es X.env := by rfl) (hpl : (backTo pos (starEach es X.env)).any (·.1) = false := by rfl) : JE X W (.Call (.Name x p) (e :: es) [] pos) (kCB k t) :=
  pe_mono (pe_callB hc hg hm hv ha hn hdb he hpl) fun _ _ _ h => cb_sim h
theorem je_callTy {k : KC} {t : KA} (hc : KCall X (.type T) k) (hm : X.mg x = none) (ha : JA X W (e :: es) t) (hv : bootBuiltins x = some (.type T) := by decide +kernel) (hg : Gl X x := by rfl) (hn : x ≠ "__name__" := by decide) (hdb : (x == ("__debug__" : Str)) = false := by decide)
    (he : starEach (e :: es) X.env = (false, eval e X.env) :: starEach es X.env := by rfl) (hpl : (backTo pos (starEach es X.env)).any (·.1) = false := by rfl) : JE X W (.Call (.Name x p) (e :: es) [] pos) (kCB k t) :=
  pe_mono (pe_callTy hc hg hm hv ha hn hdb he hpl) fun _ _ _ h => cb_sim h
/-- a built-in type's name as a value -/
theorem je_ty {T : String} {x : Str} {pos : Pos} (hm : X.mg x = none) (hv : bootBuiltins x = some (.type T) := by decide +kernel) (hg : Gl X x := by rfl) (hn : x ≠ "__name__" := by decide) (hd : (x == ("__debug__" : Str)) = false := by decide) : JE X W (.Name x pos) (kC (.ty T)) :=
  je_c (pe_bltn hg hm hv rfl hn hd)
/-- a module's constant -/
theorem je_glob {x : Str} {v : V} {u : Value} {pos : Pos} (hm : X.mg x = some u) (r : RelV v u) (hg : Gl X x := by rfl) (hd : (x == ("__debug__" : Str)) = false := by decide) : JE X W (.Name x pos) (kC v) := je_c (pe_glob hg hm r hd)
def kLen (K : PySem.W.Frag) : KC := fun vs G M R => match vs with
  | [.ref a] => ∃ xs, SeqAt' K G M a xs ∧ R (.int xs.length) G M
  | _ => False
theorem kc_len : KCall X (.builtin "len") (kLen X.K) := kcall_of call_len_seq fun vs G M R H Q hv h hR => by
  match vs, h with
  | [.ref a], ⟨xs, h1, h2⟩ => exact ⟨a, xs, rfl, h1.elim (fun q => .inl (hv.lst q)) (fun q => .inr (hv.tup q)), hR _ G M H hv h2⟩
def kList (K : PySem.W.Frag) : KC := fun vs G M R => match vs with
  | [.ref a] => ∃ xs, SeqAt' K G M a xs ∧ ∀ p, Fr G M p → R (.ref p) G ((p, .lst xs) :: M)
  | _ => False
theorem kc_list : KCall X (.type "list") (kList X.K) := kcall_of call_list_of fun vs G M R H Q hv h hR => by
  match vs, h with
  | [.ref a], ⟨xs, h1, h2⟩ => exact ⟨a, xs, rfl, h1.elim (fun q => .inl (hv.lst q)) (fun q => .inr (hv.tup q)), fun p hp => hR _ G _ _ (hv.newM hp) (h2 p (hv.fr hp))⟩
def kMin2 : KC := fun vs G M R => match vs with
  | [.int i, .int j] => R (.int (min i j)) G M
  | _ => False
def kMax2 : KC := fun vs G M R => match vs with
  | [.int i, .int j] => R (.int (max i j)) G M
  | _ => False
theorem kc_min2 (hc : X.calm = true := by rfl) : KCall X (.builtin "min") kMin2 := kcall_of (call_min2 hc) fun vs G M R H Q hv h hR => by
  match vs, h with
  | [.int i, .int j], h =>
    refine ⟨i, j, rfl, ?_⟩
    have e : (if j < i then j else i) = min i j := by split <;> omega
    rw [e]
    exact hR _ G M H hv h
theorem kc_max2 (hc : X.calm = true := by rfl) : KCall X (.builtin "max") kMax2 := kcall_of (call_max2 hc) fun vs G M R H Q hv h hR => by
  match vs, h with
  | [.int i, .int j], h =>
    refine ⟨i, j, rfl, ?_⟩
    have e : (if j > i then j else i) = max i j := by split <;> omega
    rw [e]
    exact hR _ G M H hv h
def kInt : KC := fun vs G M R => match vs with
  | [.int i] => R (.int i) G M
  | [.bl k] => R (.int (if k then 1 else 0)) G M
  | _ => False
theorem kc_int : KCall X (.type "int") kInt := kcall_of call_int1 fun vs G M R H Q hv h hR => by
  match vs, h with
  | [.int i], h => exact .inl ⟨i, rfl, hR _ G M H hv h⟩
  | [.bl i], h => exact .inr ⟨i, rfl, hR _ G M H hv h⟩
/-- min(xs), max(xs) of ints -/
def kMinL (K : PySem.W.Frag) : KC := fun vs G M R => match vs with
  | [.ref a] => ∃ ns : List Int, LstAt K G M a (ns.map V.int) ∧ 0 < ns.length ∧ ∀ m, m ∈ ns → (∀ y, y ∈ ns → m ≤ y) → R (.int m) G M
  | _ => False
def kMaxL (K : PySem.W.Frag) : KC := fun vs G M R => match vs with
  | [.ref a] => ∃ ns : List Int, LstAt K G M a (ns.map V.int) ∧ 0 < ns.length ∧ ∀ m, m ∈ ns → (∀ y, y ∈ ns → y ≤ m) → R (.int m) G M
  | _ => False
theorem kc_minL (hc : X.calm = true := by rfl) : KCall X (.builtin "min") (kMinL X.K) := kcall_of (cr_min hc) fun vs G M R H Q hv h hR => by
  match vs, h with
  | [.ref a], ⟨ns, h1, h2, h3⟩ => exact ⟨a, ns, rfl, hv.lst h1, h2, fun m q1 q2 => hR _ G M H hv (h3 m q1 q2)⟩
theorem kc_maxL (hc : X.calm = true := by rfl) : KCall X (.builtin "max") (kMaxL X.K) := kcall_of (cr_max hc) fun vs G M R H Q hv h hR => by
  match vs, h with
  | [.ref a], ⟨ns, h1, h2, h3⟩ => exact ⟨a, ns, rfl, hv.lst h1, h2, fun m q1 q2 => hR _ G M H hv (h3 m q1 q2)⟩
def kAll (K : PySem.W.Frag) : KC := fun vs G M R => match vs with
  | [.ref a] => ∃ bs : List Bool, LstAt K G M a (bs.map V.bl) ∧ R (.bl (bs.all _root_.id)) G M
  | _ => False
theorem kc_all (hc : X.calm = true := by rfl) : KCall X (.builtin "all") (kAll X.K) := kcall_of (cr_all hc) fun vs G M R H Q hv h hR => by
  match vs, h with
  | [.ref a], ⟨ns, h1, h2⟩ => exact ⟨a, ns, rfl, hv.lst h1, hR _ G M H hv h2⟩
def kSum (K : PySem.W.Frag) : KC := fun vs G M R => match vs with
  | [.ref a] => ∃ ns : List Int, LstAt K G M a (ns.map V.int) ∧ R (.int ns.sum) G M
  | _ => False
theorem kc_sum (hc : X.calm = true := by rfl) : KCall X (.builtin "sum") (kSum X.K) := kcall_of (cr_sum hc) fun vs G M R H Q hv h hR => by
  match vs, h with
  | [.ref a], ⟨ns, h1, h2⟩ => exact ⟨a, ns, rfl, hv.lst h1, hR _ G M H hv h2⟩
/-- isinstance(x, c) -/
def kIsi (K : PySem.W.Frag) : KC := fun vs G M R => match vs with
  | [x, c] => ∃ (t u : Value) (b : Bool), ClsV c u ∧ (∀ H, Hv G M H → TyX K H x t) ∧ PySem.W.kitOne K t u = some b ∧ R (.bl b) G M
  | _ => False
theorem kc_isi : KCall X (.builtin "isinstance") (kIsi X.K) := kcall_of call_isi fun vs G M R H Q hv h hR => by
  match vs, h with
  | [x, c], ⟨t, u, b, h1, h2, h3, h4⟩ => exact ⟨x, c, t, u, b, rfl, h1, h2 H hv, h3, hR _ G M H hv h4⟩
/-! ### methods of built-in types -/
abbrev KM := V → List V → Hp → Mem → KR → Prop
def rUpM (k : KM) : V → List V → Hp → VK → Prop := fun x vs H Q => ∃ G M R, Hv G M H ∧ k x vs G M R ∧ ∀ v G' M' H', Hv G' M' H' → R v G' M' → Q v H'
def KMt (X : Cx) (id : String) (k : KM) : Prop := MtR X id (rUpM k)
theorem kmt_of {r : V → List V → Hp → VK → Prop} {k : KM} (h : MtR X id r)
    (s : ∀ x vs G M R H Q, Hv G M H → k x vs G M R → (∀ v G' M' H', Hv G' M' H' → R v G' M' → Q v H') → r x vs H Q) : KMt X id k :=
  fun pins st σ H x xs v us Q I rx rv ⟨G, M, R, hv, hk, hR⟩ => h pins st σ H x xs v us Q I rx rv (s x xs G M R H Q hv hk hR)
def kBM (K : PySem.W.Frag) (T : String) (k : KM) (to : KE) (t : KA) : KE := fun σ G M R E => to σ G M (fun x G M => (∀ H, Hv G M H → tyV K T x H) ∧ t σ G M (fun vs G M => k x vs G M R) E) E
def kBM0 (K : PySem.W.Frag) (T : String) (k : KM) (to : KE) : KE := fun σ G M R E => to σ G M (fun x G M => (∀ H, Hv G M H → tyV K T x H) ∧ k x [] G M R) E
variable {o : Expr} {name : Str} {apos cpos : Pos}
theorem je_bm {k : KM} {to : KE} {t : KA} (pa : PlainAttrs T) (slot : Slot T name id) (hty : typeOf (.builtin id) = pure (.type "method_descriptor")) (hm : KMt X id k) (ho : JE X W o to) (ha : JA X W (e :: es) t)
    (hbase : attributeBase o name X.env (eval o X.env) = eval o X.env := by rfl)
    (hfew : ((backTo cpos (starEach (e :: es) X.env)).all (fun x => !x.1) && (backToKw cpos (keywordEach [] X.env)).all (fun x => x.1.isSome)
      && decide ((e :: es).length + ([] : List Keyword).length + (if ([] : List Keyword).isEmpty then 0 else 1) < 30)) = true := by rfl)
    (hline : (apos.endLine == cpos.line) = true := by rfl) (hs : starEach (e :: es) X.env = (false, eval e X.env) :: starEach es X.env := by rfl) (hplain : (backTo cpos (starEach es X.env)).any (·.1) = false := by rfl) :
    JE X W (.Call (.Attribute o name apos) (e :: es) [] cpos) (kBM X.K T k to t) :=
  pe_mono (pe_bm pa slot hty hm ho ha hbase hfew hline hs hplain) fun σ H Q ⟨G, M, R, E, hv, h, hR, hE⟩ => ⟨G, M, _, E, hv, h, fun x G1 M1 H1 hv1 h1 => ⟨h1.1 H1 hv1, G1, M1, _, E, hv1, h1.2, fun vs G2 M2 H2 hv2 h2 => ⟨G2, M2, R, hv2, h2, hR⟩, hE⟩, hE⟩
theorem je_bm0 {k : KM} {to : KE} (pa : PlainAttrs T) (slot : Slot T name id) (hty : typeOf (.builtin id) = pure (.type "method_descriptor")) (hm : KMt X id k) (ho : JE X W o to)
    (hbase : attributeBase o name X.env (eval o X.env) = eval o X.env := by rfl) (hline : (apos.endLine == cpos.line) = true := by rfl) : JE X W (.Call (.Attribute o name apos) [] [] cpos) (kBM0 X.K T k to) :=
  pe_mono (pe_bm0 pa slot hty hm ho hbase hline) fun σ H Q ⟨G, M, R, E, hv, h, hR, hE⟩ => ⟨G, M, _, E, hv, h, fun x G1 M1 H1 hv1 h1 => ⟨h1.1 H1 hv1, G1, M1, R, hv1, h1.2, hR⟩, hE⟩
def kAppend : KM := fun x vs G M R => match x, vs with
  | .ref a, [y] => ∃ n xs, M[n]? = some (a, .lst xs) ∧ xs.length < sizeLine ∧ R .non G (M.set n (a, .lst (xs ++ [y])))
  | _, _ => False
theorem km_append : KMt X "list.append" kAppend := kmt_of mt_append fun x vs G M R H Q hv h hR => by
  match x, vs, h with
  | .ref a, [y], ⟨n, xs, h1, h2, h3⟩ => exact ⟨a, xs, y, rfl, rfl, hv.get h1, h2, hR _ G _ _ (hv.set h1) h3⟩
def kExtend : KM := fun x vs G M R => match x, vs with
  | .ref a, [.ref b] => ∃ n xs ys, M[n]? = some (a, .lst xs) ∧ At G M b (.lst ys) ∧ xs.length + ys.length ≤ sizeLine ∧ R .non G (M.set n (a, .lst (xs ++ ys)))
  | _, _ => False
theorem km_extend : KMt X "list.extend" kExtend := kmt_of mt_extend fun x vs G M R H Q hv h hR => by
  match x, vs, h with
  | .ref a, [.ref b], ⟨n, xs, ys, h1, h2, h3, h4⟩ => exact ⟨a, b, xs, ys, rfl, rfl, hv.get h1, hv.at h2, h3, hR _ G _ _ (hv.set h1) h4⟩
def kReverse : KM := fun x vs G M R => match x, vs with
  | .ref a, [] => ∃ n xs, M[n]? = some (a, .lst xs) ∧ R .non G (M.set n (a, .lst xs.reverse))
  | _, _ => False
theorem km_reverse : KMt X "list.reverse" kReverse := kmt_of mt_reverse fun x vs G M R H Q hv h hR => by
  match x, vs, h with
  | .ref a, [], ⟨n, xs, h1, h3⟩ => exact ⟨a, xs, rfl, rfl, hv.get h1, hR _ G _ _ (hv.set h1) h3⟩
end
/-! ### defs -/
abbrev KSp := List V → Hp → Mem → KR → KX → Prop
def lift (S : KSp) : Sp := fun vs H Q E => ∃ G M R X, Hv G M H ∧ S vs G M R X ∧ (∀ v G' M' H', Hv G' M' H' → R v G' M' → Q v H') ∧ (∀ c d G' M' H', Hv G' M' H' → X c d G' M' → E c d H')
def kCall (S : KSp) (t : KA) : KE := fun σ G M R E => t σ G M (fun vs G M => S vs G M R E) E
section
variable {X : Cx} {W : WX} {pos p : Pos} {e : Expr} {es : List Expr} {x : Str} {k : Nat} {f : Addr} {fd : FuncData} {ps : List Str} {S : KSp} {t : KA}
theorem je_call (F : FnOk X.prog X.w X.K X.mg X.base (L2.CX X.prog X.w) k f fd ps (lift S)) (hr : Room k X.A) (tk : Takes X W) (hm : X.mg x = some (.ref f)) (hk : PySem.W.keepIn X.K (.ref f) = true) (hb : Binds X.K fd ps []) (ha : JA X W (e :: es) t) (hg : Gl X x := by rfl)
    (hdb : (x == ("__debug__" : Str)) = false := by decide) (he : starEach (e :: es) X.env = (false, eval e X.env) :: starEach es X.env := by rfl) (hpl : (backTo pos (starEach es X.env)).any (·.1) = false := by rfl) :
    JE X W (.Call (.Name x p) (e :: es) [] pos) (kCall S t) :=
  pe_mono (pe_callS F hr hg hm hk hb (passAt tk) ha hdb he hpl) fun σ H Q ⟨G, M, R, E, hv, h, hR, hE⟩ =>
    ⟨G, M, _, E, hv, h, fun vs G1 M1 H1 hv1 h1 => ⟨G1, M1, R, E, hv1, h1, hR, hE⟩, hE⟩
end
end BT
set_option Elab.async false
set_option linter.all false
set_option maxRecDepth 100000
set_option maxHeartbeats 4000000
namespace BT
open PySem PySem.Spec L2
open PyProof.Rows hiding St
/-! ### statements -/
structure Kd where
  nx : St → Hp → Mem → Prop
  rt : KR
  bk : St → Hp → Mem → Prop := fun _ _ _ => False
  ct : St → Hp → Mem → Prop := fun _ _ _ => False
  xc : Value → Option Addr → St → Hp → Mem → Prop := fun _ _ _ _ _ => False
abbrev KS := Kd → St → Hp → Mem → Prop
structure EndsTo (W : WX) (d : Kd) (D : Ends) : Prop where
  nx : ∀ σ G M H, Hv G M H → d.nx σ G M → D.nx σ H
  rt : ∀ v G M H, Hv G M H → d.rt v G M → D.rt v H
  bk : ∀ σ G M H, Hv G M H → d.bk σ G M → D.bk σ H
  ct : ∀ σ G M H, Hv G M H → d.ct σ G M → D.ct σ H
  xc : ∀ c a σ G M H, Hv G M H → d.xc c a σ G M → W c a σ H
def upS (W : WX) (t : KS) : TS := fun D σ H => ∃ G M d, Hv G M H ∧ t d σ G M ∧ EndsTo W d D
def JS (X : Cx) (W : WX) (s : Stmt) (t : KS) : Prop := PS X s (upS W t)
def JSs (X : Cx) (W : WX) (s : List Stmt) (t : KS) : Prop := PSs X s (upS W t)
theorem ps_mono {X : Cx} {s : Stmt} {t t' : TS} (h : PS X s t) (i : ∀ D σ H, t' D σ H → t D σ H) : PS X s t' := ⟨fun pins st σ H D I q => h.run pins st σ H D I (i D σ H q)⟩
theorem pss_mono {X : Cx} {s : List Stmt} {t t' : TS} (h : PSs X s t) (i : ∀ D σ H, t' D σ H → t D σ H) : PSs X s t' := ⟨fun pins st σ H D I q => h.run pins st σ H D I (i D σ H q)⟩
def Kd.x (d : Kd) (σ : St) : KX := fun c a G M => d.xc c a σ G M
section
variable {X : Cx} {W : WX} {pos : Pos} {s : Stmt} {ss : List Stmt} {e : Expr} {t u : KS}
def kNext : KS := fun D σ G M => D.nx σ G M
def kSeq (t u : KS) : KS := fun D σ G M => ∃ G' M', Wk G M G' M' ∧ t { D with nx := u D } σ G' M'
def kNever : KS := fun _ _ _ _ => False
theorem jss_nil : JSs X W [] kNext := pss_mono pss_nil fun D σ H ⟨G, M, d, hv, h, en⟩ => en.nx σ G M H hv h
theorem jss_cons (h1 : JS X W s t) (h2 : JSs X W ss u) : JSs X W (s :: ss) (kSeq t u) := pss_mono (pss_cons h1 h2) fun D σ H ⟨G, M, d, hv, ⟨G', M', wk, h⟩, en⟩ =>
  ⟨G', M', _, wk H hv, h, ⟨fun σ' G2 M2 H2 hv2 q => ⟨G2, M2, d, hv2, q, en⟩, en.rt, en.bk, en.ct, en.xc⟩⟩
theorem js_never : JS X W s kNever := ps_mono ps_never fun D σ H ⟨G, M, d, hv, h, en⟩ => h
theorem js_pass : JS X W (.Pass pos) kNext := ps_mono ps_pass fun D σ H ⟨G, M, d, hv, h, en⟩ => en.nx σ G M H hv h
def kSet (i : Nat) (t : KE) : KS := fun D σ G M => t σ G M (fun v G M => D.nx (σ.set i (some v)) G M) (D.x σ)
theorem js_set {i : Nat} {x : Str} {t : KE} {pos' : Pos} (he : JE X W e t) (hN : X.N.Nodup) (hi : X.N[i]? = some x := by rfl) (hx : Loc X.env.scope x := by first | exact Or.inl rfl | exact Or.inr rfl)
    (hs : swapsWith e (some (.Name x pos')) pos.line X.env = pure false := by rfl) (hf : X.fn x = true ∨ X.env.scope.names.lookup x = some .local := by first | exact .inl rfl | exact .inr rfl | assumption) :
    JS X W (.Assign [.Name x pos'] e pos) (kSet i t) := ps_mono (ps_set hN hi hx he hs hf) fun D σ H ⟨G, M, d, hv, h, en⟩ =>
  ⟨G, M, _, _, hv, h, fun v G' M' H' hv' q => en.nx _ G' M' H' hv' q, fun c a G' M' H' hv' q => en.xc c a σ G' M' H' hv' q⟩
def kExpr (t : KE) : KS := fun D σ G M => t σ G M (fun _ G M => D.nx σ G M) (D.x σ)
theorem js_expr {t : KE} (he : JE X W e t) (hs : swapsWith e none pos.line X.env = pure false := by rfl) : JS X W (.Expr e pos) (kExpr t) := ps_mono (ps_expr he hs) fun D σ H ⟨G, M, d, hv, h, en⟩ =>
  ⟨G, M, _, _, hv, h, fun v G' M' H' hv' q => en.nx _ G' M' H' hv' q, fun c a G' M' H' hv' q => en.xc c a σ G' M' H' hv' q⟩
def kRet (t : KE) : KS := fun D σ G M => t σ G M D.rt (D.x σ)
theorem js_ret {t : KE} (he : JE X W e t) : JS X W (.Return (some e) pos) (kRet t) := ps_mono (ps_ret he) fun D σ H ⟨G, M, d, hv, h, en⟩ =>
  ⟨G, M, _, _, hv, h, fun v G' M' H' hv' q => en.rt _ G' M' H' hv' q, fun c a G' M' H' hv' q => en.xc c a σ G' M' H' hv' q⟩
def kRetN : KS := fun D σ G M => D.rt .non G M
theorem js_retN : JS X W (.Return none pos) kRetN := ps_mono ps_retN fun D σ H ⟨G, M, d, hv, h, en⟩ => en.rt _ G M H hv h
def kIf (c : KT) (t u : KS) : KS := fun D σ G M => c σ G M (fun b G M => if b = true then t D σ G M else u D σ G M) (D.x σ)
theorem js_if {c : Expr} {a b : List Stmt} {tc : KT} (hc : JT X W c tc) (ha : JSs X W a t) (hb : JSs X W b u) : JS X W (.If c a b pos) (kIf tc t u) := ps_mono (ps_if hc ha hb) fun D σ H ⟨G, M, d, hv, h, en⟩ =>
  ⟨G, M, _, _, hv, h, fun v G' M' H' hv' q => by
    cases v with
    | true => rw [if_pos rfl] at q ⊢; exact ⟨G', M', d, hv', q, en⟩
    | false => rw [if_neg Bool.false_ne_true] at q ⊢; exact ⟨G', M', d, hv', q, en⟩, fun c a G' M' H' hv' q => en.xc c a σ G' M' H' hv' q⟩
/-! ### targets -/
structure KG where
  val : V → St → Hp → Mem → (St → Hp → Mem → Prop) → Prop
  tup : List V → St → Hp → Mem → (St → Hp → Mem → Prop) → Prop
structure JG (X : Cx) (tg : Expr) (g : KG) (gr : TG) : Prop where
  pg : PG X tg gr
  val : ∀ v σ G M R H Q, Hv G M H → g.val v σ G M R → (∀ σ' G' M' H', Hv G' M' H' → R σ' G' M' → Q σ' H') → gr v σ H Q
  tup : ∀ T vs σ G M R H Q, Hv G M H → H T = none → g.tup vs σ G M R → (∀ σ' G' M' H', Hv G' M' H' → R σ' G' M' → Q σ' H') → gr (.ref T) σ (upd H T (.tup vs)) Q
def kgName (i : Nat) : KG := ⟨fun v σ G M R => R (σ.set i (some v)) G M, fun vs σ G M R => ∀ T, Fr G M T → R (σ.set i (some (.ref T))) (upd G T (.tup vs)) M⟩
theorem jg_name {i : Nat} {x : Str} (hN : X.N.Nodup) (hi : X.N[i]? = some x := by rfl) (hx : Loc X.env.scope x := by first | exact Or.inl rfl | exact Or.inr rfl) (hf : X.fn x = true ∨ X.env.scope.names.lookup x = some .local := by first | exact .inl rfl | exact .inr rfl | assumption) : JG X (.Name x pos) (kgName i) (gName i) :=
  ⟨pg_name hN hi hx hf, fun v σ G M R H Q hv h hR => hR _ G M H hv h, fun T vs σ G M R H Q hv hT h hR => hR _ _ M _ (hv.newG hT) (h T (hv.fr hT))⟩
/-- several targets at once -/
abbrev KGs := List V → St → Hp → Mem → (St → Hp → Mem → Prop) → Prop
def kgsNil : KGs := fun vs σ G M R => match vs with
  | [] => R σ G M
  | _ => False
def kgsCons (g : KG) (r : KGs) : KGs := fun vs σ G M R => match vs with
  | v :: vs => g.val v σ G M (fun σ G M => r vs σ G M R)
  | [] => False
structure JGs (X : Cx) (ts : List Expr) (g : KGs) (gr : TGs) : Prop where
  pgs : PGs X ts gr
  sim : ∀ vs σ G M R H Q, Hv G M H → g vs σ G M R → (∀ σ' G' M' H', Hv G' M' H' → R σ' G' M' → Q σ' H') → gr vs σ H Q
theorem jgs_nil : JGs X [] kgsNil gNil := ⟨pgs_nil, fun vs σ G M R H Q hv h hR => by
  match vs, h with
  | [], h => exact ⟨rfl, hR _ G M H hv h⟩⟩
theorem jgs_cons {tg : Expr} {ts : List Expr} {g : KG} {r : KGs} {gr : TG} {gs : TGs} (h1 : JG X tg g gr) (hr : JGs X ts r gs)
    (hs : (assignEach (tg :: ts) X.env).map (·.2) = assign tg X.env :: (assignEach ts X.env).map (·.2) := by rfl) : JGs X (tg :: ts) (kgsCons g r) (gCons gr gs) :=
  ⟨pgs_cons h1.pg hr.pgs hs, fun vs σ G M R H Q hv h hR => by
    match vs, h with
    | v :: vs, h => exact ⟨v, vs, rfl, h1.val v σ G M _ H _ hv h fun σ' G' M' H' hv' q => hr.sim vs σ' G' M' R H' Q hv' q hR⟩⟩
def onLen (n : Nat) (g : KGs) : KGs := fun vs σ G M R => match vs.length == n with
  | true => g vs σ G M R
  | false => False
theorem onLen_of {n : Nat} {g : KGs} {vs : List V} {σ : St} {G : Hp} {M : Mem} {R : St → Hp → Mem → Prop} (h : onLen n g vs σ G M R) : vs.length = n ∧ g vs σ G M R := by
  unfold onLen at h
  split at h
  · rename_i e; exact ⟨beq_iff_eq.mp e, h⟩
  · exact h.elim
def kgTup (K : PySem.W.Frag) (n : Nat) (g : KGs) : KG := ⟨fun v σ G M R => match v with
    | .ref a => ∃ xs, SqT K G a xs ∧ onLen n g xs σ G M R
    | _ => False, onLen n g⟩
theorem jg_tup {K : PySem.W.Frag} {ts : List Expr} {g : KGs} {gs : TGs} {n k : Nat} (hc : X.calm = true) (h : JGs X ts g gs) (hK : X.K = K := by rfl) (hn : (assignEach ts X.env).length = n := by rfl) (hst : (assignEach ts X.env).findIdx? (·.1) = none := by rfl) :
    JG X (.Tuple ts k pos) (kgTup K n g) (gTup K n gs) := by
  subst hK
  exact ⟨pg_tup hc h.pgs hn hst, fun v σ G M R H Q hv q hR => by
    match v, q with
    | .ref a, ⟨xs, q1, q2⟩ =>
      obtain ⟨e, q3⟩ := onLen_of q2
      exact ⟨a, xs, rfl, hv.tup q1, e, h.sim xs σ G M R H Q hv q3 hR⟩,
   fun T vs σ G M R H Q hv hT q hR => by
    obtain ⟨e, q3⟩ := onLen_of q
    exact ⟨T, vs, rfl, .inl (.inl upd_same), e, h.sim vs σ G M R _ Q (hv.junk hT) q3 hR⟩⟩
/-- nothing is raised -/
def W0 : WX := fun _ _ _ _ => False
/-- a place of a list as a target -/
def setL (o i v : V) (G : Hp) (M : Mem) (R : Hp → Mem → Prop) : Prop := match o, i with
  | .ref a, .int k => ∃ n xs j, M[n]? = some (a, .lst xs) ∧ ixN xs.length k = some j ∧ R G (M.set n (a, .lst (xs.set j v)))
  | _, _ => False
def kgIx (to ti : KE) : KG := ⟨fun v σ G M R => to σ G M (fun o G M => ti σ G M (fun i G M => setL o i v G M (fun G M => R σ G M)) (fun _ _ _ _ => False)) (fun _ _ _ _ => False), fun _ _ _ _ _ => False⟩
theorem jg_ix {o i : Expr} {to ti : KE} (ho : JE X W0 o to) (hi : JE X W0 i ti)
    (ha : ∀ v, assign (.Subscript o i pos) X.env v = (do
      let ov ← holding [v] (eval o X.env)
      let iv ← holding [v, ov] (eval i X.env)
      standAt pos
      holding [v, ov, iv] (setItem ov iv v)
      release [v, ov, iv] []) := by intro _; rfl) : JG X (.Subscript o i pos) (kgIx to ti) (gSub (upG W0 to) (upG W0 ti) rSetL) :=
  ⟨pg_sub ho hi set_list ha, fun v σ G M R H Q hv q hR => ⟨G, M, _, _, hv, q, fun ov G2 M2 H2 hv2 q2 => ⟨G2, M2, _, _, hv2, q2, fun iv G3 M3 H3 hv3 q3 => by
    match ov, iv, q3 with
    | .ref a, .int k, ⟨n, xs, j, e1, e2, q⟩ => exact ⟨a, xs, k, j, rfl, rfl, hv3.get e1, e2, hR σ G3 _ _ (hv3.set e1) q⟩, fun _ _ _ _ _ _ z => z.elim⟩, fun _ _ _ _ _ _ z => z.elim⟩,
   fun _ _ _ _ _ _ _ _ _ _ z => z.elim⟩
/-- a target of an assignment -/
def kAsg (t : KE) (g : KG) : KS := fun D σ G M => t σ G M (fun v G M => g.val v σ G M D.nx) (D.x σ)
theorem js_asg {tg : Expr} {t : KE} {g : KG} {gr : TG} (he : JE X W e t) (hg : JG X tg g gr) (hs : swapsWithSole [tg] e pos.line X.env = pure false := by rfl) (hw : swappedStores [tg] e X.env = pure none := by rfl)
    (h1 : (assignEach [tg] X.env).map (·.2) = [assign tg X.env] := by rfl) : JS X W (.Assign [tg] e pos) (kAsg t g) := ps_mono (ps_asg he hg.pg hs hw h1) fun D σ H ⟨G, M, d, hv, h, en⟩ =>
  ⟨G, M, _, _, hv, h, fun v G' M' H' hv' q => hg.val v σ G' M' _ H' _ hv' q fun σ' G2 M2 H2 hv2 q2 => en.nx _ G2 M2 H2 hv2 q2, fun c a G' M' H' hv' q => en.xc c a σ G' M' H' hv' q⟩
end
end BT
set_option Elab.async false
set_option linter.all false
set_option maxRecDepth 100000
set_option maxHeartbeats 4000000
namespace BT
open PySem PySem.Spec L2
open PyProof.Rows hiding St
/-! ### what is walked -/
structure Src where
  n : Nat
  get : Nat → V ⊕ List V
  ok : Hp → Mem → Prop
abbrev KI := KK Src
/-- an iterator that gives what the source says -/
structure Goes (src : Src) (J : It) : Prop where
  go : ∀ i G M H, Hv G M H → src.ok G M → i < src.n → J.go i H
  stop : ∀ i G M H, Hv G M H → src.ok G M → src.n ≤ i → J.stop i H
  yld : ∀ i G M H x H', Hv G M H → src.ok G M → i < src.n → J.yld i H x H' → match src.get i with
    | .inl v => x = v ∧ H' = H
    | .inr vs => ∃ T, x = .ref T ∧ H T = none ∧ H' = upd H T (.tup vs)
def upI (W : WX) (t : KI) : TI := fun σ H Q => ∃ G M R E, Hv G M H ∧ t σ G M R E ∧ (∀ src G' M' H', Hv G' M' H' → R src G' M' → ∀ J, Goes src J → Q J H') ∧ (∀ c d G' M' H', Hv G' M' H' → E c d G' M' → W c d σ H')
def JI (X : Cx) (W : WX) (tg it : Expr) (t : KI) : Prop := PI X tg it (upI W t)
theorem pi_mono {X : Cx} {tg it : Expr} {t t' : TI} (h : PI X tg it t) (i : ∀ σ H Q, t' σ H Q → t σ H Q) : PI X tg it t' := ⟨fun pins s σ H Q I q => h.run pins s σ H Q I (i σ H Q q)⟩
def srcL (K : PySem.W.Frag) (a : Addr) (xs : List V) : Src := ⟨xs.length, fun i => .inl (xs.getD i .non), fun G M => LstAt K G M a xs⟩
def srcT (K : PySem.W.Frag) (a : Addr) (xs : List V) : Src := ⟨xs.length, fun i => .inl (xs.getD i .non), fun G M => SqT K G a xs⟩
def srcR (lo : Int) (n : Nat) : Src := ⟨n, fun i => .inl (.int (lo + i)), fun _ _ => True⟩
def srcC (lo c : Int) (n : Nat) : Src := ⟨n, fun i => .inl (.int (lo + (i : Nat) * c)), fun _ _ => True⟩
def srcE (K : PySem.W.Frag) (a : Addr) (xs : List V) : Src := ⟨xs.length, fun i => .inr [.int i, xs.getD i .non], fun G M => LstAt K G M a xs⟩
def srcZ (K : PySem.W.Frag) (a b : Addr) (xs ys : List V) : Src := ⟨min xs.length ys.length, fun i => .inr [xs.getD i .non, ys.getD i .non], fun G M => LstAt K G M a xs ∧ LstAt K G M b ys⟩
def srcV (K : PySem.W.Frag) (a : Addr) (xs : List V) : Src := ⟨xs.length, fun i => .inl (xs.getD (xs.length - 1 - i) .non), fun G M => LstAt K G M a xs⟩
theorem getD_of {xs : List V} {i : Nat} {x : V} (h : xs[i]? = some x) : xs.getD i .non = x := by
  rw [List.getD_eq_getElem?_getD, h]; rfl
theorem get_lt {xs : List V} {i : Nat} (h : i < xs.length) : xs[i]? = some (xs.getD i .non) := by
  rw [List.getD_eq_getElem?_getD, List.getElem?_eq_getElem h]; rfl
theorem goes_L {K : PySem.W.Frag} {a : Addr} {xs : List V} : Goes (srcL K a xs) (Itl K a) where
  go := fun i G M H hv ok hi => ⟨xs, _, hv.lst ok, get_lt hi⟩
  stop := fun i G M H hv ok hi => ⟨xs, hv.lst ok, hi⟩
  yld := fun i G M H x H' hv ok hi y => ⟨(getD_of (y.2 xs (hv.lst ok))).symm, y.1⟩
theorem goes_T {K : PySem.W.Frag} {a : Addr} {xs : List V} : Goes (srcT K a xs) (Itt K a) where
  go := fun i G M H hv ok hi => ⟨xs, _, hv.tup ok, get_lt hi⟩
  stop := fun i G M H hv ok hi => ⟨xs, hv.tup ok, hi⟩
  yld := fun i G M H x H' hv ok hi y => ⟨(getD_of (y.2 xs (hv.tup ok))).symm, y.1⟩
theorem goes_R {lo : Int} {n : Nat} : Goes (srcR lo n) (Itr lo n) where
  go := fun i G M H hv ok hi => hi
  stop := fun i G M H hv ok hi => hi
  yld := fun i G M H x H' hv ok hi y => ⟨y.2, y.1⟩
theorem goes_C {lo c : Int} {n : Nat} : Goes (srcC lo c n) (Itc lo c n) where
  go := fun i G M H hv ok hi => hi
  stop := fun i G M H hv ok hi => hi
  yld := fun i G M H x H' hv ok hi y => ⟨y.2, y.1⟩
theorem goes_E {K : PySem.W.Frag} {a : Addr} {xs : List V} : Goes (srcE K a xs) (Ite K a) where
  go := fun i G M H hv ok hi => ⟨xs, _, hv.lst ok, get_lt hi⟩
  stop := fun i G M H hv ok hi => ⟨xs, hv.lst ok, hi⟩
  yld := fun i G M H x H' hv ok hi y => by
    obtain ⟨T, z, e1, e2, e3, e4⟩ := y
    have e5 := getD_of (e4 xs (hv.lst ok))
    exact ⟨T, e1, e2, by rw [e3, ← e5]⟩
theorem goes_Z {K : PySem.W.Frag} {a b : Addr} {xs ys : List V} : Goes (srcZ K a b xs ys) (Itz K a b) where
  go := fun i G M H hv ok hi => ⟨xs, ys, _, _, hv.lst ok.1, hv.lst ok.2, get_lt (Nat.lt_of_lt_of_le hi (Nat.min_le_left _ _)), get_lt (Nat.lt_of_lt_of_le hi (Nat.min_le_right _ _))⟩
  stop := fun i G M H hv ok hi => ⟨xs, ys, hv.lst ok.1, hv.lst ok.2, by
    have hi : min xs.length ys.length ≤ i := hi
    omega⟩
  yld := fun i G M H x H' hv ok hi y => by
    obtain ⟨T, z, w, e1, e2, e3, e4, e5⟩ := y
    have e6 := getD_of (e4 xs (hv.lst ok.1))
    have e7 := getD_of (e5 ys (hv.lst ok.2))
    exact ⟨T, e1, e2, by rw [e3, ← e6, ← e7]⟩
theorem goes_V {K : PySem.W.Frag} {a : Addr} {xs : List V} : Goes (srcV K a xs) (Itv K a xs.length) where
  go := fun i G M H hv ok hi => ⟨hi, xs, _, hv.lst ok, get_lt (by have hi : i < xs.length := hi; omega)⟩
  stop := fun i G M H hv ok hi => hi
  yld := fun i G M H x H' hv ok hi y => ⟨(getD_of (y.2 xs (hv.lst ok))).symm, y.1⟩
section
variable {X : Cx} {W : WX} {pos p tpos : Pos} {e e2 a b c : Expr} {es : List Expr} {tg : Expr}
def kiSeq (K : PySem.W.Frag) (t : KE) : KI := fun σ G M R E => t σ G M (fun x G M => match x with
  | .ref a => ∃ xs, LstAt K G M a xs ∧ R (srcL K a xs) G M
  | _ => False) E
def kiTup (K : PySem.W.Frag) (t : KE) : KI := fun σ G M R E => t σ G M (fun x G M => match x with
  | .ref a => ∃ xs, SqT K G a xs ∧ R (srcT K a xs) G M
  | _ => False) E
theorem ji_list {t : KE} (h : JE X W e t) : JI X W tg e (kiSeq X.K t) := pi_mono (pi_list h) fun σ H Q ⟨G, M, R, E, hv, h, hR, hE⟩ => ⟨G, M, _, E, hv, h, fun x G1 M1 H1 hv1 q => by
    match x, q with
    | .ref a, ⟨xs, q1, q2⟩ => exact ⟨a, rfl, ⟨xs, hv1.lst q1⟩, hR _ G1 M1 H1 hv1 q2 _ goes_L⟩, hE⟩
theorem ji_tup {t : KE} (h : JE X W e t) : JI X W tg e (kiTup X.K t) := pi_mono (pi_tup h) fun σ H Q ⟨G, M, R, E, hv, h, hR, hE⟩ => ⟨G, M, _, E, hv, h, fun x G1 M1 H1 hv1 q => by
    match x, q with
    | .ref a, ⟨xs, q1, q2⟩ => exact ⟨a, rfl, ⟨xs, hv1.tup q1⟩, hR _ G1 M1 H1 hv1 q2 _ goes_T⟩, hE⟩
/-- range(n), range(a, b), range(a, b, c) -/
def kiR1 (t : KA) : KI := fun σ G M R E => t σ G M (fun vs G M => match vs with
  | [.int j] => (-(2 ^ 62) ≤ j ∧ j < 2 ^ 62) ∧ R (srcR 0 j.toNat) G M
  | _ => False) E
def kiR2 (t : KA) : KI := fun σ G M R E => t σ G M (fun vs G M => match vs with
  | [.int i, .int j] => (-(2 ^ 62) ≤ i ∧ i < 2 ^ 62 ∧ -(2 ^ 62) ≤ j ∧ j < 2 ^ 62) ∧ R (srcR i (j - i).toNat) G M
  | _ => False) E
def kiR3 (t : KA) : KI := fun σ G M R E => t σ G M (fun vs G M => match vs with
  | [.int i, .int j, .int c] => ∃ n, RgC i j c n ∧ R (srcC i c n) G M
  | _ => False) E
theorem ji_range1 {t : KA} (hm : X.mg "range" = none) (ha : JA X W [a] t) (hg : Gl X "range" := by rfl) (hs : starEach [a] X.env = [(false, eval a X.env)] := by rfl) : JI X W tg (.Call (.Name "range" p) [a] [] pos) (kiR1 t) :=
  pi_mono (pi_range1 hg hm ha hs) fun σ H Q ⟨G, M, R, E, hv, h, hR, hE⟩ => ⟨G, M, _, E, hv, h, fun vs G1 M1 H1 hv1 q => by
    match vs, q with
    | [.int j], ⟨⟨q1, q2⟩, q3⟩ => exact ⟨j, rfl, q1, q2, hR _ G1 M1 H1 hv1 q3 _ goes_R⟩, hE⟩
theorem ji_range2 {t : KA} (hm : X.mg "range" = none) (ha : JA X W [a, b] t) (hg : Gl X "range" := by rfl) (hs : starEach [a, b] X.env = [(false, eval a X.env), (false, eval b X.env)] := by rfl) (hs2 : starEach [b] X.env = [(false, eval b X.env)] := by rfl) : JI X W tg (.Call (.Name "range" p) [a, b] [] pos) (kiR2 t) :=
  pi_mono (pi_range2 hg hm ha hs hs2) fun σ H Q ⟨G, M, R, E, hv, h, hR, hE⟩ => ⟨G, M, _, E, hv, h, fun vs G1 M1 H1 hv1 q => by
    match vs, q with
    | [.int i, .int j], ⟨q1, q3⟩ => exact ⟨i, j, rfl, q1, hR _ G1 M1 H1 hv1 q3 _ goes_R⟩, hE⟩
theorem ji_range3 {t : KA} (hm : X.mg "range" = none) (ha : JA X W [a, b, c] t) (hg : Gl X "range" := by rfl) (hs : starEach [a, b, c] X.env = (false, eval a X.env) :: starEach [b, c] X.env := by rfl) (hpl : (backTo pos (starEach [b, c] X.env)).any (·.1) = false := by rfl) : JI X W tg (.Call (.Name "range" p) [a, b, c] [] pos) (kiR3 t) :=
  pi_mono (pi_range3 hg hm ha hs hpl) fun σ H Q ⟨G, M, R, E, hv, h, hR, hE⟩ => ⟨G, M, _, E, hv, h, fun vs G1 M1 H1 hv1 q => by
    match vs, q with
    | [.int i, .int j, .int c], ⟨n, q1, q3⟩ => exact ⟨i, j, c, n, rfl, q1, hR _ G1 M1 H1 hv1 q3 _ goes_C⟩, hE⟩
def kiEnum (K : PySem.W.Frag) (t : KA) : KI := fun σ G M R E => t σ G M (fun vs G M => match vs with
  | [.ref a] => ∃ xs, LstAt K G M a xs ∧ R (srcE K a xs) G M
  | _ => False) E
def kiRev (K : PySem.W.Frag) (t : KA) : KI := fun σ G M R E => t σ G M (fun vs G M => match vs with
  | [.ref a] => ∃ xs, LstAt K G M a xs ∧ R (srcV K a xs) G M
  | _ => False) E
def kiZip (K : PySem.W.Frag) (t : KA) : KI := fun σ G M R E => t σ G M (fun vs G M => match vs with
  | [.ref a, .ref b] => ∃ xs ys, LstAt K G M a xs ∧ LstAt K G M b ys ∧ R (srcZ K a b xs ys) G M
  | _ => False) E
variable {elts : List Expr} {kk : Nat}
theorem ji_enum {t : KA} (hm : X.mg "enumerate" = none) (ha : JA X W [e] t) (hg : Gl X "enumerate" := by rfl) (hs : starEach [e] X.env = [(false, eval e X.env)] := by rfl) : JI X W (.Tuple elts kk tpos) (.Call (.Name "enumerate" p) [e] [] pos) (kiEnum X.K t) :=
  pi_mono (pi_enum hg hm ha hs) fun σ H Q ⟨G, M, R, E, hv, h, hR, hE⟩ => ⟨G, M, _, E, hv, h, fun vs G1 M1 H1 hv1 q => by
    match vs, q with
    | [.ref a], ⟨xs, q1, q3⟩ => exact ⟨a, xs, rfl, hv1.lst q1, hR _ G1 M1 H1 hv1 q3 _ goes_E⟩, hE⟩
theorem ji_rev {t : KA} (hm : X.mg "reversed" = none) (ha : JA X W [e] t) (hg : Gl X "reversed" := by rfl) (hs : starEach [e] X.env = [(false, eval e X.env)] := by rfl) : JI X W tg (.Call (.Name "reversed" p) [e] [] pos) (kiRev X.K t) :=
  pi_mono (pi_reversed hg hm ha hs) fun σ H Q ⟨G, M, R, E, hv, h, hR, hE⟩ => ⟨G, M, _, E, hv, h, fun vs G1 M1 H1 hv1 q => by
    match vs, q with
    | [.ref a], ⟨xs, q1, q3⟩ => exact ⟨a, xs, rfl, hv1.lst q1, hR _ G1 M1 H1 hv1 q3 _ goes_V⟩, hE⟩
theorem ji_zip {t : KA} (hm : X.mg "zip" = none) (ha : JA X W [e, e2] t) (hg : Gl X "zip" := by rfl) (hs : starEach [e, e2] X.env = (false, eval e X.env) :: starEach [e2] X.env := by rfl) (hpl : (backTo pos (starEach [e2] X.env)).any (·.1) = false := by rfl) :
    JI X W (.Tuple elts kk tpos) (.Call (.Name "zip" p) [e, e2] [] pos) (kiZip X.K t) :=
  pi_mono (pi_zip hg hm ha hs hpl) fun σ H Q ⟨G, M, R, E, hv, h, hR, hE⟩ => ⟨G, M, _, E, hv, h, fun vs G1 M1 H1 hv1 q => by
    match vs, q with
    | [.ref a, .ref b], ⟨xs, ys, q1, q2, q3⟩ => exact ⟨a, b, xs, ys, rfl, hv1.lst q1, hv1.lst q2, hR _ G1 M1 H1 hv1 q3 _ goes_Z⟩, hE⟩
/-! ### for -/
def asg (g : KG) (w : V ⊕ List V) : St → Hp → Mem → (St → Hp → Mem → Prop) → Prop := match w with
  | .inl v => g.val v
  | .inr vs => g.tup vs
def wk1 (Pv : St → Hp → Mem → Prop) : St → Hp → Mem → Prop := fun σ G M => ∃ G' M', Wk G M G' M' ∧ Pv σ G' M'
def kFor (ti : KI) (g : KG) (tb : KS) : KS := fun D σ G M => ti σ G M (fun src G M => ∃ Pv : Nat → St → Hp → Mem → Prop, Pv 0 σ G M ∧ (∀ i σ G M, i ≤ src.n → Pv i σ G M → src.ok G M) ∧
  (∀ i σ G M, i < src.n → Pv i σ G M → asg g (src.get i) σ G M (fun σ G M => tb { D with nx := wk1 (Pv (i + 1)), ct := wk1 (Pv (i + 1)), bk := D.nx } σ G M)) ∧ (∀ σ G M, Pv src.n σ G M → D.nx σ G M)) (D.x σ)
theorem asg_sim {g : KG} {gr : TG} (hg : JG X tg g gr) {w : V ⊕ List V} {σ : St} {G : Hp} {M : Mem} {R : St → Hp → Mem → Prop} {H H' : Hp} {x : V} {Q : St → Hp → Prop} (hv : Hv G M H)
    (y : match w with | .inl v => x = v ∧ H' = H | .inr vs => ∃ T, x = .ref T ∧ H T = none ∧ H' = upd H T (.tup vs)) (h : asg g w σ G M R) (hR : ∀ σ' G' M' H', Hv G' M' H' → R σ' G' M' → Q σ' H') : gr x σ H' Q := by
  cases w with
  | inl v =>
    obtain ⟨rfl, rfl⟩ := y
    exact hg.val _ σ G M R _ Q hv h hR
  | inr vs =>
    obtain ⟨T, rfl, hT, rfl⟩ := y
    exact hg.tup T vs σ G M R H Q hv hT h hR
theorem js_for {it : Expr} {body : List Stmt} {ti : KI} {g : KG} {gr : TG} {tb : KS} (hp : PassesOwn (model X.prog X.w) X.A X.env X.xe) (hc : X.calm = true) (hi : JI X W tg it ti) (hg : JG X tg g gr) (hb : JSs X W body tb)
    (hs : ∀ x, foldedSetIterable it X.env x = pure x := by intro _; rfl) : JS X W (.For tg it body [] pos) (kFor ti g tb) := ps_mono (ps_for hp hc hi hg.pg hb hs) fun D σ H ⟨G, M, d, hv, h, en⟩ => by
  refine ⟨G, M, _, _, hv, h, fun src G1 M1 H1 hv1 q J go => ?_, fun c a G' M' H' hv' q => en.xc c a σ G' M' H' hv' q⟩
  obtain ⟨Pv, p0, pok, pst, pend⟩ := q
  refine ⟨fun i m σ H => m = src.n - i ∧ i ≤ src.n ∧ ∃ G M, Hv G M H ∧ Pv i σ G M, ⟨src.n, by simp, Nat.zero_le _, G1, M1, hv1, p0⟩, ?_⟩
  rintro i m σ2 H2 ⟨rfl, hi2, G2, M2, hv2, p2⟩
  have ok := pok i σ2 G2 M2 hi2 p2
  by_cases hlt : i < src.n
  · refine .inr ⟨go.go i G2 M2 H2 hv2 ok hlt, fun σ' H' => ∃ G M, Hv G M H' ∧ Pv (i + 1) σ' G M, fun σ' H' ⟨G3, M3, hv3, p3⟩ => ⟨src.n - (i + 1), by omega, rfl, hlt, G3, M3, hv3, p3⟩, fun x H' y => ?_⟩
    refine asg_sim hg hv2 (go.yld i G2 M2 H2 x H' hv2 ok hlt y) (pst i σ2 G2 M2 hlt p2) fun σ3 G3 M3 H3 hv3 q3 => ?_
    have e1 : ∀ σ G M H, Hv G M H → wk1 (Pv (i + 1)) σ G M → ∃ G M, Hv G M H ∧ Pv (i + 1) σ G M := fun σ G M H hv ⟨G', M', wk, q⟩ => ⟨G', M', wk H hv, q⟩
    exact ⟨G3, M3, _, hv3, q3, ⟨e1, en.rt, en.nx, e1, en.xc⟩⟩
  · have e : i = src.n := by omega
    subst e
    exact .inl ⟨go.stop _ G2 M2 H2 hv2 ok (Nat.le_refl _), en.nx _ G2 M2 H2 hv2 (pend σ2 G2 M2 p2)⟩
/-! ### while -/
def kWhile (c : KT) (tb : KS) : KS := fun D σ G M => ∃ Pv : Nat → St → Hp → Mem → Prop, (∃ m, Pv m σ G M) ∧ ∀ m σ G M, Pv m σ G M →
  c σ G M (fun b G M => if b = true then tb { D with nx := fun σ G M => ∃ m', m' < m ∧ wk1 (Pv m') σ G M, ct := fun σ G M => ∃ m', m' < m ∧ wk1 (Pv m') σ G M, bk := D.nx } σ G M else D.nx σ G M) (D.x σ)
theorem js_while {c : Expr} {body : List Stmt} {tc : KT} {tb : KS} (hp : PassesOwn (model X.prog X.w) X.A X.env X.xe) (hc : JT X W c tc) (hb : JSs X W body tb) : JS X W (.While c body [] pos) (kWhile tc tb) := ps_mono (ps_while hp hc hb) fun D σ H ⟨G, M, d, hv, ⟨Pv, ⟨m0, p0⟩, st⟩, en⟩ => by
  refine ⟨fun m σ H => ∃ G M, Hv G M H ∧ Pv m σ G M, ⟨m0, G, M, hv, p0⟩, ?_⟩
  rintro m σ1 H1 ⟨G1, M1, hv1, p1⟩
  refine ⟨G1, M1, _, _, hv1, st m σ1 G1 M1 p1, fun b G2 M2 H2 hv2 q2 => ?_, fun c a G' M' H' hv' q => en.xc c a σ1 G' M' H' hv' q⟩
  cases b with
  | true =>
    rw [if_pos rfl] at q2 ⊢
    refine ⟨fun σ' H' => ∃ m', m' < m ∧ ∃ G M, Hv G M H' ∧ Pv m' σ' G M, fun σ' H' h => h, ?_⟩
    have e1 : ∀ σ G M H, Hv G M H → (∃ m', m' < m ∧ wk1 (Pv m') σ G M) → ∃ m', m' < m ∧ ∃ G M, Hv G M H ∧ Pv m' σ G M := fun σ G M H hv ⟨m', l, G', M', wk, q⟩ => ⟨m', l, G', M', wk H hv, q⟩
    exact ⟨G2, M2, _, hv2, q2, ⟨e1, en.rt, en.nx, e1, en.xc⟩⟩
  | false =>
    rw [if_neg Bool.false_ne_true] at q2 ⊢
    exact en.nx _ G2 M2 H2 hv2 q2
/-! ### list comprehensions -/
def E0 : KX := fun _ _ _ _ => False
def kYes : KT := fun _ G M R _ => R true G M
def JTs (X : Cx) (W : WX) (es : List Expr) (t : KT) : Prop := PTs X es (upG W t)
theorem jts_nil : JTs X W [] kYes := ⟨fun pins s σ H Q I ⟨G, M, R, E, hv, h, hR, _⟩ => pts_nil.run pins s σ H Q I (hR _ G M H hv h)⟩
theorem jts_one {t : KT} (h : JT X W c t) : JTs X W [c] t := pts_one h
def kComp (ti : KI) (g : KG) (tt : KT) (te : KE) (own : List Nat) : KE := fun σ G M R E => ti σ G M (fun src G M => src.n ≤ sizeLine ∧ ∃ Pv : Nat → List V → Hp → Mem → Prop, Pv 0 [] G M ∧ (∀ i acc G M, i ≤ src.n → Pv i acc G M → src.ok G M) ∧
  (∀ i acc G M D, i < src.n → acc.length ≤ i → Pv i acc G M → Fr G M D → asg g (src.get i) (wipe σ own) G ((D, .lst acc) :: M) (fun σ2 G M => wipe σ2 own = wipe σ own ∧ tt σ2 G M (fun b G M =>
    if b = true then te σ2 G M (fun y G M => ∃ G' M', Wk G M G' ((D, .lst acc) :: M') ∧ Pv (i + 1) (acc ++ [y]) G' M') E0 else ∃ G' M', Wk G M G' ((D, .lst acc) :: M') ∧ Pv (i + 1) acc G' M') E0)) ∧
  (∀ acc G M p, Pv src.n acc G M → acc.length ≤ src.n → Fr G M p → R (.ref p) G ((p, .lst acc) :: M))) E
theorem comp_sim {K : PySem.W.Frag} {ti : KI} {g : KG} {gr : TG} {tt : KT} {te : KE} {own : List Nat} {σ : St} {H : Hp} {Q : VK}
    (hgv : ∀ v σ G M R H Q, Hv G M H → g.val v σ G M R → (∀ σ' G' M' H', Hv G' M' H' → R σ' G' M' → Q σ' H') → gr v σ H Q)
    (hgt : ∀ T vs σ G M R H Q, Hv G M H → H T = none → g.tup vs σ G M R → (∀ σ' G' M' H', Hv G' M' H' → R σ' G' M' → Q σ' H') → gr (.ref T) σ (upd H T (.tup vs)) Q)
    (h : upG W (kComp ti g tt te own) σ H Q) : tLc (upI W ti) gr (upG W0 tt) (upG W0 te) own σ H Q := by
  obtain ⟨G, M, R, E, hv, h, hR, hE⟩ := h
  refine ⟨G, M, _, E, hv, h, fun src G1 M1 H1 hv1 q J go => ?_, hE⟩
  obtain ⟨hn, Pv, p0, pok, pst, pend⟩ := q
  intro D hD
  refine ⟨fun i m H => m = src.n - i ∧ i ≤ src.n ∧ ∃ acc G M, acc.length ≤ i ∧ Hv G ((D, .lst acc) :: M) H ∧ Pv i acc G M, ⟨src.n, by simp, Nat.zero_le _, [], G1, M1, Nat.le_refl _, hv1.newM hD, p0⟩, ?_⟩
  rintro i m H2 ⟨rfl, hi2, acc, G2, M2, hacc, hv2, p2⟩
  have hv2' : Hv G2 M2 H2 := Wk.drop0 H2 hv2
  have ok := pok i acc G2 M2 hi2 p2
  have fD : Fr G2 M2 D := by
    refine ⟨hv2.dj (D, .lst acc) List.mem_cons_self, fun x hx e => ?_⟩
    have nd := hv2.nd
    rw [List.map_cons, List.nodup_cons] at nd
    exact nd.1 (by rw [← e]; exact List.mem_map.mpr ⟨x, hx, rfl⟩)
  by_cases hlt : i < src.n
  · refine .inr ⟨go.go i G2 M2 H2 hv2' ok hlt, fun H' => ∃ acc G M, acc.length ≤ i + 1 ∧ Hv G ((D, .lst acc) :: M) H' ∧ Pv (i + 1) acc G M, fun H' ⟨acc', G3, M3, l3, hv3, p3⟩ => ⟨src.n - (i + 1), by omega, rfl, hlt, acc', G3, M3, l3, hv3, p3⟩, fun x H' y => ?_⟩
    have step := pst i acc G2 M2 D hlt hacc p2 fD
    have yy := go.yld i G2 M2 H2 x H' hv2' ok hlt y
    have fin : ∀ σ3 G3 M3 H3, Hv G3 M3 H3 → (wipe σ3 own = wipe σ own ∧ tt σ3 G3 M3 (fun b G M =>
        if b = true then te σ3 G M (fun y G M => ∃ G' M', Wk G M G' ((D, .lst acc) :: M') ∧ Pv (i + 1) (acc ++ [y]) G' M') E0 else ∃ G' M', Wk G M G' ((D, .lst acc) :: M') ∧ Pv (i + 1) acc G' M') E0) →
        (wipe σ3 own = wipe σ own ∧ upG W0 tt σ3 H3 fun b H3 => if b = true then upG W0 te σ3 H3 fun y H4 => ∃ acc, H4 D = some (.lst acc) ∧ acc.length < sizeLine ∧ (∃ acc' G M, acc'.length ≤ i + 1 ∧ Hv G ((D, .lst acc') :: M) (upd H4 D (.lst (acc ++ [y]))) ∧ Pv (i + 1) acc' G M) else ∃ acc' G M, acc'.length ≤ i + 1 ∧ Hv G ((D, .lst acc') :: M) H3 ∧ Pv (i + 1) acc' G M) := by
      rintro σ3 G3 M3 H3 hv3 ⟨ew, q3⟩
      refine ⟨ew, G3, M3, _, _, hv3, q3, fun b G4 M4 H4 hv4 q4 => ?_, fun _ _ _ _ _ _ z => z.elim⟩
      cases b with
      | true =>
        rw [if_pos rfl] at q4 ⊢
        refine ⟨G4, M4, _, _, hv4, q4, fun y G5 M5 H5 hv5 ⟨G6, M6, wk, p6⟩ => ?_, fun _ _ _ _ _ _ z => z.elim⟩
        have hv6 := wk H5 hv5
        refine ⟨acc, hv6.mu (D, .lst acc) List.mem_cons_self, by omega, acc ++ [y], G6, M6, by rw [List.length_append]; exact Nat.succ_le_succ hacc, ?_, p6⟩
        exact hv6.set (n := 0) (o' := .lst (acc ++ [y])) rfl
      | false =>
        rw [if_neg Bool.false_ne_true] at q4 ⊢
        obtain ⟨G6, M6, wk, p6⟩ := q4
        exact ⟨acc, G6, M6, by omega, wk H4 hv4, p6⟩
    revert yy step
    cases src.get i with
    | inl v =>
      rintro step ⟨rfl, rfl⟩
      exact hgv _ _ G2 _ _ _ _ hv2 step fin
    | inr vs =>
      rintro step ⟨T, rfl, hT, rfl⟩
      exact hgt T vs _ G2 _ _ _ _ hv2 hT step fin
  · have e : i = src.n := by omega
    subst e
    exact .inl ⟨go.stop _ G2 M2 H2 hv2' ok (Nat.le_refl _), hR _ _ _ _ hv2 (pend acc G2 M2 D p2 hacc fD)⟩
variable {elt it : Expr} {ifs : List Expr} {scope : Scope} {own : List (Str × Nat)} {spos py : Pos}
theorem je_comp {ti : KI} {g : KG} {gr : TG} {tt : KT} {te : KE} (hc : X.calm = true) (hN : X.N.Nodup) (hi : JI X W tg it ti) (ok : BlkOk X.N X.env.scope scope own)
    (hg : ∀ (s : Shared) (H : Hp) (C : Addr) (cl : List (Str × Addr)) (fp : List Addr), JG (X.blk s H scope (compEnvC scope cl C X.env) fp) tg g gr) (ht : ∀ (s : Shared) (H : Hp) (C : Addr) (cl : List (Str × Addr)) (fp : List Addr), JTs (X.blk s H scope (compEnvC scope cl C X.env) fp) W0 ifs tt)
    (he : ∀ (s : Shared) (H : Hp) (C : Addr) (cl : List (Str × Addr)) (fp : List Addr), JE (X.blk s H scope (compEnvC scope cl C X.env) fp) W0 elt te) (hs : ∀ x, foldedSetIterable it X.env x = pure x := by intro _; rfl) :
    JE X W (.ListComp elt [⟨tg, it, ifs, 0⟩] scope pos) (kComp ti g tt te (own.map (·.2))) :=
  pe_mono (pe_lc hc hN hi ok (fun s H C cl fp => (hg s H C cl fp).pg) ht he hs) fun σ H Q h =>
    comp_sim (K := X.K) (fun v σ G M R H Q hv => ((hg X.s_0 H 0 [] []).val v σ G M R H Q hv)) (fun T vs σ G M R H Q hv => ((hg X.s_0 H 0 [] []).tup T vs σ G M R H Q hv)) h
theorem js_setComp {i : Nat} {y : Str} {ti : KI} {g : KG} {gr : TG} {tt : KT} {te : KE} (hc : X.calm = true) (hN : X.N.Nodup) (hsw : swapsWith (.ListComp elt [⟨tg, it, ifs, 0⟩] scope pos) (some (.Name y py)) spos.line X.env = pure true) (hi : JI X W tg it ti) (ok : BlkOk X.N X.env.scope scope own)
    (hg : ∀ (s : Shared) (H : Hp) (C : Addr) (cl : List (Str × Addr)) (fp : List Addr), JG (X.blk s H scope (compEnvC scope cl C X.env) fp) tg g gr) (ht : ∀ (s : Shared) (H : Hp) (C : Addr) (cl : List (Str × Addr)) (fp : List Addr), JTs (X.blk s H scope (compEnvC scope cl C X.env) fp) W0 ifs tt)
    (he : ∀ (s : Shared) (H : Hp) (C : Addr) (cl : List (Str × Addr)) (fp : List Addr), JE (X.blk s H scope (compEnvC scope cl C X.env) fp) W0 elt te) (hy : X.N[i]? = some y := by rfl) (hyl : X.env.scope.names.lookup y = some .local := by rfl) (hs : ∀ x, foldedSetIterable it X.env x = pure x := by intro _; rfl) :
    JS X W (.Assign [.Name y py] (.ListComp elt [⟨tg, it, ifs, 0⟩] scope pos) spos) (kSet i (kComp ti g tt te (own.map (·.2)))) :=
  ps_mono (ps_setLc hc hN hy hyl hsw hi ok (fun s H C cl fp => (hg s H C cl fp).pg) ht he hs) fun D σ H ⟨G, M, d, hv, h, en⟩ =>
    comp_sim (K := X.K) (fun v σ G M R H Q hv => ((hg X.s_0 H 0 [] []).val v σ G M R H Q hv)) (fun T vs σ G M R H Q hv => ((hg X.s_0 H 0 [] []).tup T vs σ G M R H Q hv))
      ⟨G, M, _, _, hv, h, fun v G' M' H' hv' q => en.nx _ G' M' H' hv' q, fun c a G' M' H' hv' q => en.xc c a σ G' M' H' hv' q⟩
end
/-! ### a def -/
/-- what is known may be weakened at the end -/
def wkR (R : KR) : KR := fun v G M => ∃ G' M', Wk G M G' M' ∧ R v G' M'
def wkX (Z : KX) : KX := fun c d G M => ∃ G' M', Wk G M G' M' ∧ Z c d G' M'
theorem ret0 {R : KR} {v : V} {G : Hp} {M : Mem} (h : R v G M) : wkR R v G M := ⟨G, M, Wk.refl, h⟩
theorem retW {R : KR} {v : V} {G G' : Hp} {M M' : Mem} (w : Wk G M G' M') (h : R v G' M') : wkR R v G M := ⟨G', M', w, h⟩
section
variable {P : Program} {w : World} {K : PySem.W.Frag} {mg : Str → Option Value} {base : Heap}
theorem fn_ok {x qual : Str} {st : Stmt} {f : Addr} {fd : FuncData} {N ps : List Str} {k : Nat} {S : KSp} (F : Fun K x qual st f fd) (sc : FnScope N ps (defScope st)) (len : ∀ vs G M R X, S vs G M R X → vs.length = ps.length)
    (hbody : ∀ (cdv : Value) (A : Around) (outer : List Env) (s : Shared) (H : Hp) (E : XK), Room k (A.deeper (envOfC qual (defScope st) s.heap.objs.size f cdv)) →
      ∃ t, JSs (cxOf (L2.CX P w) P w K mg base N qual (defScope st) f cdv A outer s H E) (fun c d _ H => E c d H) (defBody st) t ∧
        ∀ vs G M R Z, S vs G M R Z → t { nx := fun _ G M => wkR R .non G M, rt := wkR R, xc := fun c d _ G M => wkX Z c d G M } (start N vs) G M) : FnOk P w K mg base (L2.CX P w) (k + 1) f fd ps (lift S) := by
  refine F.okX sc (fun vs H Q E ⟨G, M, R, Z, _, h, _⟩ => len vs G M R Z h) fun cdv A outer s H vs Q E hr ⟨G, M, R, Z, hv, h, hR, hZ⟩ => ?_
  obtain ⟨t, j, q⟩ := hbody cdv A outer s H E hr
  exact ⟨_, j, G, M, _, hv, q vs G M R Z h, ⟨fun σ G M H hv ⟨G', M', w, q⟩ => hR _ G' M' H (w H hv) q, fun v G M H hv ⟨G', M', w, q⟩ => hR _ G' M' H (w H hv) q, fun _ _ _ _ _ z => z.elim, fun _ _ _ _ _ z => z.elim, fun c a σ G M H hv ⟨G', M', w, q⟩ => hZ c a G' M' H (w H hv) q⟩⟩
/-- a def that keeps its promise -/
structure Def (P : Program) (w : World) (K : PySem.W.Frag) (mg : Str → Option Value) (base : Heap) (lev : Nat) (x : Str) (ps : List Str) (S : KSp) : Prop where
  ex : ∃ f fd, FnOk P w K mg base (L2.CX P w) lev f fd ps (lift S) ∧ mg x = some (.ref f) ∧ PySem.W.keepIn K (.ref f) = true ∧ Binds K fd ps []
end
section
variable {X : Cx} {W : WX} {pos p : Pos} {e : Expr} {es : List Expr} {x : Str} {k lev : Nat} {ps : List Str} {S : KSp} {t : KA}
theorem je_callD (D : Def X.prog X.w X.K X.mg X.base lev x ps S) (hr : Room k X.A) (tk : Takes X W) (ha : JA X W (e :: es) t) (hl : lev ≤ k := by decide) (hg : Gl X x := by rfl)
    (hdb : (x == ("__debug__" : Str)) = false := by decide) (he : starEach (e :: es) X.env = (false, eval e X.env) :: starEach es X.env := by rfl) (hpl : (backTo pos (starEach es X.env)).any (·.1) = false := by rfl) :
    JE X W (.Call (.Name x p) (e :: es) [] pos) (kCall S t) := by
  obtain ⟨f, fd, F, hm, hk, hb⟩ := D.ex
  exact je_call (F.mono hl) hr tk hm hk hb ha hg hdb he hpl
end
end BT
set_option Elab.async false
set_option linter.all false
set_option maxRecDepth 100000
set_option maxHeartbeats 4000000
namespace BT
open PySem PySem.Spec L2
open PyProof.Rows hiding St
/-! ### promises by the number of arguments -/
def sp1 (f : V → Hp → Mem → KR → KX → Prop) : KSp := fun vs G M R Z => match vs with
  | [x] => f x G M R Z
  | _ => False
def sp2 (f : V → V → Hp → Mem → KR → KX → Prop) : KSp := fun vs G M R Z => match vs with
  | [x, y] => f x y G M R Z
  | _ => False
def sp3 (f : V → V → V → Hp → Mem → KR → KX → Prop) : KSp := fun vs G M R Z => match vs with
  | [x, y, z] => f x y z G M R Z
  | _ => False
def sp4 (f : V → V → V → V → Hp → Mem → KR → KX → Prop) : KSp := fun vs G M R Z => match vs with
  | [x, y, z, u] => f x y z u G M R Z
  | _ => False
def sp5 (f : V → V → V → V → V → Hp → Mem → KR → KX → Prop) : KSp := fun vs G M R Z => match vs with
  | [x, y, z, u, t] => f x y z u t G M R Z
  | _ => False
section
variable {vs : List V} {G : Hp} {M : Mem} {R : KR} {Z : KX}
theorem sp1_of {f} (h : sp1 f vs G M R Z) : ∃ x, vs = [x] ∧ f x G M R Z := by
  match vs, h with
  | [x], h => exact ⟨x, rfl, h⟩
theorem sp2_of {f} (h : sp2 f vs G M R Z) : ∃ x y, vs = [x, y] ∧ f x y G M R Z := by
  match vs, h with
  | [x, y], h => exact ⟨x, y, rfl, h⟩
theorem sp3_of {f} (h : sp3 f vs G M R Z) : ∃ x y z, vs = [x, y, z] ∧ f x y z G M R Z := by
  match vs, h with
  | [x, y, z], h => exact ⟨x, y, z, rfl, h⟩
theorem sp4_of {f} (h : sp4 f vs G M R Z) : ∃ x y z u, vs = [x, y, z, u] ∧ f x y z u G M R Z := by
  match vs, h with
  | [x, y, z, u], h => exact ⟨x, y, z, u, rfl, h⟩
theorem sp5_of {f} (h : sp5 f vs G M R Z) : ∃ x y z u t, vs = [x, y, z, u, t] ∧ f x y z u t G M R Z := by
  match vs, h with
  | [x, y, z, u, t], h => exact ⟨x, y, z, u, t, rfl, h⟩
theorem sp_len1 {f} (h : sp1 f vs G M R Z) : vs.length = 1 := by obtain ⟨_, rfl, _⟩ := sp1_of h; rfl
theorem sp_len2 {f} (h : sp2 f vs G M R Z) : vs.length = 2 := by obtain ⟨_, _, rfl, _⟩ := sp2_of h; rfl
theorem sp_len3 {f} (h : sp3 f vs G M R Z) : vs.length = 3 := by obtain ⟨_, _, _, rfl, _⟩ := sp3_of h; rfl
theorem sp_len4 {f} (h : sp4 f vs G M R Z) : vs.length = 4 := by obtain ⟨_, _, _, _, rfl, _⟩ := sp4_of h; rfl
theorem sp_len5 {f} (h : sp5 f vs G M R Z) : vs.length = 5 := by obtain ⟨_, _, _, _, _, rfl, _⟩ := sp5_of h; rfl
end
/-- what a body has at its ends -/
abbrev ends (R : KR) (Z : KX) : Kd := { nx := fun _ G M => wkR R .non G M, rt := wkR R, xc := fun c d _ G M => wkX Z c d G M }
/-! ### small helps -/
section
variable {K : PySem.W.Frag} {G : Hp} {M : Mem} {a p : Addr} {xs : List V} {o : HO} {n : Nat}
theorem lst_n (h : M[n]? = some (a, .lst xs)) : SeqAt' K G M a xs := .inl (.inl (List.mem_of_getElem? h))
theorem lat_n (h : M[n]? = some (a, .lst xs)) : LstAt K G M a xs := .inl (List.mem_of_getElem? h)
theorem lst_g (h : SqL K G a xs) : SeqAt' K G M a xs := .inl (.inr h)
theorem lat_g (h : SqL K G a xs) : LstAt K G M a xs := .inr h
theorem tup_g (h : SqT K G a xs) : SeqAt' K G M a xs := .inr h
theorem at_n (h : M[n]? = some (a, o)) : At G M a o := .inl (List.mem_of_getElem? h)
theorem set_n {x : Addr × HO} (h : M[n]? = some (p, o)) : (M.set n x)[n]? = some x := List.getElem?_set_self (List.getElem?_eq_some_iff.mp h).1
theorem sqt_new {xs : List V} : SqT K (upd G p (.tup xs)) p xs := .inl (.inl upd_same)
theorem sql_new {xs : List V} : SqL K (upd G p (.lst xs)) p xs := .inl (.inl upd_same)
theorem ite2' {c : Bool} {A B : Prop} (h1 : c = true → A) (h2 : c = false → B) : if c = true then A else B := by
  cases c with
  | true => rw [if_pos rfl]; exact h1 rfl
  | false => rw [if_neg Bool.false_ne_true]; exact h2 rfl
theorem sz {n : Nat} (h : n ≤ 16777216) : n ≤ sizeLine := h
theorem tyl_n (h : M[n]? = some (a, .lst xs)) : ∀ H, Hv G M H → tyV K "list" (.ref a) H := fun H hv => .inl ⟨rfl, xs, .inl (.inl (hv.get h))⟩
theorem tyl_g (h : SqL K G a xs) : ∀ H, Hv G M H → tyV K "list" (.ref a) H := fun H hv => .inl ⟨rfl, xs, ex_l hv.exx h⟩
end
/-! ### the law's pool of numbers -/
def pool (c s : Int) : HO := .lst [.int c, .int s]
def PoolOk (s : Int) : Prop := 0 ≤ s ∧ s < 2147483647
def S_law_take (K : PySem.W.Frag) : KSp := sp2 fun x y G M R Z => ∃ (p : Addr) (m : Int) (n : Nat) (c s : Int), x = .ref p ∧ y = .int m ∧ M[n]? = some (p, pool c s) ∧ PoolOk s ∧ 0 < m ∧ m < 2 ^ 200 ∧
  ∀ r c' s', 0 ≤ r → r < m → PoolOk s' → R (.int r) G (M.set n (p, pool c' s'))
def S_law_pool (K : PySem.W.Frag) : KSp := sp2 fun x y G M R Z => ∃ (a : Addr) (ns : List Int) (k : Int), x = .ref a ∧ y = .int k ∧ SqL K G a (ns.map V.int) ∧ 0 ≤ k ∧ k ≤ 100 ∧ ns.length ≤ 63 ∧
  ∀ p c s, Fr G M p → PoolOk s → R (.ref p) G ((p, pool c s) :: M)
end BT
set_option Elab.async false
set_option linter.all false
set_option maxRecDepth 100000
set_option maxHeartbeats 4000000
namespace BT
open PySem PySem.Spec L2
open PyProof.Rows hiding St
/-! ### shapes of data -/
inductive Shp : Nat → PyData → Prop
  | non {n} : Shp n .none
  | bl {n b} : Shp n (.bool b)
  | int {n i} : Shp n (.int i)
  | str {n x} : PyData.strOk x = true → Shp n (.str x)
  | list {n ds} : (∀ d, d ∈ ds → Shp n d) → Shp (n + 1) (.list ds)
  | tuple {n ds} : (∀ d, d ∈ ds → Shp n d) → Shp (n + 1) (.tuple ds)
theorem shp_all {n : Nat} (ih : ∀ d, Shp n d → d.canLay0 = true ∧ d.depth ≤ n) : ∀ ds : List PyData, (∀ d, d ∈ ds → Shp n d) → PyData.canLayAll0 ds = true ∧ PyData.depthAll ds ≤ n
  | [], _ => by
    refine ⟨by simp [PyData.canLayAll0], by simp [PyData.depthAll]⟩
  | d :: ds, h => by
    obtain ⟨a, b⟩ := ih d (h d List.mem_cons_self)
    obtain ⟨c, e⟩ := shp_all ih ds fun x hx => h x (List.mem_cons_of_mem _ hx)
    refine ⟨by simp [PyData.canLayAll0, a, c], ?_⟩
    show max d.depth (PyData.depthAll ds) ≤ n
    omega
theorem shp_of : ∀ (n : Nat) (d : PyData), Shp n d → d.canLay0 = true ∧ d.depth ≤ n
  | n, _, .non => by refine ⟨by simp [PyData.canLay0], by simp [PyData.depth]⟩
  | n, _, .bl => by refine ⟨by simp [PyData.canLay0], by simp [PyData.depth]⟩
  | n, _, .int => by refine ⟨by simp [PyData.canLay0], by simp [PyData.depth]⟩
  | n, _, .str h => by refine ⟨by simp [PyData.canLay0, h], by simp [PyData.depth]⟩
  | n + 1, .list ds, .list h => by
    obtain ⟨a, b⟩ := shp_all (shp_of n) ds h
    refine ⟨by simp [PyData.canLay0, a], ?_⟩
    show PyData.depthAll ds + 1 ≤ n + 1
    omega
  | n + 1, .tuple ds, .tuple h => by
    obtain ⟨a, b⟩ := shp_all (shp_of n) ds h
    refine ⟨by simp [PyData.canLay0, a], ?_⟩
    show PyData.depthAll ds + 1 ≤ n + 1
    omega
theorem Shp.shaped {n : Nat} {d : PyData} (h : Shp n d) (hn : n ≤ 64) : SeqAt.shaped d = true := by
  obtain ⟨a, b⟩ := shp_of n d h
  unfold SeqAt.shaped
  rw [a, decide_eq_true (Nat.le_trans b hn)]; rfl
theorem Shp.refl {n : Nat} {d : PyData} (h : Shp n d) : PyData.eqv d d = true := by
  obtain ⟨a, b⟩ := shp_of n d h
  exact SeqAt.eqv_refl d a
theorem shp_ints {n : Nat} (ns : List Int) : Shp (n + 1) (.list (ns.map .int)) := .list fun d hd => by
  obtain ⟨i, _, rfl⟩ := List.mem_map.mp hd
  exact .int
/-! ### data known -/
section
variable {K : PySem.W.Frag} {G G' : Hp} {M : Mem} {a : Addr} {v : V} {d : PyData} {vs : List V} {ds : List PyData}
def DatAll (K : PySem.W.Frag) (G : Hp) (M : Mem) (vs : List V) (ds : List PyData) : Prop := ∀ H, Hv G M H → DpAll K H vs ds
theorem dat_g (h : Dp K G v d) : DatAt K G M v d := fun H hv => ex_d hv.exx d h
theorem dats_g (h : DpAll K G vs ds) : DatAll K G M vs ds := fun H hv => ex_ds hv.exx ds h
theorem dat_list (h : LstAt K G M a vs) (hs : DatAll K G M vs ds) : DatAt K G M (.ref a) (.list ds) := fun H hv => .lst (hv.lst h) (hs H hv)
theorem dat_tup (h : SqT K G a vs) (hs : DatAll K G M vs ds) : DatAt K G M (.ref a) (.tuple ds) := fun H hv => .tup (hv.tup h) (hs H hv)
theorem dat_int {i : Int} : DatAt K G M (.int i) (.int i) := fun H hv => .int i
theorem dat_bl {i : Bool} : DatAt K G M (.bl i) (.bool i) := fun H hv => .bl i
theorem dat_non : DatAt K G M .non .none := fun H hv => .non
theorem dat_str {i : Str} : DatAt K G M (.str i) (.str i) := fun H hv => .str i
theorem dats_nil : DatAll K G M [] [] := fun H hv => .nil
theorem dats_cons (h : DatAt K G M v d) (hs : DatAll K G M vs ds) : DatAll K G M (v :: vs) (d :: ds) := fun H hv => .cons (h H hv) (hs H hv)
theorem dpall_ints : ∀ ns : List Int, DpAll K G (ns.map V.int) (ns.map PyData.int)
  | [] => .nil
  | n :: ns => .cons (.int n) (dpall_ints ns)
theorem dats_ints {ns : List Int} : DatAll K G M (ns.map V.int) (ns.map PyData.int) := fun H hv => dpall_ints ns
theorem dat_ints {ns : List Int} (h : LstAt K G M a (ns.map V.int)) : DatAt K G M (.ref a) (.list (ns.map .int)) := dat_list h dats_ints
theorem dp_ints {ns : List Int} (h : SqL K G a (ns.map V.int)) : Dp K G (.ref a) (.list (ns.map .int)) := .lst h (dpall_ints ns)
theorem dpall_snoc : ∀ {vs : List V} {ds : List PyData}, DpAll K G vs ds → Dp K G v d → DpAll K G (vs ++ [v]) (ds ++ [d])
  | _, _, .nil, h => .cons h .nil
  | _, _, .cons a b, h => .cons a (dpall_snoc b h)
theorem dpall_len : ∀ {vs : List V} {ds : List PyData}, DpAll K G vs ds → vs.length = ds.length
  | _, _, .nil => rfl
  | _, _, .cons _ b => by simp [dpall_len b]
theorem dpall_get : ∀ {vs : List V} {ds : List PyData} {i : Nat} {d : PyData}, DpAll K G vs ds → ds[i]? = some d → ∃ v, vs[i]? = some v ∧ Dp K G v d
  | _, _, _, _, .nil, e => by simp at e
  | _, _, 0, _, .cons a _, e => by
    rw [List.getElem?_cons_zero] at e
    cases e; exact ⟨_, rfl, a⟩
  | _, _, i + 1, d, .cons _ b, e => by
    obtain ⟨v, h1, h2⟩ := dpall_get (i := i) (d := d) b (by simpa using e)
    exact ⟨v, by simpa using h1, h2⟩
theorem dpall_get' : ∀ {vs : List V} {ds : List PyData} {i : Nat} {v : V}, DpAll K G vs ds → vs[i]? = some v → ∃ d, ds[i]? = some d ∧ Dp K G v d
  | _, _, _, _, .nil, e => by simp at e
  | _, _, 0, _, .cons a _, e => by
    rw [List.getElem?_cons_zero] at e
    cases e; exact ⟨_, rfl, a⟩
  | _, _, i + 1, d, .cons _ b, e => by
    obtain ⟨v, h1, h2⟩ := dpall_get' (i := i) (v := d) b (by simpa using e)
    exact ⟨v, by simpa using h1, h2⟩
theorem dpall_one {x : V} {i : PyData} (h : DpAll K G [x] [i]) : Dp K G x i := by
  cases h with
  | cons a b => exact a
theorem dp_int_inv {i : Int} (h : Dp K G v (.int i)) : v = .int i := by cases h; rfl
theorem dp_tup_inv (h : Dp K G v (.tuple ds)) : ∃ t xs, v = .ref t ∧ SqT K G t xs ∧ DpAll K G xs ds := by
  cases h with
  | tup s a => exact ⟨_, _, rfl, s, a⟩
theorem dp_list_inv (h : Dp K G v (.list ds)) : ∃ t xs, v = .ref t ∧ SqL K G t xs ∧ DpAll K G xs ds := by
  cases h with
  | lst s a => exact ⟨_, _, rfl, s, a⟩
theorem dpall_ints_inv : ∀ {vs : List V} {ns : List Int}, DpAll K G vs (ns.map .int) → vs = ns.map V.int
  | _, [], h => by cases h; rfl
  | _, n :: ns, h => by
    cases h with
    | cons a b =>
      have e := dp_int_inv a
      subst e
      rw [dpall_ints_inv b]; rfl
end
/-! ### pairs of ints -/
def prD (p : Int × Int) : PyData := .tuple [.int p.1, .int p.2]
theorem dp_pr_inv {K : PySem.W.Frag} {G : Hp} {v : V} {p : Int × Int} (h : Dp K G v (prD p)) : ∃ t, v = .ref t ∧ SqT K G t [.int p.1, .int p.2] := by
  obtain ⟨t, xs, rfl, s, a⟩ := dp_tup_inv h
  have e : xs = [V.int p.1, V.int p.2] := dpall_ints_inv (ns := [p.1, p.2]) a
  rw [e] at s
  exact ⟨t, rfl, s⟩
theorem dp_pr {K : PySem.W.Frag} {G : Hp} {t : Addr} {a b : Int} (h : SqT K G t [.int a, .int b]) : Dp K G (.ref t) (prD (a, b)) := .tup h (.cons (.int a) (.cons (.int b) .nil))
theorem shp_prs {n : Nat} (ps : List (Int × Int)) : Shp (n + 2) (.list (ps.map prD)) := .list fun d hd => by
  obtain ⟨p, _, rfl⟩ := List.mem_map.mp hd
  refine .tuple fun d hd => ?_
  rcases List.mem_cons.mp hd with rfl | hd
  · exact .int
  · rcases List.mem_cons.mp hd with rfl | hd
    · exact .int
    · cases hd
/-! ### lists of ints by place -/
section
theorem atI_int {ns : List Int} {k : Int} (h0 : 0 ≤ k) (h1 : k < ns.length) : atI (ns.map V.int) k = some (.int (ns.getD k.toNat 0)) := by
  obtain ⟨j, rfl⟩ : ∃ j : Nat, k = j := ⟨k.toNat, by omega⟩
  have hj : j < ns.length := by omega
  refine atI_nat ?_
  rw [List.getElem?_map, List.getElem?_eq_getElem hj, Int.toNat_natCast, List.getD_eq_getElem?_getD, List.getElem?_eq_getElem hj]; rfl
theorem ixN_int {n : Nat} {k : Int} (h0 : 0 ≤ k) (h1 : k < n) : ixN n k = some k.toNat := by
  unfold ixN
  rw [if_pos h0, if_pos h1]
theorem map_set_int {ns : List Int} {j : Nat} {i : Int} : (ns.map V.int).set j (.int i) = (ns.set j i).map V.int := by rw [List.map_set]
theorem lat_cons {K : PySem.W.Frag} {G : Hp} {M : Mem} {a : Addr} {xs : List V} {x : Addr × HO} (h : LstAt K G M a xs) : LstAt K G (x :: M) a xs := by
  rcases h with h | h
  · exact .inl (List.mem_cons_of_mem _ h)
  · exact .inr h
theorem lat_ex {K : PySem.W.Frag} {G G' : Hp} {M : Mem} {a : Addr} {xs : List V} (e : Ex G G') (h : LstAt K G M a xs) : LstAt K G' M a xs := by
  rcases h with h | h
  · exact .inl h
  · exact .inr (ex_l e h)
theorem lat_0 {K : PySem.W.Frag} {G : Hp} {M : Mem} {a : Addr} {xs : List V} : LstAt K G ((a, .lst xs) :: M) a xs := .inl List.mem_cons_self
theorem seq_0 {K : PySem.W.Frag} {G : Hp} {M : Mem} {a : Addr} {xs : List V} : SeqAt' K G ((a, .lst xs) :: M) a xs := .inl lat_0
theorem isi_list {K : PySem.W.Frag} {G : Hp} {M : Mem} {a : Addr} {xs : List V} {R : KR} {n : Nat} (h : M[n]? = some (a, .lst xs)) (q : R (.bl true) G M) : kIsi K [.ref a, .ty "list"] G M R :=
  ⟨.type "list", .type "list", true, .ty "list", fun H hv => .base (.lst (hv.get h)), kit_ty (by decide +kernel), q⟩
theorem mul_l {i j : Int} (h0 : -(2 ^ 64) < i) (h1 : i < 2 ^ 64) : MulOk i j := .inl (.inl ⟨h0, h1⟩)
theorem mul_r {i j : Int} (h0 : -(2 ^ 64) < j) (h1 : j < 2 ^ 64) : MulOk i j := .inl (.inr ⟨h0, h1⟩)
theorem divW {m : Int} (h0 : 0 < m) (h1 : m < 2 ^ 200) (c : Int) : CDivW c m := wide_div (b := 200) h0 (by omega) (by decide) (by decide)
theorem sz0 : (0 : Nat) ≤ sizeLine := by decide
theorem sz1 : (1 : Nat) ≤ sizeLine := by decide
theorem sz2 : (2 : Nat) ≤ sizeLine := by decide
theorem sz3 : (3 : Nat) ≤ sizeLine := by decide
theorem sz4 : (4 : Nat) ≤ sizeLine := by decide
theorem sz5 : (5 : Nat) ≤ sizeLine := by decide
theorem sz6 : (6 : Nat) ≤ sizeLine := by decide
theorem sz7 : (7 : Nat) ≤ sizeLine := by decide
theorem sz8 : (8 : Nat) ≤ sizeLine := by decide
theorem pow10_18 : CPow 10 18 := ⟨by decide, by decide, by decide⟩
end
end BT
namespace BT
open PySem PySem.Spec L2
section
variable {K : PySem.W.Frag} {G : Hp} {M : Mem} {a b : Addr} {vs ws : List V} {i : Nat} {v u : V} {g : KG} {σ : St} {R : St → Hp → Mem → Prop}
theorem asg_L (h : vs[i]? = some v) (q : g.val v σ G M R) : asg g ((srcL K a vs).get i) σ G M R := by
  show g.val (vs.getD i .non) σ G M R
  rw [getD_of h]; exact q
theorem asg_T (h : vs[i]? = some v) (q : g.val v σ G M R) : asg g ((srcT K a vs).get i) σ G M R := by
  show g.val (vs.getD i .non) σ G M R
  rw [getD_of h]; exact q
theorem asg_V (h : vs[vs.length - 1 - i]? = some v) (q : g.val v σ G M R) : asg g ((srcV K a vs).get i) σ G M R := by
  show g.val (vs.getD (vs.length - 1 - i) .non) σ G M R
  rw [getD_of h]; exact q
theorem asg_E (h : vs[i]? = some v) (q : g.tup [.int i, v] σ G M R) : asg g ((srcE K a vs).get i) σ G M R := by
  show g.tup [.int i, vs.getD i .non] σ G M R
  rw [getD_of h]; exact q
theorem asg_Z (h : vs[i]? = some v) (h2 : ws[i]? = some u) (q : g.tup [v, u] σ G M R) : asg g ((srcZ K a b vs ws).get i) σ G M R := by
  show g.tup [vs.getD i .non, ws.getD i .non] σ G M R
  rw [getD_of h, getD_of h2]; exact q
theorem dpall_at {ds : List PyData} {d : PyData} (h : DpAll K G vs ds) (e : ds[i]? = some d) : ∃ v, vs[i]? = some v ∧ Dp K G v d := dpall_get h e
end
end BT
namespace BT
open PySem PySem.Spec L2
/-- a cell becomes frozen -/
theorem frz {G : Hp} {M : Mem} {p : Addr} (o : HO) (h : Fr G M p) : ∃ G', Ex G G' ∧ G' p = some o ∧ Wk G ((p, o) :: M) G' M ∧ ∀ q M0, Fr G M0 q → q ≠ p → Fr G' M0 q :=
  ⟨upd G p o, Ex.new h, upd_same, Wk.frz0, fun q M0 f hq => ⟨by rw [upd_ne hq]; exact f.1, f.2⟩⟩
theorem Wk.nil' {G : Hp} {M : Mem} : Wk G M G [] := fun H h => ⟨h.ex, fun _ z => (nomatch z), List.nodup_nil, fun _ z => (nomatch z)⟩
theorem sql_of {K : PySem.W.Frag} {G : Hp} {a : Addr} {xs : List V} (h : G a = some (.lst xs)) : SqL K G a xs := .inl (.inl h)
theorem sqt_of {K : PySem.W.Frag} {G : Hp} {a : Addr} {xs : List V} (h : G a = some (.tup xs)) : SqT K G a xs := .inl (.inl h)
theorem Fr.cons {G : Hp} {M : Mem} {p : Addr} {x : Addr × HO} (h : Fr G (x :: M) p) : Fr G M p := ⟨h.1, fun y hy => h.2 y (List.mem_cons_of_mem _ hy)⟩
end BT
set_option Elab.async false
set_option linter.all false
set_option maxRecDepth 100000
set_option maxHeartbeats 4000000
namespace BT
open PySem PySem.Spec L2
open PyProof.Rows hiding St
/-- the slots at a body's start -/
def sta (n : Nat) (vs : List V) : St := vs.map some ++ List.replicate (n - vs.length) none
/-! ### ranges with a step -/
theorem rg_up {i j c : Int} (hc : 0 < c) (hc2 : c < 1000000) (hi : -1000000000000 < i) (hi2 : i < 1000000000000) (hj : -1000000000000 < j) (hj2 : j < 1000000000000) :
    RgC i j c (if i < j then ((j - i - 1) / c + 1).toNat else 0) := by
  have e : Builtin.Range.rangeSize i j c = if i < j then (j - i - 1) / c + 1 else 0 := by
    unfold Builtin.Range.rangeSize
    rw [if_pos hc]
  have hb : 0 ≤ (j - i - 1) / c ∨ ¬ i < j := by
    by_cases h : i < j
    · exact .inl (Int.ediv_nonneg (by omega) (by omega))
    · exact .inr h
  have hb2 : (j - i - 1) / c ≤ 2000000000000 ∨ ¬ i < j := by
    by_cases h : i < j
    · left
      have := Int.ediv_le_self c (show 0 ≤ j - i - 1 by omega)
      omega
    · exact .inr h
  refine ⟨by omega, by omega, ?_, ?_⟩
  · unfold Builtin.Range.small
    rw [e]
    simp only [Builtin.Range.rangeFitsLong, Bool.and_eq_true, Bool.or_eq_true, decide_eq_true_eq, beq_iff_eq, hc, gt_iff_lt, if_true]
    by_cases h : i < j
    · rw [if_pos h]; omega
    · rw [if_neg h]; omega
  · rw [e]
    by_cases h : i < j
    · rw [if_pos h, if_pos h]; omega
    · rw [if_neg h, if_neg h]; rfl
theorem rg_down {i j : Int} (hi : -1000000000000 < i) (hi2 : i < 1000000000000) (hj : -1000000000000 < j) (hj2 : j < 1000000000000) : RgC i j (-1) (i - j).toNat :=
  RgC.neg (by omega) (by omega) (by omega) (by omega)
section
variable {X : Cx} {W : WX} {pos : Pos} {a b c e : Expr} {es : List Expr}
/-! ### sorted, xs[::-1] -/
def kSorted (K : PySem.W.Frag) : KC := fun vs G M R => match vs with
  | [.ref a] => ∃ ns : List Int, LstAt K G M a (ns.map V.int) ∧ ∀ (ns' : List Int) (p : Addr), ns'.Perm ns → ns'.Pairwise (· ≤ ·) → Fr G M p → R (.ref p) G ((p, .lst (ns'.map V.int)) :: M)
  | _ => False
theorem kc_sorted : KCall X (.builtin "sorted") (kSorted X.K) := kcall_of cr_sortedI fun vs G M R H Q hv h hR => by
  match vs, h with
  | [.ref a], ⟨ns, h1, h2⟩ => exact ⟨a, ns, rfl, hv.lst h1, fun ns' p q1 q2 q3 => hR _ G _ _ (hv.newM q3) (h2 ns' p q1 q2 (hv.fr q3))⟩
def kRevL (K : PySem.W.Frag) : V → Hp → Mem → KR → Prop := fun x G M R => match x with
  | .ref a => ∃ xs, LstAt K G M a xs ∧ ∀ p, Fr G M p → R (.ref p) G ((p, .lst xs.reverse) :: M)
  | _ => False
theorem je_revl {t : KE} {k : Nat} {p1 p2 p3 : Pos} (he : JE X W e t) : JE X W (.Subscript e (.Slice none none (some (.UnaryOp .USub (.Constant (.int 1) k p1) p2)) p3) pos) (kUn (kRevL X.K) t) :=
  pe_mono (pe_revL he) fun σ H Q ⟨G, M, R, E, hv, h, hR, hE⟩ => ⟨G, M, _, E, hv, h, fun x G1 M1 H1 hv1 h1 => by
    match x, h1 with
    | .ref a, ⟨xs, q1, q2⟩ => exact ⟨a, xs, rfl, hv1.lst q1, fun p hp => hR _ G1 _ _ (hv1.newM hp) (q2 p (hv1.fr hp))⟩, hE⟩
/-! ### in, not in: flat things in a list or a tuple -/
def kIn (neg : Bool) (K : PySem.W.Frag) : KR2 := fun x y G M R => match y with
  | .ref a => ∃ xs, SeqAt' K G M a xs ∧ flatV x = true ∧ xs.all flatV = true ∧ R (.bl (if neg then !inV x xs else inV x xs)) G M
  | _ => False
theorem kop_in : KOp X (compareOp .In) (kIn false X.K) := kop_of op_in_seq fun x y G M R H Q hv h hR => by
  match y, h with
  | .ref a, ⟨xs, h1, h2, h3, h4⟩ => exact ⟨a, xs, rfl, h1.elim (fun q => .inl (hv.lst q)) (fun q => .inr (hv.tup q)), h2, h3, hR _ G M H hv h4⟩
theorem kop_notin : KOp X (compareOp .NotIn) (kIn true X.K) := kop_of op_notIn_seq fun x y G M R H Q hv h hR => by
  match y, h with
  | .ref a, ⟨xs, h1, h2, h3, h4⟩ => exact ⟨a, xs, rfl, h1.elim (fun q => .inl (hv.lst q)) (fun q => .inr (hv.tup q)), h2, h3, hR _ G M H hv h4⟩
/-! ### list.index, list.insert, tuple(xs), bool(x), list(range) -/
def kIndex (K : PySem.W.Frag) : KM := fun x vs G M R => match x, vs with
  | .ref a, [y] => ∃ ys j z, LstAt K G M a ys ∧ flatV y = true ∧ ys.all flatV = true ∧ ys[j]? = some z ∧ eqV z y = true ∧ (∀ m z', m < j → ys[m]? = some z' → eqV z' y = false) ∧ R (.int (j : Nat)) G M
  | _, _ => False
end
end BT
namespace BT
open PySem PySem.Spec L2
open PyProof.Rows hiding St
theorem rg_mul {i c : Int} {n : Nat} (hc : 0 < c) (hc2 : c < 1000000) (hi : -1000000000 < i) (hi2 : i < 1000000000) (hn : n < 100000) : RgC i (i + c * n) c n := by
  have hm : c * n < 100000000000 := by
    have h1 : c * (n : Int) ≤ 1000000 * (n : Int) := Int.mul_le_mul_of_nonneg_right (by omega) (by omega)
    omega
  have hm0 : 0 ≤ c * n := Int.mul_nonneg (by omega) (by omega)
  have q := rg_up (i := i) (j := i + c * n) hc hc2 (by omega) (by omega) (by omega) (by omega)
  have e : (if i < i + c * n then ((i + c * n - i - 1) / c + 1).toNat else 0) = n := by
    cases n with
    | zero => rw [if_neg (by simp)]
    | succ k =>
      have hk : 0 < c * ((k + 1 : Nat) : Int) := Int.mul_pos hc (by omega)
      rw [if_pos (by omega)]
      have e1 : i + c * ((k + 1 : Nat) : Int) - i - 1 = (c - 1) + c * (k : Int) := by
        rw [show ((k + 1 : Nat) : Int) = (k : Int) + 1 by omega, Int.mul_add]; omega
      rw [e1, ((Int.ediv_emod_unique hc).mpr ⟨rfl, by omega, by omega⟩).1]
      omega
  rw [e] at q
  exact q
theorem fn_false {P : Program} {w : World} {K : PySem.W.Frag} {mg : Str → Option Value} {base : Heap} {CX : CXT} {k : Nat} {f : Addr} {fd : FuncData} {ps : List Str} {S : KSp} (h : ∀ vs G M R Z, ¬ S vs G M R Z) : FnOk P w K mg base CX k f fd ps (lift S) :=
  ⟨fun vs H Q E ⟨G, M, R, Z, _, q, _⟩ => (h vs G M R Z q).elim, fun A outer s H args us vs Q E _ _ _ _ ⟨G, M, R, Z, _, q, _⟩ => (h vs G M R Z q).elim⟩
theorem cx_none {P : Program} {w : World} {l : List Env} {H : Hp} {s : Shared} {e : Value} {s' : Shared} (h : L2.CX P w l H s (fun _ _ _ => False) e s') : False := by
  obtain ⟨_, _, _, _, _, _, _, _, _, _, _, _, z⟩ := h
  exact z.elim
/-- a law's promise -/
def S_law (K : PySem.W.Frag) : KSp := sp1 fun x G M R Z => ∃ (a : Addr) (ns : List Int), x = .ref a ∧ SqL K G a (ns.map V.int) ∧ ns.length ≤ 63 ∧ ∀ G' M', R (.bl true) G' M'
theorem law_start {K : PySem.W.Frag} {H : Hp} {a : Addr} {ns : List Int} (hl : ns.length ≤ 63) (hS : SqL K H a (ns.map V.int)) : lift (S_law K) [.ref a] H (fun v _ => v = .bl true) fun _ _ _ => False :=
  ⟨H, [], fun v _ _ => v = .bl true, fun _ _ _ _ => False, Hv.self H, ⟨a, ns, rfl, hS, hl, fun _ _ => rfl⟩, fun _ _ _ _ _ h => h, fun _ _ _ _ _ _ z => z⟩
end BT
namespace BT
open PySem PySem.Spec L2
open PyProof.Rows hiding St
/-! ### is of None and of truths -/
def kIs2 (neg : Bool) : KR2 := fun x y G M R => match x, y with
  | .bl a, .bl b => R (.bl (if neg then !decide (a = b) else decide (a = b))) G M
  | x, .non => R (.bl (if neg then !decide (x = .non) else decide (x = .non))) G M
  | _, _ => False
theorem kop_is2 {X : Cx} : KOp X (compareOp .Is) (kIs2 false) := fun pins s σ H x y v u Q G M R I rx ry hv h hR => by
  cases y <;> cases x <;> first
    | exact op_isBl pins s σ H _ _ v u Q I rx ry ⟨_, _, rfl, rfl, hR _ G M H hv h⟩
    | exact op_isN pins s σ H _ _ v u Q I rx ry ⟨rfl, hR _ G M H hv h⟩
    | exact h.elim
theorem kop_isnot2 {X : Cx} : KOp X (compareOp .IsNot) (kIs2 true) := fun pins s σ H x y v u Q G M R I rx ry hv h hR => by
  cases y <;> cases x <;> first
    | exact op_notBl pins s σ H _ _ v u Q I rx ry ⟨_, _, rfl, rfl, hR _ G M H hv h⟩
    | exact op_notN pins s σ H _ _ v u Q I rx ry ⟨rfl, hR _ G M H hv h⟩
    | exact h.elim
/-! ### types of values -/
inductive PT | int | bool | non | str | list | tuple | dict
  deriving DecidableEq
def PT.name : PT → String
  | .int => "int" | .bool => "bool" | .non => "NoneType" | .str => "str" | .list => "list" | .tuple => "tuple" | .dict => "dict"
def TyK (K : PySem.W.Frag) (G : Hp) (M : Mem) (x : V) (T : PT) : Prop := ∀ H, Hv G M H → TyX K H x (.type T.name)
section
variable {K : PySem.W.Frag} {G : Hp} {M : Mem} {a : Addr} {xs : List V} {n : Nat}
theorem ty_int {i : Int} : TyK K G M (.int i) .int := fun H hv => .base (.int i)
theorem ty_bl {i : Bool} : TyK K G M (.bl i) .bool := fun H hv => .base (.bl i)
theorem ty_non : TyK K G M .non .non := fun H hv => .base .non
theorem ty_str {i : Str} : TyK K G M (.str i) .str := fun H hv => .base (.str i)
theorem ty_lst (h : LstAt K G M a xs) : TyK K G M (.ref a) .list := fun H hv => by
  rcases hv.lst h with (z | ⟨o, z⟩) | ⟨o, its, m, z1, z2, _⟩
  · exact .base (.lst z)
  · exact .base (.frz z)
  · exact .kList z1 z2
theorem ty_tup (h : SqT K G a xs) : TyK K G M (.ref a) .tuple := fun H hv => by
  rcases hv.tup h with (z | ⟨o, z⟩) | ⟨o, its, m, z1, z2, _⟩
  · exact .base (.tup z)
  · exact .fTuple z
  · exact .kTuple z1 z2
theorem ty_dict {kvs : List (Key × V)} (h : At G M a (.dK kvs)) : TyK K G M (.ref a) .dict := fun H hv => .base (.dK (hv.at h))
/-- isinstance(x, T): both answers -/
def isaB (T U : PT) : Bool := T == U || (T == .bool && U == .int)
theorem kit_pt (T U : PT) : PySem.W.kitOne K (.type T.name) (.type U.name) = some (isaB T U) := by
  cases T <;> cases U <;> exact kit_ty (by decide +kernel)
theorem isi_pt {x : V} {T : PT} {R : KR} (U : PT) (h : TyK K G M x T) (q : R (.bl (isaB T U)) G M) : kIsi K [x, .ty U.name] G M R :=
  ⟨.type T.name, .type U.name, _, .ty U.name, h, kit_pt T U, q⟩
end
end BT
namespace BT
open PySem PySem.Spec L2
/-! ### steps by name -/
section
variable {D : Kd} {σ : St} {G : Hp} {M : Mem} {i : Nat} {te ta tb : KE}
theorem kset_of (h : te σ G M (fun v G M => D.nx (σ.set i (some v)) G M) (D.x σ)) : kSet i te D σ G M := h
theorem kret_of (h : te σ G M D.rt (D.x σ)) : kRet te D σ G M := h
theorem kexpr_of (h : te σ G M (fun _ G M => D.nx σ G M) (D.x σ)) : kExpr te D σ G M := h
theorem kbin_of {β : Type} {k : V → V → Hp → Mem → (β → Hp → Mem → Prop) → Prop} {R : β → Hp → Mem → Prop} {E : KX} (h : ta σ G M (fun x G M => tb σ G M (fun y G M => k x y G M R) E) E) : kBin k ta tb σ G M R E := h
theorem kcb_of {k : KC} {t : KA} {R : KR} {E : KX} (h : t σ G M (fun vs G M => k vs G M R) E) : kCB k t σ G M R E := h
theorem kcons_of {t : KE} {u : KA} {R : List V → Hp → Mem → Prop} {E : KX} (h : t σ G M (fun x G M => u σ G M (fun xs G M => R (x :: xs) G M) E) E) : kCons t u σ G M R E := h
end
end BT
set_option Elab.async false
set_option linter.all false
set_option maxRecDepth 100000
set_option maxHeartbeats 4000000
namespace BT
open PySem PySem.Spec L2
open PyProof.Rows hiding St
/-! ### own errors: raised, caught, held -/
/-- the address of a class, by its name -/
def cl (K : PySem.W.Frag) (x : Str) : Addr := match PySem.W.nsIn K mainGlobals x with
  | some (some (.ref a)) => a
  | _ => 0
theorem cl_of {K : PySem.W.Frag} {x : Str} {C : Addr} (a : PySem.W.nsIn K mainGlobals x = some (some (.ref C))) : cl K x = C := by
  unfold cl
  rw [a]
/-- a class that is known -/
structure XG (K : PySem.W.Frag) (mg : Str → Option Value) (x : Str) : Prop where
  g : mg x = some (.ref (cl K x))
  k : PySem.W.keepIn K (.ref (cl K x)) = true
/-- a class without own __init__ under ValueError, to be raised -/
structure XR (K : PySem.W.Frag) (x : Str) : Prop where
  n : PySem.W.excIn K (cl K x) [.type "ValueError", .type "Exception", .type "BaseException", .type "object"] "ValueError.__new__" = true
  b : PySem.W.subIn K (.ref (cl K x)) (.type "BaseException") = some true
  t : PySem.W.typeIn K (.ref (cl K x)) = some (.type "type")
theorem xg_mk {K : PySem.W.Frag} {mg : Str → Option Value} {h : Heap} {x : Str} {C : Addr} (X : K.In h) (G : h.Ns mainGlobals mg) (a : PySem.W.nsIn K mainGlobals x = some (some (.ref C))) (k : PySem.W.keepIn K (.ref C) = true) : XG K mg x := by
  have e := cl_of a
  exact ⟨by rw [e]; exact PySem.W.mg_of X G a, by rw [e]; exact k⟩
theorem xr_mk {K : PySem.W.Frag} {x : Str} {C : Addr} (a : PySem.W.nsIn K mainGlobals x = some (some (.ref C)))
    (q : PySem.W.excIn K C [.type "ValueError", .type "Exception", .type "BaseException", .type "object"] "ValueError.__new__" = true)
    (b : PySem.W.subIn K (.ref C) (.type "BaseException") = some true) (t : PySem.W.typeIn K (.ref C) = some (.type "type")) : XR K x := by
  have e := cl_of a
  exact ⟨by rw [e]; exact q, by rw [e]; exact b, by rw [e]; exact t⟩
theorem xe_mk {K : PySem.W.Frag} {x : Str} {C : Addr} (a : PySem.W.nsIn K mainGlobals x = some (some (.ref C))) (q : ExcC K C) : ExcC K (cl K x) := by
  rw [cl_of a]
  exact q
section
variable {X : Cx} {W : WX} {pos : Pos}
/-- raise C('m') -/
def kRaise (K : PySem.W.Frag) (x : Str) : KS := fun D σ G M => D.xc (.ref (cl K x)) none σ G M
theorem js_raise {x m : Str} {j : Nat} {p p2 pos2 : Pos} (g : XG X.K X.mg x) (r : XR X.K x) (tk : Takes X W) (hc : X.calm = true := by rfl) (hg : Gl X x := by rfl) (hdb : (x == ("__debug__" : Str)) = false := by decide) :
    JS X W (.Raise (some (.Call (.Name x p) [.Constant (.str m) j p2] [] pos2)) none pos) (kRaise X.K x) :=
  ps_mono (ps_raise hc tk (pmk_own PySem.F.excBase_ValueError r.n g.g g.k (raises_own r.b r.t) hg hdb)) fun D σ H ⟨G, M, d, hv, h, en⟩ => en.xc _ _ _ _ _ _ hv h

/-- a caught error that is held: its class and its dict -/
def ExT (cls : Value) (d : Option Addr) (a : Addr) : HO := .ext fun h => ∃ (oe : Obj) (vs : Array Value), h.get? a = some oe ∧ Zc cls d oe ∧ oe.data = .fields vs
theorem exT_ok {P : Program} {w : World} {H : Hp} {h : Heap} {a : Addr} {cls : Value} {d : Option Addr} {oe : Obj} {vs : Array Value} (e : h.get? a = some oe) (z : Zc cls d oe) (q : oe.data = .fields vs) : ObjOk P w H h a (ExT cls d a) :=
  ⟨⟨oe, vs, e, z, q⟩, ⟨oe, e⟩, fun _ _ ⟨o, v, q, r⟩ k => ⟨o, v, k o q, r⟩⟩
/-- an object that nobody tracked is tracked from here on -/
theorem inv_track {pins : List (Addr × Obj)} {σ : St} {H : Hp} {s : Shared} {a : Addr} {o : HO} (I : Inv X pins σ H s) (n : H a = none) (n0 : X.s_0.heap.get? a = none) (nl : a ≠ X.env.locals)
    (nc : ∀ y c, X.env.cells.lookup y = some c → c ≠ a) (np : ∀ p ∈ X.pn ++ pins, p.1 ≠ a) (new : ObjOk X.prog X.w (upd H a o) s.heap a o) : Inv X pins σ (upd H a o) s := by
  have ne : ∀ b u, H b = some u → b ≠ a := fun b u e z => by
    rw [z, n] at e
    cases e
  refine ⟨I.ok, I.os, I.bare, ⟨I.base.keep, I.base.slot, fun b u e m x => ?_, I.base.there, fun b xs e => ?_, fun b u v e => ?_, fun b ps e => ?_⟩, I.loc, I.cell, ?_, fun y c e => ?_, fun p hp => ?_, fun b u e => ?_, I.len⟩
  · rw [upd_ne (fun z => by rw [z, n0] at e; cases e)]
    exact I.base.free b u e m x
  · have q := I.base.tups b xs e
    rw [upd_ne (ne b _ q)]
    exact q
  · have q := I.base.frzs b u v e
    rw [upd_ne (ne b _ q)]
    exact q
  · obtain ⟨m, q⟩ := I.base.tbls b ps e
    exact ⟨m, by rw [upd_ne (ne b _ q)]; exact q⟩
  · rw [upd_ne (Ne.symm nl)]
    exact I.free
  · rw [upd_ne (nc y c e)]
    exact I.freeC y c e
  · obtain ⟨p1, p2, p3, p4, p5⟩ := I.pin p hp
    exact ⟨p1, by rw [upd_ne (np p hp)]; exact p2, p3, p4, p5⟩
  · by_cases hb : b = a
    · subst hb
      rw [upd_same] at e
      cases e
      exact new
    · rw [upd_ne hb] at e
      exact (I.hok b u e).stay (fun c v _ q => q) (fun c q => by rw [upd_ne (ne c _ q)]; exact q) fun c xs q => by rw [upd_ne (ne c _ q)]; exact q
end

/-- what 'except x as n: y = n' wishes of an error of the body -/
def wKeep (K : PySem.W.Frag) (c : Value) (i j : Nat) (Wout : WX) (D : Ends) : WX := fun cls d σ H => ∃ b, PySem.W.exmOne K cls c = some b ∧
  (b = true → ∀ a, H a = none → D.nx (((σ.set i (some (.ref a))).set j (some (.ref a))).set i none) (upd H a (ExT cls d a))) ∧ (b = false → Wout cls d σ H)
section
variable {X : Cx} {x n y : Str} {c : Value} {i j : Nat} {body : List Stmt} {np pos pos' q1 q2 q3 : Pos} {tb : WX → TS} {Wout : WX}
theorem ps_try_keep (hs : X.stack = X.env :: X.outer) (hf : X.env.frame = some X.env.locals) (hx : X.ex = []) (hN : X.N.Nodup) (hi : X.N[i]? = some n) (hj : X.N[j]? = some y) (hln : X.env.kindOf n = some .local) (hlj : Loc X.env.scope y) (hij : i ≠ j)
    (hfy : X.fn y = true ∨ X.env.scope.names.lookup y = some .local) (hdn : (n == ("__debug__" : Str)) = false) (hcn : (n == ("__classdict__" : Str)) = false)
    (hsw : swapsWith (.Name n q2) (some (.Name y q1)) q3.line X.env = pure false) (hc : Names X x c) (tk : Takes X Wout)
    (hb : ∀ (W : WX) (pn : List (Addr × Obj)) (xe : Value → Shared → Prop), Takes (X.tr pn xe) W → PassesOwn (model X.prog X.w) X.A X.env xe → PSs (X.tr pn xe) body (tb W)) :
    PS X (.Try body [.ExceptHandler (some (.Name x np)) (some n) [.Assign [.Name y q1] (.Name n q2) q3] pos'] [] [] pos) (fun D σ H => tb (wKeep X.K c i j Wout D) D σ H) := by
  refine ⟨fun pins s σ H D I h => ?_⟩
  have ok := I.ok
  have fr0 : X.A.frames = some (X.env :: X.outer) := by rw [ok.frames, hs]
  refine wpAny_Try_except ?_
  refine wpAny_mono ((hb (wKeep X.K c i j Wout D) (X.pn ++ pins) _ (fun u s' xx => ?_) PassesOwn.looking).run [] s σ H D (I.toTry _) h) (fun f s1 hsp => ?_) (fun e s1 he => he)
  · obtain ⟨a, B, sI, pins', σ', H', cls, d, rfl, J', nb, up, sky, na, os, ag, b, hb1, hyes, hno⟩ := xx
    have J : Inv X pins σ' H' sI := J'.ofTry ok
    have sky2 : Sky B (X.env :: X.outer) a (Zc cls d) X.env.locals s'.heap := by
      rw [← hs]
      exact sky
    show wpAny (model X.prog X.w) X.A (noteFrame (.ref a) X.env) _ _ _
    refine Sky.land Zc.steady fr0 hf sky2 fun h3 fl3 up3 => ?_
    have J3 : Inv X pins σ' H' { s' with heap := h3 } := J.landed nb fl3.1 (up.trans up3) os ag
    obtain ⟨oe3, vs3, he3, hz3, hd3⟩ := fl3.there
    have nfr : a ∉ frs (X.env :: X.outer) := fun hm => by
      obtain ⟨_, o', e', hnf⟩ := fl3.2.2.1.mem hm
      rw [he3] at e'
      cases e'
      exact hnf _ hd3
    have nL : a ≠ X.env.locals := fun z => nfr (List.mem_filterMap.mpr ⟨X.env, List.mem_cons_self, by rw [hf, z]⟩)
    have nF : a ∉ X.fs := fun hm => by
      obtain ⟨e, he, q⟩ := List.mem_filterMap.mp hm
      exact nfr (List.mem_filterMap.mpr ⟨e, List.mem_cons_of_mem _ he, q⟩)
    have nI : sI.heap.get? a = none := by
      cases e : sI.heap.get? a with
      | none => rfl
      | some o =>
        have z := nb a o e (by rw [hs]; exact nfr)
        rw [fl3.2.1] at z
        cases z
    have n0 : X.s_0.heap.get? a = none := by
      cases e : X.s_0.heap.get? a with
      | none => rfl
      | some o =>
        obtain ⟨o', z⟩ := J.base.there a o e (by rw [hx]; exact fun z => nomatch z)
        rw [nI] at z
        cases z
    have nc : ∀ w c, X.env.cells.lookup w = some c → c ≠ a := fun w c e z => by
      obtain ⟨v, o, ho, _⟩ := J.cell w c e
      rw [z, nI] at ho
      cases ho
    have npn : ∀ p ∈ X.pn ++ pins, p.1 ≠ a := fun p hp z => by
      obtain ⟨q, _⟩ := J.pin p hp
      rw [z, nI] at q
      cases q
    have S3 := J3.suite he3 hd3 na nL nF
    refine wpAny_handleBy_cons (codeAny_handlers_test ?_) (by intro q; cases q)
    have LT : PySem.W.Looks (model X.prog X.w) h3 (typeOf (.ref a)) cls := fun A Q E s k q => wpAny_typeOf_ref (k _ _ he3) (by rw [hz3.1]; exact q)
    have LM := PySem.W.exm_one (M := model X.prog X.w) (J3.kIn) LT hb1
    have look : ∀ {Q : Value → Shared → Prop} {E : Value → Shared → Prop}, Q c { s' with heap := h3 } → wpAny (model X.prog X.w) (X.A.mark (some (.ref a))) (eval (.Name x np) X.env) Q E { s' with heap := h3 } := fun {Q E} q => by
      obtain ⟨hg, hdbg, hm | ⟨hm, hv, hnn⟩⟩ := hc
      · exact ld_glob (X := X.suite a ((a, oe3) :: (X.pn ++ pins))) S3 hg hm q hdbg
      · exact ld_blt (X := X.suite a ((a, oe3) :: (X.pn ++ pins))) S3 hg hm hv q hnn hdbg
    refine look (LM.here ?_)
    cases b with
    | true =>
      refine codeAny_handlers_suite_as ?_
      refine HandSPX.lands_againZ fl3 fun h4 fl4 up4 => ?_
      have J4 : Inv X pins σ' H' { s' with heap := h4 } := J.landed nb fl4.1 ((up.trans up3).trans up4) os ag
      obtain ⟨oe4, vs4, he4, hz4, hd4⟩ := fl4.there
      have S4 := J4.suite he4 hd4 na nL nF
      refine store_ok (X := X.suite a ((a, oe4) :: (X.pn ++ pins))) (v := .ref a) S4 hN hi (.inl hln) rfl (fun s5 S5 => ?_) (.inr hln)
      have lenσ : σ'.length = X.N.length := J.len
      have hiσ : i < σ'.length := by
        rw [lenσ]
        exact (List.getElem?_eq_some_iff.mp hi).1
      have P1 : PSs (X.suite a ((a, oe4) :: (X.pn ++ pins))) [.Assign [.Name y q1] (.Name n q2) q3] (tSeq (tAsg (tVar i) (gName j)) tNext) :=
        pss_cons (ps_set hN hj hlj (pe_var hi (.inl hln) hdn hcn) hsw hfy) pss_nil
      refine wpAny_mono (P1.run [] s5 (σ'.set i (some (.ref a))) H' { nx := fun σ6 H6 => σ6 = (σ'.set i (some (.ref a))).set j (some (.ref a)) ∧ H6 = H', rt := fun _ _ => False, bk := fun _ _ => False, ct := fun _ _ => False } S5 ?_) (fun f s6 hsp => ?_) (fun _ _ z => False.elim z)
      · exact ⟨.ref a, by rw [List.getElem?_set_self hiσ], rfl, rfl⟩
      · cases f with
        | next =>
          obtain ⟨σ6, H6, S6, rfl, rfl⟩ := hsp
          refine gone_ok (X := X.suite a ((a, oe4) :: (X.pn ++ pins))) S6 hN hi hln fun s7 S7 => ?_
          obtain ⟨k1, k2, _⟩ := S7.pin (a, oe4) (List.mem_append.mpr (.inl List.mem_cons_self))
          exact ⟨_, _, inv_track (S7.unsuite ok) na n0 nL nc npn (exT_ok k1 hz4 hd4), hyes rfl a na⟩
        | brk => obtain ⟨_, _, _, z⟩ := hsp; exact z.elim
        | cont => obtain ⟨_, _, _, z⟩ := hsp; exact z.elim
        | ret u => obtain ⟨_, _, _, _, _, z⟩ := hsp; exact z.elim
    | false =>
      show wpAny _ X.A (handleBy (.ref a) X.env []) _ _ _
      refine wpAny_handleBy_nil ?_
      obtain ⟨k1, k2, k3, oe, vs, T, oT, ts', he, hz, hd, h1, hr⟩ := id fl3
      unfold PySem.passOn
      refine wpAny_bind (wpAny_field he hd h1 ?_)
      rw [if_neg (show ¬ ((Value.ref T == Value.none) = true) from by simp)]
      have fin : wpAny (model X.prog X.w) X.A (setFlight (.ref a) X.env.frame) (fun _ s4 => wpAny (model X.prog X.w) X.A (throw (.ref a) : Sem Flow) (SP X pins D) X.xe s4) X.xe { s' with heap := h3 } := by
        rw [hf]
        refine HandSPX.setFlight_upZ fl3 fun h4 hh4 up4 => wpAny_throw (tk _ _ ?_)
        exact ⟨a, B, sI, pins, σ', H', cls, d, rfl, J, nb, (up.trans up3).trans up4, .inr (.inr (by rw [hs]; exact hh4)), na, os, ag, hno rfl⟩
      first
        | exact wpAny_bind (wpAny_pure (wpAny_bind fin))
        | exact wpAny_bind fin
  · cases f with
    | next => obtain ⟨σ', H', J', q⟩ := hsp; exact wpAny_execs_nil ⟨σ', H', J'.ofTry ok, q⟩
    | brk => obtain ⟨σ', H', J', q⟩ := hsp; exact ⟨σ', H', J'.ofTry ok, q⟩
    | cont => obtain ⟨σ', H', J', q⟩ := hsp; exact ⟨σ', H', J'.ofTry ok, q⟩
    | ret u => obtain ⟨v, σ', H', J', r, q⟩ := hsp; exact ⟨v, σ', H', J'.ofTry ok, r, q⟩
end
/-! ### the readings -/
/-- an error of the class named x, held at a -/
def ErA (K : PySem.W.Frag) (x : Str) (d : Option Addr) (a : Addr) : HO := ExT (.ref (cl K x)) d a
/-- try: t, except C as n (slot i): y = n (slot j); the classes that the law knows, and whether they stand under C -/
def kTry (K : PySem.W.Frag) (tab : List (Str × Bool)) (i j : Nat) (t : KS) : KS := fun D σ G M => t { D with xc := fun c d σ' G' M' => ∃ p ∈ tab, c = .ref (cl K p.1) ∧
  (if p.2 = true then ∀ a, Fr G' M' a → D.nx (((σ'.set i (some (.ref a))).set j (some (.ref a))).set i none) (upd G' a (ErA K p.1 d a)) M' else D.xc c d σ' G' M') } σ G M
section
variable {X : Cx} {W : WX} {pos : Pos}
theorem js_try {K : PySem.W.Frag} {x n y : Str} {i j : Nat} {tab : List (Str × Bool)} {body : List Stmt} {t : KS} {np pos' q1 q2 q3 : Pos} (g : XG X.K X.mg x) (ht : ∀ p ∈ tab, PySem.W.exmOne X.K (.ref (cl X.K p.1)) (.ref (cl X.K x)) = some p.2) (hN : X.N.Nodup) (tk : Takes X W)
    (hb : ∀ (W : WX) (pn : List (Addr × Obj)) (xe : Value → Shared → Prop), Takes (X.tr pn xe) W → PassesOwn (model X.prog X.w) X.A X.env xe → JSs (X.tr pn xe) W body t)
    (hK : X.K = K := by rfl) (hs : X.stack = X.env :: X.outer := by rfl) (hf : X.env.frame = some X.env.locals := by rfl) (hx : X.ex = [] := by rfl) (hi : X.N[i]? = some n := by rfl) (hj : X.N[j]? = some y := by rfl)
    (hln : X.env.kindOf n = some .local := by rfl) (hlj : Loc X.env.scope y := by first | exact Or.inl rfl | exact Or.inr rfl) (hij : i ≠ j := by decide)
    (hfy : X.fn y = true ∨ X.env.scope.names.lookup y = some .local := by first | exact .inl rfl | exact .inr rfl) (hdn : (n == ("__debug__" : Str)) = false := by decide) (hcn : (n == ("__classdict__" : Str)) = false := by decide)
    (hsw : swapsWith (.Name n q2) (some (.Name y q1)) q3.line X.env = pure false := by rfl) (hg : Gl X x := by rfl) (hxd : (x == ("__debug__" : Str)) = false := by decide) :
    JS X W (.Try body [.ExceptHandler (some (.Name x np)) (some n) [.Assign [.Name y q1] (.Name n q2) q3] pos'] [] [] pos) (kTry K tab i j t) := by
  subst hK
  refine ps_mono (ps_try_keep (c := .ref (cl X.K x)) (tb := fun W => upS W t) hs hf hx hN hi hj hln hlj hij hfy hdn hcn hsw ⟨hg, hxd, .inl g.g⟩ tk hb) fun D σ H ⟨G, M, d, hv, h, en⟩ => ?_
  refine ⟨G, M, _, hv, h, ⟨en.nx, en.rt, en.bk, en.ct, fun c e σ' G' M' H' hv' q => ?_⟩⟩
  obtain ⟨p, hp, rfl, q⟩ := q
  refine ⟨p.2, ht p hp, fun hb a na => ?_, fun hb => ?_⟩
  · rw [if_pos hb] at q
    exact en.nx _ _ _ _ (hv'.newG na) (q a (hv'.fr na))
  · rw [if_neg (by rw [hb]; exact Bool.false_ne_true)] at q
    exact en.xc _ _ _ _ _ _ hv' q
/-- isinstance(v, C), where v is an error that is held, or None -/
def kIsX (K : PySem.W.Frag) (c : V) (tab : List (Str × Bool)) : KC := fun vs G M R => match vs with
  | [.non, c'] => c' = c ∧ R (.bl false) G M
  | [.ref a, c'] => c' = c ∧ ∃ p ∈ tab, At G M a (ErA K p.1 none a) ∧ R (.bl p.2) G M
  | _ => False
theorem kc_isX {tab : List (Str × Bool)} {c : V} {cv : Value} (hcv : ClsV c cv) (hn : PySem.W.kitOne X.K (.type "NoneType") cv = some false)
    (ht : ∀ p ∈ tab, ExcC X.K (cl X.K p.1) ∧ PySem.W.kitOne X.K (.ref (cl X.K p.1)) cv = some p.2) : KCall X (.builtin "isinstance") (kIsX X.K c tab) := by
  intro pins s σ H xs us Q I r h
  obtain ⟨G, M, R, hv, h, hR⟩ := h
  match xs, h with
  | [.non, c'], h2 =>
    obtain ⟨rfl, h3⟩ := h2
    exact (call_isi (X := X)) pins s σ H [.non, c'] _ Q I r ⟨_, _, .type "NoneType", _, false, rfl, hcv, .base .non, hn, hR _ _ _ _ hv h3⟩
  | [.ref a, c'], h2 =>
    obtain ⟨rfl, p, hp, ha, h3⟩ := h2
    cases r with
    | cons rx rr =>
      cases rr with
      | cons rt rr =>
        cases rr
        have ec := hcv.eq rt
        subst ec
        cases rx
        obtain ⟨C, e⟩ := ht p hp
        have hH : H a = some (ErA X.K p.1 none a) := hv.at ha
        obtain ⟨⟨oe, vs, hget, hz, hd⟩, _, _⟩ := I.hok a _ hH
        have J : PySem.W.InstAt s.heap a oe (cl X.K p.1) none := by
          obtain ⟨oc, od, oda, osl⟩ := oe
          obtain ⟨h1, h2⟩ := hz
          dsimp only at h1 h2 hd
          subst h1 h2 hd
          exact ⟨hget, rfl, rfl, trivial⟩
        exact PySem.W.kia_one (PySem.W.handS_kitx_exc C.hg C.hk C.hs C.hd C.ha C.hn C.ht C.hm) I.kIn J e (fun z => nomatch z) fun tk => ⟨.bl p.2, H, I.kept (t' := tk) fun _ _ z => z, rfl, hR _ _ _ _ hv h3⟩
/-- the name of an own class -/
theorem je_cls {K : PySem.W.Frag} {x : Str} {pos : Pos} (g : XG X.K X.mg x) (hK : X.K = K := by rfl) (hg : Gl X x := by rfl) (hd : (x == ("__debug__" : Str)) = false := by decide) : JE X W (.Name x pos) (kC (.ref (cl K x))) := by
  subst hK
  exact je_glob g.g rfl hg hd
end
theorem kop_shlW {X : Cx} : KOp X (binaryOp .LShift) (kI CShl fun i j => .int (i * 2 ^ j.toNat)) := kop_I op_shlW
theorem excX {R : KR} {Z : KX} {c : Value} {d : Option Addr} {σ : St} {G : Hp} {M : Mem} (h : Z c d G M) : (ends R Z).xc c d σ G M := ⟨G, M, Wk.refl, h⟩
theorem kit_ref {K : PySem.W.Frag} {t : Value} {C : Addr} {b : Bool} (hc : PySem.W.hasDictIn K C = true) (ht : PySem.W.typeIn K (.ref C) = some (.type "type")) (hs : PySem.W.subIn K (.ref C) (.ref C) = some true) (h : PySem.W.subIn K t (.ref C) = some b) :
    PySem.W.kitOne K t (.ref C) = some b := by
  unfold PySem.W.kitOne
  by_cases e : (t == .ref C) = true
  · rw [if_pos e]
    have e2 : t = .ref C := beq_iff_eq.mp e
    rw [e2, hs] at h
    exact h
  · rw [if_neg e]
    obtain ⟨cd, hcd, _⟩ := PySem.W.any_some hc
    have e1 : ((PySem.W.clsIn K C).isSome && PySem.W.typeIn K (.ref C) == some (.type "type")) = true := by rw [hcd, ht] <;> rfl
    show (if ((PySem.W.clsIn K C).isSome && PySem.W.typeIn K (.ref C) == some (.type "type")) = true then PySem.W.subIn K t (.ref C) else none) = some b
    rw [if_pos e1]
    exact h
theorem kit_tyV {K : PySem.W.Frag} {t : Value} {T : String} {b : Bool} (hm : PySem.W.kitMeta T = true) (hne : (t == .type T) = false) (h : PySem.W.subIn K t (.type T) = some b) : PySem.W.kitOne K t (.type T) = some b := by
  unfold PySem.W.kitOne
  rw [if_neg (by rw [hne]; exact Bool.false_ne_true)]
  show (if PySem.W.kitMeta T = true then PySem.W.subIn K t (.type T) else none) = some b
  rw [if_pos hm]
  exact h
end BT
namespace BT
open PySem PySem.Spec L2
open PyProof.Rows hiding St
/-! ### whole numbers -/
def isIntV : V → Bool
  | .int _ => true
  | _ => false
def withinV (x : V) (lo hi : Int) : Bool := match x with
  | .int i => decide (lo ≤ i) && decide (i ≤ hi)
  | _ => false
def S_is_whole (K : PySem.W.Frag) : KSp := sp1 fun x G M R Z => ∃ T : PT, TyK K G M x T ∧ R (.bl (T == .int)) G M
def S_is_within (K : PySem.W.Frag) : KSp := sp3 fun x y z G M R Z => ∃ (T : PT) (lo hi : Int), y = .int lo ∧ z = .int hi ∧ TyK K G M x T ∧ (T == .int) = isIntV x ∧ R (.bl (withinV x lo hi)) G M
/-! ### kinds and draws -/
structure Kn where
  leaf : Bool
  n : Nat
def Kn.txt (k : Kn) : Str := if k.leaf then "leaf" else "shuffle"
def KnOk (k : Kn) : Prop := k.n ≤ 64 ∧ (k.leaf = true → k.n ≤ 6) ∧ (k.leaf = false → 1 ≤ k.n)
def fac : Nat → Nat
  | 0 => 1
  | n + 1 => (n + 1) * fac n
def manyK (k : Kn) : Nat := if k.leaf then 2 ^ k.n else fac k.n
def prK : List Kn → Nat
  | [] => 1
  | k :: ks => manyK k * prK ks
def knD (k : Kn) : PyData := .tuple [.str k.txt, .int k.n]
def rowAt : Nat → Nat → List Nat
  | 0, _ => []
  | s + 1, n => rowAt s (n / (s + 1)) ++ [n % (s + 1)]
/-- a draw: a leaf's number, or a row -/
inductive Dr | leaf (n : Nat) | row (l : List Nat)
def dOf (k : Kn) (n : Nat) : Dr := if k.leaf then .leaf n else .row (rowAt k.n n)
def drR : List Kn → Nat → List Dr
  | [], _ => []
  | k :: ks, n => dOf k (n % manyK k) :: drR ks (n / manyK k)
def drawsAt (ks : List Kn) (n : Nat) : List Dr := (drR ks.reverse n).reverse
def natsV (l : List Nat) : List V := l.map fun (n : Nat) => V.int (n : Int)
inductive A2 {α β : Type} (r : α → β → Prop) : List α → List β → Prop
  | nil : A2 r [] []
  | cons {a : α} {b : β} {as : List α} {bs : List β} : r a b → A2 r as bs → A2 r (a :: as) (b :: bs)
/-- a draw as it lies: a row's list is one of the cells -/
def DrM (M : Mem) (v : V) (d : Dr) : Prop := match d with
  | .leaf n => v = .int n
  | .row l => ∃ b, v = .ref b ∧ (b, HO.lst (natsV l)) ∈ M
def DrV (K : PySem.W.Frag) (G : Hp) (M : Mem) (v : V) (d : Dr) : Prop := match d with
  | .leaf n => v = .int n
  | .row l => ∃ b, v = .ref b ∧ LstAt K G M b (natsV l)
def KnAt (K : PySem.W.Frag) (G : Hp) (M : Mem) (a : Addr) (ks : List Kn) : Prop := ∃ us, LstAt K G M a us ∧ DpAll K G us (ks.map knD) ∧ (∀ k, k ∈ ks → KnOk k) ∧ ks.length ≤ 1000
def DrAt (K : PySem.W.Frag) (G : Hp) (M : Mem) (a : Addr) (ds : List Dr) : Prop := ∃ us, LstAt K G M a us ∧ A2 (DrV K G M) us ds
def DrOk (k : Kn) (d : Dr) : Prop := match d with
  | .leaf n => k.leaf = true ∧ n < 2 ^ k.n
  | .row l => k.leaf = false ∧ l.length = k.n ∧ ∀ (i v : Nat), l[i]? = some v → v ≤ i
def S_leaves (K : PySem.W.Frag) : KSp := sp1 fun x G M R Z => ∃ n : Nat, x = .int n ∧ n ≤ 1000 ∧ R (.int ((2 ^ n : Nat) : Int)) G M
def S_many_of (K : PySem.W.Frag) : KSp := sp1 fun x G M R Z => ∃ k : Kn, Dp K G x (knD k) ∧ KnOk k ∧ R (.int (manyK k)) G M
def S_how_many (K : PySem.W.Frag) : KSp := sp1 fun x G M R Z => ∃ (a : Addr) (ks : List Kn), x = .ref a ∧ KnAt K G M a ks ∧ R (.int (prK ks)) G M
def S_row_at (K : PySem.W.Frag) : KSp := sp2 fun x y G M R Z => ∃ s n : Nat, x = .int s ∧ y = .int n ∧ s ≤ 64 ∧ ∀ p, Fr G M p → R (.ref p) G ((p, .lst (natsV (rowAt s n))) :: M)
def S_draws_at (K : PySem.W.Frag) : KSp := sp2 fun x y G M R Z => ∃ (a : Addr) (ks : List Kn) (T : PT), x = .ref a ∧ KnAt K G M a ks ∧ TyK K G M y T ∧ (T == .int) = isIntV y ∧
  (∀ n : Nat, y = .int n → n < prK ks → ∀ (p : Addr) (us : List V) (Mn : Mem), A2 (DrM Mn) us (drawsAt ks n) → R (.ref p) G ((p, .lst us) :: (Mn ++ M))) ∧
  (withinV y 0 ((prK ks : Int) - 1) = false → Z (.ref (cl K "NoNumber")) none G M)
def S_law_whole (K : PySem.W.Frag) : KSp := sp1 fun x G M R Z => ∃ T : PT, TyK K G M x T ∧ R (.bl (T == .int)) G M
def S_law_kinds (K : PySem.W.Frag) : KSp := sp3 fun x y z G M R Z => ∃ (p : Addr) (m f : Int) (n : Nat) (c s : Int), x = .ref p ∧ y = .int m ∧ z = .int f ∧ M[n]? = some (p, pool c s) ∧ PoolOk s ∧ 0 ≤ m ∧ m ≤ 8 ∧ 1 ≤ f ∧ f ≤ 64 ∧
  ∀ (t : Addr) (us : List V) (ks : List Kn) (G' : Hp) (c' s' : Int), Ex G G' → DpAll K G' us (ks.map knD) → (∀ k, k ∈ ks → KnOk k) → ks.length ≤ m.toNat → PoolOk s' → R (.ref t) G' ((t, .lst us) :: M.set n (p, pool c' s'))
def S_law_many (K : PySem.W.Frag) : KSp := sp1 fun x G M R Z => ∃ k : Kn, Dp K G x (knD k) ∧ KnOk k ∧ R (.int (manyK k)) G M
def stepD (c : Nat) (p : Kn × Dr) : Nat := match p.2 with
  | .leaf n => c * 2 ^ p.1.n + n
  | .row l => (List.range l.length).foldl (fun c i => c * (i + 1) + l.getD i 0) c
def numD (ks : List Kn) (ds : List Dr) : Nat := (ks.zip ds).foldl stepD 0
def S_law_number (K : PySem.W.Frag) : KSp := sp2 fun x y G M R Z => ∃ (a b : Addr) (ks : List Kn) (ds : List Dr), x = .ref a ∧ y = .ref b ∧ KnAt K G M a ks ∧ DrAt K G M b ds ∧ A2 DrOk ks ds ∧ ks.length ≤ 8 ∧ ∀ G', Ex G G' → R (.int (numD ks ds)) G' M
def S_law_are_draws (K : PySem.W.Frag) : KSp := sp2 fun x y G M R Z => ∃ (a b : Addr) (ks : List Kn) (ds : List Dr), x = .ref a ∧ y = .ref b ∧ KnAt K G M a ks ∧ DrAt K G M b ds ∧ A2 DrOk ks ds ∧ ∀ G', Ex G G' → R (.bl true) G' M
def S_law_is (K : PySem.W.Frag) : KSp := sp2 fun x y G M R Z => ∃ (a : Addr) (ks : List Kn) (n : Nat), x = .ref a ∧ y = .int n ∧ KnAt K G M a ks ∧ ks.length ≤ 8 ∧ n < prK ks ∧ ∀ G', Ex G G' → R (.bl true) G' M
def S_law_refused (K : PySem.W.Frag) : KSp := sp2 fun x y G M R Z => ∃ (a : Addr) (ks : List Kn) (T : PT), x = .ref a ∧ KnAt K G M a ks ∧ TyK K G M y T ∧ (T == .int) = isIntV y ∧ withinV y 0 ((prK ks : Int) - 1) = false ∧ ∀ G', Ex G G' → R (.bl true) G' M
def S_law_right (K : PySem.W.Frag) : KSp := sp1 fun x G M R Z => ∃ (p : Addr) (n : Nat) (c s : Int), x = .ref p ∧ M[n]? = some (p, pool c s) ∧ PoolOk s ∧ ∀ G' M', Ex G G' → R (.bl true) G' M'
/-! readings of the defs, printed by gen.py -/
def tab_tr_TouchError : List (Str × Bool) := [("NoNumber", true)]
def tab_is_NoDraws : List (Str × Bool) := [("NoNumber", false)]
def tab_is_NoNumber : List (Str × Bool) := [("NoNumber", true)]
def tab_is_ValueError : List (Str × Bool) := [("NoNumber", true)]
/-- law_pool(_law_script, _law_k); slots 0 _law_script, 1 _law_k, 2 _law_cell, 3 _law_seed -/
def rd_law_pool_4 (K : PySem.W.Frag) : KS :=
  kSeq (kRet (kLst (kCons (kVar 2) (kCons (kVar 3) (kNil))))) (kNext)
def rd_law_pool_3 (K : PySem.W.Frag) : KS :=
  kSeq (kIf (kT (kBin (kI0 fun i j => .bl (decide (i < j))) (kVar 2) (kBin (kI CPow fun i j => .int (i ^ j.toNat)) (kC (.int 10)) (kC (.int 18))))) (kSeq (kSet 2 (kC (.int 0))) (kNext)) (kNext)) (rd_law_pool_4 K)
def rd_law_pool_2 (K : PySem.W.Frag) : KS :=
  kSeq (kSet 3 (kBin (kI (fun _ j => 0 < j) fun i j => .int (i % j)) (kBin (kMul) (kBin (kAdd) (kBin (kAdd) (kBin (kI (fun _ j => 0 < j) fun i j => .int (i % j)) (kVar 2) (kC (.int 1000000007))) (kBin (kMul) (kBin (kMul) (kC (.int 15485863)) (kVar 1)) (kVar 1))) (kC (.int 3))) (kC (.int 39373))) (kC (.int 2147483647)))) (rd_law_pool_3 K)
def rd_law_pool_1 (K : PySem.W.Frag) : KS :=
  kSeq (kIf (kT (kBin (kI0 fun i j => .bl (decide (i < j))) (kVar 1) (kCB (kLen K) (kCons (kVar 0) (kNil))))) (kSeq (kSet 2 (kBin (kIx K) (kVar 0) (kVar 1))) (kNext)) (kNext)) (rd_law_pool_2 K)
def rd_law_pool (K : PySem.W.Frag) : KS :=
  kSeq (kSet 2 (kC (.int 0))) (rd_law_pool_1 K)
/-- law_take(_law_pool_here, _law_many_here); slots 0 _law_pool_here, 1 _law_many_here, 2 _law_found -/
def rd_law_take_2 (K : PySem.W.Frag) : KS :=
  kSeq (kRet (kBin (kI (fun _ j => 0 < j) fun i j => .int (i % j)) (kBin (kI CDivW fun i j => .int (i / j)) (kBin (kI (fun _ j => 0 < j) fun i j => .int (i % j)) (kBin (kMul) (kBin (kIx K) (kVar 0) (kC (.int 1))) (kBin (kIx K) (kVar 0) (kC (.int 1)))) (kC (.int 2147483629))) (kC (.int 64))) (kVar 1))) (kNext)
def rd_law_take_1 (K : PySem.W.Frag) : KS :=
  kSeq (kAsg (kBin (kI (fun _ j => 0 < j) fun i j => .int (i % j)) (kBin (kAdd) (kBin (kMul) (kBin (kIx K) (kVar 0) (kC (.int 1))) (kC (.int 48271))) (kC (.int 11))) (kC (.int 2147483647))) (kgIx (kVar 0) (kC (.int 1)))) (rd_law_take_2 K)
def rd_law_take (K : PySem.W.Frag) : KS :=
  kSeq (kIf (kT (kBin (kI0 fun i j => .bl (decide (j < i))) (kBin (kIx K) (kVar 0) (kC (.int 0))) (kC (.int 0)))) (kSeq (kSet 2 (kBin (kI (fun _ j => 0 < j) fun i j => .int (i % j)) (kBin (kIx K) (kVar 0) (kC (.int 0))) (kVar 1))) (kSeq (kAsg (kBin (kI CDivW fun i j => .int (i / j)) (kBin (kIx K) (kVar 0) (kC (.int 0))) (kVar 1)) (kgIx (kVar 0) (kC (.int 0)))) (kSeq (kRet (kVar 2)) (kNext)))) (kNext)) (rd_law_take_1 K)
/-- law_kinds(_law_pool_here, _law_most, _law_far); slots 0 _law_pool_here, 1 _law_most, 2 _law_far, 3 _law_kinds_here, 4 _law_k -/
def rd_law_kinds_b0 (K : PySem.W.Frag) : KS :=
  kSeq (kIf (kT (kBin (kEqv false K) (kCall (S_law_take K) (kCons (kVar 0) (kCons (kC (.int 2)) (kNil)))) (kC (.int 0)))) (kSeq (kExpr (kBM K "list" (kAppend) (kVar 3) (kCons (kTup (kCons (kC (.str "leaf")) (kCons (kCall (S_law_take K) (kCons (kVar 0) (kCons (kC (.int 7)) (kNil)))) (kNil)))) (kNil)))) (kNext)) (kSeq (kExpr (kBM K "list" (kAppend) (kVar 3) (kCons (kTup (kCons (kC (.str "shuffle")) (kCons (kBin (kAdd) (kC (.int 1)) (kCall (S_law_take K) (kCons (kVar 0) (kCons (kBin (kIx K) (kLst (kCons (kC (.int 6)) (kCons (kVar 2) (kNil)))) (kCall (S_law_take K) (kCons (kVar 0) (kCons (kC (.int 2)) (kNil))))) (kNil))))) (kNil)))) (kNil)))) (kNext))) (kNext)
def rd_law_kinds_2 (K : PySem.W.Frag) : KS :=
  kSeq (kRet (kVar 3)) (kNext)
def rd_law_kinds_1 (K : PySem.W.Frag) : KS :=
  kSeq (kFor (kiR1 (kCons (kCall (S_law_take K) (kCons (kVar 0) (kCons (kBin (kAdd) (kVar 1) (kC (.int 1))) (kNil)))) (kNil))) (kgName 4) (rd_law_kinds_b0 K)) (rd_law_kinds_2 K)
def rd_law_kinds (K : PySem.W.Frag) : KS :=
  kSeq (kSet 3 (kLst (kNil))) (rd_law_kinds_1 K)
/-- law_many(_law_kind); slots 0 _law_kind, 1 _law_many_here, 2 _law_k -/
def rd_law_many_b0 (K : PySem.W.Frag) : KS :=
  kSeq (kSet 1 (kBin (kMul) (kVar 1) (kBin (kAdd) (kVar 2) (kC (.int 1))))) (kNext)
def rd_law_many_3 (K : PySem.W.Frag) : KS :=
  kSeq (kRet (kVar 1)) (kNext)
def rd_law_many_2 (K : PySem.W.Frag) : KS :=
  kSeq (kFor (kiR1 (kCons (kBin (kIx K) (kVar 0) (kC (.int 1))) (kNil))) (kgName 2) (rd_law_many_b0 K)) (rd_law_many_3 K)
def rd_law_many_1 (K : PySem.W.Frag) : KS :=
  kSeq (kSet 1 (kC (.int 1))) (rd_law_many_2 K)
def rd_law_many (K : PySem.W.Frag) : KS :=
  kSeq (kIf (kT (kBin (kEqv false K) (kBin (kIx K) (kVar 0) (kC (.int 0))) (kC (.str "leaf")))) (kSeq (kRet (kBin (kI CPow fun i j => .int (i * 2 ^ j.toNat)) (kC (.int 1)) (kBin (kIx K) (kVar 0) (kC (.int 1))))) (kNext)) (kNext)) (rd_law_many_1 K)
/-- leaves(high); slots 0 high -/
def rd_leaves (K : PySem.W.Frag) : KS :=
  kSeq (kRet (kBin (kI CPow fun i j => .int (i * 2 ^ j.toNat)) (kC (.int 1)) (kVar 0))) (kNext)
/-- many_of(kind); slots 0 kind, 1 many, 2 number -/
def rd_many_of_b0 (K : PySem.W.Frag) : KS :=
  kSeq (kSet 1 (kBin (kMul) (kVar 1) (kVar 2))) (kNext)
def rd_many_of_3 (K : PySem.W.Frag) : KS :=
  kSeq (kRet (kVar 1)) (kNext)
def rd_many_of_2 (K : PySem.W.Frag) : KS :=
  kSeq (kFor (kiR2 (kCons (kC (.int 1)) (kCons (kBin (kAdd) (kBin (kIx K) (kVar 0) (kC (.int 1))) (kC (.int 1))) (kNil)))) (kgName 2) (rd_many_of_b0 K)) (rd_many_of_3 K)
def rd_many_of_1 (K : PySem.W.Frag) : KS :=
  kSeq (kSet 1 (kC (.int 1))) (rd_many_of_2 K)
def rd_many_of (K : PySem.W.Frag) : KS :=
  kSeq (kIf (kT (kBin (kEqv false K) (kBin (kIx K) (kVar 0) (kC (.int 0))) (kC (.str "leaf")))) (kSeq (kRet (kCall (S_leaves K) (kCons (kBin (kIx K) (kVar 0) (kC (.int 1))) (kNil)))) (kNext)) (kNext)) (rd_many_of_1 K)
/-- how_many(kinds); slots 0 kinds, 1 many, 2 kind -/
def rd_how_many_b0 (K : PySem.W.Frag) : KS :=
  kSeq (kSet 1 (kBin (kMul) (kVar 1) (kCall (S_many_of K) (kCons (kVar 2) (kNil))))) (kNext)
def rd_how_many_2 (K : PySem.W.Frag) : KS :=
  kSeq (kRet (kVar 1)) (kNext)
def rd_how_many_1 (K : PySem.W.Frag) : KS :=
  kSeq (kFor (kiSeq K (kVar 0)) (kgName 2) (rd_how_many_b0 K)) (rd_how_many_2 K)
def rd_how_many (K : PySem.W.Frag) : KS :=
  kSeq (kSet 1 (kC (.int 1))) (rd_how_many_1 K)
/-- law_whole(_law_found); slots 0 _law_found -/
def rd_law_whole (K : PySem.W.Frag) : KS :=
  kSeq (kRet (kAndV (kCB (kIsi K) (kCons (kVar 0) (kCons (kC (.ty "int")) (kNil)))) (kNotV (kCB (kIsi K) (kCons (kVar 0) (kCons (kC (.ty "bool")) (kNil))))))) (kNext)
/-- is_whole(thing); slots 0 thing -/
def rd_is_whole (K : PySem.W.Frag) : KS :=
  kSeq (kRet (kAndV (kCB (kIsi K) (kCons (kVar 0) (kCons (kC (.ty "int")) (kNil)))) (kNotV (kCB (kIsi K) (kCons (kVar 0) (kCons (kC (.ty "bool")) (kNil))))))) (kNext)
/-- is_within(thing, least, most); slots 0 thing, 1 least, 2 most -/
def rd_is_within (K : PySem.W.Frag) : KS :=
  kSeq (kRet (kAndV (kCall (S_is_whole K) (kCons (kVar 0) (kNil))) (kChain (kI0 fun i j => .bl (decide (i ≤ j))) (kI0 fun i j => .bl (decide (i ≤ j))) (kVar 1) (kVar 0) (kVar 2)))) (kNext)
/-- row_at(size, number); slots 0 size, 1 number, 2 row, 3 place -/
def rd_row_at_b0_1 (K : PySem.W.Frag) : KS :=
  kSeq (kSet 1 (kBin (kI CDivW fun i j => .int (i / j)) (kVar 1) (kBin (kAdd) (kVar 3) (kC (.int 1))))) (kNext)
def rd_row_at_b0 (K : PySem.W.Frag) : KS :=
  kSeq (kExpr (kBM K "list" (kAppend) (kVar 2) (kCons (kBin (kI (fun _ j => 0 < j) fun i j => .int (i % j)) (kVar 1) (kBin (kAdd) (kVar 3) (kC (.int 1)))) (kNil)))) (rd_row_at_b0_1 K)
def rd_row_at_2 (K : PySem.W.Frag) : KS :=
  kSeq (kRet (kUn (kRevL K) (kVar 2))) (kNext)
def rd_row_at_1 (K : PySem.W.Frag) : KS :=
  kSeq (kFor (kiR3 (kCons (kBin (kI0 fun i j => .int (i - j)) (kVar 0) (kC (.int 1))) (kCons (kUn kNeg (kC (.int 1))) (kCons (kUn kNeg (kC (.int 1))) (kNil))))) (kgName 3) (rd_row_at_b0 K)) (rd_row_at_2 K)
def rd_row_at (K : PySem.W.Frag) : KS :=
  kSeq (kSet 2 (kLst (kNil))) (rd_row_at_1 K)
/-- draws_at(kinds, number); slots 0 kinds, 1 number, 2 draws, 3 kind, 4 own -/
def rd_draws_at_b0_2 (K : PySem.W.Frag) : KS :=
  kSeq (kExpr (kBM K "list" (kAppend) (kVar 2) (kCons (kIte (kT (kBin (kEqv false K) (kBin (kIx K) (kVar 3) (kC (.int 0))) (kC (.str "leaf")))) (kVar 4) (kCall (S_row_at K) (kCons (kBin (kIx K) (kVar 3) (kC (.int 1))) (kCons (kVar 4) (kNil))))) (kNil)))) (kNext)
def rd_draws_at_b0_1 (K : PySem.W.Frag) : KS :=
  kSeq (kSet 1 (kBin (kI CDivW fun i j => .int (i / j)) (kVar 1) (kCall (S_many_of K) (kCons (kVar 3) (kNil))))) (rd_draws_at_b0_2 K)
def rd_draws_at_b0 (K : PySem.W.Frag) : KS :=
  kSeq (kSet 4 (kBin (kI (fun _ j => 0 < j) fun i j => .int (i % j)) (kVar 1) (kCall (S_many_of K) (kCons (kVar 3) (kNil))))) (rd_draws_at_b0_1 K)
def rd_draws_at_3 (K : PySem.W.Frag) : KS :=
  kSeq (kRet (kUn (kRevL K) (kVar 2))) (kNext)
def rd_draws_at_2 (K : PySem.W.Frag) : KS :=
  kSeq (kFor (kiRev K (kCons (kVar 0) (kNil))) (kgName 3) (rd_draws_at_b0 K)) (rd_draws_at_3 K)
def rd_draws_at_1 (K : PySem.W.Frag) : KS :=
  kSeq (kSet 2 (kLst (kNil))) (rd_draws_at_2 K)
def rd_draws_at (K : PySem.W.Frag) : KS :=
  kSeq (kIf (kNot (kT (kCall (S_is_within K) (kCons (kVar 1) (kCons (kC (.int 0)) (kCons (kBin (kI0 fun i j => .int (i - j)) (kCall (S_how_many K) (kCons (kVar 0) (kNil))) (kC (.int 1))) (kNil))))))) (kSeq (kRaise K "NoNumber") (kNext)) (kNext)) (rd_draws_at_1 K)
/-- law_are_draws(_law_kinds_here, _law_thing); slots 0 _law_kinds_here, 1 _law_thing, 2 _law_kind, 3 _law_draw_here, 4 _law_k -/
def rd_law_are_draws_b0 (K : PySem.W.Frag) : KS :=
  kSeq (kIf (kT (kBin (kEqv false K) (kBin (kIx K) (kVar 2) (kC (.int 0))) (kC (.str "leaf")))) (kSeq (kIf (kOr (kNot (kT (kCall (S_law_whole K) (kCons (kVar 3) (kNil))))) (kNot (kT (kChain (kI0 fun i j => .bl (decide (i ≤ j))) (kI0 fun i j => .bl (decide (i < j))) (kC (.int 0)) (kVar 3) (kBin (kI CPow fun i j => .int (i * 2 ^ j.toNat)) (kC (.int 1)) (kBin (kIx K) (kVar 2) (kC (.int 1)))))))) (kSeq (kRet (kC (.bl false))) (kNext)) (kNext)) (kNext)) (kSeq (kIf (kOr (kNot (kT (kCB (kIsi K) (kCons (kVar 3) (kCons (kC (.ty "list")) (kNil)))))) (kT (kBin (kEqv true K) (kCB (kLen K) (kCons (kVar 3) (kNil))) (kBin (kIx K) (kVar 2) (kC (.int 1)))))) (kSeq (kRet (kC (.bl false))) (kNext)) (kSeq (kIf (kT (kBin (kEqv true K) (kComp (kiR1 (kCons (kBin (kIx K) (kVar 2) (kC (.int 1))) (kNil))) (kgName 4) (kOr (kNot (kT (kCall (S_law_whole K) (kCons (kBin (kIx K) (kVar 3) (kVar 4)) (kNil))))) (kNot (kT (kChain (kI0 fun i j => .bl (decide (i ≤ j))) (kI0 fun i j => .bl (decide (i ≤ j))) (kC (.int 0)) (kBin (kIx K) (kVar 3) (kVar 4)) (kVar 4))))) (kVar 4) [4]) (kLst (kNil)))) (kSeq (kRet (kC (.bl false))) (kNext)) (kNext)) (kNext))) (kNext))) (kNext)
def rd_law_are_draws_2 (K : PySem.W.Frag) : KS :=
  kSeq (kRet (kC (.bl true))) (kNext)
def rd_law_are_draws_1 (K : PySem.W.Frag) : KS :=
  kSeq (kFor (kiZip K (kCons (kVar 0) (kCons (kVar 1) (kNil)))) (kgTup K 2 (kgsCons (kgName 2) (kgsCons (kgName 3) (kgsNil)))) (rd_law_are_draws_b0 K)) (rd_law_are_draws_2 K)
def rd_law_are_draws (K : PySem.W.Frag) : KS :=
  kSeq (kIf (kOr (kNot (kT (kCB (kIsi K) (kCons (kVar 1) (kCons (kC (.ty "list")) (kNil)))))) (kT (kBin (kEqv true K) (kCB (kLen K) (kCons (kVar 1) (kNil))) (kCB (kLen K) (kCons (kVar 0) (kNil)))))) (kSeq (kRet (kC (.bl false))) (kNext)) (kNext)) (rd_law_are_draws_1 K)
/-- law_number(_law_kinds_here, _law_draws_here); slots 0 _law_kinds_here, 1 _law_draws_here, 2 _law_number_here, 3 _law_kind, 4 _law_draw_here, 5 _law_k -/
def rd_law_number_b1 (K : PySem.W.Frag) : KS :=
  kSeq (kSet 2 (kBin (kAdd) (kBin (kMul) (kVar 2) (kBin (kAdd) (kVar 5) (kC (.int 1)))) (kBin (kIx K) (kVar 4) (kVar 5)))) (kNext)
def rd_law_number_b0 (K : PySem.W.Frag) : KS :=
  kSeq (kIf (kT (kBin (kEqv false K) (kBin (kIx K) (kVar 3) (kC (.int 0))) (kC (.str "leaf")))) (kSeq (kSet 2 (kBin (kAdd) (kBin (kI CShl fun i j => .int (i * 2 ^ j.toNat)) (kVar 2) (kBin (kIx K) (kVar 3) (kC (.int 1)))) (kVar 4))) (kNext)) (kSeq (kFor (kiR1 (kCons (kBin (kIx K) (kVar 3) (kC (.int 1))) (kNil))) (kgName 5) (rd_law_number_b1 K)) (kNext))) (kNext)
def rd_law_number_2 (K : PySem.W.Frag) : KS :=
  kSeq (kRet (kVar 2)) (kNext)
def rd_law_number_1 (K : PySem.W.Frag) : KS :=
  kSeq (kFor (kiZip K (kCons (kVar 0) (kCons (kVar 1) (kNil)))) (kgTup K 2 (kgsCons (kgName 3) (kgsCons (kgName 4) (kgsNil)))) (rd_law_number_b0 K)) (rd_law_number_2 K)
def rd_law_number (K : PySem.W.Frag) : KS :=
  kSeq (kSet 2 (kC (.int 0))) (rd_law_number_1 K)
/-- law_is(_law_kinds_here, _law_number_here); slots 0 _law_kinds_here, 1 _law_number_here, 2 _law_found, 3 _law_draw_here -/
def rd_law_is_b0 (K : PySem.W.Frag) : KS :=
  kSeq (kIf (kT (kCB (kIsi K) (kCons (kVar 3) (kCons (kC (.ty "list")) (kNil))))) (kSeq (kExpr (kBM K "list" (kAppend) (kVar 3) (kCons (kC (.int 0)) (kNil)))) (kNext)) (kNext)) (kNext)
def rd_law_is_4 (K : PySem.W.Frag) : KS :=
  kSeq (kRet (kBin (kEqv false K) (kCall (S_law_number K) (kCons (kVar 0) (kCons (kCall (S_draws_at K) (kCons (kVar 0) (kCons (kVar 1) (kNil)))) (kNil)))) (kVar 1))) (kNext)
def rd_law_is_3 (K : PySem.W.Frag) : KS :=
  kSeq (kExpr (kBM K "list" (kAppend) (kVar 2) (kCons (kC (.int 0)) (kNil)))) (rd_law_is_4 K)
def rd_law_is_2 (K : PySem.W.Frag) : KS :=
  kSeq (kFor (kiSeq K (kVar 2)) (kgName 3) (rd_law_is_b0 K)) (rd_law_is_3 K)
def rd_law_is_1 (K : PySem.W.Frag) : KS :=
  kSeq (kIf (kOr (kNot (kT (kCall (S_law_are_draws K) (kCons (kVar 0) (kCons (kVar 2) (kNil)))))) (kT (kBin (kEqv true K) (kCall (S_law_number K) (kCons (kVar 0) (kCons (kVar 2) (kNil)))) (kVar 1)))) (kSeq (kRet (kC (.bl false))) (kNext)) (kNext)) (rd_law_is_2 K)
def rd_law_is (K : PySem.W.Frag) : KS :=
  kSeq (kSet 2 (kCall (S_draws_at K) (kCons (kCB (kList K) (kCons (kVar 0) (kNil))) (kCons (kVar 1) (kNil))))) (rd_law_is_1 K)
/-- law_refused(_law_kinds_here, _law_thing); slots 0 _law_kinds_here, 1 _law_thing, 2 _law_found, 3 e -/
def rd_law_refused_2 (K : PySem.W.Frag) : KS :=
  kSeq (kRet (kAndV (kCB (kIsX K (.ref (cl K "NoNumber")) tab_is_NoNumber) (kCons (kVar 2) (kCons (kC (.ref (cl K "NoNumber"))) (kNil)))) (kAndV (kCB (kIsX K (.ty "ValueError") tab_is_ValueError) (kCons (kVar 2) (kCons (kC (.ty "ValueError")) (kNil)))) (kNotV (kCB (kIsX K (.ref (cl K "NoDraws")) tab_is_NoDraws) (kCons (kVar 2) (kCons (kC (.ref (cl K "NoDraws"))) (kNil)))))))) (kNext)
def rd_law_refused_1 (K : PySem.W.Frag) : KS :=
  kSeq (kTry K tab_tr_TouchError 3 2 (kSeq (kExpr (kCall (S_draws_at K) (kCons (kVar 0) (kCons (kVar 1) (kNil))))) (kNext))) (rd_law_refused_2 K)
def rd_law_refused (K : PySem.W.Frag) : KS :=
  kSeq (kSet 2 (kC .non)) (rd_law_refused_1 K)
/-- law_right(_law_pool_here); slots 0 _law_pool_here, 1 _law_kinds_here, 2 _law_kept, 3 _law_many_here, 4 _law_kind, 5 _law_found, 6 _law_number_here, 7 _law_k, 8 _law_odd -/
def rd_law_right_b0 (K : PySem.W.Frag) : KS :=
  kSeq (kSet 3 (kBin (kMul) (kVar 3) (kCall (S_law_many K) (kCons (kVar 4) (kNil))))) (kNext)
def rd_law_right_b1 (K : PySem.W.Frag) : KS :=
  kSeq (kSet 6 (kBin (kAdd) (kBin (kMul) (kVar 6) (kBin (kI CPow fun i j => .int (i ^ j.toNat)) (kC (.int 10)) (kC (.int 9)))) (kCall (S_law_take K) (kCons (kVar 0) (kCons (kBin (kI CPow fun i j => .int (i ^ j.toNat)) (kC (.int 10)) (kC (.int 9))) (kNil)))))) (kNext)
def rd_law_right_11 (K : PySem.W.Frag) : KS :=
  kSeq (kRet (kAndV (kCall (S_law_refused K) (kCons (kVar 1) (kCons (kVar 8) (kNil)))) (kAndV (kBin (kEqv false K) (kCall (S_how_many K) (kCons (kVar 1) (kNil))) (kVar 3)) (kBin (kEqv false K) (kVar 1) (kVar 2))))) (kNext)
def rd_law_right_10 (K : PySem.W.Frag) : KS :=
  kSeq (kSet 8 (kBin (kIx K) (kLst (kCons (kVar 3) (kCons (kUn kNeg (kC (.int 1))) (kCons (kBin (kAdd) (kVar 3) (kBin (kI CPow fun i j => .int (i ^ j.toNat)) (kC (.int 10)) (kC (.int 9)))) (kCons (kC .non) (kCons (kC (.bl true)) (kCons (kC (.str "0")) (kCons (kTup (kCons (kC (.int 0)) (kNil))) (kNil))))))))) (kCall (S_law_take K) (kCons (kVar 0) (kCons (kC (.int 7)) (kNil)))))) (rd_law_right_11 K)
def rd_law_right_9 (K : PySem.W.Frag) : KS :=
  kSeq (kIf (kOr (kNot (kT (kCall (S_law_is K) (kCons (kVar 1) (kCons (kVar 6) (kNil)))))) (kAnd (kT (kBin (kI0 fun i j => .bl (decide (i < j))) (kBin (kAdd) (kVar 6) (kC (.int 1))) (kVar 3))) (kNot (kT (kCall (S_law_is K) (kCons (kVar 1) (kCons (kBin (kAdd) (kVar 6) (kC (.int 1))) (kNil)))))))) (kSeq (kRet (kC (.bl false))) (kNext)) (kNext)) (rd_law_right_10 K)
def rd_law_right_8 (K : PySem.W.Frag) : KS :=
  kSeq (kSet 6 (kBin (kIx K) (kLst (kCons (kBin (kI (fun _ j => 0 < j) fun i j => .int (i % j)) (kVar 6) (kVar 3)) (kCons (kC (.int 0)) (kCons (kBin (kI0 fun i j => .int (i - j)) (kVar 3) (kC (.int 1))) (kCons (kCB (kMax2) (kCons (kC (.int 0)) (kCons (kBin (kI0 fun i j => .int (i - j)) (kVar 3) (kC (.int 2))) (kNil)))) (kNil)))))) (kBin (kI (fun _ j => 0 < j) fun i j => .int (i % j)) (kCall (S_law_take K) (kCons (kVar 0) (kCons (kC (.int 6)) (kNil)))) (kC (.int 4))))) (rd_law_right_9 K)
def rd_law_right_7 (K : PySem.W.Frag) : KS :=
  kSeq (kFor (kiR1 (kCons (kC (.int 12)) (kNil))) (kgName 7) (rd_law_right_b1 K)) (rd_law_right_8 K)
def rd_law_right_6 (K : PySem.W.Frag) : KS :=
  kSeq (kSet 6 (kC (.int 0))) (rd_law_right_7 K)
def rd_law_right_5 (K : PySem.W.Frag) : KS :=
  kSeq (kIf (kOr (kNot (kT (kCall (S_law_whole K) (kCons (kVar 5) (kNil))))) (kT (kBin (kEqv true K) (kVar 5) (kVar 3)))) (kSeq (kRet (kC (.bl false))) (kNext)) (kNext)) (rd_law_right_6 K)
def rd_law_right_4 (K : PySem.W.Frag) : KS :=
  kSeq (kSet 5 (kCall (S_how_many K) (kCons (kVar 1) (kNil)))) (rd_law_right_5 K)
def rd_law_right_3 (K : PySem.W.Frag) : KS :=
  kSeq (kFor (kiSeq K (kVar 1)) (kgName 4) (rd_law_right_b0 K)) (rd_law_right_4 K)
def rd_law_right_2 (K : PySem.W.Frag) : KS :=
  kSeq (kSet 3 (kC (.int 1))) (rd_law_right_3 K)
def rd_law_right_1 (K : PySem.W.Frag) : KS :=
  kSeq (kSet 2 (kCB (kList K) (kCons (kVar 1) (kNil)))) (rd_law_right_2 K)
def rd_law_right (K : PySem.W.Frag) : KS :=
  kSeq (kSet 1 (kCall (S_law_kinds K) (kCons (kVar 0) (kCons (kC (.int 6)) (kCons (kC (.int 64)) (kNil)))))) (rd_law_right_1 K)
/-- law(_law_script); slots 0 _law_script, 1 _law_k -/
def rd_law_b0 (K : PySem.W.Frag) : KS :=
  kSeq (kIf (kNot (kT (kCall (S_law_right K) (kCons (kCall (S_law_pool K) (kCons (kVar 0) (kCons (kVar 1) (kNil)))) (kNil))))) (kSeq (kRet (kC (.bl false))) (kNext)) (kNext)) (kNext)
def rd_law_1 (K : PySem.W.Frag) : KS :=
  kSeq (kRet (kAndV (kBin (kEqv false K) (kCall (S_how_many K) (kCons (kLst (kNil)) (kNil))) (kC (.int 1))) (kBin (kEqv false K) (kCall (S_draws_at K) (kCons (kLst (kNil)) (kCons (kC (.int 0)) (kNil)))) (kLst (kNil))))) (kNext)
def rd_law (K : PySem.W.Frag) : KS :=
  kSeq (kFor (kiR1 (kCons (kCB (kMax2) (kCons (kC (.int 1)) (kCons (kCB (kMin2) (kCons (kCB (kLen K) (kCons (kVar 0) (kNil))) (kCons (kC (.int 63)) (kNil)))) (kNil)))) (kNil))) (kgName 1) (rd_law_b0 K)) (rd_law_1 K)
section
variable {K : PySem.W.Frag} {vs : List V} {G : Hp} {M : Mem} {R : KR} {Z : KX}
theorem pf_law_take (h : S_law_take K vs G M R Z) : rd_law_take K (ends R Z) (sta 3 vs) G M := by
  obtain ⟨_, _, rfl, p, m, n, c, s, rfl, rfl, hn, hs, hm0, hm1, q⟩ := sp2_of h
  have hS : SeqAt' K G M p [.int c, .int s] := lst_n hn
  refine ⟨G, M, Wk.refl, _, _, hS, rfl, ite2' (fun e => ?_) (fun e => ?_)⟩
  · refine ⟨G, M, Wk.refl, _, _, hS, rfl, hm0, ?_⟩
    refine ⟨G, M, Wk.refl, _, _, hS, rfl, divW hm0 hm1 c, n, _, 0, hn, rfl, ?_⟩
    refine ⟨G, _, Wk.refl, ?_⟩
    exact ret0 (q _ _ _ (Int.emod_nonneg _ (by omega)) (Int.emod_lt_of_pos _ hm0) hs)
  · obtain ⟨s0, s1⟩ := hs
    have hs' : PoolOk ((s * 48271 + 11) % 2147483647) := ⟨Int.emod_nonneg _ (by decide), Int.emod_lt_of_pos _ (by decide)⟩
    refine ⟨G, M, Wk.refl, _, _, hS, rfl, mul_r (by decide) (by decide), (by show (0 : Int) < _; decide), n, _, 1, hn, rfl, ?_⟩
    have hn' : (M.set n (p, pool c ((s * 48271 + 11) % 2147483647)))[n]? = some (p, pool c ((s * 48271 + 11) % 2147483647)) := set_n hn
    have hS' : SeqAt' K G (M.set n (p, pool c ((s * 48271 + 11) % 2147483647))) p [.int c, .int ((s * 48271 + 11) % 2147483647)] := lst_n hn'
    refine ⟨G, _, Wk.refl, _, _, hS', rfl, _, _, hS', rfl, mul_l (by have := hs'.1; omega) (by have := hs'.2; omega), (by show (0 : Int) < _; decide), divW (by decide) (by decide) _, hm0, ?_⟩
    exact ret0 (q _ _ _ (Int.emod_nonneg _ (by omega)) (Int.emod_lt_of_pos _ hm0) hs')
theorem b01 (b : Bool) : -(2 ^ 64) < (if b then (1 : Int) else 0) ∧ (if b then (1 : Int) else 0) < 2 ^ 64 := by cases b <;> decide
end
section
variable {K : PySem.W.Frag} {vs : List V} {G : Hp} {M : Mem} {R : KR} {Z : KX}
theorem pf_law_pool (h : S_law_pool K vs G M R Z) : rd_law_pool K (ends R Z) (sta 4 vs) G M := by
  obtain ⟨_, _, rfl, a, ns, k, rfl, rfl, hS, k0, k1, hl, q⟩ := sp2_of h
  have rest : ∀ cell : Int, rd_law_pool_2 K (ends R Z) [some (.ref a), some (.int k), some (.int cell), none] G M := fun cell => by
    refine ⟨G, M, Wk.refl, (by show (0 : Int) < _; decide), mul_l (by decide) (by decide), mul_r (by omega) (by omega), mul_r (by decide) (by decide), (by show (0 : Int) < _; decide), ?_⟩
    refine ⟨G, M, Wk.refl, pow10_18, ite2' (fun e => ?_) (fun e => ?_)⟩
    · exact ⟨G, M, Wk.refl, G, M, Wk.refl, sz2, fun p fp => ret0 (q p _ _ fp ⟨Int.emod_nonneg _ (by decide), Int.emod_lt_of_pos _ (by decide)⟩)⟩
    · exact ⟨G, M, Wk.refl, sz2, fun p fp => ret0 (q p _ _ fp ⟨Int.emod_nonneg _ (by decide), Int.emod_lt_of_pos _ (by decide)⟩)⟩
  refine ⟨G, M, Wk.refl, ?_⟩
  refine ⟨G, M, Wk.refl, _, lst_g hS, ite2' (fun e => ?_) (fun e => rest _)⟩
  have e1 : k < ((ns.map V.int).length : Int) := of_decide_eq_true e
  rw [List.length_map] at e1
  exact ⟨G, M, Wk.refl, _, _, lst_g hS, atI_int k0 e1, rest _⟩
end
section
variable {K : PySem.W.Frag} {vs : List V} {G : Hp} {M : Mem} {R : KR} {Z : KX}
theorem at_two {x y : V} {r : Int} (h0 : 0 ≤ r) (h1 : r < 2) : ∃ v, atI [x, y] r = some v ∧ (v = x ∨ v = y) := by
  have e : r = 0 ∨ r = 1 := by omega
  rcases e with rfl | rfl
  · exact ⟨x, rfl, .inl rfl⟩
  · exact ⟨y, rfl, .inr rfl⟩
theorem fr_set {n : Nat} {p : Addr} {o : HO} {x : Addr × HO} {t : Addr} (hn : M[n]? = some (p, o)) (h : Fr G M t) (e : x.1 = p := by rfl) : Fr G (M.set n x) t := by
  refine ⟨h.1, fun y hy => ?_⟩
  rcases List.mem_or_eq_of_mem_set hy with hy | rfl
  · exact h.2 y hy
  · rw [e]; exact h.2 _ (List.mem_of_getElem? hn)
theorem fr_unset {n : Nat} {p : Addr} {o : HO} {x : Addr × HO} {t : Addr} (hn : M[n]? = some (p, o)) (h : Fr G (M.set n x) t) (e : x.1 = p := by rfl) : Fr G M t := by
  have hl : n < M.length := (List.getElem?_eq_some_iff.mp hn).1
  refine ⟨h.1, fun y hy => ?_⟩
  obtain ⟨m, hm⟩ := List.getElem?_of_mem hy
  by_cases z : n = m
  · subst z
    rw [hn] at hm; cases hm
    have := h.2 x (List.mem_of_getElem? (List.getElem?_set_self hl))
    rw [e] at this; exact this
  · exact h.2 y (List.mem_of_getElem? (by rw [List.getElem?_set_ne z]; exact hm))
end
section
variable {K : PySem.W.Frag} {vs : List V} {G : Hp} {M : Mem} {R : KR} {Z : KX}
theorem pf_is_whole (h : S_is_whole K vs G M R Z) : rd_is_whole K (ends R Z) (sta 1 vs) G M := by
  obtain ⟨x, rfl, T, hT, q⟩ := sp1_of h
  refine ⟨G, M, Wk.refl, .type T.name, .type "int", _, .ty "int", hT, kit_pt T .int, ite2' (fun e => ?_) (fun e => ?_)⟩
  · refine ⟨.type T.name, .type "bool", _, .ty "bool", hT, kit_pt T .bool, ret0 ?_⟩
    have e2 : (!isaB T .bool) = (T == .int) := by revert e; cases T <;> decide
    rw [e2]; exact q
  · have e2 : false = (T == .int) := by revert e; cases T <;> decide
    refine ret0 ?_
    rw [e2]; exact q
theorem pf_is_within (h : S_is_within K vs G M R Z) : rd_is_within K (ends R Z) (sta 3 vs) G M := by
  obtain ⟨x, _, _, rfl, T, lo, hi, rfl, rfl, hT, hx, q⟩ := sp3_of h
  refine ⟨G, M, Wk.refl, T, hT, ite2' (fun e => ?_) (fun e => ?_)⟩
  · rw [e] at hx
    cases x with
    | int i =>
      have q : R (.bl (decide (lo ≤ i) && decide (i ≤ hi))) G M := q
      refine ite2' (fun e1 => ?_) (fun e1 => ?_)
      · rw [e1, Bool.true_and] at q; exact ret0 q
      · rw [e1, Bool.false_and] at q; exact ret0 q
    | _ => cases hx
  · rw [e] at hx
    have e2 : withinV x lo hi = false := by cases x <;> first | rfl | cases hx
    rw [e2] at q
    exact ret0 q
end
section
variable {K : PySem.W.Frag} {vs : List V} {G : Hp} {M : Mem} {R : KR} {Z : KX}
section
variable {α β : Type} {r : α → β → Prop}
theorem A2.len {as : List α} {bs : List β} (h : A2 r as bs) : as.length = bs.length := by
  induction h with
  | nil => rfl
  | cons _ _ ih => simp [ih]
theorem A2.app {as as' : List α} {bs bs' : List β} (h : A2 r as bs) (h' : A2 r as' bs') : A2 r (as ++ as') (bs ++ bs') := by
  induction h with
  | nil => exact h'
  | cons a _ ih => exact .cons a ih
theorem A2.rev {as : List α} {bs : List β} (h : A2 r as bs) : A2 r as.reverse bs.reverse := by
  induction h with
  | nil => exact .nil
  | cons a _ ih => rw [List.reverse_cons, List.reverse_cons]; exact ih.app (.cons a .nil)
theorem A2.get {as : List α} {bs : List β} (h : A2 r as bs) : ∀ {i : Nat} {b : β}, bs[i]? = some b → ∃ a, as[i]? = some a ∧ r a b := by
  induction h with
  | nil => intro i b e; simp at e
  | cons a _ ih =>
    intro i b e
    cases i with
    | zero => cases e; exact ⟨_, rfl, a⟩
    | succ i => exact ih e
theorem A2.get' {as : List α} {bs : List β} (h : A2 r as bs) : ∀ {i : Nat} {a : α}, as[i]? = some a → ∃ b, bs[i]? = some b ∧ r a b := by
  induction h with
  | nil => intro i b e; simp at e
  | cons a _ ih =>
    intro i b e
    cases i with
    | zero => cases e; exact ⟨_, rfl, a⟩
    | succ i => exact ih e
theorem A2.mono {r' : α → β → Prop} (m : ∀ a b, r a b → r' a b) {as : List α} {bs : List β} (h : A2 r as bs) : A2 r' as bs := by
  induction h with
  | nil => exact .nil
  | cons a _ ih => exact .cons (m _ _ a) ih
end
theorem drM_v {Mn : Mem} (hs : ∀ x, x ∈ Mn → x ∈ M) {v : V} {d : Dr} (h : DrM Mn v d) : DrV K G M v d := by
  cases d with
  | leaf n => exact h
  | row l => obtain ⟨b, rfl, h⟩ := h; exact ⟨b, rfl, .inl (hs _ h)⟩
theorem drM_sub {Mn Mm : Mem} (hs : ∀ x, x ∈ Mn → x ∈ Mm) {v : V} {d : Dr} (h : DrM Mn v d) : DrM Mm v d := by
  cases d with
  | leaf n => exact h
  | row l => obtain ⟨b, rfl, h⟩ := h; exact ⟨b, rfl, hs _ h⟩
theorem dp_kn_inv {v : V} {k : Kn} (h : Dp K G v (knD k)) : ∃ t, v = .ref t ∧ SqT K G t [.str k.txt, .int k.n] := by
  obtain ⟨t, xs, rfl, s, a⟩ := dp_tup_inv h
  refine ⟨t, rfl, ?_⟩
  cases a with
  | cons a b =>
    cases b with
    | cons b c =>
      cases c
      cases a
      cases b
      exact s
theorem dp_kn {t : Addr} {k : Kn} (h : SqT K G t [.str k.txt, .int k.n]) : Dp K G (.ref t) (knD k) := .tup h (.cons (.str _) (.cons (.int _) .nil))
theorem shp_kns {n : Nat} (ks : List Kn) : Shp (n + 2) (.list (ks.map knD)) := .list fun d hd => by
  obtain ⟨p, _, rfl⟩ := List.mem_map.mp hd
  refine .tuple fun d hd => ?_
  rcases List.mem_cons.mp hd with rfl | hd
  · exact .str (by obtain ⟨b, n⟩ := p; cases b <;> (show PyData.strOk _ = true; first | exact (by decide +kernel : PyData.strOk ("leaf" : Str) = true) | exact (by decide +kernel : PyData.strOk ("shuffle" : Str) = true)))
  · rcases List.mem_cons.mp hd with rfl | hd
    · exact .int
    · cases hd
theorem txt_leaf (k : Kn) : decide ((V.str k.txt) = (.str "leaf")) = k.leaf := by
  obtain ⟨b, n⟩ := k
  cases b
  · exact decide_eq_false (by intro h; injection h with h; exact absurd (show ("shuffle" : Str) = "leaf" from h) (by decide))
  · exact decide_eq_true rfl
/-! sizes -/
theorem fac_pos : ∀ n, 0 < fac n
  | 0 => by decide
  | n + 1 => Nat.mul_pos (by omega) (fac_pos n)
theorem fac_mono : ∀ {m n : Nat}, m ≤ n → fac m ≤ fac n := by
  intro m n h
  induction n with
  | zero => have : m = 0 := by omega
            subst this; exact Nat.le_refl _
  | succ n ih =>
    by_cases e : m = n + 1
    · subst e; exact Nat.le_refl _
    · have h1 := ih (by omega)
      show fac m ≤ (n + 1) * fac n
      have : 1 * fac n ≤ (n + 1) * fac n := Nat.mul_le_mul_right _ (by omega)
      omega
theorem fac_64 : fac 64 < 2 ^ 300 := by decide +kernel
theorem manyK_pos (k : Kn) : 0 < manyK k := by
  unfold manyK; split
  · exact Nat.pow_pos (by decide)
  · exact fac_pos _
theorem manyK_lt {k : Kn} (h : KnOk k) : manyK k < 2 ^ 300 := by
  unfold manyK; split
  · exact Nat.pow_lt_pow_right (by decide) (by have := h.1; omega)
  · exact Nat.lt_of_le_of_lt (fac_mono h.1) fac_64
theorem prK_pos : ∀ ks, 0 < prK ks
  | [] => by decide
  | k :: ks => Nat.mul_pos (manyK_pos k) (prK_pos ks)
theorem prK_lt : ∀ ks : List Kn, (∀ k, k ∈ ks → KnOk k) → prK ks < 2 ^ (300 * ks.length + 1)
  | [], _ => by decide
  | k :: ks, h => by
    have h1 := manyK_lt (h k List.mem_cons_self)
    have h2 := prK_lt ks fun q hq => h q (List.mem_cons_of_mem _ hq)
    show manyK k * prK ks < _
    rw [List.length_cons, show 300 * (ks.length + 1) + 1 = 300 + (300 * ks.length + 1) by omega, Nat.pow_add]
    exact Nat.mul_lt_mul'' h1 h2
theorem prK_snoc (ks : List Kn) (k : Kn) : prK (ks ++ [k]) = prK ks * manyK k := by
  induction ks with
  | nil => simp [prK]
  | cons a ks ih => show manyK a * prK (ks ++ [k]) = manyK a * prK ks * manyK k; rw [ih, Nat.mul_assoc]
theorem prK_take_le (ks : List Kn) (i : Nat) (h : ∀ k, k ∈ ks → KnOk k) : ∀ k, k ∈ ks.take i → KnOk k := fun k hk => h k (List.mem_of_mem_take hk)
theorem take_succ' {α : Type} {l : List α} {i : Nat} {x : α} (h : l[i]? = some x) : l.take (i + 1) = l.take i ++ [x] := by
  rw [List.take_succ, h]; rfl
theorem pf_leaves (h : S_leaves K vs G M R Z) : rd_leaves K (ends R Z) (sta 1 vs) G M := by
  obtain ⟨_, rfl, n, rfl, hn, q⟩ := sp1_of h
  refine ⟨G, M, Wk.refl, ⟨by omega, by omega, by decide⟩, ret0 ?_⟩
  have e : (1 : Int) * 2 ^ (n : Int).toNat = ((2 ^ n : Nat) : Int) := by simp
  show R (.int ((1 : Int) * 2 ^ (n : Int).toNat)) G M
  rw [e]; exact q
theorem pf_many_of (h : S_many_of K vs G M R Z) : rd_many_of K (ends R Z) (sta 3 vs) G M := by
  obtain ⟨_, rfl, k, hd, hk, q⟩ := sp1_of h
  obtain ⟨t, rfl, ht⟩ := dp_kn_inv hd
  have hk1 := hk.1
  refine ⟨G, M, Wk.refl, _, _, tup_g ht, rfl, ?_⟩
  show if decide (V.str k.txt = .str "leaf") = true then _ else _
  rw [txt_leaf]
  refine ite2' (fun e => ?_) (fun e => ?_)
  · refine ⟨G, M, Wk.refl, _, _, tup_g ht, rfl, k.n, rfl, by omega, ret0 ?_⟩
    unfold manyK at q; rw [if_pos e] at q; exact q
  · have hm : manyK k = fac k.n := by unfold manyK; rw [if_neg (by rw [e]; decide)]
    rw [hm] at q
    refine ⟨G, M, Wk.refl, ?_⟩
    refine ⟨G, M, Wk.refl, _, _, tup_g ht, rfl, ⟨by omega, by omega⟩, fun i σ G' M' => ∃ y2, σ = [some (.ref t), some (.int (fac i)), y2] ∧ G' = G ∧ M' = M, ⟨none, rfl, rfl, rfl⟩, fun _ _ _ _ _ _ => trivial, ?_, ?_⟩
    · rintro i σ G' M' hi ⟨y2, rfl, rfl, rfl⟩
      have hi : i < ((k.n : Int) + 1 - 1).toNat := hi
      refine ⟨_, _, Wk.refl, mul_r (by omega) (by omega), _, _, Wk.refl, some (.int (1 + (i : Int))), ?_, rfl, rfl⟩
      have e2 : (fac i : Int) * (1 + (i : Int)) = ((fac (i + 1) : Nat) : Int) := by
        show _ = (((i + 1) * fac i : Nat) : Int)
        rw [Int.natCast_mul, Int.mul_comm]; congr 1; omega
      show [some (V.ref t), some (.int ((fac i : Int) * (1 + (i : Int)))), _] = _
      rw [e2]
    · rintro σ G' M' ⟨y2, rfl, rfl, rfl⟩
      have e3 : ((k.n : Int) + 1 - 1).toNat = k.n := by omega
      refine ⟨_, _, Wk.refl, ret0 ?_⟩
      show R (.int (fac ((k.n : Int) + 1 - 1).toNat)) _ _
      rw [e3]; exact q
theorem pf_how_many (h : S_how_many K vs G M R Z) : rd_how_many K (ends R Z) (sta 3 vs) G M := by
  obtain ⟨_, rfl, a, ks, rfl, ⟨us, ha, hd, hk, hl⟩, q⟩ := sp1_of h
  have hul : us.length = ks.length := by rw [dpall_len hd, List.length_map]
  refine ⟨G, M, Wk.refl, G, M, Wk.refl, us, ha, fun i σ G' M' => ∃ y2, σ = [some (.ref a), some (.int (prK (ks.take i))), y2] ∧ G' = G ∧ M' = M, ⟨none, rfl, rfl, rfl⟩, ?_, ?_, ?_⟩
  · rintro i σ G' M' hi ⟨y2, rfl, rfl, rfl⟩; exact ha
  · rintro i σ G' M' hi ⟨y2, rfl, rfl, rfl⟩
    have hi : i < us.length := hi
    have hp : ks[i]? = some ks[i] := List.getElem?_eq_getElem (by omega)
    obtain ⟨v, hv, hd1⟩ := dpall_get (d := knD ks[i]) hd (by rw [List.getElem?_map, hp]; rfl)
    have hok := hk ks[i] (List.getElem_mem (by omega))
    refine asg_L hv ⟨_, _, Wk.refl, ks[i], hd1, hok, ?_⟩
    have h1 := prK_lt (ks.take i) (prK_take_le ks i hk)
    have h2 := manyK_lt hok
    refine ⟨.inr (wide_mul (a := 300 * (ks.take i).length + 1) (b := 300) h1 h2 (by omega) (by decide) ?_), _, _, Wk.refl, some v, ?_, rfl, rfl⟩
    · have : (ks.take i).length ≤ ks.length := by rw [List.length_take]; omega
      omega
    · rw [take_succ' hp, prK_snoc, Int.natCast_mul]; rfl
  · rintro σ G' M' ⟨y2, rfl, rfl, rfl⟩
    refine ⟨_, _, Wk.refl, ret0 ?_⟩
    show R (.int (prK (ks.take us.length))) _ _
    rw [hul, List.take_length]; exact q
theorem natsV_rev (l : List Nat) : (natsV l).reverse = natsV l.reverse := by unfold natsV; rw [List.map_reverse]
theorem pf_row_at (h : S_row_at K vs G M R Z) : rd_row_at K (ends R Z) (sta 4 vs) G M := by
  obtain ⟨_, _, rfl, s, n, rfl, rfl, hs, q⟩ := sp2_of h
  have er : ((s : Int) - 1 - -1).toNat = s := by omega
  refine ⟨G, M, Wk.refl, sz0, fun p fp => ?_⟩
  refine ⟨G, _, Wk.refl, s, ?_, fun i σ G' M' => ∃ (L : List Nat) (m : Nat) (y3 : Option V), σ = [some (.int s), some (.int m), some (.ref p), y3] ∧ G' = G ∧ M' = (p, .lst (natsV L)) :: M ∧ rowAt s n = rowAt (s - i) m ++ L.reverse ∧ L.length = i, ⟨[], n, none, rfl, rfl, rfl, by simp, rfl⟩, fun _ _ _ _ _ _ => trivial, ?_, ?_⟩
  · have := rg_down (i := (s : Int) - 1) (j := -1) (by omega) (by omega) (by omega) (by omega)
    rw [er] at this; exact this
  · rintro i σ G' M' hi ⟨L, m, y3, rfl, rfl, rfl, e, hl⟩
    have hi : i < s := hi
    obtain ⟨k, rfl⟩ : ∃ k, s = i + (k + 1) := ⟨s - i - 1, by omega⟩
    have ep : ((i + (k + 1) : Nat) : Int) - 1 + (i : Int) * -1 + 1 = ((k + 1 : Nat) : Int) := by omega
    refine ⟨_, _, Wk.refl, tyl_n (n := 0) rfl, ?_, 0, _, rfl, sz (by unfold natsV; simp; omega), ?_⟩
    · show (0 : Int) < ((i + (k + 1) : Nat) : Int) - 1 + (i : Int) * -1 + 1
      omega
    · refine ⟨_, _, Wk.refl, ?_, _, _, Wk.refl, L ++ [m % (k + 1)], m / (k + 1), some (.int (((i + (k + 1) : Nat) : Int) - 1 + (i : Int) * -1)), ?_, rfl, ?_, ?_, by simp [hl]⟩
      · show CDivW _ (((i + (k + 1) : Nat) : Int) - 1 + (i : Int) * -1 + 1)
        rw [ep]; exact divW (by omega) (by omega) _
      · show [_, some (V.int ((m : Int) / (((i + (k + 1) : Nat) : Int) - 1 + (i : Int) * -1 + 1))), _, _] = _
        rw [ep]; rfl
      · show (p, HO.lst (natsV L ++ [.int ((m : Int) % (((i + (k + 1) : Nat) : Int) - 1 + (i : Int) * -1 + 1))])) :: M = _
        rw [ep]; unfold natsV; rw [List.map_append]; rfl
      · rw [e, show i + (k + 1) - i = k + 1 by omega, show i + (k + 1) - (i + 1) = k by omega, List.reverse_append]
        show rowAt k (m / (k + 1)) ++ [m % (k + 1)] ++ L.reverse = _
        rw [List.append_assoc]; rfl
  · rintro σ G' M' ⟨L, m, y3, rfl, rfl, rfl, e, hl⟩
    refine ⟨_, _, Wk.refl, _, lat_0, fun w fw => retW Wk.drop1 ?_⟩
    have e2 : rowAt s n = L.reverse := by
      have e : rowAt s n = rowAt (s - s) m ++ L.reverse := e
      rw [Nat.sub_self] at e; exact e
    rw [natsV_rev, ← e2]
    exact q w ⟨fw.1, fun x hx => fw.2 x (List.mem_cons_of_mem _ hx)⟩
theorem lat_app {Mn : Mem} {a : Addr} {xs : List V} (h : LstAt K G M a xs) : LstAt K G (Mn ++ M) a xs := by
  rcases h with h | h
  · exact .inl (List.mem_append_right _ h)
  · exact .inr h
theorem rev_get {α : Type} {l : List α} {i : Nat} (h : i < l.length) : l.reverse[i]? = l[l.length - 1 - i]? := by
  rw [List.getElem?_reverse h]
theorem drop_get {α : Type} {l : List α} {i : Nat} {x : α} (h : l[i]? = some x) : l.drop i = x :: l.drop (i + 1) := by
  obtain ⟨hi, rfl⟩ := List.getElem?_eq_some_iff.mp h
  exact List.drop_eq_getElem_cons hi
theorem pf_draws_at (h : S_draws_at K vs G M R Z) : rd_draws_at K (ends R Z) (sta 5 vs) G M := by
  obtain ⟨_, y, rfl, a, ks, T, rfl, hka, hT, hTi, q, z⟩ := sp2_of h
  obtain ⟨us, ha, hd, hk, hl⟩ := id hka
  have hul : us.length = ks.length := by rw [dpall_len hd, List.length_map]
  refine ⟨G, M, Wk.refl, a, ks, rfl, hka, T, 0, _, rfl, rfl, hT, hTi, ?_⟩
  show if (!withinV y 0 ((prK ks : Int) - 1)) = true then _ else _
  cases hw : withinV y 0 ((prK ks : Int) - 1) with
  | false => exact ⟨G, M, Wk.refl, G, M, Wk.refl, z hw⟩
  | true =>
    show rd_draws_at_1 K (ends R Z) [some (.ref a), some y, none, none, none] G M
    cases y with
    | int n' =>
      have hw2 := hw
      simp only [withinV, Bool.and_eq_true, decide_eq_true_eq] at hw2
      obtain ⟨n, rfl⟩ := Int.eq_ofNat_of_zero_le hw2.1
      have hn : n < prK ks := by omega
      refine ⟨_, _, Wk.refl, sz0, fun p fp => ?_⟩
      refine ⟨_, _, Wk.refl, us, lat_cons ha, fun i σ G' M' => ∃ (m : Nat) (ws : List V) (Mn : Mem) (ds : List Dr) (y3 y4 : Option V), σ = [some (.ref a), some (.int m), some (.ref p), y3, y4] ∧ G' = G ∧ M' = (p, .lst ws) :: (Mn ++ M) ∧ A2 (DrM Mn) ws ds ∧ drR ks.reverse n = ds ++ drR (ks.reverse.drop i) m ∧ ws.length = i, ⟨n, [], [], [], none, none, rfl, rfl, rfl, .nil, rfl, rfl⟩, ?_, ?_, ?_⟩
      · rintro i σ G' M' hi ⟨m, ws, Mn, ds, y3, y4, rfl, rfl, rfl, hws, e, hwl⟩
        exact lat_cons (lat_app ha)
      · rintro i σ G' M' hi ⟨m, ws, Mn, ds, y3, y4, rfl, rfl, rfl, hws, e, hwl⟩
        have hi : i < us.length := hi
        have hlt : us.length - 1 - i < ks.length := by omega
        obtain ⟨k, hkd⟩ : ∃ k, k = ks[us.length - 1 - i] := ⟨_, rfl⟩
        have hp : ks[us.length - 1 - i]? = some k := by rw [hkd]; exact List.getElem?_eq_getElem hlt
        obtain ⟨v, hv, hd1⟩ := dpall_get (d := knD k) hd (by rw [List.getElem?_map, hp]; rfl)
        have hok := hk k (List.mem_of_getElem? hp)
        have hrv : ks.reverse[i]? = some k := by rw [rev_get (by omega), ← hul]; exact hp
        have hml := manyK_lt hok
        have hmp := manyK_pos k
        have e' : drR ks.reverse n = ds ++ (dOf k (m % manyK k) :: drR (ks.reverse.drop (i + 1)) (m / manyK k)) := by
          rw [e, drop_get hrv]; rfl
        have mp : (0 : Int) < (manyK k : Int) := by omega
        have ml : (manyK k : Int).natAbs < 2 ^ 300 := by omega
        refine asg_V hv ⟨_, _, Wk.refl, k, hd1, hok, mp, ?_⟩
        refine ⟨_, _, Wk.refl, k, hd1, hok, wide_div (b := 300) mp ml (by decide) (by decide), ?_⟩
        obtain ⟨t, rfl, ht⟩ := dp_kn_inv hd1
        refine ⟨_, _, Wk.refl, tyl_n (n := 0) rfl, _, _, tup_g ht, rfl, ?_⟩
        show if decide (V.str k.txt = .str "leaf") = true then _ else _
        rw [txt_leaf]
        refine ite2' (fun el => ?_) (fun el => ?_)
        · refine ⟨0, _, rfl, sz (by show ws.length + 1 ≤ _; omega), _, _, Wk.refl, m / manyK k, ws ++ [.int ((m % manyK k : Nat) : Int)], Mn, ds ++ [dOf k (m % manyK k)], _, _, rfl, rfl, rfl, hws.app (.cons ?_ .nil), by rw [e', List.append_assoc]; rfl, by simp [hwl]⟩
          unfold dOf; rw [if_pos el]; rfl
        · refine ⟨_, _, tup_g ht, rfl, k.n, m % manyK k, rfl, rfl, hok.1, fun b fb => ?_⟩
          refine ⟨1, _, rfl, sz (by show ws.length + 1 ≤ _; omega), _, (p, HO.lst (ws ++ [.ref b])) :: (((b, HO.lst (natsV (rowAt k.n (m % manyK k)))) :: Mn) ++ M), Wk.swap, m / manyK k, ws ++ [.ref b], (b, HO.lst (natsV (rowAt k.n (m % manyK k)))) :: Mn, ds ++ [dOf k (m % manyK k)], _, _, rfl, rfl, rfl, (hws.mono fun _ _ => drM_sub fun x hx => List.mem_cons_of_mem _ hx).app (.cons ?_ .nil), by rw [e', List.append_assoc]; rfl, by simp [hwl]⟩
          unfold dOf; rw [if_neg (by rw [el]; decide)]; exact ⟨b, rfl, List.mem_cons_self⟩
      · rintro σ G' M' ⟨m, ws, Mn, ds, y3, y4, rfl, rfl, rfl, hws, e, hwl⟩
        have e2 : drR ks.reverse n = ds := by
          have e : drR ks.reverse n = ds ++ drR (ks.reverse.drop us.length) m := e
          rw [hul, ← List.length_reverse, List.drop_length] at e
          rw [e]; show ds ++ [] = ds; rw [List.append_nil]
        refine ⟨_, _, Wk.refl, _, lat_0, fun w fw => retW Wk.drop1 ?_⟩
        exact q n rfl hn w _ Mn (by unfold drawsAt; rw [e2]; exact hws.rev)
    | _ => simp [withinV] at hw
end
section
variable {K : PySem.W.Frag} {vs : List V} {G : Hp} {M : Mem} {R : KR} {Z : KX}
/-! ### the plain law -/
theorem rowAt_len : ∀ s n, (rowAt s n).length = s
  | 0, _ => rfl
  | s + 1, n => by rw [rowAt, List.length_append, rowAt_len s]; rfl
theorem rowAt_le : ∀ s n (i v : Nat), (rowAt s n)[i]? = some v → v ≤ i
  | 0, _, i, v, h => by simp [rowAt] at h
  | s + 1, n, i, v, h => by
    by_cases e : i < s
    · rw [rowAt, List.getElem?_append_left (by rw [rowAt_len]; exact e)] at h
      exact rowAt_le s _ i v h
    · have hl : i < (rowAt (s + 1) n).length := (List.getElem?_eq_some_iff.mp h).1
      rw [rowAt_len] at hl
      have ei : i = s := by omega
      subst ei
      rw [rowAt, List.getElem?_append_right (by rw [rowAt_len]; omega), rowAt_len, Nat.sub_self] at h
      simp at h
      have := Nat.mod_lt n (show 0 < i + 1 by omega)
      omega
def stepRow (l : List Nat) (c i : Nat) : Nat := c * (i + 1) + l.getD i 0
theorem row_fold (c : Nat) : ∀ (s n : Nat), n < fac s → (List.range s).foldl (stepRow (rowAt s n)) c = c * fac s + n
  | 0, n, h => by
    have : n = 0 := by simp [fac] at h; omega
    subst this; simp [fac]
  | s + 1, n, h => by
    have hd : n / (s + 1) < fac s := by
      rw [Nat.div_lt_iff_lt_mul (by omega), Nat.mul_comm]; exact h
    have ih := row_fold c s (n / (s + 1)) hd
    rw [List.range_succ, List.foldl_append]
    have ec : (List.range s).foldl (stepRow (rowAt (s + 1) n)) c = (List.range s).foldl (stepRow (rowAt s (n / (s + 1)))) c := by
      have : ∀ (l : List Nat) (c : Nat), (∀ i, i ∈ l → i < s) → l.foldl (stepRow (rowAt (s + 1) n)) c = l.foldl (stepRow (rowAt s (n / (s + 1)))) c := by
        intro l
        induction l with
        | nil => intros; rfl
        | cons i l ih =>
          intro c hi
          have e : stepRow (rowAt (s + 1) n) c i = stepRow (rowAt s (n / (s + 1))) c i := by
            unfold stepRow
            rw [rowAt, List.getD_eq_getElem?_getD, List.getD_eq_getElem?_getD, List.getElem?_append_left (by rw [rowAt_len]; exact hi i List.mem_cons_self)]
          rw [List.foldl_cons, List.foldl_cons, e]
          exact ih _ fun j hj => hi j (List.mem_cons_of_mem _ hj)
      exact this _ c fun i hi => List.mem_range.mp hi
    rw [ec, ih]
    show (c * fac s + n / (s + 1)) * (s + 1) + (rowAt (s + 1) n).getD s 0 = c * ((s + 1) * fac s) + n
    have eg : (rowAt (s + 1) n).getD s 0 = n % (s + 1) := by
      rw [rowAt, List.getD_eq_getElem?_getD, List.getElem?_append_right (by rw [rowAt_len]; omega), rowAt_len, Nat.sub_self]; rfl
    rw [eg, Nat.add_mul, Nat.mul_assoc, Nat.mul_comm (fac s)]
    have := Nat.div_add_mod n (s + 1)
    rw [Nat.mul_comm] at this
    omega
theorem dOf_ok {k : Kn} {m : Nat} (h : m < manyK k) : DrOk k (dOf k m) := by
  unfold manyK at h; unfold dOf
  cases e : k.leaf with
  | true => rw [e] at h; exact ⟨e, h⟩
  | false => exact ⟨e, rowAt_len _ _, rowAt_le _ _⟩
theorem step_dOf {k : Kn} {c m : Nat} (h : m < manyK k) : stepD c (k, dOf k m) = c * manyK k + m := by
  unfold manyK at h ⊢; unfold dOf stepD
  cases e : k.leaf with
  | true => rfl
  | false =>
    rw [e] at h
    show (List.range (rowAt k.n m).length).foldl (stepRow (rowAt k.n m)) c = _
    rw [rowAt_len]; exact row_fold c k.n m h
theorem drR_len : ∀ (ks : List Kn) (n : Nat), (drR ks n).length = ks.length
  | [], _ => rfl
  | k :: ks, n => by rw [drR, List.length_cons, drR_len ks]; rfl
theorem drR_ok : ∀ (ks : List Kn) (n : Nat), A2 DrOk ks (drR ks n)
  | [], _ => .nil
  | k :: ks, n => .cons (dOf_ok (Nat.mod_lt _ (manyK_pos k))) (drR_ok ks _)
theorem draws_ok (ks : List Kn) (n : Nat) : A2 DrOk ks (drawsAt ks n) := by
  have := (drR_ok ks.reverse n).rev
  rw [List.reverse_reverse] at this
  exact this
theorem prK_rev (ks : List Kn) : prK ks.reverse = prK ks := by
  induction ks with
  | nil => rfl
  | cons k ks ih => rw [List.reverse_cons, prK_snoc, ih]; show _ = manyK k * prK ks; rw [Nat.mul_comm]
theorem num_rev : ∀ (ks : List Kn) (n : Nat), n < prK ks → (ks.reverse.zip (drR ks n).reverse).foldl stepD 0 = n
  | [], n, h => by have : n = 0 := by simp [prK] at h; omega
                   subst this; rfl
  | k :: ks, n, h => by
    have hd : n / manyK k < prK ks := by
      rw [Nat.div_lt_iff_lt_mul (manyK_pos k), Nat.mul_comm]; exact h
    rw [List.reverse_cons, drR, List.reverse_cons, List.zip_append (by rw [List.length_reverse, List.length_reverse, drR_len]), List.foldl_append, num_rev ks _ hd]
    show stepD (n / manyK k) (k, dOf k (n % manyK k)) = n
    rw [step_dOf (Nat.mod_lt _ (manyK_pos k)), Nat.mul_comm]
    exact Nat.div_add_mod n _
theorem num_draws {ks : List Kn} {n : Nat} (h : n < prK ks) : numD ks (drawsAt ks n) = n := by
  have := num_rev ks.reverse n (by rw [prK_rev]; exact h)
  rw [List.reverse_reverse] at this
  exact this
/-! ### the walk -/
theorem ex_kn {G' : Hp} {M' : Mem} {a : Addr} {ks : List Kn} (x : Ex G G') (hm : ∀ x, x ∈ M → x ∈ M') (h : KnAt K G M a ks) : KnAt K G' M' a ks := by
  obtain ⟨us, h1, h2, h3, h4⟩ := h
  refine ⟨us, ?_, ex_ds x _ h2, h3, h4⟩
  rcases h1 with h1 | h1
  · exact .inl (hm _ h1)
  · exact .inr (ex_l x h1)
theorem ex_lat {G' : Hp} {M' : Mem} {a : Addr} {us : List V} (x : Ex G G') (hm : ∀ x, x ∈ M → x ∈ M') (h : LstAt K G M a us) : LstAt K G' M' a us := by
  rcases h with h | h
  · exact .inl (hm _ h)
  · exact .inr (ex_l x h)
theorem ex_drv {G' : Hp} {M' : Mem} (x : Ex G G') (hm : ∀ x, x ∈ M → x ∈ M') {v : V} {d : Dr} (h : DrV K G M v d) : DrV K G' M' v d := by
  cases d with
  | leaf n => exact h
  | row l => obtain ⟨b, rfl, h⟩ := h; exact ⟨b, rfl, ex_lat x hm h⟩
theorem ex_dr {G' : Hp} {M' : Mem} {a : Addr} {ds : List Dr} (x : Ex G G') (hm : ∀ x, x ∈ M → x ∈ M') (h : DrAt K G M a ds) : DrAt K G' M' a ds := by
  obtain ⟨us, h1, h2⟩ := h
  exact ⟨us, ex_lat x hm h1, h2.mono fun _ _ => ex_drv x hm⟩
theorem pf_law_whole (h : S_law_whole K vs G M R Z) : rd_law_whole K (ends R Z) (sta 1 vs) G M := pf_is_whole h
theorem at_two' {x y : Int} {r : Int} (h0 : 0 ≤ r) (h1 : r < 2) : ∃ v, atI [V.int x, V.int y] r = some (V.int v) ∧ (v = x ∨ v = y) := by
  have e : r = 0 ∨ r = 1 := by omega
  rcases e with rfl | rfl
  · exact ⟨x, rfl, .inl rfl⟩
  · exact ⟨y, rfl, .inr rfl⟩
theorem pf_law_kinds (h : S_law_kinds K vs G M R Z) : rd_law_kinds K (ends R Z) (sta 5 vs) G M := by
  obtain ⟨_, _, _, rfl, p, m, f, n, c, s, rfl, rfl, rfl, hn, hs, m0, m1, f0, f1, q⟩ := sp3_of h
  refine ⟨G, M, Wk.refl, sz0, fun t ft => ?_⟩
  refine ⟨G, _, Wk.refl, p, m + 1, n + 1, c, s, rfl, rfl, hn, hs, by omega, by omega, fun r c1 s1 r0 r1 hs1 => ⟨⟨by omega, by omega⟩, fun i σ G' M' => ∃ (us : List V) (ks : List Kn) (c' s' : Int) (y4 : Option V), σ = [some (.ref p), some (.int m), some (.int f), some (.ref t), y4] ∧ Ex G G' ∧ M' = (t, .lst us) :: M.set n (p, pool c' s') ∧ DpAll K G' us (ks.map knD) ∧ (∀ k, k ∈ ks → KnOk k) ∧ ks.length = i ∧ PoolOk s',
    ⟨[], [], c1, s1, none, rfl, Ex.refl, rfl, .nil, fun _ z => absurd z List.not_mem_nil, rfl, hs1⟩, fun _ _ _ _ _ _ => trivial, ?_, ?_⟩⟩
  · rintro i σ G' M' hi ⟨us, ks, c2, s2, y4, rfl, ex, rfl, hd, hk, hl, hs2⟩
    have hi : i < r.toNat := hi
    have hul : us.length = ks.length := by rw [dpall_len hd, List.length_map]
    refine ⟨G', _, Wk.refl, p, 2, n + 1, c2, s2, rfl, rfl, set_n hn, hs2, by decide, by decide, fun w c3 s3 w0 w1 hs3 => ite2' (fun e => ?_) (fun e => ?_)⟩
    · refine ⟨_, _, Wk.refl, tyl_n (n := 0) rfl, p, 7, n + 1, c3, s3, rfl, rfl, set_n (set_n hn), hs3, by decide, by decide, fun hgt c4 s4 h0 h1 hs4 => ⟨sz2, fun T fT => ⟨0, _, rfl, sz (by show us.length + 1 ≤ _; omega), ?_⟩⟩⟩
      obtain ⟨hh, rfl⟩ := Int.eq_ofNat_of_zero_le h0
      refine ⟨_, _, Wk.refl, us ++ [.ref T], ks ++ [⟨true, hh⟩], c4, s4, _, rfl, ex.trans (Ex.new fT), ?_, ?_, ?_, by simp [hl], hs4⟩
      · simp only [List.set_cons_succ, List.set_set, List.set_cons_zero]
      · rw [List.map_append]; exact dpall_snoc (ex_ds (Ex.new fT) _ hd) (dp_kn sqt_new)
      · intro k hkm
        rcases List.mem_append.mp hkm with hkm | hkm
        · exact hk k hkm
        · have e : k = ⟨true, hh⟩ := by simpa using hkm
          subst e
          exact ⟨by show hh ≤ 64; omega, fun _ => by show hh ≤ 6; omega, fun z => by cases z⟩
    · refine ⟨_, _, Wk.refl, tyl_n (n := 0) rfl, sz2, fun w2 fw2 => ⟨p, 2, n + 2, c3, s3, rfl, rfl, set_n (set_n hn), hs3, by decide, by decide, fun w3 c4 s4 h0 h1 hs4 => ?_⟩⟩
      obtain ⟨v, hv, hv2⟩ := at_two' (x := 6) (y := f) h0 h1
      have hv3 : 1 ≤ v ∧ v ≤ 64 := by omega
      refine ⟨_, _, lst_n (n := 0) rfl, hv, p, v, n + 2, c4, s4, rfl, rfl, set_n (set_n (set_n hn)), hs4, by omega, by omega, fun sz_ c5 s5 z0 z1 hs5 => ⟨sz2, fun T fT => ⟨1, _, rfl, sz (by show us.length + 1 ≤ _; omega), ?_⟩⟩⟩
      obtain ⟨hh, rfl⟩ := Int.eq_ofNat_of_zero_le z0
      refine ⟨_, _, Wk.drop0, us ++ [.ref T], ks ++ [⟨false, 1 + hh⟩], c5, s5, _, rfl, ex.trans (Ex.new fT), ?_, ?_, ?_, by simp [hl], hs5⟩
      · simp only [List.set_cons_succ, List.set_set, List.set_cons_zero]
      · rw [List.map_append]; exact dpall_snoc (ex_ds (Ex.new fT) _ hd) (dp_kn (k := ⟨false, 1 + hh⟩) sqt_new)
      · intro k hkm
        rcases List.mem_append.mp hkm with hkm | hkm
        · exact hk k hkm
        · have e : k = ⟨false, 1 + hh⟩ := by simpa using hkm
          subst e
          exact ⟨by show 1 + hh ≤ 64; omega, fun z => (by cases z), fun _ => by show 1 ≤ 1 + hh; omega⟩
  · rintro σ G' M' ⟨us, ks, c2, s2, y4, rfl, ex, rfl, hd, hk, hl, hs2⟩
    have hl : ks.length = r.toNat := hl
    exact ⟨_, _, Wk.refl, ret0 (q t us ks G' c2 s2 ex hd hk (by omega) hs2)⟩
theorem natsV_get {l : List Nat} {i v : Nat} (h : l[i]? = some v) : (natsV l)[i]? = some (.int (v : Int)) := by
  unfold natsV; rw [List.getElem?_map, h]; rfl
theorem atI_nats {l : List Nat} {i v : Nat} (h : l[i]? = some v) : atI (natsV l) (i : Int) = some (.int (v : Int)) := by
  exact atI_nat (natsV_get h)
theorem getD_nat {l : List Nat} {i v : Nat} (h : l[i]? = some v) : l.getD i 0 = v := by rw [List.getD_eq_getElem?_getD, h]; rfl
theorem pf_law_many (h : S_law_many K vs G M R Z) : rd_law_many K (ends R Z) (sta 3 vs) G M := by
  obtain ⟨_, rfl, k, hd, hk, q⟩ := sp1_of h
  obtain ⟨t, rfl, ht⟩ := dp_kn_inv hd
  have hk1 := hk.1
  refine ⟨G, M, Wk.refl, _, _, tup_g ht, rfl, ?_⟩
  show if decide (V.str k.txt = .str "leaf") = true then _ else _
  rw [txt_leaf]
  refine ite2' (fun e => ?_) (fun e => ?_)
  · refine ⟨G, M, Wk.refl, _, _, tup_g ht, rfl, ⟨by omega, by omega, by decide⟩, ret0 ?_⟩
    unfold manyK at q; rw [if_pos e] at q
    have e : (1 : Int) * 2 ^ (k.n : Int).toNat = ((2 ^ k.n : Nat) : Int) := by simp
    show R (.int ((1 : Int) * 2 ^ (k.n : Int).toNat)) G M
    rw [e]; exact q
  · have hm : manyK k = fac k.n := by unfold manyK; rw [if_neg (by rw [e]; decide)]
    rw [hm] at q
    refine ⟨G, M, Wk.refl, ?_⟩
    refine ⟨G, M, Wk.refl, _, _, tup_g ht, rfl, ⟨by omega, by omega⟩, fun i σ G' M' => ∃ y2, σ = [some (.ref t), some (.int (fac i)), y2] ∧ G' = G ∧ M' = M, ⟨none, rfl, rfl, rfl⟩, fun _ _ _ _ _ _ => trivial, ?_, ?_⟩
    · rintro i σ G' M' hi ⟨y2, rfl, rfl, rfl⟩
      have hi : i < (k.n : Int).toNat := hi
      refine ⟨_, _, Wk.refl, mul_r (by omega) (by omega), _, _, Wk.refl, some (.int (0 + (i : Int))), ?_, rfl, rfl⟩
      have e2 : (fac i : Int) * (0 + (i : Int) + 1) = ((fac (i + 1) : Nat) : Int) := by
        show _ = (((i + 1) * fac i : Nat) : Int)
        rw [Int.natCast_mul, Int.mul_comm]; congr 1; omega
      show [some (V.ref t), some (.int ((fac i : Int) * (0 + (i : Int) + 1))), _] = _
      rw [e2]
    · rintro σ G' M' ⟨y2, rfl, rfl, rfl⟩
      refine ⟨_, _, Wk.refl, ret0 ?_⟩
      exact q
theorem row_lt {l : List Nat} {c b : Nat} (ho : ∀ (i v : Nat), l[i]? = some v → v ≤ i) (hl : l.length ≤ 64) (hc : c < 2 ^ b) : ∀ i, i ≤ l.length → (List.range i).foldl (stepRow l) c < 2 ^ (b + 10 * i) := by
  intro i
  induction i with
  | zero => intro _; exact hc
  | succ i ih =>
    intro hi
    have h1 := ih (by omega)
    rw [List.range_succ, List.foldl_append]
    show (List.range i).foldl (stepRow l) c * (i + 1) + l.getD i 0 < _
    have hg : l.getD i 0 ≤ i := by
      rw [getD_nat (List.getElem?_eq_getElem (by omega))]
      exact ho i _ (List.getElem?_eq_getElem (by omega))
    have e : 2 ^ (b + 10 * (i + 1)) = 2 ^ (b + 10 * i) * 1024 := by rw [show b + 10 * (i + 1) = (b + 10 * i) + 10 by omega, Nat.pow_add]
    rw [e]
    have h2 : (List.range i).foldl (stepRow l) c * (i + 1) ≤ 2 ^ (b + 10 * i) * (i + 1) := Nat.mul_le_mul_right _ (by omega)
    have h3 : 2 ^ (b + 10 * i) * (i + 1) ≤ 2 ^ (b + 10 * i) * 65 := Nat.mul_le_mul_left _ (by omega)
    have h4 : 0 < 2 ^ (b + 10 * i) := Nat.pow_pos (by decide)
    omega
theorem stepD_lt {k : Kn} {d : Dr} {c b : Nat} (ho : DrOk k d) (hk : KnOk k) (hc : c < 2 ^ b) : stepD c (k, d) < 2 ^ (b + 640) := by
  have hk1 := hk.1
  cases d with
  | leaf n =>
    obtain ⟨_, hn⟩ := ho
    show c * 2 ^ k.n + n < _
    have h1 : (c + 1) * 2 ^ k.n ≤ 2 ^ b * 2 ^ k.n := Nat.mul_le_mul_right _ hc
    have h2 : 2 ^ b * 2 ^ k.n ≤ 2 ^ (b + 640) := by
      rw [← Nat.pow_add]; exact Nat.pow_le_pow_right (by decide) (by omega)
    rw [Nat.add_mul, Nat.one_mul] at h1
    omega
  | row l =>
    obtain ⟨_, ol, ov⟩ := ho
    have h1 := row_lt ov (by omega) hc l.length (Nat.le_refl _)
    exact Nat.lt_of_lt_of_le h1 (Nat.pow_le_pow_right (by decide) (by omega))
theorem numD_lt : ∀ (ks : List Kn) (ds : List Dr) (c b : Nat), A2 DrOk ks ds → (∀ k, k ∈ ks → KnOk k) → c < 2 ^ b → (ks.zip ds).foldl stepD c < 2 ^ (b + 640 * ks.length)
  | _, _, c, b, .nil, _, hc => hc
  | _, _, c, b, .cons (as := ks) (bs := ds) h t, hk, hc => by
    have h1 := stepD_lt h (hk _ List.mem_cons_self) hc
    have h2 := numD_lt ks ds _ (b + 640) t (fun k hm => hk k (List.mem_cons_of_mem _ hm)) h1
    rw [List.length_cons, show b + 640 * (ks.length + 1) = b + 640 + 640 * ks.length by omega]
    exact h2
theorem zip_take {α β : Type} {as : List α} {bs : List β} {i : Nat} {a : α} {b : β} (ha : as[i]? = some a) (hb : bs[i]? = some b) : (as.take (i + 1)).zip (bs.take (i + 1)) = (as.take i).zip (bs.take i) ++ [(a, b)] := by
  rw [take_succ' ha, take_succ' hb, List.zip_append]
  · rfl
  · have := (List.getElem?_eq_some_iff.mp ha).1
    have := (List.getElem?_eq_some_iff.mp hb).1
    rw [List.length_take, List.length_take]; omega
theorem A2.take {α β : Type} {r : α → β → Prop} {as : List α} {bs : List β} (h : A2 r as bs) (i : Nat) : A2 r (as.take i) (bs.take i) := by
  induction h generalizing i with
  | nil => cases i <;> exact .nil
  | cons a _ ih =>
    cases i with
    | zero => exact .nil
    | succ i => exact .cons a (ih i)
theorem pf_law_number (h : S_law_number K vs G M R Z) : rd_law_number K (ends R Z) (sta 6 vs) G M := by
  obtain ⟨_, _, rfl, a, b, ks, ds, rfl, rfl, ⟨us, ha, hd, hk, hl⟩, ⟨ws, hb, hw⟩, ho, hk8, q⟩ := sp2_of h
  have hul : us.length = ks.length := by rw [dpall_len hd, List.length_map]
  have hwl := hw.len
  have hol := ho.len
  have id_ : ∀ x, x ∈ M → x ∈ M := fun _ h => h
  refine ⟨G, M, Wk.refl, G, M, Wk.refl, us, ws, ha, hb, fun i σ G' M' => ∃ (y3 y4 y5 : Option V), σ = [some (.ref a), some (.ref b), some (.int ((((ks.take i).zip (ds.take i)).foldl stepD 0 : Nat) : Int)), y3, y4, y5] ∧ Ex G G' ∧ M' = M, ⟨none, none, none, rfl, Ex.refl, rfl⟩, ?_, ?_, ?_⟩
  · rintro i σ G' M' hi ⟨y3, y4, y5, rfl, ex, rfl⟩
    exact ⟨ex_lat ex id_ ha, ex_lat ex id_ hb⟩
  · rintro i σ G' M' hi ⟨y3, y4, y5, rfl, ex, rfl⟩
    have hi : i < min us.length ws.length := hi
    have hp : ks[i]? = some ks[i] := List.getElem?_eq_getElem (by omega)
    have hpd : ds[i]? = some ds[i] := List.getElem?_eq_getElem (by omega)
    obtain ⟨v, hv, hd1⟩ := dpall_get (d := knD ks[i]) hd (by rw [List.getElem?_map, hp]; rfl)
    obtain ⟨w, hw1, hw2⟩ := hw.get hpd
    obtain ⟨k', hk', hok2⟩ := ho.get hpd
    rw [hp] at hk'; cases hk'
    have hok := hk ks[i] (List.getElem_mem (by omega))
    have hlt := numD_lt _ _ 0 1 (ho.take i) (prK_take_le ks i hk) (by decide)
    have hll : (ks.take i).length ≤ 8 := by rw [List.length_take]; omega
    have hlt2 : ((ks.take i).zip (ds.take i)).foldl stepD 0 < 2 ^ 5121 := Nat.lt_of_lt_of_le hlt (Nat.pow_le_pow_right (by decide) (by omega))
    obtain ⟨c, hc⟩ : ∃ c, c = ((ks.take i).zip (ds.take i)).foldl stepD 0 := ⟨_, rfl⟩
    rw [← hc] at hlt2 ⊢
    obtain ⟨k, hkk⟩ : ∃ k, k = ks[i] := ⟨_, rfl⟩
    obtain ⟨d, hdd⟩ : ∃ d, d = ds[i] := ⟨_, rfl⟩
    rw [← hkk] at hp hd1 hok hok2
    rw [← hdd] at hpd hw2 hok2
    have en : ((ks.take (i + 1)).zip (ds.take (i + 1))).foldl stepD 0 = stepD c (k, d) := by
      rw [zip_take hp hpd, List.foldl_append, ← hc]; rfl
    obtain ⟨t, rfl, ht⟩ := dp_kn_inv hd1
    have hk1 := hok.1
    refine asg_Z hv hw1 ⟨_, _, Wk.refl, _, _, tup_g (ex_t ex ht), rfl, ?_⟩
    show if decide (V.str k.txt = .str "leaf") = true then _ else _
    rw [txt_leaf]
    refine ite2' (fun el => ?_) (fun el => ?_)
    · cases d with
      | row l => have := hok2.1; rw [el] at this; cases this
      | leaf n =>
        have hw2 : w = .int n := hw2
        subst hw2
        refine ⟨_, _, Wk.refl, _, _, tup_g (ex_t ex ht), rfl, shl_ok (j := k.n) (n := 5121) (by omega) (by omega), ?_⟩
        refine ⟨_, _, Wk.refl, some (.ref t), some (.int n), y5, ?_, ex, rfl⟩
        show [_, _, some (V.int ((c : Int) * 2 ^ (k.n : Int).toNat + n)), _, _, _] = _
        rw [en]
        have e3 : (c : Int) * 2 ^ (k.n : Int).toNat + n = ((c * 2 ^ k.n + n : Nat) : Int) := by simp
        rw [e3]; rfl
    · cases d with
      | leaf n => have := hok2.1; rw [el] at this; cases this
      | row l =>
        obtain ⟨b2, rfl, hb2⟩ := hw2
        obtain ⟨_, ol, ov⟩ := hok2
        refine ⟨_, _, Wk.refl, _, _, tup_g (ex_t ex ht), rfl, ⟨by omega, by omega⟩, fun j σ G2 M2 => ∃ y5, σ = [some (.ref a), some (.ref b), some (.int (((List.range j).foldl (stepRow l) c : Nat) : Int)), some (.ref t), some (.ref b2), y5] ∧ G2 = G' ∧ M2 = M', ⟨y5, rfl, rfl, rfl⟩, fun _ _ _ _ _ _ => trivial, ?_, ?_⟩
        · rintro j σ G2 M2 hj ⟨y5, rfl, rfl, rfl⟩
          have hj : j < (k.n : Int).toNat := hj
          have hg : l[j]? = some l[j] := List.getElem?_eq_getElem (by omega)
          refine ⟨_, _, Wk.refl, mul_r (by omega) (by omega), _, .int (l[j] : Int), .inl (ex_lat ex id_ hb2), (by rw [show (0 : Int) + (j : Int) = (j : Int) by omega]; exact atI_nats hg), _, _, Wk.refl, some (.int (0 + (j : Int))), ?_, rfl, rfl⟩
          show [_, _, some (V.int ((((List.range j).foldl (stepRow l) c : Nat) : Int) * (0 + (j : Int) + 1) + (l[j] : Int))), _, _, _] = _
          rw [List.range_succ, List.foldl_append]
          have e4 : (((List.range j).foldl (stepRow l) c : Nat) : Int) * (0 + (j : Int) + 1) + (l[j] : Int) = ((stepRow l ((List.range j).foldl (stepRow l) c) j : Nat) : Int) := by
            unfold stepRow; rw [getD_nat hg, Int.natCast_add, Int.natCast_mul, Int.zero_add]; rfl
          rw [e4]; rfl
        · rintro σ G2 M2 ⟨y5, rfl, rfl, rfl⟩
          refine ⟨_, _, Wk.refl, some (.ref t), some (.ref b2), y5, ?_, ex, rfl⟩
          rw [en]
          show [_, _, some (V.int (((List.range (k.n : Int).toNat).foldl (stepRow l) c : Nat) : Int)), _, _, _] = [_, _, some (V.int (((List.range l.length).foldl (stepRow l) c : Nat) : Int)), _, _, _]
          rw [ol]; rfl
  · rintro σ G' M' ⟨y3, y4, y5, rfl, ex, rfl⟩
    refine ⟨_, _, Wk.refl, ret0 ?_⟩
    show R (.int ((((ks.take (min us.length ws.length)).zip (ds.take (min us.length ws.length))).foldl stepD 0 : Nat) : Int)) _ _
    rw [show min us.length ws.length = ks.length by omega, List.take_length, hol, List.take_length]
    exact q G' ex
theorem pf_law_are_draws (h : S_law_are_draws K vs G M R Z) : rd_law_are_draws K (ends R Z) (sta 5 vs) G M := by
  obtain ⟨_, _, rfl, a, b, ks, ds, rfl, rfl, ⟨us, ha, hd, hk, hl⟩, ⟨ws, hb, hw⟩, ho, q⟩ := sp2_of h
  have hul : us.length = ks.length := by rw [dpall_len hd, List.length_map]
  have hwl := hw.len
  have hol := ho.len
  have id_ : ∀ x, x ∈ M → x ∈ M := fun _ h => h
  refine ⟨G, M, Wk.refl, .type PT.list.name, .type "list", _, .ty "list", ty_lst hb, kit_pt .list .list, ?_⟩
  refine ⟨ws, .inl hb, us, .inl ha, ?_⟩
  refine ite2' (fun e => ?_) (fun e => ?_)
  · have e : (!decide (V.int (ws.length : Int) = .int (us.length : Int))) = true := e
    rw [show ws.length = us.length by omega, decide_eq_true rfl] at e
    cases e
  refine ⟨G, M, Wk.refl, us, ws, ha, hb, fun i σ G' M' => ∃ (y2 y3 y4 : Option V), σ = [some (.ref a), some (.ref b), y2, y3, y4] ∧ G' = G ∧ M' = M, ⟨none, none, none, rfl, rfl, rfl⟩, ?_, ?_, ?_⟩
  · rintro i σ G' M' hi ⟨y2, y3, y4, rfl, rfl, rfl⟩
    exact ⟨ha, hb⟩
  · rintro i σ G' M' hi ⟨y2, y3, y4, rfl, rfl, rfl⟩
    have hi : i < min us.length ws.length := hi
    obtain ⟨k, hp⟩ : ∃ k, ks[i]? = some k := ⟨ks[i], List.getElem?_eq_getElem (by omega)⟩
    obtain ⟨d, hpd⟩ : ∃ d, ds[i]? = some d := ⟨ds[i], List.getElem?_eq_getElem (by omega)⟩
    obtain ⟨v, hv, hd1⟩ := dpall_get (d := knD k) hd (by rw [List.getElem?_map, hp]; rfl)
    obtain ⟨w, hw1, hw2⟩ := hw.get hpd
    obtain ⟨k', hk', hok2⟩ := ho.get hpd
    rw [hp] at hk'; cases hk'
    have hok := hk k (List.mem_of_getElem? hp)
    obtain ⟨t, rfl, ht⟩ := dp_kn_inv hd1
    have hk1 := hok.1
    refine asg_Z hv hw1 ⟨_, _, Wk.refl, _, _, tup_g ht, rfl, ?_⟩
    show if decide (V.str k.txt = .str "leaf") = true then _ else _
    rw [txt_leaf]
    refine ite2' (fun el => ?_) (fun el => ?_)
    · cases d with
      | row l => have := hok2.1; rw [el] at this; cases this
      | leaf n =>
        obtain ⟨z, hz⟩ : ∃ z : Int, z = (n : Int) := ⟨_, rfl⟩
        have hw2 : w = .int z := by rw [hz]; exact hw2
        subst hw2
        obtain ⟨T, hT⟩ : ∃ T, T = PT.int := ⟨_, rfl⟩
        refine ⟨_, _, Wk.refl, T, by rw [hT]; exact ty_int, ite2' (fun e => by rw [hT] at e; cases e) (fun _ => ?_)⟩
        have h1 : (1 : Int) * 2 ^ (k.n : Int).toNat = ((2 ^ k.n : Nat) : Int) := by simp
        have h2 := hok2.2
        refine ite2' (fun e => ?_) (fun e => ?_)
        · refine ⟨_, _, tup_g ht, rfl, ⟨by omega, by omega, by decide⟩, ?_⟩
          refine ite2' (fun e2 => ?_) (fun e2 => ⟨_, _, Wk.refl, _, _, _, rfl, rfl, rfl⟩)
          have e2 : (!decide (z < 1 * 2 ^ (k.n : Int).toNat)) = true := e2
          rw [h1, decide_eq_true (by omega)] at e2; cases e2
        · have e : decide ((0 : Int) ≤ z) = false := e
          rw [decide_eq_true (by omega)] at e; cases e
    · cases d with
      | leaf n => have := hok2.1; rw [el] at this; cases this
      | row l =>
        obtain ⟨b2, rfl, hb2⟩ := hw2
        obtain ⟨_, ol, ov⟩ := hok2
        have hnl : (natsV l).length = l.length := by unfold natsV; rw [List.length_map]
        refine ⟨_, _, Wk.refl, .type PT.list.name, .type "list", _, .ty "list", ty_lst hb2, kit_pt .list .list, natsV l, .inl hb2, _, _, tup_g ht, rfl, ?_⟩
        refine ite2' (fun e => ?_) (fun e => ?_)
        · have e : (!decide (V.int ((natsV l).length : Int) = .int (k.n : Int))) = true := e
          rw [hnl, ol, decide_eq_true rfl] at e; cases e
        refine ⟨_, _, Wk.refl, _, _, tup_g ht, rfl, ⟨by omega, by omega⟩, sz (by show (k.n : Int).toNat ≤ _; omega), fun j acc G2 M2 => acc = [] ∧ G2 = G' ∧ M2 = M', ⟨rfl, rfl, rfl⟩, fun _ _ _ _ _ _ => trivial, ?_, ?_⟩
        · rintro j acc G2 M2 D hj hacc ⟨rfl, rfl, rfl⟩ fD
          have hj : j < (k.n : Int).toNat := hj
          have hg : l[j]? = some l[j] := List.getElem?_eq_getElem (by omega)
          have hgv := ov j _ hg
          obtain ⟨z, hz⟩ : ∃ z : Int, z = (l[j] : Int) := ⟨_, rfl⟩
          have hat : atI (natsV l) (0 + (j : Int)) = some (.int z) := by rw [hz]; rw [show (0 : Int) + (j : Int) = (j : Int) by omega]; exact atI_nats hg
          obtain ⟨T, hT⟩ : ∃ T, T = PT.int := ⟨_, rfl⟩
          refine ⟨rfl, _, .int z, .inl (lat_cons hb2), hat, T, by rw [hT]; exact ty_int, ite2' (fun e => by rw [hT] at e; cases e) (fun _ => ?_)⟩
          refine ⟨_, .int z, .inl (lat_cons hb2), hat, ?_⟩
          refine ite2' (fun e => ?_) (fun e => ?_)
          · refine ite2' (fun e2 => ?_) (fun e2 => ⟨_, _, Wk.refl, rfl, rfl, rfl⟩)
            have e2 : (!decide (z ≤ 0 + (j : Int))) = true := e2
            rw [decide_eq_true (by omega)] at e2; cases e2
          · have e : decide ((0 : Int) ≤ z) = false := e
            rw [decide_eq_true (by omega)] at e; cases e
        · rintro acc G2 M2 p ⟨rfl, rfl, rfl⟩ hacc fp
          obtain ⟨dd, hdd⟩ : ∃ d, d = PyData.list [] := ⟨_, rfl⟩
          have sh : Shp 1 dd := by rw [hdd]; exact shp_ints (n := 0) []
          refine ⟨sz0, fun p2 fp2 => ⟨dd, dd, by rw [hdd]; exact dat_ints (ns := []) (lat_cons lat_0), by rw [hdd]; exact dat_ints (ns := []) lat_0, sh.shaped (by decide), sh.shaped (by decide), ?_⟩⟩
          refine ite2' (fun e2 => ?_) (fun e2 => ⟨_, _, Wk.drop0.trans Wk.drop0, _, _, _, rfl, rfl, rfl⟩)
          have e2 : (!PyData.eqv dd dd) = true := e2
          rw [sh.refl] at e2
          cases e2
  · rintro σ G' M' ⟨y2, y3, y4, rfl, rfl, rfl⟩
    exact ⟨_, _, Wk.refl, ret0 (q _ Ex.refl)⟩
theorem set_app {α : Type} {l r : List α} {n : Nat} {x : α} (h : n < l.length) : (l ++ r).set n x = l.set n x ++ r := by
  rw [List.set_append, if_pos h]
theorem pf_law_is (h : S_law_is K vs G M R Z) : rd_law_is K (ends R Z) (sta 4 vs) G M := by
  obtain ⟨_, _, rfl, a, ks, n, rfl, rfl, hka, hk8, hn, q⟩ := sp2_of h
  obtain ⟨us, ha, hd, hk, hl⟩ := id hka
  have hul : us.length = ks.length := by rw [dpall_len hd, List.length_map]
  have hwn : ∀ (A : Prop), withinV (.int (n : Int)) 0 ((prK ks : Int) - 1) = false → A := fun A z => by
    have z : (decide ((0 : Int) ≤ (n : Int)) && decide ((n : Int) ≤ (prK ks : Int) - 1)) = false := z
    rw [decide_eq_true (by omega), decide_eq_true (by omega)] at z; cases z
  refine ⟨G, M, Wk.refl, us, .inl ha, fun p fp => ?_⟩
  refine ⟨p, ks, .int, rfl, ⟨us, lat_0, hd, hk, hl⟩, ty_int, rfl, fun n' en hn' p2 ws Mn hws => ?_, fun z => hwn _ z⟩
  have en : (n : Int) = (n' : Int) := V.int.inj en
  have en : n = n' := by omega
  subst en
  have hm1 : ∀ x, x ∈ M → x ∈ (p2, HO.lst ws) :: (Mn ++ ((p, HO.lst us) :: M)) := fun x hx => List.mem_cons_of_mem _ (List.mem_append_right _ (List.mem_cons_of_mem _ hx))
  have hdr : DrAt K G ((p2, HO.lst ws) :: (Mn ++ ((p, HO.lst us) :: M))) p2 (drawsAt ks n) := ⟨ws, lat_0, hws.mono fun _ _ => drM_v fun x hx => List.mem_cons_of_mem _ (List.mem_append_left _ hx)⟩
  have hwl : ws.length ≤ 1000 := by rw [hws.len, ← (draws_ok ks n).len]; exact hl
  refine ⟨G, _, Wk.refl, a, p2, ks, _, rfl, rfl, ex_kn Ex.refl hm1 hka, hdr, draws_ok ks n, fun G1 x1 => ?_⟩
  refine ⟨a, p2, ks, _, rfl, rfl, ex_kn x1 hm1 hka, ex_dr x1 (fun _ h => h) hdr, draws_ok ks n, hk8, fun G2 x2 => ?_⟩
  rw [num_draws hn]
  refine ite2' (fun e => ?_) (fun e => ?_)
  · have e : (!decide (V.int (n : Int) = .int (n : Int))) = true := e
    rw [decide_eq_true rfl] at e; cases e
  refine ⟨G2, _, Wk.refl, ws, lat_0, fun i σ G' M' => ∃ (y3 : Option V) (Mm : Mem), σ = [some (.ref a), some (.int n), some (.ref p2), y3] ∧ G' = G2 ∧ M' = (p2, .lst ws) :: (Mm ++ ((p, HO.lst us) :: M)) ∧ ∀ v, v ∈ ws → (∃ i, v = .int i) ∨ ∃ b l, v = .ref b ∧ (b, HO.lst l) ∈ Mm ∧ l.length ≤ 64 + i, ⟨none, Mn, rfl, rfl, rfl, ?_⟩, ?_, ?_, ?_⟩
  · intro v hv
    obtain ⟨j, hj⟩ := List.getElem?_of_mem hv
    obtain ⟨d, hd2, hd3⟩ := hws.get' hj
    obtain ⟨k, hk2, hk3⟩ := (draws_ok ks n).get hd2
    cases d with
    | leaf m => exact .inl ⟨m, hd3⟩
    | row l =>
      obtain ⟨b, rfl, hb⟩ := hd3
      refine .inr ⟨b, _, rfl, hb, ?_⟩
      unfold natsV; rw [List.length_map, hk3.2.1]
      exact Nat.le_trans (hk k (List.mem_of_getElem? hk2)).1 (by omega)
  · rintro i σ G' M' hi ⟨y3, Mm, rfl, rfl, rfl, hv⟩
    exact lat_0
  · rintro i σ G' M' hi ⟨y3, Mm, rfl, rfl, rfl, hv⟩
    have hi : i < ws.length := hi
    obtain ⟨v, hvi⟩ : ∃ v, ws[i]? = some v := ⟨ws[i], List.getElem?_eq_getElem hi⟩
    have hvm := List.mem_of_getElem? hvi
    rcases hv v hvm with ⟨z, rfl⟩ | ⟨b, l, rfl, hb, hbl⟩
    · refine asg_L hvi ⟨_, _, Wk.refl, .type PT.int.name, .type "list", _, .ty "list", ty_int, kit_pt .int .list, _, _, Wk.refl, some (.int z), Mm, rfl, rfl, rfl, fun v hv2 => ?_⟩
      rcases hv v hv2 with h | ⟨b, l, h1, h2, h3⟩
      · exact .inl h
      · exact .inr ⟨b, l, h1, h2, by omega⟩
    · obtain ⟨j, hj⟩ := List.getElem?_of_mem hb
      have hjl := (List.getElem?_eq_some_iff.mp hj).1
      have hj2 : ((p2, HO.lst ws) :: (Mm ++ ((p, HO.lst us) :: M)))[j + 1]? = some (b, HO.lst l) := by
        rw [List.getElem?_cons_succ, List.getElem?_append_left hjl]; exact hj
      refine asg_L hvi ⟨_, _, Wk.refl, .type PT.list.name, .type "list", _, .ty "list", ty_lst (lat_n hj2), kit_pt .list .list, ?_⟩
      refine ⟨_, _, Wk.refl, tyl_n hj2, j + 1, l, hj2, sz (by show l.length + 1 ≤ _; omega), _, _, Wk.refl, some (.ref b), Mm.set j (b, .lst (l ++ [.int 0])), rfl, rfl, ?_, fun v hv2 => ?_⟩
      · rw [List.set_cons_succ, set_app hjl]
      · rcases hv v hv2 with h | ⟨b', l', rfl, h2, h3⟩
        · exact .inl h
        · obtain ⟨j', hj'⟩ := List.getElem?_of_mem h2
          by_cases ej : j = j'
          · subst ej
            rw [hj] at hj'; cases hj'
            exact .inr ⟨b, _, rfl, List.mem_of_getElem? (List.getElem?_set_self hjl), by simp; omega⟩
          · exact .inr ⟨b', l', rfl, List.mem_of_getElem? (by rw [List.getElem?_set_ne ej]; exact hj'), by omega⟩
  · rintro σ G' M' ⟨y3, Mm, rfl, rfl, rfl, hv⟩
    refine ⟨_, _, Wk.refl, tyl_n (n := 0) rfl, 0, ws, rfl, sz (by show ws.length + 1 ≤ _; omega), ?_⟩
    have hsub : List.Sublist M ((p2, HO.lst (ws ++ [.int 0])) :: (Mm ++ ((p, HO.lst us) :: M))) := (((List.Sublist.refl M).cons _).trans (List.sublist_append_right _ _)).cons _
    have x12 := x1.trans x2
    have hka2 : KnAt K G' M a ks := ex_kn x12 (fun _ h => h) hka
    refine ⟨G', M, fun H hv => ⟨hv.ex, fun x hx => hv.mu x (hsub.subset hx), hv.nd.sublist (hsub.map _), fun x hx => hv.dj x (hsub.subset hx)⟩, a, ks, .int, rfl, hka2, ty_int, rfl, fun n' en hn' p3 ws3 Mn3 hws3 => ?_, fun z => hwn _ z⟩
    have en : (n : Int) = (n' : Int) := V.int.inj en
    have en : n = n' := by omega
    subst en
    have hm3 : ∀ x, x ∈ M → x ∈ (p3, HO.lst ws3) :: (Mn3 ++ M) := fun x hx => List.mem_cons_of_mem _ (List.mem_append_right _ hx)
    have hdr3 : DrAt K G' ((p3, HO.lst ws3) :: (Mn3 ++ M)) p3 (drawsAt ks n) := ⟨ws3, lat_0, hws3.mono fun _ _ => drM_v fun x hx => List.mem_cons_of_mem _ (List.mem_append_left _ hx)⟩
    refine ⟨a, p3, ks, _, rfl, rfl, ex_kn Ex.refl hm3 hka2, hdr3, draws_ok ks n, hk8, fun G4 x4 => ?_⟩
    have hsub3 : List.Sublist M ((p3, HO.lst ws3) :: (Mn3 ++ M)) := (List.sublist_append_right _ _).cons _
    refine retW (fun H hv => ⟨hv.ex, fun x hx => hv.mu x (hsub3.subset hx), hv.nd.sublist (hsub3.map _), fun x hx => hv.dj x (hsub3.subset hx)⟩) ?_
    rw [num_draws hn]
    show R (.bl (decide (V.int (n : Int) = .int (n : Int)))) G4 M
    rw [decide_eq_true rfl]
    exact q G4 (x12.trans x4)
theorem pf_law_refused (h : S_law_refused K vs G M R Z) : rd_law_refused K (ends R Z) (sta 4 vs) G M := by
  obtain ⟨_, y, rfl, a, ks, T, rfl, hka, hT, hTi, hw, q⟩ := sp2_of h
  refine ⟨G, M, Wk.refl, G, M, Wk.refl, G, M, Wk.refl, a, ks, T, rfl, hka, hT, hTi, fun n en hn => ?_, fun _ => ?_⟩
  · subst en
    have hw : (decide ((0 : Int) ≤ (n : Int)) && decide ((n : Int) ≤ (prK ks : Int) - 1)) = false := hw
    rw [decide_eq_true (by omega), decide_eq_true (by omega)] at hw; cases hw
  · refine ⟨("NoNumber", true), List.mem_cons_self, rfl, ite2' (fun _ e fe => ?_) (fun z => by cases z)⟩
    refine ⟨_, M, Wk.refl, rfl, ("NoNumber", true), List.mem_cons_self, .inr upd_same, ?_⟩
    refine ⟨rfl, ("NoNumber", true), List.mem_cons_self, .inr upd_same, ?_⟩
    refine ⟨rfl, ("NoNumber", false), List.mem_cons_self, .inr upd_same, ret0 ?_⟩
    exact q _ (Ex.new fe)
theorem at_mem {l : List V} {r : Int} (h0 : 0 ≤ r) (h1 : r < l.length) : ∃ v, atI l r = some v ∧ v ∈ l := by
  obtain ⟨j, rfl⟩ := Int.eq_ofNat_of_zero_le h0
  have hj : l[j]? = some l[j] := List.getElem?_eq_getElem (by omega)
  exact ⟨_, atI_nat hj, List.mem_of_getElem? hj⟩
theorem wi_hi {i lo hi : Int} (h : hi < i) : withinV (.int i) lo hi = false := by
  show (decide (lo ≤ i) && decide (i ≤ hi)) = false
  rw [decide_eq_false (p := i ≤ hi) (by omega), Bool.and_false]
theorem wi_lo {i lo hi : Int} (h : i < lo) : withinV (.int i) lo hi = false := by
  show (decide (lo ≤ i) && decide (i ≤ hi)) = false
  rw [decide_eq_false (p := lo ≤ i) (by omega), Bool.false_and]
theorem p9 : CPow 10 9 := ⟨by decide, by decide, by decide⟩
theorem pf_law_right (h : S_law_right K vs G M R Z) : rd_law_right K (ends R Z) (sta 9 vs) G M := by
  obtain ⟨_, rfl, p, n, c, s, rfl, hn, hs, q⟩ := sp1_of h
  refine ⟨G, M, Wk.refl, p, 6, 64, n, c, s, rfl, rfl, rfl, hn, hs, by decide, by decide, by decide, by decide, fun t us ks G1 c1 s1 x1 hd hk hl hs1 => ?_⟩
  have hl : ks.length ≤ 6 := hl
  have hul : us.length = ks.length := by rw [dpall_len hd, List.length_map]
  refine ⟨G1, _, Wk.refl, us, seq_0, fun u fu => ?_⟩
  obtain ⟨M1, hM1⟩ : ∃ M1, M1 = (t, HO.lst us) :: M.set n (p, pool c1 s1) := ⟨_, rfl⟩
  have hn1 : ((u, HO.lst us) :: (t, HO.lst us) :: M.set n (p, pool c1 s1))[n + 2]? = some (p, pool c1 s1) := set_n hn
  have lt : ∀ {Gx : Hp} {c' s' : Int}, LstAt K Gx ((u, HO.lst us) :: (t, HO.lst us) :: M.set n (p, pool c' s')) t us := lat_cons lat_0
  have kn : ∀ {Gx : Hp} {c' s' : Int}, Ex G1 Gx → KnAt K Gx ((u, HO.lst us) :: (t, HO.lst us) :: M.set n (p, pool c' s')) t ks := fun x => ⟨us, lt, ex_ds x _ hd, hk, by omega⟩
  refine ⟨G1, _, Wk.refl, G1, _, Wk.refl, us, lt, fun i σ G' M' => ∃ y4, σ = [some (.ref p), some (.ref t), some (.ref u), some (.int (prK (ks.take i))), y4, none, none, none, none] ∧ G' = G1 ∧ M' = (u, HO.lst us) :: (t, HO.lst us) :: M.set n (p, pool c1 s1), ⟨none, rfl, rfl, rfl⟩, ?_, ?_, ?_⟩
  · rintro i σ G' M' hi ⟨y4, rfl, rfl, rfl⟩
    exact lt
  · rintro i σ G' M' hi ⟨y4, rfl, rfl, rfl⟩
    have hi : i < us.length := hi
    obtain ⟨k, hp⟩ : ∃ k, ks[i]? = some k := ⟨ks[i], List.getElem?_eq_getElem (by omega)⟩
    obtain ⟨v, hv, hd1⟩ := dpall_get (d := knD k) hd (by rw [List.getElem?_map, hp]; rfl)
    have hok := hk k (List.mem_of_getElem? hp)
    refine asg_L hv ⟨_, _, Wk.refl, k, hd1, hok, ?_⟩
    have h1 := prK_lt (ks.take i) (prK_take_le ks i hk)
    have h2 := manyK_lt hok
    refine ⟨.inr (wide_mul (a := 300 * (ks.take i).length + 1) (b := 300) h1 h2 (by omega) (by decide) ?_), _, _, Wk.refl, some v, ?_, rfl, rfl⟩
    · have : (ks.take i).length ≤ ks.length := by rw [List.length_take]; omega
      omega
    · rw [take_succ' hp, prK_snoc, Int.natCast_mul]; rfl
  rintro σ G' M' ⟨y4, rfl, rfl, rfl⟩
  show rd_law_right_4 K (ends R Z) [some (.ref p), some (.ref t), some (.ref u), some (.int (prK (ks.take us.length))), y4, none, none, none, none] _ _
  rw [hul, List.take_length]
  have hpp := prK_pos ks
  refine ⟨_, _, Wk.refl, t, ks, rfl, kn Ex.refl, ?_⟩
  refine ⟨_, _, Wk.refl, .int, ty_int, ?_⟩
  refine ite2' (fun e => ?_) (fun e => ?_)
  · have e : (!decide (V.int (prK ks : Int) = .int (prK ks : Int))) = true := e
    rw [decide_eq_true rfl] at e; cases e
  refine ⟨_, _, Wk.refl, _, _, Wk.refl, ⟨by decide, by decide⟩, fun i σ Gx M' => ∃ (x c' s' : Int) (y7 : Option V), σ = [some (.ref p), some (.ref t), some (.ref u), some (.int (prK ks)), y4, some (.int (prK ks)), some (.int x), y7, none] ∧ Gx = G' ∧ M' = (u, HO.lst us) :: (t, HO.lst us) :: M.set n (p, pool c' s') ∧ PoolOk s', ⟨0, c1, s1, none, rfl, rfl, rfl, hs1⟩, fun _ _ _ _ _ _ => trivial, ?_, ?_⟩
  · rintro i σ Gx M' hi ⟨x, c2, s2, y7, rfl, rfl, rfl, hs2⟩
    refine ⟨_, _, Wk.refl, p9, mul_r (by decide) (by decide), p9, p, 10 ^ 9, n + 2, c2, s2, rfl, rfl, set_n hn, hs2, by decide, by decide, fun r c3 s3 r0 r1 hs3 => ?_⟩
    refine ⟨_, _, Wk.refl, _, c3, s3, _, rfl, rfl, ?_, hs3⟩
    simp only [List.set_cons_succ, List.set_set]
  rintro σ Gx M' ⟨x, c2, s2, y7, rfl, rfl, rfl, hs2⟩
  refine ⟨_, _, Wk.refl, (by show (0 : Int) < (prK ks : Int); omega), sz4, fun w fw => ⟨p, 6, n + 3, c2, s2, rfl, rfl, set_n hn, hs2, by decide, by decide, fun r c3 s3 r0 r1 hs3 => ⟨(by show (0 : Int) < _; decide), ?_⟩⟩⟩
  obtain ⟨v, hv, hvm⟩ := at_mem (l := [V.int (x % (prK ks : Int)), .int 0, .int ((prK ks : Int) - 1), .int (max 0 ((prK ks : Int) - 2))]) (r := r % 4) (Int.emod_nonneg _ (by decide)) (by show _ < (4 : Int); exact Int.emod_lt_of_pos _ (by decide))
  obtain ⟨m, rfl, hm⟩ : ∃ m : Nat, v = .int m ∧ m < prK ks := by
    have e0 := Int.emod_nonneg x (show (prK ks : Int) ≠ 0 by omega)
    have e1 := Int.emod_lt_of_pos x (show (0 : Int) < (prK ks : Int) by omega)
    rcases List.mem_cons.mp hvm with rfl | hvm
    · exact ⟨(x % (prK ks : Int)).toNat, by congr 1; omega, by omega⟩
    rcases List.mem_cons.mp hvm with rfl | hvm
    · exact ⟨0, rfl, by omega⟩
    rcases List.mem_cons.mp hvm with rfl | hvm
    · exact ⟨prK ks - 1, by congr 1; omega, by omega⟩
    rcases List.mem_cons.mp hvm with rfl | hvm
    · exact ⟨prK ks - 2, by congr 1; omega, by omega⟩
    · cases hvm
  refine ⟨_, _, lst_n (n := 0) rfl, hv, ?_⟩
  show rd_law_right_9 K (ends R Z) [some (.ref p), some (.ref t), some (.ref u), some (.int (prK ks)), y4, some (.int (prK ks)), some (.int m), y7, none] _ _
  refine ⟨Gx, (u, HO.lst us) :: (t, HO.lst us) :: M.set n (p, pool c3 s3), ?_, t, ks, m, rfl, rfl, kn Ex.refl, by omega, hm, fun G2 x2 => ?_⟩
  · simp only [List.set_cons_succ, List.set_set]
    exact Wk.drop0
  have rest : ∀ G3, Ex Gx G3 → rd_law_right_10 K (ends R Z) [some (.ref p), some (.ref t), some (.ref u), some (.int (prK ks)), y4, some (.int (prK ks)), some (.int m), y7, none] G3 ((u, HO.lst us) :: (t, HO.lst us) :: M.set n (p, pool c3 s3)) := by
    intro G3 x3
    refine ⟨_, _, Wk.refl, p9, sz1, fun T fT => ⟨sz7, fun w2 fw2 => ⟨p, 7, n + 3, c3, s3, rfl, rfl, set_n hn, hs3, by decide, by decide, fun r2 c4 s4 q0 q1 hs4 => ?_⟩⟩⟩
    obtain ⟨v, hv, hvm⟩ := at_mem (l := [V.int (prK ks : Int), .int (-1), .int ((prK ks : Int) + 10 ^ 9), .non, .bl true, .str "0", .ref T]) (r := r2) q0 q1
    refine ⟨_, _, lst_n (n := 0) rfl, hv, ?_⟩
    have x4 : Ex G3 (upd G3 T (.tup [.int 0])) := Ex.new fT
    have hy : ∃ Ty : PT, TyK K (upd G3 T (.tup [.int 0])) ((u, HO.lst us) :: (t, HO.lst us) :: M.set n (p, pool c4 s4)) v Ty ∧ (Ty == .int) = isIntV v ∧ withinV v 0 ((prK ks : Int) - 1) = false := by
      rcases List.mem_cons.mp hvm with rfl | hvm
      · exact ⟨.int, ty_int, rfl, wi_hi (by omega)⟩
      rcases List.mem_cons.mp hvm with rfl | hvm
      · exact ⟨.int, ty_int, rfl, wi_lo (by decide)⟩
      rcases List.mem_cons.mp hvm with rfl | hvm
      · exact ⟨.int, ty_int, rfl, wi_hi (by omega)⟩
      rcases List.mem_cons.mp hvm with rfl | hvm
      · exact ⟨.non, ty_non, rfl, rfl⟩
      rcases List.mem_cons.mp hvm with rfl | hvm
      · exact ⟨.bool, ty_bl, rfl, rfl⟩
      rcases List.mem_cons.mp hvm with rfl | hvm
      · exact ⟨.str, ty_str, rfl, rfl⟩
      rcases List.mem_cons.mp hvm with rfl | hvm
      · exact ⟨.tuple, ty_tup sqt_new, rfl, rfl⟩
      · cases hvm
    obtain ⟨Ty, hy1, hy2, hy3⟩ := hy
    refine ⟨upd G3 T (.tup [.int 0]), (u, HO.lst us) :: (t, HO.lst us) :: M.set n (p, pool c4 s4), ?_, t, ks, Ty, rfl, kn (x3.trans x4), hy1, hy2, hy3, fun G5 x5 => ?_⟩
    · simp only [List.set_cons_succ, List.set_set]
      exact Wk.drop0
    refine ⟨t, ks, rfl, kn ((x3.trans x4).trans x5), ?_⟩
    refine ite2' (fun _ => ?_) (fun z => ?_)
    · have hd5 := ex_ds ((x3.trans x4).trans x5) _ hd
      refine ⟨.list (ks.map knD), .list (ks.map knD), dat_list lt (dats_g hd5), dat_list lat_0 (dats_g hd5), (shp_kns (n := 0) ks).shaped (by decide), (shp_kns (n := 0) ks).shaped (by decide), ret0 ?_⟩
      show R (.bl (PyData.eqv _ _)) _ _
      rw [(shp_kns (n := 0) ks).refl]
      exact q _ _ (((x1.trans x3).trans x4).trans x5)
    · have z : decide (V.int (prK ks : Int) = .int (prK ks : Int)) = false := z
      rw [decide_eq_true rfl] at z; cases z
  refine ite2' (fun e => ?_) (fun e => ?_)
  · refine ⟨t, ks, m + 1, rfl, rfl, kn x2, by omega, ?_, fun G3 x3 => rest G3 (x2.trans x3)⟩
    have e : decide ((m : Int) + 1 < (prK ks : Int)) = true := e
    have := of_decide_eq_true e
    omega
  · exact rest G2 x2
theorem pf_law (h : S_law K vs G M R Z) : rd_law K (ends R Z) (sta 2 vs) G M := by
  obtain ⟨_, rfl, a, ns, rfl, hS, hl, q⟩ := sp1_of h
  refine ⟨G, M, Wk.refl, _, lst_g hS, ?_⟩
  have hlen : ((ns.map V.int).length : Int) ≤ 63 := by rw [List.length_map]; omega
  refine ⟨⟨by omega, by omega⟩, fun i σ G' M' => ∃ y1, σ = [some (.ref a), y1] ∧ Ex G G', ⟨none, rfl, Ex.refl⟩, fun _ _ _ _ _ _ => trivial, ?_, ?_⟩
  · rintro i σ G' M' hi ⟨y1, rfl, ex⟩
    have hi : i < (max 1 (min ((ns.map V.int).length : Int) 63)).toNat := hi
    refine ⟨G', M', Wk.refl, a, ns, 0 + i, rfl, rfl, ex_l ex hS, by omega, by omega, hl, fun p c s fp hs => ⟨p, 0, c, s, rfl, rfl, hs, fun G2 M2 ex2 => ?_⟩⟩
    exact ⟨G2, M2, Wk.refl, _, rfl, ex.trans ex2⟩
  · rintro σ G' M' ⟨y1, rfl, ex⟩
    refine ⟨G', M', Wk.refl, sz0, fun p1 f1 => ⟨p1, [], rfl, ⟨[], lat_0, .nil, fun _ z => absurd z List.not_mem_nil, by decide⟩, ?_⟩⟩
    refine ⟨sz0, fun p2 f2 => ⟨p2, [], .int, rfl, ⟨[], lat_0, .nil, fun _ z => absurd z List.not_mem_nil, by decide⟩, ty_int, rfl, fun n en hn p3 us Mn hus => ?_, fun z => by cases z⟩⟩
    have hn : n < 1 := hn
    have e0 : n = 0 := by omega
    subst e0
    have eu : us = [] := by cases hus; rfl
    subst eu
    refine ⟨sz0, fun p4 f4 => ⟨.list [], .list [], dat_ints (ns := []) (lat_cons lat_0), dat_ints (ns := []) lat_0, (shp_ints (n := 0) []).shaped (by decide), (shp_ints (n := 0) []).shaped (by decide), ret0 ?_⟩⟩
    rw [show PyData.eqv (.list []) (.list []) = true from (shp_ints (n := 0) []).refl]
    exact q _ _
end
def topS (i : Nat) : Stmt := PySem.Challenge.pw_blindtouch_k03_rows_numbered.main.body.getD i (.Pass ⟨0, 0, 0, 0⟩)
structure Bs (mg : Str → Option Value) : Prop where
  ValueError : mg "ValueError" = none
  bool : mg "bool" = none
  int : mg "int" = none
  isinstance : mg "isinstance" = none
  len : mg "len" = none
  list : mg "list" = none
  max : mg "max" = none
  min : mg "min" = none
  range : mg "range" = none
  reversed : mg "reversed" = none
  zip : mg "zip" = none
structure Cs (K : PySem.W.Frag) (mg : Str → Option Value) : Prop where
  g_TouchError : XG K mg "TouchError"
  g_NoDraws : XG K mg "NoDraws"
  g_NoNumber : XG K mg "NoNumber"
  r_NoNumber : XR K "NoNumber"
  t_TouchError : ∀ p ∈ tab_tr_TouchError, PySem.W.exmOne K (.ref (cl K p.1)) (.ref (cl K "TouchError")) = some p.2
  n_NoDraws : PySem.W.kitOne K (.type "NoneType") (.ref (cl K "NoDraws")) = some false
  j_NoDraws : ∀ p ∈ tab_is_NoDraws, ExcC K (cl K p.1) ∧ PySem.W.kitOne K (.ref (cl K p.1)) (.ref (cl K "NoDraws")) = some p.2
  n_NoNumber : PySem.W.kitOne K (.type "NoneType") (.ref (cl K "NoNumber")) = some false
  j_NoNumber : ∀ p ∈ tab_is_NoNumber, ExcC K (cl K p.1) ∧ PySem.W.kitOne K (.ref (cl K p.1)) (.ref (cl K "NoNumber")) = some p.2
  n_ValueError : PySem.W.kitOne K (.type "NoneType") (.type "ValueError") = some false
  j_ValueError : ∀ p ∈ tab_is_ValueError, ExcC K (cl K p.1) ∧ PySem.W.kitOne K (.ref (cl K p.1)) (.type "ValueError") = some p.2
abbrev s_law_pool : Stmt := topS 14
abbrev N_law_pool : List Str := ["_law_script", "_law_k", "_law_cell", "_law_seed"]
theorem sc_law_pool : FnScope N_law_pool ["_law_script", "_law_k"] (defScope s_law_pool) := ⟨rfl, rfl, rfl, by decide +kernel, rfl, by decide +kernel, by decide +kernel⟩
theorem fo_law_pool {P : Program} {w : World} {K : PySem.W.Frag} {mg : Str → Option Value} {base : Heap} {f : Addr} {fd : FuncData} (B : Bs mg) (C : Cs K mg) (F : Fun K "_law_pool" "_law_pool" s_law_pool f fd)  :
    FnOk P w K mg base (L2.CX P w) 1 f fd ["_law_script", "_law_k"] (lift (S_law_pool K)) := by
  refine fn_ok F sc_law_pool (fun vs G M R Z h => sp_len2 h) (fun cdv A outer s H E hr => ?_)
  have nd : N_law_pool.Nodup := sc_law_pool.nd
  have hu : _ + 64 < cLine := hr.units
  have tk : Takes (cxOf (L2.CX P w) P w K mg base N_law_pool "_law_pool" (defScope s_law_pool) f cdv A outer s H E) (fun c d _ H => E c d H) := takes_of rfl rfl rfl rfl
  have po : PassesOwn (model P w) _ _ _ := passes_of (X := cxOf (L2.CX P w) P w K mg base N_law_pool "_law_pool" (defScope s_law_pool) f cdv A outer s H E) rfl
  exact ⟨rd_law_pool K, jss_cons (js_set (i := 2) (je_int) nd) (jss_cons (js_if (jt_cmp (kop_lt) (je_var 1) (je_callB kc_len B.len (ja_cons (je_var 0) (ja_nil))) (nomark _)) (jss_cons (js_set (i := 2) (je_ix (je_var 0) (je_var 1)) nd) (jss_nil)) (jss_nil)) (jss_cons (js_set (i := 3) (je_op kop_mod (je_op kop_mul (je_op kop_add (je_op kop_add (je_op kop_mod (je_var 2) (je_int)) (je_op kop_mul (je_op kop_mul (je_int) (je_var 1)) (je_var 1))) (je_int)) (je_int)) (je_int)) nd) (jss_cons (js_if (jt_cmp (kop_lt) (je_var 2) (je_op kop_pow (je_int) (je_int)) (nomark _)) (jss_cons (js_set (i := 2) (je_int) nd) (jss_nil)) (jss_nil)) (jss_cons (js_ret (je_lst (ja_cons (je_var 2) (ja_cons (je_var 3) (ja_nil))))) (jss_nil))))), fun vs G M R Z h => pf_law_pool h⟩
theorem df_law_pool {P : Program} {w : World} {K : PySem.W.Frag} {mg : Str → Option Value} {base : Heap} {f : Addr} {fd : FuncData} (B : Bs mg) (C : Cs K mg) (F : Fun K "_law_pool" "_law_pool" s_law_pool f fd) (b : Binds K fd ["_law_script", "_law_k"] []) (gm : mg "_law_pool" = some (.ref f))  :
    Def P w K mg base 1 "_law_pool" ["_law_script", "_law_k"] (S_law_pool K) := ⟨f, fd, fo_law_pool B C F , gm, F.kp, b⟩
abbrev s_law_take : Stmt := topS 15
abbrev N_law_take : List Str := ["_law_pool_here", "_law_many_here", "_law_found"]
theorem sc_law_take : FnScope N_law_take ["_law_pool_here", "_law_many_here"] (defScope s_law_take) := ⟨rfl, rfl, rfl, by decide +kernel, rfl, by decide +kernel, by decide +kernel⟩
theorem fo_law_take {P : Program} {w : World} {K : PySem.W.Frag} {mg : Str → Option Value} {base : Heap} {f : Addr} {fd : FuncData} (B : Bs mg) (C : Cs K mg) (F : Fun K "_law_take" "_law_take" s_law_take f fd)  :
    FnOk P w K mg base (L2.CX P w) 1 f fd ["_law_pool_here", "_law_many_here"] (lift (S_law_take K)) := by
  refine fn_ok F sc_law_take (fun vs G M R Z h => sp_len2 h) (fun cdv A outer s H E hr => ?_)
  have nd : N_law_take.Nodup := sc_law_take.nd
  have hu : _ + 64 < cLine := hr.units
  have tk : Takes (cxOf (L2.CX P w) P w K mg base N_law_take "_law_take" (defScope s_law_take) f cdv A outer s H E) (fun c d _ H => E c d H) := takes_of rfl rfl rfl rfl
  have po : PassesOwn (model P w) _ _ _ := passes_of (X := cxOf (L2.CX P w) P w K mg base N_law_take "_law_take" (defScope s_law_take) f cdv A outer s H E) rfl
  exact ⟨rd_law_take K, jss_cons (js_if (jt_cmp (kop_gt) (je_ix (je_var 0) (je_int)) (je_int) (nomark _)) (jss_cons (js_set (i := 2) (je_op kop_mod (je_ix (je_var 0) (je_int)) (je_var 1)) nd) (jss_cons (js_asg (je_op kop_fdiv (je_ix (je_var 0) (je_int)) (je_var 1)) (jg_ix (je_var 0) (je_int))) (jss_cons (js_ret (je_var 2)) (jss_nil)))) (jss_nil)) (jss_cons (js_asg (je_op kop_mod (je_op kop_add (je_op kop_mul (je_ix (je_var 0) (je_int)) (je_int)) (je_int)) (je_int)) (jg_ix (je_var 0) (je_int))) (jss_cons (js_ret (je_op kop_mod (je_op kop_fdiv (je_op kop_mod (je_op kop_mul (je_ix (je_var 0) (je_int)) (je_ix (je_var 0) (je_int))) (je_int)) (je_int)) (je_var 1))) (jss_nil))), fun vs G M R Z h => pf_law_take h⟩
theorem df_law_take {P : Program} {w : World} {K : PySem.W.Frag} {mg : Str → Option Value} {base : Heap} {f : Addr} {fd : FuncData} (B : Bs mg) (C : Cs K mg) (F : Fun K "_law_take" "_law_take" s_law_take f fd) (b : Binds K fd ["_law_pool_here", "_law_many_here"] []) (gm : mg "_law_take" = some (.ref f))  :
    Def P w K mg base 1 "_law_take" ["_law_pool_here", "_law_many_here"] (S_law_take K) := ⟨f, fd, fo_law_take B C F , gm, F.kp, b⟩
abbrev s_law_kinds : Stmt := topS 17
abbrev N_law_kinds : List Str := ["_law_pool_here", "_law_most", "_law_far", "_law_kinds_here", "_law_k"]
theorem sc_law_kinds : FnScope N_law_kinds ["_law_pool_here", "_law_most", "_law_far"] (defScope s_law_kinds) := ⟨rfl, rfl, rfl, by decide +kernel, rfl, by decide +kernel, by decide +kernel⟩
theorem fo_law_kinds {P : Program} {w : World} {K : PySem.W.Frag} {mg : Str → Option Value} {base : Heap} {f : Addr} {fd : FuncData} (B : Bs mg) (C : Cs K mg) (F : Fun K "_law_kinds" "_law_kinds" s_law_kinds f fd) (D_law_take : Def P w K mg base 1 "_law_take" ["_law_pool_here", "_law_many_here"] (S_law_take K)) :
    FnOk P w K mg base (L2.CX P w) 2 f fd ["_law_pool_here", "_law_most", "_law_far"] (lift (S_law_kinds K)) := by
  refine fn_ok F sc_law_kinds (fun vs G M R Z h => sp_len3 h) (fun cdv A outer s H E hr => ?_)
  have nd : N_law_kinds.Nodup := sc_law_kinds.nd
  have hu : _ + 64 < cLine := hr.units
  have tk : Takes (cxOf (L2.CX P w) P w K mg base N_law_kinds "_law_kinds" (defScope s_law_kinds) f cdv A outer s H E) (fun c d _ H => E c d H) := takes_of rfl rfl rfl rfl
  have po : PassesOwn (model P w) _ _ _ := passes_of (X := cxOf (L2.CX P w) P w K mg base N_law_kinds "_law_kinds" (defScope s_law_kinds) f cdv A outer s H E) rfl
  exact ⟨rd_law_kinds K, jss_cons (js_set (i := 3) (je_lst (ja_nil)) nd) (jss_cons (js_for po rfl (ji_range1 B.range (ja_cons (je_callD D_law_take hr tk (ja_cons (je_var 0) (ja_cons (je_op kop_add (je_var 1) (je_int)) (ja_nil)))) (ja_nil))) (jg_name (i := 4) nd) (jss_cons (js_if (jt_cmp (kop_eq hu) (je_callD D_law_take hr tk (ja_cons (je_var 0) (ja_cons (je_int) (ja_nil)))) (je_int) (nomark _)) (jss_cons (js_expr (je_bm PySem.F.plainAttrs_list PySem.F.slot_list_append PySem.F.type_list_append km_append (je_var 3) (ja_cons (je_tup (ja_cons (je_str) (ja_cons (je_callD D_law_take hr tk (ja_cons (je_var 0) (ja_cons (je_int) (ja_nil)))) (ja_nil)))) (ja_nil)))) (jss_nil)) (jss_cons (js_expr (je_bm PySem.F.plainAttrs_list PySem.F.slot_list_append PySem.F.type_list_append km_append (je_var 3) (ja_cons (je_tup (ja_cons (je_str) (ja_cons (je_op kop_add (je_int) (je_callD D_law_take hr tk (ja_cons (je_var 0) (ja_cons (je_ix (je_lst (ja_cons (je_int) (ja_cons (je_var 2) (ja_nil)))) (je_callD D_law_take hr tk (ja_cons (je_var 0) (ja_cons (je_int) (ja_nil))))) (ja_nil))))) (ja_nil)))) (ja_nil)))) (jss_nil))) (jss_nil))) (jss_cons (js_ret (je_var 3)) (jss_nil))), fun vs G M R Z h => pf_law_kinds h⟩
theorem df_law_kinds {P : Program} {w : World} {K : PySem.W.Frag} {mg : Str → Option Value} {base : Heap} {f : Addr} {fd : FuncData} (B : Bs mg) (C : Cs K mg) (F : Fun K "_law_kinds" "_law_kinds" s_law_kinds f fd) (b : Binds K fd ["_law_pool_here", "_law_most", "_law_far"] []) (gm : mg "_law_kinds" = some (.ref f)) (D_law_take : Def P w K mg base 1 "_law_take" ["_law_pool_here", "_law_many_here"] (S_law_take K)) :
    Def P w K mg base 2 "_law_kinds" ["_law_pool_here", "_law_most", "_law_far"] (S_law_kinds K) := ⟨f, fd, fo_law_kinds B C F D_law_take, gm, F.kp, b⟩
abbrev s_law_many : Stmt := topS 20
abbrev N_law_many : List Str := ["_law_kind", "_law_many_here", "_law_k"]
theorem sc_law_many : FnScope N_law_many ["_law_kind"] (defScope s_law_many) := ⟨rfl, rfl, rfl, by decide +kernel, rfl, by decide +kernel, by decide +kernel⟩
theorem fo_law_many {P : Program} {w : World} {K : PySem.W.Frag} {mg : Str → Option Value} {base : Heap} {f : Addr} {fd : FuncData} (B : Bs mg) (C : Cs K mg) (F : Fun K "_law_many" "_law_many" s_law_many f fd)  :
    FnOk P w K mg base (L2.CX P w) 1 f fd ["_law_kind"] (lift (S_law_many K)) := by
  refine fn_ok F sc_law_many (fun vs G M R Z h => sp_len1 h) (fun cdv A outer s H E hr => ?_)
  have nd : N_law_many.Nodup := sc_law_many.nd
  have hu : _ + 64 < cLine := hr.units
  have tk : Takes (cxOf (L2.CX P w) P w K mg base N_law_many "_law_many" (defScope s_law_many) f cdv A outer s H E) (fun c d _ H => E c d H) := takes_of rfl rfl rfl rfl
  have po : PassesOwn (model P w) _ _ _ := passes_of (X := cxOf (L2.CX P w) P w K mg base N_law_many "_law_many" (defScope s_law_many) f cdv A outer s H E) rfl
  exact ⟨rd_law_many K, jss_cons (js_if (jt_cmp (kop_eq hu) (je_ix (je_var 0) (je_int)) (je_str) (nomark _)) (jss_cons (js_ret (je_op kop_shl (je_int) (je_ix (je_var 0) (je_int)))) (jss_nil)) (jss_nil)) (jss_cons (js_set (i := 1) (je_int) nd) (jss_cons (js_for po rfl (ji_range1 B.range (ja_cons (je_ix (je_var 0) (je_int)) (ja_nil))) (jg_name (i := 2) nd) (jss_cons (js_set (i := 1) (je_op kop_mul (je_var 1) (je_op kop_add (je_var 2) (je_int))) nd) (jss_nil))) (jss_cons (js_ret (je_var 1)) (jss_nil)))), fun vs G M R Z h => pf_law_many h⟩
theorem df_law_many {P : Program} {w : World} {K : PySem.W.Frag} {mg : Str → Option Value} {base : Heap} {f : Addr} {fd : FuncData} (B : Bs mg) (C : Cs K mg) (F : Fun K "_law_many" "_law_many" s_law_many f fd) (b : Binds K fd ["_law_kind"] []) (gm : mg "_law_many" = some (.ref f))  :
    Def P w K mg base 1 "_law_many" ["_law_kind"] (S_law_many K) := ⟨f, fd, fo_law_many B C F , gm, F.kp, b⟩
abbrev s_leaves : Stmt := topS 8
abbrev N_leaves : List Str := ["high"]
theorem sc_leaves : FnScope N_leaves ["high"] (defScope s_leaves) := ⟨rfl, rfl, rfl, by decide +kernel, rfl, by decide +kernel, by decide +kernel⟩
theorem fo_leaves {P : Program} {w : World} {K : PySem.W.Frag} {mg : Str → Option Value} {base : Heap} {f : Addr} {fd : FuncData} (B : Bs mg) (C : Cs K mg) (F : Fun K "leaves" "leaves" s_leaves f fd)  :
    FnOk P w K mg base (L2.CX P w) 1 f fd ["high"] (lift (S_leaves K)) := by
  refine fn_ok F sc_leaves (fun vs G M R Z h => sp_len1 h) (fun cdv A outer s H E hr => ?_)
  have nd : N_leaves.Nodup := sc_leaves.nd
  have hu : _ + 64 < cLine := hr.units
  have tk : Takes (cxOf (L2.CX P w) P w K mg base N_leaves "leaves" (defScope s_leaves) f cdv A outer s H E) (fun c d _ H => E c d H) := takes_of rfl rfl rfl rfl
  have po : PassesOwn (model P w) _ _ _ := passes_of (X := cxOf (L2.CX P w) P w K mg base N_leaves "leaves" (defScope s_leaves) f cdv A outer s H E) rfl
  exact ⟨rd_leaves K, jss_cons (js_ret (je_op kop_shl (je_int) (je_var 0))) (jss_nil), fun vs G M R Z h => pf_leaves h⟩
theorem df_leaves {P : Program} {w : World} {K : PySem.W.Frag} {mg : Str → Option Value} {base : Heap} {f : Addr} {fd : FuncData} (B : Bs mg) (C : Cs K mg) (F : Fun K "leaves" "leaves" s_leaves f fd) (b : Binds K fd ["high"] []) (gm : mg "leaves" = some (.ref f))  :
    Def P w K mg base 1 "leaves" ["high"] (S_leaves K) := ⟨f, fd, fo_leaves B C F , gm, F.kp, b⟩
abbrev s_many_of : Stmt := topS 9
abbrev N_many_of : List Str := ["kind", "many", "number"]
theorem sc_many_of : FnScope N_many_of ["kind"] (defScope s_many_of) := ⟨rfl, rfl, rfl, by decide +kernel, rfl, by decide +kernel, by decide +kernel⟩
theorem fo_many_of {P : Program} {w : World} {K : PySem.W.Frag} {mg : Str → Option Value} {base : Heap} {f : Addr} {fd : FuncData} (B : Bs mg) (C : Cs K mg) (F : Fun K "many_of" "many_of" s_many_of f fd) (D_leaves : Def P w K mg base 1 "leaves" ["high"] (S_leaves K)) :
    FnOk P w K mg base (L2.CX P w) 2 f fd ["kind"] (lift (S_many_of K)) := by
  refine fn_ok F sc_many_of (fun vs G M R Z h => sp_len1 h) (fun cdv A outer s H E hr => ?_)
  have nd : N_many_of.Nodup := sc_many_of.nd
  have hu : _ + 64 < cLine := hr.units
  have tk : Takes (cxOf (L2.CX P w) P w K mg base N_many_of "many_of" (defScope s_many_of) f cdv A outer s H E) (fun c d _ H => E c d H) := takes_of rfl rfl rfl rfl
  have po : PassesOwn (model P w) _ _ _ := passes_of (X := cxOf (L2.CX P w) P w K mg base N_many_of "many_of" (defScope s_many_of) f cdv A outer s H E) rfl
  exact ⟨rd_many_of K, jss_cons (js_if (jt_cmp (kop_eq hu) (je_ix (je_var 0) (je_int)) (je_str) (nomark _)) (jss_cons (js_ret (je_callD D_leaves hr tk (ja_cons (je_ix (je_var 0) (je_int)) (ja_nil)))) (jss_nil)) (jss_nil)) (jss_cons (js_set (i := 1) (je_int) nd) (jss_cons (js_for po rfl (ji_range2 B.range (ja_cons (je_int) (ja_cons (je_op kop_add (je_ix (je_var 0) (je_int)) (je_int)) (ja_nil)))) (jg_name (i := 2) nd) (jss_cons (js_set (i := 1) (je_op kop_mul (je_var 1) (je_var 2)) nd) (jss_nil))) (jss_cons (js_ret (je_var 1)) (jss_nil)))), fun vs G M R Z h => pf_many_of h⟩
theorem df_many_of {P : Program} {w : World} {K : PySem.W.Frag} {mg : Str → Option Value} {base : Heap} {f : Addr} {fd : FuncData} (B : Bs mg) (C : Cs K mg) (F : Fun K "many_of" "many_of" s_many_of f fd) (b : Binds K fd ["kind"] []) (gm : mg "many_of" = some (.ref f)) (D_leaves : Def P w K mg base 1 "leaves" ["high"] (S_leaves K)) :
    Def P w K mg base 2 "many_of" ["kind"] (S_many_of K) := ⟨f, fd, fo_many_of B C F D_leaves, gm, F.kp, b⟩
abbrev s_how_many : Stmt := topS 10
abbrev N_how_many : List Str := ["kinds", "many", "kind"]
theorem sc_how_many : FnScope N_how_many ["kinds"] (defScope s_how_many) := ⟨rfl, rfl, rfl, by decide +kernel, rfl, by decide +kernel, by decide +kernel⟩
theorem fo_how_many {P : Program} {w : World} {K : PySem.W.Frag} {mg : Str → Option Value} {base : Heap} {f : Addr} {fd : FuncData} (B : Bs mg) (C : Cs K mg) (F : Fun K "how_many" "how_many" s_how_many f fd) (D_many_of : Def P w K mg base 2 "many_of" ["kind"] (S_many_of K)) :
    FnOk P w K mg base (L2.CX P w) 3 f fd ["kinds"] (lift (S_how_many K)) := by
  refine fn_ok F sc_how_many (fun vs G M R Z h => sp_len1 h) (fun cdv A outer s H E hr => ?_)
  have nd : N_how_many.Nodup := sc_how_many.nd
  have hu : _ + 64 < cLine := hr.units
  have tk : Takes (cxOf (L2.CX P w) P w K mg base N_how_many "how_many" (defScope s_how_many) f cdv A outer s H E) (fun c d _ H => E c d H) := takes_of rfl rfl rfl rfl
  have po : PassesOwn (model P w) _ _ _ := passes_of (X := cxOf (L2.CX P w) P w K mg base N_how_many "how_many" (defScope s_how_many) f cdv A outer s H E) rfl
  exact ⟨rd_how_many K, jss_cons (js_set (i := 1) (je_int) nd) (jss_cons (js_for po rfl (ji_list (je_var 0)) (jg_name (i := 2) nd) (jss_cons (js_set (i := 1) (je_op kop_mul (je_var 1) (je_callD D_many_of hr tk (ja_cons (je_var 2) (ja_nil)))) nd) (jss_nil))) (jss_cons (js_ret (je_var 1)) (jss_nil))), fun vs G M R Z h => pf_how_many h⟩
theorem df_how_many {P : Program} {w : World} {K : PySem.W.Frag} {mg : Str → Option Value} {base : Heap} {f : Addr} {fd : FuncData} (B : Bs mg) (C : Cs K mg) (F : Fun K "how_many" "how_many" s_how_many f fd) (b : Binds K fd ["kinds"] []) (gm : mg "how_many" = some (.ref f)) (D_many_of : Def P w K mg base 2 "many_of" ["kind"] (S_many_of K)) :
    Def P w K mg base 3 "how_many" ["kinds"] (S_how_many K) := ⟨f, fd, fo_how_many B C F D_many_of, gm, F.kp, b⟩
abbrev s_law_whole : Stmt := topS 16
abbrev N_law_whole : List Str := ["_law_found"]
theorem sc_law_whole : FnScope N_law_whole ["_law_found"] (defScope s_law_whole) := ⟨rfl, rfl, rfl, by decide +kernel, rfl, by decide +kernel, by decide +kernel⟩
theorem fo_law_whole {P : Program} {w : World} {K : PySem.W.Frag} {mg : Str → Option Value} {base : Heap} {f : Addr} {fd : FuncData} (B : Bs mg) (C : Cs K mg) (F : Fun K "_law_whole" "_law_whole" s_law_whole f fd)  :
    FnOk P w K mg base (L2.CX P w) 1 f fd ["_law_found"] (lift (S_law_whole K)) := by
  refine fn_ok F sc_law_whole (fun vs G M R Z h => sp_len1 h) (fun cdv A outer s H E hr => ?_)
  have nd : N_law_whole.Nodup := sc_law_whole.nd
  have hu : _ + 64 < cLine := hr.units
  have tk : Takes (cxOf (L2.CX P w) P w K mg base N_law_whole "_law_whole" (defScope s_law_whole) f cdv A outer s H E) (fun c d _ H => E c d H) := takes_of rfl rfl rfl rfl
  have po : PassesOwn (model P w) _ _ _ := passes_of (X := cxOf (L2.CX P w) P w K mg base N_law_whole "_law_whole" (defScope s_law_whole) f cdv A outer s H E) rfl
  exact ⟨rd_law_whole K, jss_cons (js_ret (je_and (je_callB kc_isi B.isinstance (ja_cons (je_var 0) (ja_cons (je_ty B.int) (ja_nil)))) (je_one (je_not (je_callB kc_isi B.isinstance (ja_cons (je_var 0) (ja_cons (je_ty B.bool) (ja_nil)))))))) (jss_nil), fun vs G M R Z h => pf_law_whole h⟩
theorem df_law_whole {P : Program} {w : World} {K : PySem.W.Frag} {mg : Str → Option Value} {base : Heap} {f : Addr} {fd : FuncData} (B : Bs mg) (C : Cs K mg) (F : Fun K "_law_whole" "_law_whole" s_law_whole f fd) (b : Binds K fd ["_law_found"] []) (gm : mg "_law_whole" = some (.ref f))  :
    Def P w K mg base 1 "_law_whole" ["_law_found"] (S_law_whole K) := ⟨f, fd, fo_law_whole B C F , gm, F.kp, b⟩
abbrev s_is_whole : Stmt := topS 5
abbrev N_is_whole : List Str := ["thing"]
theorem sc_is_whole : FnScope N_is_whole ["thing"] (defScope s_is_whole) := ⟨rfl, rfl, rfl, by decide +kernel, rfl, by decide +kernel, by decide +kernel⟩
theorem fo_is_whole {P : Program} {w : World} {K : PySem.W.Frag} {mg : Str → Option Value} {base : Heap} {f : Addr} {fd : FuncData} (B : Bs mg) (C : Cs K mg) (F : Fun K "is_whole" "is_whole" s_is_whole f fd)  :
    FnOk P w K mg base (L2.CX P w) 1 f fd ["thing"] (lift (S_is_whole K)) := by
  refine fn_ok F sc_is_whole (fun vs G M R Z h => sp_len1 h) (fun cdv A outer s H E hr => ?_)
  have nd : N_is_whole.Nodup := sc_is_whole.nd
  have hu : _ + 64 < cLine := hr.units
  have tk : Takes (cxOf (L2.CX P w) P w K mg base N_is_whole "is_whole" (defScope s_is_whole) f cdv A outer s H E) (fun c d _ H => E c d H) := takes_of rfl rfl rfl rfl
  have po : PassesOwn (model P w) _ _ _ := passes_of (X := cxOf (L2.CX P w) P w K mg base N_is_whole "is_whole" (defScope s_is_whole) f cdv A outer s H E) rfl
  exact ⟨rd_is_whole K, jss_cons (js_ret (je_and (je_callB kc_isi B.isinstance (ja_cons (je_var 0) (ja_cons (je_ty B.int) (ja_nil)))) (je_one (je_not (je_callB kc_isi B.isinstance (ja_cons (je_var 0) (ja_cons (je_ty B.bool) (ja_nil)))))))) (jss_nil), fun vs G M R Z h => pf_is_whole h⟩
theorem df_is_whole {P : Program} {w : World} {K : PySem.W.Frag} {mg : Str → Option Value} {base : Heap} {f : Addr} {fd : FuncData} (B : Bs mg) (C : Cs K mg) (F : Fun K "is_whole" "is_whole" s_is_whole f fd) (b : Binds K fd ["thing"] []) (gm : mg "is_whole" = some (.ref f))  :
    Def P w K mg base 1 "is_whole" ["thing"] (S_is_whole K) := ⟨f, fd, fo_is_whole B C F , gm, F.kp, b⟩
abbrev s_is_within : Stmt := topS 6
abbrev N_is_within : List Str := ["thing", "least", "most"]
theorem sc_is_within : FnScope N_is_within ["thing", "least", "most"] (defScope s_is_within) := ⟨rfl, rfl, rfl, by decide +kernel, rfl, by decide +kernel, by decide +kernel⟩
theorem fo_is_within {P : Program} {w : World} {K : PySem.W.Frag} {mg : Str → Option Value} {base : Heap} {f : Addr} {fd : FuncData} (B : Bs mg) (C : Cs K mg) (F : Fun K "is_within" "is_within" s_is_within f fd) (D_is_whole : Def P w K mg base 1 "is_whole" ["thing"] (S_is_whole K)) :
    FnOk P w K mg base (L2.CX P w) 2 f fd ["thing", "least", "most"] (lift (S_is_within K)) := by
  refine fn_ok F sc_is_within (fun vs G M R Z h => sp_len3 h) (fun cdv A outer s H E hr => ?_)
  have nd : N_is_within.Nodup := sc_is_within.nd
  have hu : _ + 64 < cLine := hr.units
  have tk : Takes (cxOf (L2.CX P w) P w K mg base N_is_within "is_within" (defScope s_is_within) f cdv A outer s H E) (fun c d _ H => E c d H) := takes_of rfl rfl rfl rfl
  have po : PassesOwn (model P w) _ _ _ := passes_of (X := cxOf (L2.CX P w) P w K mg base N_is_within "is_within" (defScope s_is_within) f cdv A outer s H E) rfl
  exact ⟨rd_is_within K, jss_cons (js_ret (je_and (je_callD D_is_whole hr tk (ja_cons (je_var 0) (ja_nil))) (je_one (je_chain (kop_le) (kop_le) (je_var 1) (je_var 0) (je_var 2))))) (jss_nil), fun vs G M R Z h => pf_is_within h⟩
theorem df_is_within {P : Program} {w : World} {K : PySem.W.Frag} {mg : Str → Option Value} {base : Heap} {f : Addr} {fd : FuncData} (B : Bs mg) (C : Cs K mg) (F : Fun K "is_within" "is_within" s_is_within f fd) (b : Binds K fd ["thing", "least", "most"] []) (gm : mg "is_within" = some (.ref f)) (D_is_whole : Def P w K mg base 1 "is_whole" ["thing"] (S_is_whole K)) :
    Def P w K mg base 2 "is_within" ["thing", "least", "most"] (S_is_within K) := ⟨f, fd, fo_is_within B C F D_is_whole, gm, F.kp, b⟩
abbrev s_row_at : Stmt := topS 11
abbrev N_row_at : List Str := ["size", "number", "row", "place"]
theorem sc_row_at : FnScope N_row_at ["size", "number"] (defScope s_row_at) := ⟨rfl, rfl, rfl, by decide +kernel, rfl, by decide +kernel, by decide +kernel⟩
theorem fo_row_at {P : Program} {w : World} {K : PySem.W.Frag} {mg : Str → Option Value} {base : Heap} {f : Addr} {fd : FuncData} (B : Bs mg) (C : Cs K mg) (F : Fun K "row_at" "row_at" s_row_at f fd)  :
    FnOk P w K mg base (L2.CX P w) 1 f fd ["size", "number"] (lift (S_row_at K)) := by
  refine fn_ok F sc_row_at (fun vs G M R Z h => sp_len2 h) (fun cdv A outer s H E hr => ?_)
  have nd : N_row_at.Nodup := sc_row_at.nd
  have hu : _ + 64 < cLine := hr.units
  have tk : Takes (cxOf (L2.CX P w) P w K mg base N_row_at "row_at" (defScope s_row_at) f cdv A outer s H E) (fun c d _ H => E c d H) := takes_of rfl rfl rfl rfl
  have po : PassesOwn (model P w) _ _ _ := passes_of (X := cxOf (L2.CX P w) P w K mg base N_row_at "row_at" (defScope s_row_at) f cdv A outer s H E) rfl
  exact ⟨rd_row_at K, jss_cons (js_set (i := 2) (je_lst (ja_nil)) nd) (jss_cons (js_for po rfl (ji_range3 B.range (ja_cons (je_op kop_sub (je_var 0) (je_int)) (ja_cons (je_neg (je_int)) (ja_cons (je_neg (je_int)) (ja_nil))))) (jg_name (i := 3) nd) (jss_cons (js_expr (je_bm PySem.F.plainAttrs_list PySem.F.slot_list_append PySem.F.type_list_append km_append (je_var 2) (ja_cons (je_op kop_mod (je_var 1) (je_op kop_add (je_var 3) (je_int))) (ja_nil)))) (jss_cons (js_set (i := 1) (je_op kop_fdiv (je_var 1) (je_op kop_add (je_var 3) (je_int))) nd) (jss_nil)))) (jss_cons (js_ret (je_revl (je_var 2))) (jss_nil))), fun vs G M R Z h => pf_row_at h⟩
theorem df_row_at {P : Program} {w : World} {K : PySem.W.Frag} {mg : Str → Option Value} {base : Heap} {f : Addr} {fd : FuncData} (B : Bs mg) (C : Cs K mg) (F : Fun K "row_at" "row_at" s_row_at f fd) (b : Binds K fd ["size", "number"] []) (gm : mg "row_at" = some (.ref f))  :
    Def P w K mg base 1 "row_at" ["size", "number"] (S_row_at K) := ⟨f, fd, fo_row_at B C F , gm, F.kp, b⟩
abbrev s_draws_at : Stmt := topS 12
abbrev N_draws_at : List Str := ["kinds", "number", "draws", "kind", "own"]
theorem sc_draws_at : FnScope N_draws_at ["kinds", "number"] (defScope s_draws_at) := ⟨rfl, rfl, rfl, by decide +kernel, rfl, by decide +kernel, by decide +kernel⟩
theorem fo_draws_at {P : Program} {w : World} {K : PySem.W.Frag} {mg : Str → Option Value} {base : Heap} {f : Addr} {fd : FuncData} (B : Bs mg) (C : Cs K mg) (F : Fun K "draws_at" "draws_at" s_draws_at f fd) (D_how_many : Def P w K mg base 3 "how_many" ["kinds"] (S_how_many K)) (D_is_within : Def P w K mg base 2 "is_within" ["thing", "least", "most"] (S_is_within K)) (D_many_of : Def P w K mg base 2 "many_of" ["kind"] (S_many_of K)) (D_row_at : Def P w K mg base 1 "row_at" ["size", "number"] (S_row_at K)) :
    FnOk P w K mg base (L2.CX P w) 4 f fd ["kinds", "number"] (lift (S_draws_at K)) := by
  refine fn_ok F sc_draws_at (fun vs G M R Z h => sp_len2 h) (fun cdv A outer s H E hr => ?_)
  have nd : N_draws_at.Nodup := sc_draws_at.nd
  have hu : _ + 64 < cLine := hr.units
  have tk : Takes (cxOf (L2.CX P w) P w K mg base N_draws_at "draws_at" (defScope s_draws_at) f cdv A outer s H E) (fun c d _ H => E c d H) := takes_of rfl rfl rfl rfl
  have po : PassesOwn (model P w) _ _ _ := passes_of (X := cxOf (L2.CX P w) P w K mg base N_draws_at "draws_at" (defScope s_draws_at) f cdv A outer s H E) rfl
  exact ⟨rd_draws_at K, jss_cons (js_if (jt_not (jt_val (je_callD D_is_within hr tk (ja_cons (je_var 1) (ja_cons (je_int) (ja_cons (je_op kop_sub (je_callD D_how_many hr tk (ja_cons (je_var 0) (ja_nil))) (je_int)) (ja_nil))))))) (jss_cons (js_raise C.g_NoNumber C.r_NoNumber tk) (jss_nil)) (jss_nil)) (jss_cons (js_set (i := 2) (je_lst (ja_nil)) nd) (jss_cons (js_for po rfl (ji_rev B.reversed (ja_cons (je_var 0) (ja_nil))) (jg_name (i := 3) nd) (jss_cons (js_set (i := 4) (je_op kop_mod (je_var 1) (je_callD D_many_of hr tk (ja_cons (je_var 3) (ja_nil)))) nd) (jss_cons (js_set (i := 1) (je_op kop_fdiv (je_var 1) (je_callD D_many_of hr tk (ja_cons (je_var 3) (ja_nil)))) nd) (jss_cons (js_expr (je_bm PySem.F.plainAttrs_list PySem.F.slot_list_append PySem.F.type_list_append km_append (je_var 2) (ja_cons (je_ite (jt_cmp (kop_eq hu) (je_ix (je_var 3) (je_int)) (je_str) (nomark _)) (je_var 4) (je_callD D_row_at hr tk (ja_cons (je_ix (je_var 3) (je_int)) (ja_cons (je_var 4) (ja_nil))))) (ja_nil)))) (jss_nil))))) (jss_cons (js_ret (je_revl (je_var 2))) (jss_nil)))), fun vs G M R Z h => pf_draws_at h⟩
theorem df_draws_at {P : Program} {w : World} {K : PySem.W.Frag} {mg : Str → Option Value} {base : Heap} {f : Addr} {fd : FuncData} (B : Bs mg) (C : Cs K mg) (F : Fun K "draws_at" "draws_at" s_draws_at f fd) (b : Binds K fd ["kinds", "number"] []) (gm : mg "draws_at" = some (.ref f)) (D_how_many : Def P w K mg base 3 "how_many" ["kinds"] (S_how_many K)) (D_is_within : Def P w K mg base 2 "is_within" ["thing", "least", "most"] (S_is_within K)) (D_many_of : Def P w K mg base 2 "many_of" ["kind"] (S_many_of K)) (D_row_at : Def P w K mg base 1 "row_at" ["size", "number"] (S_row_at K)) :
    Def P w K mg base 4 "draws_at" ["kinds", "number"] (S_draws_at K) := ⟨f, fd, fo_draws_at B C F D_how_many D_is_within D_many_of D_row_at, gm, F.kp, b⟩
abbrev s_law_are_draws : Stmt := topS 22
abbrev N_law_are_draws : List Str := ["_law_kinds_here", "_law_thing", "_law_kind", "_law_draw_here", "_law_k"]
theorem sc_law_are_draws : FnScope N_law_are_draws ["_law_kinds_here", "_law_thing"] (defScope s_law_are_draws) := ⟨rfl, rfl, rfl, by decide +kernel, rfl, by decide +kernel, by decide +kernel⟩
theorem fo_law_are_draws {P : Program} {w : World} {K : PySem.W.Frag} {mg : Str → Option Value} {base : Heap} {f : Addr} {fd : FuncData} (B : Bs mg) (C : Cs K mg) (F : Fun K "_law_are_draws" "_law_are_draws" s_law_are_draws f fd) (D_law_whole : Def P w K mg base 1 "_law_whole" ["_law_found"] (S_law_whole K)) :
    FnOk P w K mg base (L2.CX P w) 2 f fd ["_law_kinds_here", "_law_thing"] (lift (S_law_are_draws K)) := by
  refine fn_ok F sc_law_are_draws (fun vs G M R Z h => sp_len2 h) (fun cdv A outer s H E hr => ?_)
  have nd : N_law_are_draws.Nodup := sc_law_are_draws.nd
  have hu : _ + 64 < cLine := hr.units
  have tk : Takes (cxOf (L2.CX P w) P w K mg base N_law_are_draws "_law_are_draws" (defScope s_law_are_draws) f cdv A outer s H E) (fun c d _ H => E c d H) := takes_of rfl rfl rfl rfl
  have po : PassesOwn (model P w) _ _ _ := passes_of (X := cxOf (L2.CX P w) P w K mg base N_law_are_draws "_law_are_draws" (defScope s_law_are_draws) f cdv A outer s H E) rfl
  exact ⟨rd_law_are_draws K, jss_cons (js_if ((jw_or (jt_not (jt_val (je_callB kc_isi B.isinstance (ja_cons (je_var 1) (ja_cons (je_ty B.list) (ja_nil)))))) (jw_or1 (jt_cmp (kop_ne hu) (je_callB kc_len B.len (ja_cons (je_var 1) (ja_nil))) (je_callB kc_len B.len (ja_cons (je_var 0) (ja_nil))) (nomark _)))).jt) (jss_cons (js_ret (je_bl)) (jss_nil)) (jss_nil)) (jss_cons (js_for po rfl (ji_zip B.zip (ja_cons (je_var 0) (ja_cons (je_var 1) (ja_nil)))) (jg_tup rfl (jgs_cons (jg_name (i := 2) nd) (jgs_cons (jg_name (i := 3) nd) (jgs_nil)))) (jss_cons (js_if (jt_cmp (kop_eq hu) (je_ix (je_var 2) (je_int)) (je_str) (nomark _)) (jss_cons (js_if ((jw_or (jt_not (jt_val (je_callD D_law_whole hr tk (ja_cons (je_var 3) (ja_nil))))) (jw_or1 (jt_not (jt_chain (kop_le) (kop_lt) (je_int) (je_var 3) (je_op kop_shl (je_int) (je_ix (je_var 2) (je_int))))))).jt) (jss_cons (js_ret (je_bl)) (jss_nil)) (jss_nil)) (jss_nil)) (jss_cons (js_if ((jw_or (jt_not (jt_val (je_callB kc_isi B.isinstance (ja_cons (je_var 3) (ja_cons (je_ty B.list) (ja_nil)))))) (jw_or1 (jt_cmp (kop_ne hu) (je_callB kc_len B.len (ja_cons (je_var 3) (ja_nil))) (je_ix (je_var 2) (je_int)) (nomark _)))).jt) (jss_cons (js_ret (je_bl)) (jss_nil)) (jss_cons (js_if (jt_cmp (kop_ne hu) (je_comp (own := [("_law_k", 4)]) rfl nd (ji_range1 B.range (ja_cons (je_ix (je_var 2) (je_int)) (ja_nil))) (blkOk_by (own := [("_law_k", 4)]) (N := N_law_are_draws) (sc := defScope s_law_are_draws) (by decide +kernel)) (fun _ _ _ _ _ => by exact jg_name (i := 4) nd) (fun _ _ _ _ _ => by exact jts_one ((jw_or (jt_not (jt_val (je_callD D_law_whole hr takes0 (ja_cons (je_ix (je_var 3) (je_var 4)) (ja_nil))))) (jw_or1 (jt_not (jt_chain (kop_le) (kop_le) (je_int) (je_ix (je_var 3) (je_var 4)) (je_var 4))))).jt)) (fun _ _ _ _ _ => by exact je_var 4)) (je_lst (ja_nil)) (nomark _)) (jss_cons (js_ret (je_bl)) (jss_nil)) (jss_nil)) (jss_nil))) (jss_nil))) (jss_nil))) (jss_cons (js_ret (je_bl)) (jss_nil))), fun vs G M R Z h => pf_law_are_draws h⟩
theorem df_law_are_draws {P : Program} {w : World} {K : PySem.W.Frag} {mg : Str → Option Value} {base : Heap} {f : Addr} {fd : FuncData} (B : Bs mg) (C : Cs K mg) (F : Fun K "_law_are_draws" "_law_are_draws" s_law_are_draws f fd) (b : Binds K fd ["_law_kinds_here", "_law_thing"] []) (gm : mg "_law_are_draws" = some (.ref f)) (D_law_whole : Def P w K mg base 1 "_law_whole" ["_law_found"] (S_law_whole K)) :
    Def P w K mg base 2 "_law_are_draws" ["_law_kinds_here", "_law_thing"] (S_law_are_draws K) := ⟨f, fd, fo_law_are_draws B C F D_law_whole, gm, F.kp, b⟩
abbrev s_law_number : Stmt := topS 21
abbrev N_law_number : List Str := ["_law_kinds_here", "_law_draws_here", "_law_number_here", "_law_kind", "_law_draw_here", "_law_k"]
theorem sc_law_number : FnScope N_law_number ["_law_kinds_here", "_law_draws_here"] (defScope s_law_number) := ⟨rfl, rfl, rfl, by decide +kernel, rfl, by decide +kernel, by decide +kernel⟩
theorem fo_law_number {P : Program} {w : World} {K : PySem.W.Frag} {mg : Str → Option Value} {base : Heap} {f : Addr} {fd : FuncData} (B : Bs mg) (C : Cs K mg) (F : Fun K "_law_number" "_law_number" s_law_number f fd)  :
    FnOk P w K mg base (L2.CX P w) 1 f fd ["_law_kinds_here", "_law_draws_here"] (lift (S_law_number K)) := by
  refine fn_ok F sc_law_number (fun vs G M R Z h => sp_len2 h) (fun cdv A outer s H E hr => ?_)
  have nd : N_law_number.Nodup := sc_law_number.nd
  have hu : _ + 64 < cLine := hr.units
  have tk : Takes (cxOf (L2.CX P w) P w K mg base N_law_number "_law_number" (defScope s_law_number) f cdv A outer s H E) (fun c d _ H => E c d H) := takes_of rfl rfl rfl rfl
  have po : PassesOwn (model P w) _ _ _ := passes_of (X := cxOf (L2.CX P w) P w K mg base N_law_number "_law_number" (defScope s_law_number) f cdv A outer s H E) rfl
  exact ⟨rd_law_number K, jss_cons (js_set (i := 2) (je_int) nd) (jss_cons (js_for po rfl (ji_zip B.zip (ja_cons (je_var 0) (ja_cons (je_var 1) (ja_nil)))) (jg_tup rfl (jgs_cons (jg_name (i := 3) nd) (jgs_cons (jg_name (i := 4) nd) (jgs_nil)))) (jss_cons (js_if (jt_cmp (kop_eq hu) (je_ix (je_var 3) (je_int)) (je_str) (nomark _)) (jss_cons (js_set (i := 2) (je_op kop_add (je_op kop_shlW (je_var 2) (je_ix (je_var 3) (je_int))) (je_var 4)) nd) (jss_nil)) (jss_cons (js_for po rfl (ji_range1 B.range (ja_cons (je_ix (je_var 3) (je_int)) (ja_nil))) (jg_name (i := 5) nd) (jss_cons (js_set (i := 2) (je_op kop_add (je_op kop_mul (je_var 2) (je_op kop_add (je_var 5) (je_int))) (je_ix (je_var 4) (je_var 5))) nd) (jss_nil))) (jss_nil))) (jss_nil))) (jss_cons (js_ret (je_var 2)) (jss_nil))), fun vs G M R Z h => pf_law_number h⟩
theorem df_law_number {P : Program} {w : World} {K : PySem.W.Frag} {mg : Str → Option Value} {base : Heap} {f : Addr} {fd : FuncData} (B : Bs mg) (C : Cs K mg) (F : Fun K "_law_number" "_law_number" s_law_number f fd) (b : Binds K fd ["_law_kinds_here", "_law_draws_here"] []) (gm : mg "_law_number" = some (.ref f))  :
    Def P w K mg base 1 "_law_number" ["_law_kinds_here", "_law_draws_here"] (S_law_number K) := ⟨f, fd, fo_law_number B C F , gm, F.kp, b⟩
abbrev s_law_is : Stmt := topS 23
abbrev N_law_is : List Str := ["_law_kinds_here", "_law_number_here", "_law_found", "_law_draw_here"]
theorem sc_law_is : FnScope N_law_is ["_law_kinds_here", "_law_number_here"] (defScope s_law_is) := ⟨rfl, rfl, rfl, by decide +kernel, rfl, by decide +kernel, by decide +kernel⟩
theorem fo_law_is {P : Program} {w : World} {K : PySem.W.Frag} {mg : Str → Option Value} {base : Heap} {f : Addr} {fd : FuncData} (B : Bs mg) (C : Cs K mg) (F : Fun K "_law_is" "_law_is" s_law_is f fd) (D_draws_at : Def P w K mg base 4 "draws_at" ["kinds", "number"] (S_draws_at K)) (D_law_are_draws : Def P w K mg base 2 "_law_are_draws" ["_law_kinds_here", "_law_thing"] (S_law_are_draws K)) (D_law_number : Def P w K mg base 1 "_law_number" ["_law_kinds_here", "_law_draws_here"] (S_law_number K)) :
    FnOk P w K mg base (L2.CX P w) 5 f fd ["_law_kinds_here", "_law_number_here"] (lift (S_law_is K)) := by
  refine fn_ok F sc_law_is (fun vs G M R Z h => sp_len2 h) (fun cdv A outer s H E hr => ?_)
  have nd : N_law_is.Nodup := sc_law_is.nd
  have hu : _ + 64 < cLine := hr.units
  have tk : Takes (cxOf (L2.CX P w) P w K mg base N_law_is "_law_is" (defScope s_law_is) f cdv A outer s H E) (fun c d _ H => E c d H) := takes_of rfl rfl rfl rfl
  have po : PassesOwn (model P w) _ _ _ := passes_of (X := cxOf (L2.CX P w) P w K mg base N_law_is "_law_is" (defScope s_law_is) f cdv A outer s H E) rfl
  exact ⟨rd_law_is K, jss_cons (js_set (i := 2) (je_callD D_draws_at hr tk (ja_cons (je_callTy kc_list B.list (ja_cons (je_var 0) (ja_nil))) (ja_cons (je_var 1) (ja_nil)))) nd) (jss_cons (js_if ((jw_or (jt_not (jt_val (je_callD D_law_are_draws hr tk (ja_cons (je_var 0) (ja_cons (je_var 2) (ja_nil)))))) (jw_or1 (jt_cmp (kop_ne hu) (je_callD D_law_number hr tk (ja_cons (je_var 0) (ja_cons (je_var 2) (ja_nil)))) (je_var 1) (nomark _)))).jt) (jss_cons (js_ret (je_bl)) (jss_nil)) (jss_nil)) (jss_cons (js_for po rfl (ji_list (je_var 2)) (jg_name (i := 3) nd) (jss_cons (js_if (jt_val (je_callB kc_isi B.isinstance (ja_cons (je_var 3) (ja_cons (je_ty B.list) (ja_nil))))) (jss_cons (js_expr (je_bm PySem.F.plainAttrs_list PySem.F.slot_list_append PySem.F.type_list_append km_append (je_var 3) (ja_cons (je_int) (ja_nil)))) (jss_nil)) (jss_nil)) (jss_nil))) (jss_cons (js_expr (je_bm PySem.F.plainAttrs_list PySem.F.slot_list_append PySem.F.type_list_append km_append (je_var 2) (ja_cons (je_int) (ja_nil)))) (jss_cons (js_ret (je_cmp (kop_eq hu) (je_callD D_law_number hr tk (ja_cons (je_var 0) (ja_cons (je_callD D_draws_at hr tk (ja_cons (je_var 0) (ja_cons (je_var 1) (ja_nil)))) (ja_nil)))) (je_var 1) (nomark _))) (jss_nil))))), fun vs G M R Z h => pf_law_is h⟩
theorem df_law_is {P : Program} {w : World} {K : PySem.W.Frag} {mg : Str → Option Value} {base : Heap} {f : Addr} {fd : FuncData} (B : Bs mg) (C : Cs K mg) (F : Fun K "_law_is" "_law_is" s_law_is f fd) (b : Binds K fd ["_law_kinds_here", "_law_number_here"] []) (gm : mg "_law_is" = some (.ref f)) (D_draws_at : Def P w K mg base 4 "draws_at" ["kinds", "number"] (S_draws_at K)) (D_law_are_draws : Def P w K mg base 2 "_law_are_draws" ["_law_kinds_here", "_law_thing"] (S_law_are_draws K)) (D_law_number : Def P w K mg base 1 "_law_number" ["_law_kinds_here", "_law_draws_here"] (S_law_number K)) :
    Def P w K mg base 5 "_law_is" ["_law_kinds_here", "_law_number_here"] (S_law_is K) := ⟨f, fd, fo_law_is B C F D_draws_at D_law_are_draws D_law_number, gm, F.kp, b⟩
abbrev s_law_refused : Stmt := topS 24
abbrev N_law_refused : List Str := ["_law_kinds_here", "_law_thing", "_law_found", "e"]
theorem sc_law_refused : FnScope N_law_refused ["_law_kinds_here", "_law_thing"] (defScope s_law_refused) := ⟨rfl, rfl, rfl, by decide +kernel, rfl, by decide +kernel, by decide +kernel⟩
theorem fo_law_refused {P : Program} {w : World} {K : PySem.W.Frag} {mg : Str → Option Value} {base : Heap} {f : Addr} {fd : FuncData} (B : Bs mg) (C : Cs K mg) (F : Fun K "_law_refused" "_law_refused" s_law_refused f fd) (D_draws_at : Def P w K mg base 4 "draws_at" ["kinds", "number"] (S_draws_at K)) :
    FnOk P w K mg base (L2.CX P w) 5 f fd ["_law_kinds_here", "_law_thing"] (lift (S_law_refused K)) := by
  refine fn_ok F sc_law_refused (fun vs G M R Z h => sp_len2 h) (fun cdv A outer s H E hr => ?_)
  have nd : N_law_refused.Nodup := sc_law_refused.nd
  have hu : _ + 64 < cLine := hr.units
  have tk : Takes (cxOf (L2.CX P w) P w K mg base N_law_refused "_law_refused" (defScope s_law_refused) f cdv A outer s H E) (fun c d _ H => E c d H) := takes_of rfl rfl rfl rfl
  have po : PassesOwn (model P w) _ _ _ := passes_of (X := cxOf (L2.CX P w) P w K mg base N_law_refused "_law_refused" (defScope s_law_refused) f cdv A outer s H E) rfl
  exact ⟨rd_law_refused K, jss_cons (js_set (i := 2) (je_non) nd) (jss_cons (js_try (i := 3) (j := 2) C.g_TouchError C.t_TouchError nd tk (fun W pn xe tk po => by exact jss_cons (js_expr (je_callD D_draws_at hr tk (ja_cons (je_var 0) (ja_cons (je_var 1) (ja_nil))))) (jss_nil))) (jss_cons (js_ret (je_and (je_callB (kc_isX (ClsV.own _) C.n_NoNumber C.j_NoNumber) B.isinstance (ja_cons (je_var 2) (ja_cons (je_cls C.g_NoNumber) (ja_nil)))) (je_and (je_callB (kc_isX (ClsV.ty _) C.n_ValueError C.j_ValueError) B.isinstance (ja_cons (je_var 2) (ja_cons (je_ty B.ValueError) (ja_nil)))) (je_one (je_not (je_callB (kc_isX (ClsV.own _) C.n_NoDraws C.j_NoDraws) B.isinstance (ja_cons (je_var 2) (ja_cons (je_cls C.g_NoDraws) (ja_nil))))))))) (jss_nil))), fun vs G M R Z h => pf_law_refused h⟩
theorem df_law_refused {P : Program} {w : World} {K : PySem.W.Frag} {mg : Str → Option Value} {base : Heap} {f : Addr} {fd : FuncData} (B : Bs mg) (C : Cs K mg) (F : Fun K "_law_refused" "_law_refused" s_law_refused f fd) (b : Binds K fd ["_law_kinds_here", "_law_thing"] []) (gm : mg "_law_refused" = some (.ref f)) (D_draws_at : Def P w K mg base 4 "draws_at" ["kinds", "number"] (S_draws_at K)) :
    Def P w K mg base 5 "_law_refused" ["_law_kinds_here", "_law_thing"] (S_law_refused K) := ⟨f, fd, fo_law_refused B C F D_draws_at, gm, F.kp, b⟩
abbrev s_law_right : Stmt := topS 25
abbrev N_law_right : List Str := ["_law_pool_here", "_law_kinds_here", "_law_kept", "_law_many_here", "_law_kind", "_law_found", "_law_number_here", "_law_k", "_law_odd"]
theorem sc_law_right : FnScope N_law_right ["_law_pool_here"] (defScope s_law_right) := ⟨rfl, rfl, rfl, by decide +kernel, rfl, by decide +kernel, by decide +kernel⟩
theorem fo_law_right {P : Program} {w : World} {K : PySem.W.Frag} {mg : Str → Option Value} {base : Heap} {f : Addr} {fd : FuncData} (B : Bs mg) (C : Cs K mg) (F : Fun K "_law_right" "_law_right" s_law_right f fd) (D_law_kinds : Def P w K mg base 2 "_law_kinds" ["_law_pool_here", "_law_most", "_law_far"] (S_law_kinds K)) (D_law_many : Def P w K mg base 1 "_law_many" ["_law_kind"] (S_law_many K)) (D_how_many : Def P w K mg base 3 "how_many" ["kinds"] (S_how_many K)) (D_law_whole : Def P w K mg base 1 "_law_whole" ["_law_found"] (S_law_whole K)) (D_law_take : Def P w K mg base 1 "_law_take" ["_law_pool_here", "_law_many_here"] (S_law_take K)) (D_law_is : Def P w K mg base 5 "_law_is" ["_law_kinds_here", "_law_number_here"] (S_law_is K)) (D_law_refused : Def P w K mg base 5 "_law_refused" ["_law_kinds_here", "_law_thing"] (S_law_refused K)) :
    FnOk P w K mg base (L2.CX P w) 6 f fd ["_law_pool_here"] (lift (S_law_right K)) := by
  refine fn_ok F sc_law_right (fun vs G M R Z h => sp_len1 h) (fun cdv A outer s H E hr => ?_)
  have nd : N_law_right.Nodup := sc_law_right.nd
  have hu : _ + 64 < cLine := hr.units
  have tk : Takes (cxOf (L2.CX P w) P w K mg base N_law_right "_law_right" (defScope s_law_right) f cdv A outer s H E) (fun c d _ H => E c d H) := takes_of rfl rfl rfl rfl
  have po : PassesOwn (model P w) _ _ _ := passes_of (X := cxOf (L2.CX P w) P w K mg base N_law_right "_law_right" (defScope s_law_right) f cdv A outer s H E) rfl
  exact ⟨rd_law_right K, jss_cons (js_set (i := 1) (je_callD D_law_kinds hr tk (ja_cons (je_var 0) (ja_cons (je_int) (ja_cons (je_int) (ja_nil))))) nd) (jss_cons (js_set (i := 2) (je_callTy kc_list B.list (ja_cons (je_var 1) (ja_nil))) nd) (jss_cons (js_set (i := 3) (je_int) nd) (jss_cons (js_for po rfl (ji_list (je_var 1)) (jg_name (i := 4) nd) (jss_cons (js_set (i := 3) (je_op kop_mul (je_var 3) (je_callD D_law_many hr tk (ja_cons (je_var 4) (ja_nil)))) nd) (jss_nil))) (jss_cons (js_set (i := 5) (je_callD D_how_many hr tk (ja_cons (je_var 1) (ja_nil))) nd) (jss_cons (js_if ((jw_or (jt_not (jt_val (je_callD D_law_whole hr tk (ja_cons (je_var 5) (ja_nil))))) (jw_or1 (jt_cmp (kop_ne hu) (je_var 5) (je_var 3) (nomark _)))).jt) (jss_cons (js_ret (je_bl)) (jss_nil)) (jss_nil)) (jss_cons (js_set (i := 6) (je_int) nd) (jss_cons (js_for po rfl (ji_range1 B.range (ja_cons (je_int) (ja_nil))) (jg_name (i := 7) nd) (jss_cons (js_set (i := 6) (je_op kop_add (je_op kop_mul (je_var 6) (je_op kop_pow (je_int) (je_int))) (je_callD D_law_take hr tk (ja_cons (je_var 0) (ja_cons (je_op kop_pow (je_int) (je_int)) (ja_nil))))) nd) (jss_nil))) (jss_cons (js_set (i := 6) (je_ix (je_lst (ja_cons (je_op kop_mod (je_var 6) (je_var 3)) (ja_cons (je_int) (ja_cons (je_op kop_sub (je_var 3) (je_int)) (ja_cons (je_callB kc_max2 B.max (ja_cons (je_int) (ja_cons (je_op kop_sub (je_var 3) (je_int)) (ja_nil)))) (ja_nil)))))) (je_op kop_mod (je_callD D_law_take hr tk (ja_cons (je_var 0) (ja_cons (je_int) (ja_nil)))) (je_int))) nd) (jss_cons (js_if ((jw_or (jt_not (jt_val (je_callD D_law_is hr tk (ja_cons (je_var 1) (ja_cons (je_var 6) (ja_nil)))))) (jw_or1 ((jw_and (jt_cmp (kop_lt) (je_op kop_add (je_var 6) (je_int)) (je_var 3) (nomark _)) (jw_and1 (jt_not (jt_val (je_callD D_law_is hr tk (ja_cons (je_var 1) (ja_cons (je_op kop_add (je_var 6) (je_int)) (ja_nil)))))))).jt))).jt) (jss_cons (js_ret (je_bl)) (jss_nil)) (jss_nil)) (jss_cons (js_set (i := 8) (je_ix (je_lst (ja_cons (je_var 3) (ja_cons (je_neg (je_int)) (ja_cons (je_op kop_add (je_var 3) (je_op kop_pow (je_int) (je_int))) (ja_cons (je_non) (ja_cons (je_bl) (ja_cons (je_str) (ja_cons (je_tup (ja_cons (je_int) (ja_nil))) (ja_nil))))))))) (je_callD D_law_take hr tk (ja_cons (je_var 0) (ja_cons (je_int) (ja_nil))))) nd) (jss_cons (js_ret (je_and (je_callD D_law_refused hr tk (ja_cons (je_var 1) (ja_cons (je_var 8) (ja_nil)))) (je_and (je_cmp (kop_eq hu) (je_callD D_how_many hr tk (ja_cons (je_var 1) (ja_nil))) (je_var 3) (nomark _)) (je_one (je_cmp (kop_eq hu) (je_var 1) (je_var 2) (nomark _)))))) (jss_nil)))))))))))), fun vs G M R Z h => pf_law_right h⟩
theorem df_law_right {P : Program} {w : World} {K : PySem.W.Frag} {mg : Str → Option Value} {base : Heap} {f : Addr} {fd : FuncData} (B : Bs mg) (C : Cs K mg) (F : Fun K "_law_right" "_law_right" s_law_right f fd) (b : Binds K fd ["_law_pool_here"] []) (gm : mg "_law_right" = some (.ref f)) (D_law_kinds : Def P w K mg base 2 "_law_kinds" ["_law_pool_here", "_law_most", "_law_far"] (S_law_kinds K)) (D_law_many : Def P w K mg base 1 "_law_many" ["_law_kind"] (S_law_many K)) (D_how_many : Def P w K mg base 3 "how_many" ["kinds"] (S_how_many K)) (D_law_whole : Def P w K mg base 1 "_law_whole" ["_law_found"] (S_law_whole K)) (D_law_take : Def P w K mg base 1 "_law_take" ["_law_pool_here", "_law_many_here"] (S_law_take K)) (D_law_is : Def P w K mg base 5 "_law_is" ["_law_kinds_here", "_law_number_here"] (S_law_is K)) (D_law_refused : Def P w K mg base 5 "_law_refused" ["_law_kinds_here", "_law_thing"] (S_law_refused K)) :
    Def P w K mg base 6 "_law_right" ["_law_pool_here"] (S_law_right K) := ⟨f, fd, fo_law_right B C F D_law_kinds D_law_many D_how_many D_law_whole D_law_take D_law_is D_law_refused, gm, F.kp, b⟩
abbrev s_law : Stmt := topS 26
abbrev N_law : List Str := ["_law_script", "_law_k"]
theorem sc_law : FnScope N_law ["_law_script"] (defScope s_law) := ⟨rfl, rfl, rfl, by decide +kernel, rfl, by decide +kernel, by decide +kernel⟩
theorem fo_law {P : Program} {w : World} {K : PySem.W.Frag} {mg : Str → Option Value} {base : Heap} {f : Addr} {fd : FuncData} (B : Bs mg) (C : Cs K mg) (F : Fun K "law" "law" s_law f fd) (D_law_pool : Def P w K mg base 1 "_law_pool" ["_law_script", "_law_k"] (S_law_pool K)) (D_law_right : Def P w K mg base 6 "_law_right" ["_law_pool_here"] (S_law_right K)) (D_how_many : Def P w K mg base 3 "how_many" ["kinds"] (S_how_many K)) (D_draws_at : Def P w K mg base 4 "draws_at" ["kinds", "number"] (S_draws_at K)) :
    FnOk P w K mg base (L2.CX P w) 7 f fd ["_law_script"] (lift (S_law K)) := by
  refine fn_ok F sc_law (fun vs G M R Z h => sp_len1 h) (fun cdv A outer s H E hr => ?_)
  have nd : N_law.Nodup := sc_law.nd
  have hu : _ + 64 < cLine := hr.units
  have tk : Takes (cxOf (L2.CX P w) P w K mg base N_law "law" (defScope s_law) f cdv A outer s H E) (fun c d _ H => E c d H) := takes_of rfl rfl rfl rfl
  have po : PassesOwn (model P w) _ _ _ := passes_of (X := cxOf (L2.CX P w) P w K mg base N_law "law" (defScope s_law) f cdv A outer s H E) rfl
  exact ⟨rd_law K, jss_cons (js_for po rfl (ji_range1 B.range (ja_cons (je_callB kc_max2 B.max (ja_cons (je_int) (ja_cons (je_callB kc_min2 B.min (ja_cons (je_callB kc_len B.len (ja_cons (je_var 0) (ja_nil))) (ja_cons (je_int) (ja_nil)))) (ja_nil)))) (ja_nil))) (jg_name (i := 1) nd) (jss_cons (js_if (jt_not (jt_val (je_callD D_law_right hr tk (ja_cons (je_callD D_law_pool hr tk (ja_cons (je_var 0) (ja_cons (je_var 1) (ja_nil)))) (ja_nil))))) (jss_cons (js_ret (je_bl)) (jss_nil)) (jss_nil)) (jss_nil))) (jss_cons (js_ret (je_and (je_cmp (kop_eq hu) (je_callD D_how_many hr tk (ja_cons (je_lst (ja_nil)) (ja_nil))) (je_int) (nomark _)) (je_one (je_cmp (kop_eq hu) (je_callD D_draws_at hr tk (ja_cons (je_lst (ja_nil)) (ja_cons (je_int) (ja_nil)))) (je_lst (ja_nil)) (nomark _))))) (jss_nil)), fun vs G M R Z h => pf_law h⟩
theorem df_law {P : Program} {w : World} {K : PySem.W.Frag} {mg : Str → Option Value} {base : Heap} {f : Addr} {fd : FuncData} (B : Bs mg) (C : Cs K mg) (F : Fun K "law" "law" s_law f fd) (b : Binds K fd ["_law_script"] []) (gm : mg "law" = some (.ref f)) (D_law_pool : Def P w K mg base 1 "_law_pool" ["_law_script", "_law_k"] (S_law_pool K)) (D_law_right : Def P w K mg base 6 "_law_right" ["_law_pool_here"] (S_law_right K)) (D_how_many : Def P w K mg base 3 "how_many" ["kinds"] (S_how_many K)) (D_draws_at : Def P w K mg base 4 "draws_at" ["kinds", "number"] (S_draws_at K)) :
    Def P w K mg base 7 "law" ["_law_script"] (S_law K) := ⟨f, fd, fo_law B C F D_law_pool D_law_right D_how_many D_draws_at, gm, F.kp, b⟩
theorem all_mk {l : PySem.W.OpenLaw} {w : World} {K : PySem.W.Frag} {h : Heap} {mg : Str → Option Value} {fa f0 f1 f2 f3 f4 f5 f6 f7 f8 f9 f10 f11 f12 f13 f14 f15 f16 f17 : Addr} (X : K.In h) (G : h.Ns mainGlobals mg) (hfa : mg "law" = some (.ref fa))
    {od0 an0 od1 an1 od2 an2 od3 an3 od4 an4 od5 an5 od6 an6 od7 an7 od8 an8 od9 an9 od10 an10 od11 an11 od12 an12 od13 an13 od14 an14 od15 an15 od16 an16 od17 an17 : Option Addr} {sl0 sl1 sl2 sl3 sl4 sl5 sl6 sl7 sl8 sl9 sl10 sl11 sl12 sl13 sl14 sl15 sl16 sl17 : Array (Option Value)} {oc0 kV0 dc0 pm0 cd0 ct0 oc1 kV1 dc1 pm1 cd1 ct1 oc2 kV2 dc2 pm2 cd2 ct2 oc3 kV3 dc3 pm3 cd3 ct3 oc4 kV4 dc4 pm4 cd4 ct4 oc5 kV5 dc5 pm5 cd5 ct5 oc6 kV6 dc6 pm6 cd6 ct6 oc7 kV7 dc7 pm7 cd7 ct7 oc8 kV8 dc8 pm8 cd8 ct8 oc9 kV9 dc9 pm9 cd9 ct9 oc10 kV10 dc10 pm10 cd10 ct10 oc11 kV11 dc11 pm11 cd11 ct11 oc12 kV12 dc12 pm12 cd12 ct12 oc13 kV13 dc13 pm13 cd13 ct13 oc14 kV14 dc14 pm14 cd14 ct14 oc15 kV15 dc15 pm15 cd15 ct15 oc16 kV16 dc16 pm16 cd16 ct16 oc17 kV17 dc17 pm17 cd17 ct17 : Value}
    (a0 : PySem.W.nsIn K mainGlobals "_law_pool" = some (some (.ref f0))) (l0 : K.lookup f0 = some ⟨oc0, od0, .func (PySem.W.fnOf "_law_pool" "_law_pool" (defArgs s_law_pool) (defBody s_law_pool) (defScope s_law_pool) .none kV0 dc0 pm0 an0 cd0 ct0), sl0⟩) (c0 : PySem.W.codeIn K cd0 "_law_pool" = true) (k0 : PySem.W.keepIn K (.ref f0) = true)
    (a1 : PySem.W.nsIn K mainGlobals "_law_take" = some (some (.ref f1))) (l1 : K.lookup f1 = some ⟨oc1, od1, .func (PySem.W.fnOf "_law_take" "_law_take" (defArgs s_law_take) (defBody s_law_take) (defScope s_law_take) .none kV1 dc1 pm1 an1 cd1 ct1), sl1⟩) (c1 : PySem.W.codeIn K cd1 "_law_take" = true) (k1 : PySem.W.keepIn K (.ref f1) = true)
    (a2 : PySem.W.nsIn K mainGlobals "_law_kinds" = some (some (.ref f2))) (l2 : K.lookup f2 = some ⟨oc2, od2, .func (PySem.W.fnOf "_law_kinds" "_law_kinds" (defArgs s_law_kinds) (defBody s_law_kinds) (defScope s_law_kinds) .none kV2 dc2 pm2 an2 cd2 ct2), sl2⟩) (c2 : PySem.W.codeIn K cd2 "_law_kinds" = true) (k2 : PySem.W.keepIn K (.ref f2) = true)
    (a3 : PySem.W.nsIn K mainGlobals "_law_many" = some (some (.ref f3))) (l3 : K.lookup f3 = some ⟨oc3, od3, .func (PySem.W.fnOf "_law_many" "_law_many" (defArgs s_law_many) (defBody s_law_many) (defScope s_law_many) .none kV3 dc3 pm3 an3 cd3 ct3), sl3⟩) (c3 : PySem.W.codeIn K cd3 "_law_many" = true) (k3 : PySem.W.keepIn K (.ref f3) = true)
    (a4 : PySem.W.nsIn K mainGlobals "leaves" = some (some (.ref f4))) (l4 : K.lookup f4 = some ⟨oc4, od4, .func (PySem.W.fnOf "leaves" "leaves" (defArgs s_leaves) (defBody s_leaves) (defScope s_leaves) .none kV4 dc4 pm4 an4 cd4 ct4), sl4⟩) (c4 : PySem.W.codeIn K cd4 "leaves" = true) (k4 : PySem.W.keepIn K (.ref f4) = true)
    (a5 : PySem.W.nsIn K mainGlobals "many_of" = some (some (.ref f5))) (l5 : K.lookup f5 = some ⟨oc5, od5, .func (PySem.W.fnOf "many_of" "many_of" (defArgs s_many_of) (defBody s_many_of) (defScope s_many_of) .none kV5 dc5 pm5 an5 cd5 ct5), sl5⟩) (c5 : PySem.W.codeIn K cd5 "many_of" = true) (k5 : PySem.W.keepIn K (.ref f5) = true)
    (a6 : PySem.W.nsIn K mainGlobals "how_many" = some (some (.ref f6))) (l6 : K.lookup f6 = some ⟨oc6, od6, .func (PySem.W.fnOf "how_many" "how_many" (defArgs s_how_many) (defBody s_how_many) (defScope s_how_many) .none kV6 dc6 pm6 an6 cd6 ct6), sl6⟩) (c6 : PySem.W.codeIn K cd6 "how_many" = true) (k6 : PySem.W.keepIn K (.ref f6) = true)
    (a7 : PySem.W.nsIn K mainGlobals "_law_whole" = some (some (.ref f7))) (l7 : K.lookup f7 = some ⟨oc7, od7, .func (PySem.W.fnOf "_law_whole" "_law_whole" (defArgs s_law_whole) (defBody s_law_whole) (defScope s_law_whole) .none kV7 dc7 pm7 an7 cd7 ct7), sl7⟩) (c7 : PySem.W.codeIn K cd7 "_law_whole" = true) (k7 : PySem.W.keepIn K (.ref f7) = true)
    (a8 : PySem.W.nsIn K mainGlobals "is_whole" = some (some (.ref f8))) (l8 : K.lookup f8 = some ⟨oc8, od8, .func (PySem.W.fnOf "is_whole" "is_whole" (defArgs s_is_whole) (defBody s_is_whole) (defScope s_is_whole) .none kV8 dc8 pm8 an8 cd8 ct8), sl8⟩) (c8 : PySem.W.codeIn K cd8 "is_whole" = true) (k8 : PySem.W.keepIn K (.ref f8) = true)
    (a9 : PySem.W.nsIn K mainGlobals "is_within" = some (some (.ref f9))) (l9 : K.lookup f9 = some ⟨oc9, od9, .func (PySem.W.fnOf "is_within" "is_within" (defArgs s_is_within) (defBody s_is_within) (defScope s_is_within) .none kV9 dc9 pm9 an9 cd9 ct9), sl9⟩) (c9 : PySem.W.codeIn K cd9 "is_within" = true) (k9 : PySem.W.keepIn K (.ref f9) = true)
    (a10 : PySem.W.nsIn K mainGlobals "row_at" = some (some (.ref f10))) (l10 : K.lookup f10 = some ⟨oc10, od10, .func (PySem.W.fnOf "row_at" "row_at" (defArgs s_row_at) (defBody s_row_at) (defScope s_row_at) .none kV10 dc10 pm10 an10 cd10 ct10), sl10⟩) (c10 : PySem.W.codeIn K cd10 "row_at" = true) (k10 : PySem.W.keepIn K (.ref f10) = true)
    (a11 : PySem.W.nsIn K mainGlobals "draws_at" = some (some (.ref f11))) (l11 : K.lookup f11 = some ⟨oc11, od11, .func (PySem.W.fnOf "draws_at" "draws_at" (defArgs s_draws_at) (defBody s_draws_at) (defScope s_draws_at) .none kV11 dc11 pm11 an11 cd11 ct11), sl11⟩) (c11 : PySem.W.codeIn K cd11 "draws_at" = true) (k11 : PySem.W.keepIn K (.ref f11) = true)
    (a12 : PySem.W.nsIn K mainGlobals "_law_are_draws" = some (some (.ref f12))) (l12 : K.lookup f12 = some ⟨oc12, od12, .func (PySem.W.fnOf "_law_are_draws" "_law_are_draws" (defArgs s_law_are_draws) (defBody s_law_are_draws) (defScope s_law_are_draws) .none kV12 dc12 pm12 an12 cd12 ct12), sl12⟩) (c12 : PySem.W.codeIn K cd12 "_law_are_draws" = true) (k12 : PySem.W.keepIn K (.ref f12) = true)
    (a13 : PySem.W.nsIn K mainGlobals "_law_number" = some (some (.ref f13))) (l13 : K.lookup f13 = some ⟨oc13, od13, .func (PySem.W.fnOf "_law_number" "_law_number" (defArgs s_law_number) (defBody s_law_number) (defScope s_law_number) .none kV13 dc13 pm13 an13 cd13 ct13), sl13⟩) (c13 : PySem.W.codeIn K cd13 "_law_number" = true) (k13 : PySem.W.keepIn K (.ref f13) = true)
    (a14 : PySem.W.nsIn K mainGlobals "_law_is" = some (some (.ref f14))) (l14 : K.lookup f14 = some ⟨oc14, od14, .func (PySem.W.fnOf "_law_is" "_law_is" (defArgs s_law_is) (defBody s_law_is) (defScope s_law_is) .none kV14 dc14 pm14 an14 cd14 ct14), sl14⟩) (c14 : PySem.W.codeIn K cd14 "_law_is" = true) (k14 : PySem.W.keepIn K (.ref f14) = true)
    (a15 : PySem.W.nsIn K mainGlobals "_law_refused" = some (some (.ref f15))) (l15 : K.lookup f15 = some ⟨oc15, od15, .func (PySem.W.fnOf "_law_refused" "_law_refused" (defArgs s_law_refused) (defBody s_law_refused) (defScope s_law_refused) .none kV15 dc15 pm15 an15 cd15 ct15), sl15⟩) (c15 : PySem.W.codeIn K cd15 "_law_refused" = true) (k15 : PySem.W.keepIn K (.ref f15) = true)
    (a16 : PySem.W.nsIn K mainGlobals "_law_right" = some (some (.ref f16))) (l16 : K.lookup f16 = some ⟨oc16, od16, .func (PySem.W.fnOf "_law_right" "_law_right" (defArgs s_law_right) (defBody s_law_right) (defScope s_law_right) .none kV16 dc16 pm16 an16 cd16 ct16), sl16⟩) (c16 : PySem.W.codeIn K cd16 "_law_right" = true) (k16 : PySem.W.keepIn K (.ref f16) = true)
    (a17 : PySem.W.nsIn K mainGlobals "law" = some (some (.ref f17))) (l17 : K.lookup f17 = some ⟨oc17, od17, .func (PySem.W.fnOf "law" "law" (defArgs s_law) (defBody s_law) (defScope s_law) .none kV17 dc17 pm17 an17 cd17 ct17), sl17⟩) (c17 : PySem.W.codeIn K cd17 "law" = true) (k17 : PySem.W.keepIn K (.ref f17) = true)
    (z_ValueError : PySem.W.nsIn K mainGlobals "ValueError" = some none)
    (z_bool : PySem.W.nsIn K mainGlobals "bool" = some none)
    (z_int : PySem.W.nsIn K mainGlobals "int" = some none)
    (z_isinstance : PySem.W.nsIn K mainGlobals "isinstance" = some none)
    (z_len : PySem.W.nsIn K mainGlobals "len" = some none)
    (z_list : PySem.W.nsIn K mainGlobals "list" = some none)
    (z_max : PySem.W.nsIn K mainGlobals "max" = some none)
    (z_min : PySem.W.nsIn K mainGlobals "min" = some none)
    (z_range : PySem.W.nsIn K mainGlobals "range" = some none)
    (z_reversed : PySem.W.nsIn K mainGlobals "reversed" = some none)
    (z_zip : PySem.W.nsIn K mainGlobals "zip" = some none)
    {X_TouchError X_NoDraws X_NoNumber : Addr}
    (xa_TouchError : PySem.W.nsIn K mainGlobals "TouchError" = some (some (.ref X_TouchError)))
    (xk_TouchError : PySem.W.keepIn K (.ref X_TouchError) = true)
    (xb_TouchError : PySem.W.subIn K (.ref X_TouchError) (.type "BaseException") = some true)
    (xt_TouchError : PySem.W.typeIn K (.ref X_TouchError) = some (.type "type"))
    (x4_TouchError : PySem.W.hasDictIn K X_TouchError = true)
    (xa_NoDraws : PySem.W.nsIn K mainGlobals "NoDraws" = some (some (.ref X_NoDraws)))
    (xk_NoDraws : PySem.W.keepIn K (.ref X_NoDraws) = true)
    (xt_NoDraws : PySem.W.typeIn K (.ref X_NoDraws) = some (.type "type"))
    (x4_NoDraws : PySem.W.hasDictIn K X_NoDraws = true)
    (xs_NoDraws : PySem.W.subIn K (.ref X_NoDraws) (.ref X_NoDraws) = some true)
    (xa_NoNumber : PySem.W.nsIn K mainGlobals "NoNumber" = some (some (.ref X_NoNumber)))
    (xk_NoNumber : PySem.W.keepIn K (.ref X_NoNumber) = true)
    (xx_NoNumber : PySem.W.excIn K X_NoNumber [.type "ValueError", .type "Exception", .type "BaseException", .type "object"] "ValueError.__new__" = true)
    (xb_NoNumber : PySem.W.subIn K (.ref X_NoNumber) (.type "BaseException") = some true)
    (xt_NoNumber : PySem.W.typeIn K (.ref X_NoNumber) = some (.type "type"))
    (x4_NoNumber : PySem.W.hasDictIn K X_NoNumber = true)
    (xs_NoNumber : PySem.W.subIn K (.ref X_NoNumber) (.ref X_NoNumber) = some true)
    (x1_NoNumber : PySem.W.findIn K (.ref X_NoNumber) "__getattribute__" = some (some (.builtin "BaseException.__getattribute__")))
    (x2_NoNumber : PySem.W.findIn K (.ref X_NoNumber) "__getattr__" = some none)
    (x5_NoNumber : PySem.W.findIn K (.ref X_NoNumber) "__class__" = some (some (.builtin "object.__class__")))
    (x8_NoNumber : PySem.W.mroIn K X_NoNumber (.type "object") = some true)
    (x6 : PySem.W.specialIn K (.builtin "object.__class__") "__get__" = some (some (.builtin "getset_descriptor.__get__")))
    (x7 : PySem.W.takesIn K (.builtin "object.__class__") = some true)
    (ni_NoDraws : PySem.W.subIn K (.type "NoneType") (.ref X_NoDraws) = some false)
    (su_NoNumber_NoDraws : PySem.W.subIn K (.ref X_NoNumber) (.ref X_NoDraws) = some false)
    (ni_NoNumber : PySem.W.subIn K (.type "NoneType") (.ref X_NoNumber) = some false)
    (su_NoNumber_NoNumber : PySem.W.subIn K (.ref X_NoNumber) (.ref X_NoNumber) = some true)
    (su_NoNumber_TouchError : PySem.W.subIn K (.ref X_NoNumber) (.ref X_TouchError) = some true)
    (ni_ValueError : PySem.W.subIn K (.type "NoneType") (.type "ValueError") = some false)
    (su_NoNumber_ValueError : PySem.W.subIn K (.ref X_NoNumber) (.type "ValueError") = some true)
    : ∃ fd : FuncData, (∀ (s : Shared) (v : Value), BindsTo s fd ⟨[v], []⟩ [("_law_script", v)]) ∧ ∀ base : Heap, K.In base → base.Ns mainGlobals mg → FnOk l.prog w K mg base (L2.CX l.prog w) 7 fa fd ["_law_script"] (lift (S_law K)) := by
  have e := hfa.symm.trans (PySem.W.mg_of X G a17)
  cases e
  have B : Bs mg := ⟨PySem.W.mg_none_of X G z_ValueError, PySem.W.mg_none_of X G z_bool, PySem.W.mg_none_of X G z_int, PySem.W.mg_none_of X G z_isinstance, PySem.W.mg_none_of X G z_len, PySem.W.mg_none_of X G z_list, PySem.W.mg_none_of X G z_max, PySem.W.mg_none_of X G z_min, PySem.W.mg_none_of X G z_range, PySem.W.mg_none_of X G z_reversed, PySem.W.mg_none_of X G z_zip⟩
  have C : Cs K mg := ⟨xg_mk X G xa_TouchError xk_TouchError, xg_mk X G xa_NoDraws xk_NoDraws, xg_mk X G xa_NoNumber xk_NoNumber, xr_mk xa_NoNumber xx_NoNumber xb_NoNumber xt_NoNumber, List.forall_mem_cons.mpr ⟨by rw [cl_of xa_NoNumber, cl_of xa_TouchError]; exact PySem.W.exm_ref xb_TouchError x4_TouchError xt_TouchError su_NoNumber_TouchError, (fun _ z => nomatch z)⟩, (by rw [cl_of xa_NoDraws]; exact kit_ref x4_NoDraws xt_NoDraws xs_NoDraws ni_NoDraws), List.forall_mem_cons.mpr ⟨⟨xe_mk xa_NoNumber ⟨x1_NoNumber, x2_NoNumber, xb_NoNumber, x4_NoNumber, x5_NoNumber, x6, x7, x8_NoNumber⟩, by rw [cl_of xa_NoNumber, cl_of xa_NoDraws]; exact kit_ref x4_NoDraws xt_NoDraws xs_NoDraws su_NoNumber_NoDraws⟩, (fun _ z => nomatch z)⟩, (by rw [cl_of xa_NoNumber]; exact kit_ref x4_NoNumber xt_NoNumber xs_NoNumber ni_NoNumber), List.forall_mem_cons.mpr ⟨⟨xe_mk xa_NoNumber ⟨x1_NoNumber, x2_NoNumber, xb_NoNumber, x4_NoNumber, x5_NoNumber, x6, x7, x8_NoNumber⟩, by rw [cl_of xa_NoNumber]; exact kit_ref x4_NoNumber xt_NoNumber xs_NoNumber su_NoNumber_NoNumber⟩, (fun _ z => nomatch z)⟩, (by exact kit_tyV (by decide +kernel) (by rfl) ni_ValueError), List.forall_mem_cons.mpr ⟨⟨xe_mk xa_NoNumber ⟨x1_NoNumber, x2_NoNumber, xb_NoNumber, x4_NoNumber, x5_NoNumber, x6, x7, x8_NoNumber⟩, by rw [cl_of xa_NoNumber]; exact kit_tyV (by decide +kernel) (by rfl) su_NoNumber_ValueError⟩, (fun _ z => nomatch z)⟩⟩
  have F0 := fun_mk (st := s_law_pool) l0 c0 k0
  have b0 := F0.binds (ps := ["_law_script", "_law_k"]) fun _ _ _ _ _ _ us hl => match us, hl with | [_, _], _ => rfl
  have F1 := fun_mk (st := s_law_take) l1 c1 k1
  have b1 := F1.binds (ps := ["_law_pool_here", "_law_many_here"]) fun _ _ _ _ _ _ us hl => match us, hl with | [_, _], _ => rfl
  have F2 := fun_mk (st := s_law_kinds) l2 c2 k2
  have b2 := F2.binds (ps := ["_law_pool_here", "_law_most", "_law_far"]) fun _ _ _ _ _ _ us hl => match us, hl with | [_, _, _], _ => rfl
  have F3 := fun_mk (st := s_law_many) l3 c3 k3
  have b3 := F3.binds (ps := ["_law_kind"]) fun _ _ _ _ _ _ us hl => match us, hl with | [_], _ => rfl
  have F4 := fun_mk (st := s_leaves) l4 c4 k4
  have b4 := F4.binds (ps := ["high"]) fun _ _ _ _ _ _ us hl => match us, hl with | [_], _ => rfl
  have F5 := fun_mk (st := s_many_of) l5 c5 k5
  have b5 := F5.binds (ps := ["kind"]) fun _ _ _ _ _ _ us hl => match us, hl with | [_], _ => rfl
  have F6 := fun_mk (st := s_how_many) l6 c6 k6
  have b6 := F6.binds (ps := ["kinds"]) fun _ _ _ _ _ _ us hl => match us, hl with | [_], _ => rfl
  have F7 := fun_mk (st := s_law_whole) l7 c7 k7
  have b7 := F7.binds (ps := ["_law_found"]) fun _ _ _ _ _ _ us hl => match us, hl with | [_], _ => rfl
  have F8 := fun_mk (st := s_is_whole) l8 c8 k8
  have b8 := F8.binds (ps := ["thing"]) fun _ _ _ _ _ _ us hl => match us, hl with | [_], _ => rfl
  have F9 := fun_mk (st := s_is_within) l9 c9 k9
  have b9 := F9.binds (ps := ["thing", "least", "most"]) fun _ _ _ _ _ _ us hl => match us, hl with | [_, _, _], _ => rfl
  have F10 := fun_mk (st := s_row_at) l10 c10 k10
  have b10 := F10.binds (ps := ["size", "number"]) fun _ _ _ _ _ _ us hl => match us, hl with | [_, _], _ => rfl
  have F11 := fun_mk (st := s_draws_at) l11 c11 k11
  have b11 := F11.binds (ps := ["kinds", "number"]) fun _ _ _ _ _ _ us hl => match us, hl with | [_, _], _ => rfl
  have F12 := fun_mk (st := s_law_are_draws) l12 c12 k12
  have b12 := F12.binds (ps := ["_law_kinds_here", "_law_thing"]) fun _ _ _ _ _ _ us hl => match us, hl with | [_, _], _ => rfl
  have F13 := fun_mk (st := s_law_number) l13 c13 k13
  have b13 := F13.binds (ps := ["_law_kinds_here", "_law_draws_here"]) fun _ _ _ _ _ _ us hl => match us, hl with | [_, _], _ => rfl
  have F14 := fun_mk (st := s_law_is) l14 c14 k14
  have b14 := F14.binds (ps := ["_law_kinds_here", "_law_number_here"]) fun _ _ _ _ _ _ us hl => match us, hl with | [_, _], _ => rfl
  have F15 := fun_mk (st := s_law_refused) l15 c15 k15
  have b15 := F15.binds (ps := ["_law_kinds_here", "_law_thing"]) fun _ _ _ _ _ _ us hl => match us, hl with | [_, _], _ => rfl
  have F16 := fun_mk (st := s_law_right) l16 c16 k16
  have b16 := F16.binds (ps := ["_law_pool_here"]) fun _ _ _ _ _ _ us hl => match us, hl with | [_], _ => rfl
  have F17 := fun_mk (st := s_law) l17 c17 k17
  have b17 := F17.binds (ps := ["_law_script"]) fun _ _ _ _ _ _ us hl => match us, hl with | [_], _ => rfl
  refine ⟨PySem.W.fnOf "law" "law" (defArgs s_law) (defBody s_law) (defScope s_law) .none kV17 dc17 pm17 an17 cd17 ct17, fun s v => .of_eq rfl, fun base _ _ => ?_⟩
  have D_law_pool := df_law_pool (P := l.prog) (w := w) (base := base) B C F0 b0 (PySem.W.mg_of X G a0) 
  have D_law_take := df_law_take (P := l.prog) (w := w) (base := base) B C F1 b1 (PySem.W.mg_of X G a1) 
  have D_law_kinds := df_law_kinds (P := l.prog) (w := w) (base := base) B C F2 b2 (PySem.W.mg_of X G a2) D_law_take
  have D_law_many := df_law_many (P := l.prog) (w := w) (base := base) B C F3 b3 (PySem.W.mg_of X G a3) 
  have D_leaves := df_leaves (P := l.prog) (w := w) (base := base) B C F4 b4 (PySem.W.mg_of X G a4) 
  have D_many_of := df_many_of (P := l.prog) (w := w) (base := base) B C F5 b5 (PySem.W.mg_of X G a5) D_leaves
  have D_how_many := df_how_many (P := l.prog) (w := w) (base := base) B C F6 b6 (PySem.W.mg_of X G a6) D_many_of
  have D_law_whole := df_law_whole (P := l.prog) (w := w) (base := base) B C F7 b7 (PySem.W.mg_of X G a7) 
  have D_is_whole := df_is_whole (P := l.prog) (w := w) (base := base) B C F8 b8 (PySem.W.mg_of X G a8) 
  have D_is_within := df_is_within (P := l.prog) (w := w) (base := base) B C F9 b9 (PySem.W.mg_of X G a9) D_is_whole
  have D_row_at := df_row_at (P := l.prog) (w := w) (base := base) B C F10 b10 (PySem.W.mg_of X G a10) 
  have D_draws_at := df_draws_at (P := l.prog) (w := w) (base := base) B C F11 b11 (PySem.W.mg_of X G a11) D_how_many D_is_within D_many_of D_row_at
  have D_law_are_draws := df_law_are_draws (P := l.prog) (w := w) (base := base) B C F12 b12 (PySem.W.mg_of X G a12) D_law_whole
  have D_law_number := df_law_number (P := l.prog) (w := w) (base := base) B C F13 b13 (PySem.W.mg_of X G a13) 
  have D_law_is := df_law_is (P := l.prog) (w := w) (base := base) B C F14 b14 (PySem.W.mg_of X G a14) D_draws_at D_law_are_draws D_law_number
  have D_law_refused := df_law_refused (P := l.prog) (w := w) (base := base) B C F15 b15 (PySem.W.mg_of X G a15) D_draws_at
  have D_law_right := df_law_right (P := l.prog) (w := w) (base := base) B C F16 b16 (PySem.W.mg_of X G a16) D_law_kinds D_law_many D_how_many D_law_whole D_law_take D_law_is D_law_refused
  exact fo_law (P := l.prog) (w := w) (base := base) B C F17 D_law_pool D_law_right D_how_many D_draws_at
end BT
open PySem PySem.W PyProof.Rows
set_option maxHeartbeats 0 in
theorem PySem.Challenge.cw_blindtouch_k03_rows_numbered_holds : PySem.Challenge.rw_blindtouch_k03_rows_numbered.Holds := by
  w_on; o_law; k_head; (case hw => w_witness2)
  k_fill
  refine L2.walk_of (l := PySem.Challenge.rw_blindtouch_k03_rows_numbered) (n := 63) (k := 7) (x := "_law_script") (CX := fun w => L2.CX (PySem.Challenge.rw_blindtouch_k03_rows_numbered).prog w) (sp := fun w => BT.lift (BT.S_law _)) rfl (by decide) rfl ⟨rfl, by decide, by decide⟩ (fun w h Y => PySem.W.kIn_of Y) ?F (fun _ H a ns hl _ hS => BT.law_start hl hS) (fun _ _ _ _ _ h => BT.cx_none h)
  case F =>
    intro w mg fa h KX G hmg
    refine' BT.all_mk KX G hmg ?a0 ?l0 ?c0 ?k0 ?a1 ?l1 ?c1 ?k1 ?a2 ?l2 ?c2 ?k2 ?a3 ?l3 ?c3 ?k3 ?a4 ?l4 ?c4 ?k4 ?a5 ?l5 ?c5 ?k5 ?a6 ?l6 ?c6 ?k6 ?a7 ?l7 ?c7 ?k7 ?a8 ?l8 ?c8 ?k8 ?a9 ?l9 ?c9 ?k9 ?a10 ?l10 ?c10 ?k10 ?a11 ?l11 ?c11 ?k11 ?a12 ?l12 ?c12 ?k12 ?a13 ?l13 ?c13 ?k13 ?a14 ?l14 ?c14 ?k14 ?a15 ?l15 ?c15 ?k15 ?a16 ?l16 ?c16 ?k16 ?a17 ?l17 ?c17 ?k17 ?z_ValueError ?z_bool ?z_int ?z_isinstance ?z_len ?z_list ?z_max ?z_min ?z_range ?z_reversed ?z_zip ?xa_TouchError ?xk_TouchError ?xb_TouchError ?xt_TouchError ?x4_TouchError ?xa_NoDraws ?xk_NoDraws ?xt_NoDraws ?x4_NoDraws ?xs_NoDraws ?xa_NoNumber ?xk_NoNumber ?xx_NoNumber ?xb_NoNumber ?xt_NoNumber ?x4_NoNumber ?xs_NoNumber ?x1_NoNumber ?x2_NoNumber ?x5_NoNumber ?x8_NoNumber ?x6 ?x7 ?ni_NoDraws ?su_NoNumber_NoDraws ?ni_NoNumber ?su_NoNumber_NoNumber ?su_NoNumber_TouchError ?ni_ValueError ?su_NoNumber_ValueError
    (case a0 => k_is); (case l0 => k_is); (case c0 => k_is); (case k0 => k_is); (case a1 => k_is); (case l1 => k_is); (case c1 => k_is); (case k1 => k_is); (case a2 => k_is); (case l2 => k_is); (case c2 => k_is); (case k2 => k_is); (case a3 => k_is); (case l3 => k_is); (case c3 => k_is); (case k3 => k_is); (case a4 => k_is); (case l4 => k_is); (case c4 => k_is); (case k4 => k_is); (case a5 => k_is); (case l5 => k_is); (case c5 => k_is); (case k5 => k_is); (case a6 => k_is); (case l6 => k_is); (case c6 => k_is); (case k6 => k_is); (case a7 => k_is); (case l7 => k_is); (case c7 => k_is); (case k7 => k_is); (case a8 => k_is); (case l8 => k_is); (case c8 => k_is); (case k8 => k_is); (case a9 => k_is); (case l9 => k_is); (case c9 => k_is); (case k9 => k_is); (case a10 => k_is); (case l10 => k_is); (case c10 => k_is); (case k10 => k_is); (case a11 => k_is); (case l11 => k_is); (case c11 => k_is); (case k11 => k_is); (case a12 => k_is); (case l12 => k_is); (case c12 => k_is); (case k12 => k_is); (case a13 => k_is); (case l13 => k_is); (case c13 => k_is); (case k13 => k_is); (case a14 => k_is); (case l14 => k_is); (case c14 => k_is); (case k14 => k_is); (case a15 => k_is); (case l15 => k_is); (case c15 => k_is); (case k15 => k_is); (case a16 => k_is); (case l16 => k_is); (case c16 => k_is); (case k16 => k_is); (case a17 => k_is); (case l17 => k_is); (case c17 => k_is); (case k17 => k_is); (case z_ValueError => k_is); (case z_bool => k_is); (case z_int => k_is); (case z_isinstance => k_is); (case z_len => k_is); (case z_list => k_is); (case z_max => k_is); (case z_min => k_is); (case z_range => k_is); (case z_reversed => k_is); (case z_zip => k_is); (case xa_TouchError => k_is); (case xk_TouchError => k_is); (case xb_TouchError => k_is); (case xt_TouchError => k_is); (case x4_TouchError => k_is); (case xa_NoDraws => k_is); (case xk_NoDraws => k_is); (case xt_NoDraws => k_is); (case x4_NoDraws => k_is); (case xs_NoDraws => k_is); (case xa_NoNumber => k_is); (case xk_NoNumber => k_is); (case xb_NoNumber => k_is); (case xt_NoNumber => k_is); (case x4_NoNumber => k_is); (case xs_NoNumber => k_is); (case x1_NoNumber => k_is); (case x2_NoNumber => k_is); (case x5_NoNumber => k_is); (case x8_NoNumber => k_is); (case x6 => k_is); (case x7 => k_is); (case ni_NoDraws => k_is); (case su_NoNumber_NoDraws => k_is); (case ni_NoNumber => k_is); (case su_NoNumber_NoNumber => k_is); (case su_NoNumber_TouchError => k_is); (case ni_ValueError => k_is); (case su_NoNumber_ValueError => k_is)
    (case xx_NoNumber => k_exc)
