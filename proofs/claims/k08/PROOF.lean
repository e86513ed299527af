import PyProof.Rows.All
import Wide.All
import OpenK.AllK
import Wide.FinOn
import HandS.ForMost
import HandS.Exc
import HandS.TryOnly
import HandS.ExcOwn
import HandS.WordsExc
import HandS.Wide
import HandS.WideBits
import HandS.IsInst
import HandS.SortInts
import HandS.Style
import HandS.ExcIs
import HandS.ExcValue
import HandS.Conv
import HandS.Dict
import KE.DataMinMax
import PySem.Challenge.RW_blindtouch_k08_needs_told
set_option Elab.async false
set_option linter.all false
set_option maxRecDepth 100000
set_option maxHeartbeats 4000000
/-! KL: readings over what is known of the heap: a frozen part G, and cells M that may be written. -/
namespace BT
open PySem PySem.Spec L2
open PyProof.Rows hiding St

abbrev Mem := List (Addr × HO)
structure Hv (G : Hp) (M : Mem) (H : Hp) : Prop where
  ex : ∀ a o, G a = some o → H a = some o
  mu : ∀ x, x ∈ M → H x.1 = some x.2
  nd : (M.map (·.1)).Nodup
  dj : ∀ x, x ∈ M → G x.1 = none
def Fr (G : Hp) (M : Mem) (p : Addr) : Prop := G p = none ∧ ∀ x, x ∈ M → x.1 ≠ p
def At (G : Hp) (M : Mem) (a : Addr) (o : HO) : Prop := (a, o) ∈ M ∨ G a = some o
section
variable {G : Hp} {M : Mem} {H : Hp} {p a : Addr} {o o' : HO} {n : Nat}
theorem Hv.self (H : Hp) : Hv H [] H := ⟨fun _ _ h => h, fun _ h => (nomatch h), List.nodup_nil, fun _ h => (nomatch h)⟩
theorem Hv.fr (h : Hv G M H) (hp : H p = none) : Fr G M p := by
  refine ⟨?_, fun x hx e => ?_⟩
  · cases e : G p with
    | none => rfl
    | some o => rw [h.ex p o e] at hp; cases hp
  · have := h.mu x hx
    rw [e, hp] at this; cases this
theorem Hv.at (h : Hv G M H) (q : At G M a o) : H a = some o := by
  rcases q with q | q
  · exact h.mu _ q
  · exact h.ex _ _ q
theorem Hv.newM (h : Hv G M H) (hp : H p = none) : Hv G ((p, o) :: M) (upd H p o) := by
  have f := h.fr hp
  refine ⟨fun b u e => ?_, fun x hx => ?_, ?_, fun x hx => ?_⟩
  · rw [upd_ne (ne_of_none (h.ex b u e) hp)]; exact h.ex b u e
  · rcases List.mem_cons.mp hx with rfl | hx
    · exact upd_same
    · rw [upd_ne (f.2 x hx)]; exact h.mu x hx
  · rw [List.map_cons, List.nodup_cons]
    refine ⟨fun hm => ?_, h.nd⟩
    obtain ⟨x, hx, e⟩ := List.mem_map.mp hm
    exact f.2 x hx e
  · rcases List.mem_cons.mp hx with rfl | hx
    · exact f.1
    · exact h.dj x hx
theorem Hv.newG (h : Hv G M H) (hp : H p = none) : Hv (upd G p o) M (upd H p o) := by
  have f := h.fr hp
  refine ⟨fun b u e => ?_, fun x hx => ?_, h.nd, fun x hx => ?_⟩
  · by_cases hb : b = p
    · subst hb; rw [upd_same] at e ⊢; exact e
    · rw [upd_ne hb] at e ⊢; exact h.ex b u e
  · rw [upd_ne (f.2 x hx)]; exact h.mu x hx
  · rw [upd_ne (f.2 x hx)]; exact h.dj x hx
/-- an object that nobody knows of is laid: nothing known changes -/
theorem Hv.junk (h : Hv G M H) (hp : H p = none) : Hv G M (upd H p o) := by
  have f := h.fr hp
  refine ⟨fun b u e => ?_, fun x hx => ?_, h.nd, h.dj⟩
  · rw [upd_ne (ne_of_none (h.ex b u e) hp)]; exact h.ex b u e
  · rw [upd_ne (f.2 x hx)]; exact h.mu x hx
theorem Hv.get (h : Hv G M H) (hn : M[n]? = some (p, o)) : H p = some o := h.mu _ (List.mem_of_getElem? hn)
theorem map_set_fst : ∀ (M : Mem) (n : Nat) (p : Addr) (o o' : HO), M[n]? = some (p, o) → (M.set n (p, o')).map (·.1) = M.map (·.1)
  | [], _, _, _, _, h => by simp at h
  | x :: M, 0, p, o, o', h => by
    have e : x = (p, o) := by simpa using h
    subst e; rfl
  | x :: M, n + 1, p, o, o', h => by
    have e : M[n]? = some (p, o) := by simpa using h
    show x.1 :: (M.set n (p, o')).map (·.1) = _
    rw [map_set_fst M n p o o' e]; rfl
theorem nodup_at : ∀ (M : Mem) (n : Nat) (p : Addr) (o : HO) (x : Addr × HO) (m : Nat), (M.map (·.1)).Nodup → M[n]? = some (p, o) → M[m]? = some x → x.1 = p → m = n := by
  intro M n p o x m hd h1 h2 e
  have q1 : (M.map (·.1))[n]? = some p := by rw [List.getElem?_map, h1]; rfl
  have q2 : (M.map (·.1))[m]? = some p := by rw [List.getElem?_map, h2, ← e]; rfl
  obtain ⟨l1, e1⟩ := List.getElem?_eq_some_iff.mp q1
  obtain ⟨l2, e2⟩ := List.getElem?_eq_some_iff.mp q2
  exact (List.getElem_inj hd).mp (e2.trans e1.symm)
theorem Hv.set (h : Hv G M H) (hn : M[n]? = some (p, o)) : Hv G (M.set n (p, o')) (upd H p o') := by
  have hlt : n < M.length := (List.getElem?_eq_some_iff.mp hn).1
  refine ⟨fun b u e => ?_, fun x hx => ?_, ?_, fun x hx => ?_⟩
  · have : b ≠ p := fun z => by
      have q := h.dj _ (List.mem_of_getElem? hn)
      rw [z] at e
      rw [show G p = none from q] at e; cases e
    rw [upd_ne this]; exact h.ex b u e
  · obtain ⟨m, hm⟩ := List.getElem?_of_mem hx
    by_cases e : m = n
    · subst e
      rw [List.getElem?_set_self hlt] at hm
      cases hm
      exact upd_same
    · rw [List.getElem?_set_ne (Ne.symm e)] at hm
      have : x.1 ≠ p := fun z => e (nodup_at M n p o x m h.nd hn hm z)
      rw [upd_ne this]
      exact h.mu x (List.mem_of_getElem? hm)
  · rw [map_set_fst M n p o o' hn]; exact h.nd
  · have : x.1 ∈ M.map (·.1) := by
      rw [← map_set_fst M n p o o' hn]; exact List.mem_map.mpr ⟨x, hx, rfl⟩
    obtain ⟨y, hy, e⟩ := List.mem_map.mp this
    rw [← e]; exact h.dj y hy
/-- what is known may be forgotten, and what may be written may be frozen -/
def Wk (G : Hp) (M : Mem) (G' : Hp) (M' : Mem) : Prop := ∀ H, Hv G M H → Hv G' M' H
theorem Wk.refl : Wk G M G M := fun _ h => h
theorem Wk.trans {G1 G2 G3 : Hp} {M1 M2 M3 : Mem} (a : Wk G1 M1 G2 M2) (b : Wk G2 M2 G3 M3) : Wk G1 M1 G3 M3 := fun H h => b H (a H h)
theorem Wk.drop (M1 : Mem) {x : Addr × HO} {M2 : Mem} : Wk G (M1 ++ x :: M2) G (M1 ++ M2) := fun H h => by
  refine ⟨h.ex, fun y hy => h.mu y ?_, ?_, fun y hy => h.dj y ?_⟩
  · rcases List.mem_append.mp hy with q | q
    · exact List.mem_append.mpr (.inl q)
    · exact List.mem_append.mpr (.inr (List.mem_cons_of_mem _ q))
  · refine h.nd.sublist ?_
    simp
  · rcases List.mem_append.mp hy with q | q
    · exact List.mem_append.mpr (.inl q)
    · exact List.mem_append.mpr (.inr (List.mem_cons_of_mem _ q))
theorem Wk.drop0 {x : Addr × HO} : Wk G (x :: M) G M := Wk.drop []
theorem Wk.drop1 {x y : Addr × HO} : Wk G (y :: x :: M) G (y :: M) := Wk.drop [y]
theorem Wk.drop2 {x y z : Addr × HO} : Wk G (z :: y :: x :: M) G (z :: y :: M) := Wk.drop [z, y]
theorem Wk.frz (M1 : Mem) {M2 : Mem} : Wk G (M1 ++ (p, o) :: M2) (upd G p o) (M1 ++ M2) := fun H h => by
  have hp : H p = some o := h.mu (p, o) (by simp)
  have hg : G p = none := h.dj (p, o) (by simp)
  have h2 := Wk.drop (G := G) M1 (x := (p, o)) (M2 := M2) H h
  refine ⟨fun b u e => ?_, h2.mu, h2.nd, fun x hx => ?_⟩
  · by_cases hb : b = p
    · subst hb; rw [upd_same] at e; cases e; exact hp
    · rw [upd_ne hb] at e; exact h.ex b u e
  · have : x.1 ≠ p := fun z => by
      have nd := h.nd
      rw [List.map_append, List.map_cons, List.nodup_append] at nd
      obtain ⟨n1, n2, n3⟩ := nd
      rcases List.mem_append.mp hx with q | q
      · exact n3 x.1 (List.mem_map.mpr ⟨x, q, rfl⟩) p (by simp) z
      · rw [List.nodup_cons] at n2
        exact n2.1 (by rw [← z]; exact List.mem_map.mpr ⟨x, q, rfl⟩)
    rw [upd_ne this]; exact h2.dj x hx
theorem Wk.frz0 : Wk G ((p, o) :: M) (upd G p o) M := Wk.frz []
theorem Wk.frz1 {y : Addr × HO} : Wk G (y :: (p, o) :: M) (upd G p o) (y :: M) := Wk.frz [y]
theorem Wk.perm {M' : Mem} (e : M'.Perm M) : Wk G M G M' := fun H h =>
  ⟨h.ex, fun x hx => h.mu x (e.mem_iff.mp hx), (e.map _).nodup_iff.mpr h.nd, fun x hx => h.dj x (e.mem_iff.mp hx)⟩
theorem Wk.swap {x y : Addr × HO} : Wk G (x :: y :: M) G (y :: x :: M) := Wk.perm (List.Perm.swap x y M)
/-- less of the frozen part -/
theorem Wk.less {G' : Hp} (e : ∀ a o, G' a = some o → G a = some o) : Wk G M G' M := fun H h =>
  ⟨fun a o q => h.ex a o (e a o q), h.mu, h.nd, fun x hx => by
    cases q : G' x.1 with
    | none => rfl
    | some o => have := h.dj x hx; rw [e _ _ q] at this; cases this⟩
end

/-! ### extension of the frozen part -/
def Ex (G G' : Hp) : Prop := ∀ a o, G a = some o → G' a = some o
theorem Ex.refl {G : Hp} : Ex G G := fun _ _ h => h
theorem Ex.trans {G G1 G2 : Hp} (a : Ex G G1) (b : Ex G1 G2) : Ex G G2 := fun x o h => b x o (a x o h)
theorem Ex.new {G : Hp} {M : Mem} {p : Addr} {o : HO} (h : Fr G M p) : Ex G (upd G p o) := fun a u e => by
  rw [upd_ne (ne_of_none e h.1)]; exact e
theorem Ex.new' {G : Hp} {p : Addr} {o : HO} (h : G p = none) : Ex G (upd G p o) := fun a u e => by
  rw [upd_ne (ne_of_none e h)]; exact e
theorem ex_rd {H H' : Hp} {a : Addr} {u : HO} (e : Ex H H') (h : Rd H a u) : Rd H' a u := by
  rcases h with h | ⟨o, h⟩
  · exact .inl (e a _ h)
  · exact .inr ⟨o, e a _ h⟩
theorem ex_l {K : PySem.W.Frag} {H H' : Hp} {a : Addr} {xs : List V} (e : Ex H H') (h : SqL K H a xs) : SqL K H' a xs := by
  rcases h with h | h
  · exact .inl (ex_rd e h)
  · exact .inr h
theorem ex_t {K : PySem.W.Frag} {H H' : Hp} {a : Addr} {xs : List V} (e : Ex H H') (h : SqT K H a xs) : SqT K H' a xs := by
  rcases h with h | h
  · exact .inl (ex_rd e h)
  · exact .inr h
mutual
theorem ex_d {K : PySem.W.Frag} {H H' : Hp} (e : Ex H H') : ∀ (d : PyData) {v : V}, Dp K H v d → Dp K H' v d
  | _, _, .non => .non
  | _, _, .bl b => .bl b
  | _, _, .int b => .int b
  | _, _, .str b => .str b
  | .list ds, _, .lst s a => .lst (ex_l e s) (ex_ds e ds a)
  | .tuple ds, _, .tup s a => .tup (ex_t e s) (ex_ds e ds a)
theorem ex_ds {K : PySem.W.Frag} {H H' : Hp} (e : Ex H H') : ∀ (ds : List PyData) {vs : List V}, DpAll K H vs ds → DpAll K H' vs ds
  | _, _, .nil => .nil
  | d :: ds, _, .cons a b => .cons (ex_d e d a) (ex_ds e ds b)
end
/-- a list, a tuple that can be read -/
def LstAt (K : PySem.W.Frag) (G : Hp) (M : Mem) (a : Addr) (xs : List V) : Prop := (a, HO.lst xs) ∈ M ∨ SqL K G a xs
def TupAt (K : PySem.W.Frag) (G : Hp) (M : Mem) (a : Addr) (xs : List V) : Prop := SqT K G a xs
def SeqAt' (K : PySem.W.Frag) (G : Hp) (M : Mem) (a : Addr) (xs : List V) : Prop := LstAt K G M a xs ∨ SqT K G a xs
/-- data that can be read -/
def DatAt (K : PySem.W.Frag) (G : Hp) (M : Mem) (v : V) (d : PyData) : Prop := ∀ H, Hv G M H → Dp K H v d
section
variable {K : PySem.W.Frag} {G : Hp} {M : Mem} {H : Hp} {a : Addr} {xs : List V}
theorem Hv.exx (h : Hv G M H) : Ex G H := h.ex
theorem Hv.lst (h : Hv G M H) (q : LstAt K G M a xs) : SqL K H a xs := by
  rcases q with q | q
  · exact .inl (.inl (h.mu _ q))
  · exact ex_l h.exx q
theorem Hv.tup (h : Hv G M H) (q : SqT K G a xs) : SqT K H a xs := ex_t h.exx q
theorem Hv.dat (h : Hv G M H) {v : V} {d : PyData} (q : DatAt K G M v d) : Dp K H v d := q H h
end

/-! ### judgements -/
abbrev KR := V → Hp → Mem → Prop
abbrev KX := Value → Option Addr → Hp → Mem → Prop
abbrev KK (α : Type) := St → Hp → Mem → (α → Hp → Mem → Prop) → KX → Prop
abbrev KE := KK V
abbrev KA := KK (List V)
abbrev KT := KK Bool
def upG {α : Type} (W : WX) (t : KK α) : St → Hp → (α → Hp → Prop) → Prop := fun σ H Q =>
  ∃ G M R E, Hv G M H ∧ t σ G M R E ∧ (∀ v G' M' H', Hv G' M' H' → R v G' M' → Q v H') ∧ (∀ c d G' M' H', Hv G' M' H' → E c d G' M' → W c d σ H')
def JE (X : Cx) (W : WX) (e : Expr) (t : KE) : Prop := PE X e (upG W t)
def JT (X : Cx) (W : WX) (e : Expr) (t : KT) : Prop := PT X e (upG W t)
def JW (X : Cx) (W : WX) (e : Expr) (t : KT) : Prop := PW X e (upG W t)
def JA (X : Cx) (W : WX) (es : List Expr) (t : KA) : Prop := PA X es (upG W t)
theorem pe_mono {X : Cx} {e : Expr} {t t' : TE} (h : PE X e t) (i : ∀ σ H Q, t' σ H Q → t σ H Q) : PE X e t' := ⟨fun pins s σ H Q I q => h.run pins s σ H Q I (i σ H Q q)⟩
theorem pt_mono {X : Cx} {e : Expr} {t t' : TT} (h : PT X e t) (i : ∀ σ H Q, t' σ H Q → t σ H Q) : PT X e t' := ⟨fun pins s σ H Q I q => h.run pins s σ H Q I (i σ H Q q)⟩
theorem pw_mono {X : Cx} {e : Expr} {t t' : TT} (h : PW X e t) (i : ∀ σ H Q, t' σ H Q → t σ H Q) : PW X e t' := ⟨fun wh pins s σ H Q I q => h.run wh pins s σ H Q I (i σ H Q q)⟩
theorem pa_mono {X : Cx} {e : List Expr} {t t' : TA} (h : PA X e t) (i : ∀ σ H Q, t' σ H Q → t σ H Q) : PA X e t' := ⟨fun pos pins s σ H Q I q => h.run pos pins s σ H Q I (i σ H Q q)⟩

section
variable {X : Cx} {W : WX} {pos : Pos}
/-- names, constants -/
def kVar (i : Nat) : KE := fun σ G M R _ => match σ[i]? with
  | some (some v) => R v G M
  | _ => False
def kC (v : V) : KE := fun _ G M R _ => R v G M
theorem je_var (i : Nat) {x : Str} (hN : X.N[i]? = some x := by rfl) (hv : Vis X.env.scope x := by first | exact Or.inl rfl | exact Or.inr (Or.inl rfl) | exact Or.inr (Or.inr rfl)) (hd : (x == ("__debug__" : Str)) = false := by decide)
    (hcd : (x == ("__classdict__" : Str)) = false := by decide) : JE X W (.Name x pos) (kVar i) := pe_mono (pe_var hN hv hd hcd) fun σ H Q ⟨G, M, R, E, hv, h, hR, _⟩ => by
  unfold kVar at h
  split at h
  · rename_i v e
    exact ⟨v, e, hR v G M H hv h⟩
  · exact h.elim
theorem je_c {e : Expr} {v : V} (h : PE X e (tC v)) : JE X W e (kC v) := pe_mono h fun σ H Q ⟨G, M, R, E, hv, h, hR, _⟩ => hR v G M H hv h
theorem je_int {i : Int} {j pos} : JE X W (.Constant (.int i) j pos) (kC (.int i)) := je_c pe_int
theorem je_bl {i : Bool} {j pos} : JE X W (.Constant (.bool i) j pos) (kC (.bl i)) := je_c pe_bl
theorem je_non {j pos} : JE X W (.Constant .none j pos) (kC .non) := je_c pe_non
theorem je_str {i : Str} {j pos} : JE X W (.Constant (.str i) j pos) (kC (.str i)) := je_c pe_str
/-- two in a row -/
def kBin {β : Type} (k : V → V → Hp → Mem → (β → Hp → Mem → Prop) → Prop) (ta tb : KE) : KK β := fun σ G M R E => ta σ G M (fun x G M => tb σ G M (fun y G M => k x y G M R) E) E
abbrev KR2 := V → V → Hp → Mem → KR → Prop
def KOp (X : Cx) (f : Value → Value → Sem Value) (k : KR2) : Prop :=
  ∀ (pins : List (Addr × Obj)) (s : Shared) (σ : St) (H : Hp) (x y : V) (v u : Value) (Q : VK) (G : Hp) (M : Mem) (R : KR), Inv X pins σ H s → RelV x v → RelV y u → Hv G M H → k x y G M R →
    (∀ v G' M' H', Hv G' M' H' → R v G' M' → Q v H') → wpAny (model X.prog X.w) X.A (f v u) (EP X pins σ Q) X.xe s
theorem kop_of {f : Value → Value → Sem Value} {r : R2} {k : KR2} (ho : OpR X f r)
    (s : ∀ x y G M R H Q, Hv G M H → k x y G M R → (∀ v G' M' H', Hv G' M' H' → R v G' M' → Q v H') → r x y H Q) : KOp X f k :=
  fun pins st σ H x y v u Q G M R I rx ry hv h hR => ho pins st σ H x y v u Q I rx ry (s x y G M R H Q hv h hR)
/-- an OpR whose reading is: it holds of k in some knowledge -/
def rUp (k : KR2) : R2 := fun x y H Q => ∃ G M R, Hv G M H ∧ k x y G M R ∧ ∀ v G' M' H', Hv G' M' H' → R v G' M' → Q v H'
theorem KOp.opr {f : Value → Value → Sem Value} {k : KR2} (h : KOp X f k) : OpR X f (rUp k) := fun pins s σ H x y v u Q I rx ry ⟨G, M, R, hv, hk, hR⟩ => h pins s σ H x y v u Q G M R I rx ry hv hk hR
theorem bin_sim {ta tb : KE} {k : KR2} {σ : St} {H : Hp} {Q : VK} (h : upG W (kBin k ta tb) σ H Q) : tOp (rUp k) (upG W ta) (upG W tb) σ H Q := by
  obtain ⟨G, M, R, E, hv, h, hR, hE⟩ := h
  exact ⟨G, M, _, E, hv, h, fun x G1 M1 H1 hv1 h1 => ⟨G1, M1, _, E, hv1, h1, fun y G2 M2 H2 hv2 h2 => ⟨G2, M2, R, hv2, h2, hR⟩, hE⟩, hE⟩
theorem je_op {a b : Expr} {op : Operator} {k : KR2} {ta tb : KE} (ho : KOp X (binaryOp op) k) (ha : JE X W a ta) (hb : JE X W b tb) : JE X W (.BinOp a op b pos) (kBin k ta tb) :=
  pe_mono (pe_op ho.opr ha hb) fun _ _ _ h => bin_sim h
theorem je_cmp {a b : Expr} {op : CmpOp} {k : KR2} {ta tb : KE} (ho : KOp X (compareOp op) k) (ha : JE X W a ta) (hb : JE X W b tb) (hm : behindInMarks op b = false) : JE X W (.Compare a [op] [b] pos) (kBin k ta tb) :=
  pe_mono (pe_cmpR ho.opr ha hb hm) fun _ _ _ h => bin_sim h
/-- a value as a test -/
def asB (R : Bool → Hp → Mem → Prop) : KR := fun v G M => match v with
  | .bl b => R b G M
  | _ => False
def kT (t : KE) : KT := fun σ G M R E => t σ G M (asB R) E
theorem asB_of {R : Bool → Hp → Mem → Prop} {v : V} {G : Hp} {M : Mem} (h : asB R v G M) : ∃ c, v = .bl c ∧ R c G M := by
  cases v <;> first | exact ⟨_, rfl, h⟩ | exact h.elim
theorem t_sim {t : KE} {σ : St} {H : Hp} {Q : Bool → Hp → Prop} (h : upG W (kT t) σ H Q) : tTest (upG W t) σ H Q := by
  obtain ⟨G, M, R, E, hv, h, hR, hE⟩ := h
  refine ⟨G, M, _, E, hv, h, fun v G1 M1 H1 hv1 h1 => ?_, hE⟩
  obtain ⟨c, rfl, h2⟩ := asB_of h1
  exact ⟨c, rfl, hR c G1 M1 H1 hv1 h2⟩
theorem jt_cmp {a b : Expr} {op : CmpOp} {k : KR2} {ta tb : KE} (ho : KOp X (compareOp op) k) (ha : JE X W a ta) (hb : JE X W b tb) (hm : behindInMarks op b = false) : JT X W (.Compare a [op] [b] pos) (kT (kBin k ta tb)) :=
  pt_mono (pt_cmpR ho.opr ha hb hm) fun σ H Q h => by
    have h2 := t_sim h
    exact bin_sim h2
theorem jt_val {e : Expr} {t : KE} (h : JE X W e t) (he : ∀ whole, isTrue e X.env whole = (do let v ← whole; standAt e.pos; holding [v] (truthy v)) := by intro _; rfl) : JT X W e (kT t) :=
  pt_mono (pt_val h he) fun σ H Q h => t_sim h
/-- chains -/
def kChain (k k' : KR2) (ta tb tc : KE) : KE := fun σ G M R E => ta σ G M (fun x G M => tb σ G M (fun y G M => k x y G M (asB fun c G M => if c = true then tc σ G M (fun z G M => k' y z G M R) E else R (.bl false) G M)) E) E
theorem chain_sim {ta tb tc : KE} {k k' : KR2} {σ : St} {H : Hp} {Q : VK} (h : upG W (kChain k k' ta tb tc) σ H Q) : tChain (rUp k) (rUp k') (upG W ta) (upG W tb) (upG W tc) σ H Q := by
  obtain ⟨G, M, R, E, hv, h, hR, hE⟩ := h
  refine ⟨G, M, _, E, hv, h, fun x G1 M1 H1 hv1 h1 => ⟨G1, M1, _, E, hv1, h1, fun y G2 M2 H2 hv2 h2 => ⟨G2, M2, _, hv2, h2, fun v G3 M3 H3 hv3 h3 => ?_⟩, hE⟩, hE⟩
  obtain ⟨c, rfl, h4⟩ := asB_of h3
  refine ⟨c, rfl, ?_⟩
  cases c with
  | true =>
    rw [if_pos rfl] at h4 ⊢
    exact ⟨G3, M3, _, E, hv3, h4, fun z G4 M4 H4 hv4 h5 => ⟨G4, M4, R, hv4, h5, hR⟩, hE⟩
  | false =>
    rw [if_neg Bool.false_ne_true] at h4 ⊢
    exact hR _ G3 M3 H3 hv3 h4
theorem je_chain {a b c : Expr} {op op' : CmpOp} {k k' : KR2} {ta tb tc : KE} (ho : KOp X (compareOp op) k) (ho' : KOp X (compareOp op') k') (ha : JE X W a ta) (hb : JE X W b tb) (hc : JE X W c tc)
    (hm : lastMarks [op, op'] [b, c] = false := by with_unfolding_all rfl) : JE X W (.Compare a [op, op'] [b, c] pos) (kChain k k' ta tb tc) := pe_mono (pe_chain ho.opr ho'.opr ha hb hc hm) fun _ _ _ h => chain_sim h
theorem jt_chain {a b c : Expr} {op op' : CmpOp} {k k' : KR2} {ta tb tc : KE} (ho : KOp X (compareOp op) k) (ho' : KOp X (compareOp op') k') (ha : JE X W a ta) (hb : JE X W b tb) (hc : JE X W c tc)
    (hm : lastMarks [op, op'] [b, c] = false := by with_unfolding_all rfl) : JT X W (.Compare a [op, op'] [b, c] pos) (kT (kChain k k' ta tb tc)) := pt_mono (pt_chain ho.opr ho'.opr ha hb hc hm) fun _ _ _ h => chain_sim (t_sim h)
/-- and, or, not -/
def kAnd (t u : KT) : KT := fun σ G M R E => t σ G M (fun c G M => if c = true then u σ G M R E else R false G M) E
def kOr (t u : KT) : KT := fun σ G M R E => t σ G M (fun c G M => if c = true then R true G M else u σ G M R E) E
def kNot (t : KT) : KT := fun σ G M R E => t σ G M (fun c G M => R (!c) G M) E
def kAndV (t u : KE) : KE := fun σ G M R E => t σ G M (asB fun c G M => if c = true then u σ G M R E else R (.bl false) G M) E
def kOrV (t u : KE) : KE := fun σ G M R E => t σ G M (asB fun c G M => if c = true then R (.bl true) G M else u σ G M R E) E
def kNotV (t : KE) : KE := fun σ G M R E => t σ G M (asB fun c G M => R (.bl (!c)) G M) E
variable {a b : Expr} {rest : List Expr}
theorem jw_and1 {t : KT} (h : JT X W a t) : JW X W (.BoolOp .And [a] pos) t := pw_and1 h
theorem jw_or1 {t : KT} (h : JT X W a t) : JW X W (.BoolOp .Or [a] pos) t := pw_or1 h
theorem jw_and {t u : KT} (ha : JT X W a t) (hb : JW X W (.BoolOp .And (b :: rest) pos) u) : JW X W (.BoolOp .And (a :: b :: rest) pos) (kAnd t u) :=
  pw_mono (pw_and ha hb) fun σ H Q ⟨G, M, R, E, hv, h, hR, hE⟩ => ⟨G, M, _, E, hv, h, fun c G1 M1 H1 hv1 h1 => by
    cases c with
    | true => rw [if_pos rfl] at h1 ⊢; exact ⟨G1, M1, R, E, hv1, h1, hR, hE⟩
    | false => rw [if_neg Bool.false_ne_true] at h1 ⊢; exact hR _ G1 M1 H1 hv1 h1, hE⟩
theorem jw_or {t u : KT} (ha : JT X W a t) (hb : JW X W (.BoolOp .Or (b :: rest) pos) u) : JW X W (.BoolOp .Or (a :: b :: rest) pos) (kOr t u) :=
  pw_mono (pw_or ha hb) fun σ H Q ⟨G, M, R, E, hv, h, hR, hE⟩ => ⟨G, M, _, E, hv, h, fun c G1 M1 H1 hv1 h1 => by
    cases c with
    | true => rw [if_pos rfl] at h1 ⊢; exact hR _ G1 M1 H1 hv1 h1
    | false => rw [if_neg Bool.false_ne_true] at h1 ⊢; exact ⟨G1, M1, R, E, hv1, h1, hR, hE⟩, hE⟩
theorem JW.jt {e : Expr} {t : KT} (h : JW X W e t) : JT X W e t := PW.pt h
theorem jt_not {t : KT} (h : JT X W a t) : JT X W (.UnaryOp .Not a pos) (kNot t) :=
  pt_mono (pt_not h) fun σ H Q ⟨G, M, R, E, hv, h, hR, hE⟩ => ⟨G, M, _, E, hv, h, fun c G1 M1 H1 hv1 h1 => hR _ G1 M1 H1 hv1 h1, hE⟩
theorem je_one {op} {t : KE} (h : JE X W a t) : JE X W (.BoolOp op [a] pos) t := pe_one h
theorem je_and {t u : KE} (ha : JE X W a t) (hb : JE X W (.BoolOp .And (b :: rest) pos) u) : JE X W (.BoolOp .And (a :: b :: rest) pos) (kAndV t u) :=
  pe_mono (pe_and ha hb) fun σ H Q ⟨G, M, R, E, hv, h, hR, hE⟩ => ⟨G, M, _, E, hv, h, fun v G1 M1 H1 hv1 h1 => by
    obtain ⟨c, rfl, h2⟩ := asB_of h1
    refine ⟨c, rfl, ?_⟩
    cases c with
    | true => rw [if_pos rfl] at h2 ⊢; exact ⟨G1, M1, R, E, hv1, h2, hR, hE⟩
    | false => rw [if_neg Bool.false_ne_true] at h2 ⊢; exact hR _ G1 M1 H1 hv1 h2, hE⟩
theorem je_or {t u : KE} (ha : JE X W a t) (hb : JE X W (.BoolOp .Or (b :: rest) pos) u) : JE X W (.BoolOp .Or (a :: b :: rest) pos) (kOrV t u) :=
  pe_mono (pe_or ha hb) fun σ H Q ⟨G, M, R, E, hv, h, hR, hE⟩ => ⟨G, M, _, E, hv, h, fun v G1 M1 H1 hv1 h1 => by
    obtain ⟨c, rfl, h2⟩ := asB_of h1
    refine ⟨c, rfl, ?_⟩
    cases c with
    | true => rw [if_pos rfl] at h2 ⊢; exact hR _ G1 M1 H1 hv1 h2
    | false => rw [if_neg Bool.false_ne_true] at h2 ⊢; exact ⟨G1, M1, R, E, hv1, h2, hR, hE⟩, hE⟩
theorem je_not {t : KE} (h : JE X W a t) : JE X W (.UnaryOp .Not a pos) (kNotV t) :=
  pe_mono (pe_not h) fun σ H Q ⟨G, M, R, E, hv, h, hR, hE⟩ => ⟨G, M, _, E, hv, h, fun v G1 M1 H1 hv1 h1 => by
    obtain ⟨c, rfl, h2⟩ := asB_of h1
    exact ⟨c, rfl, hR _ G1 M1 H1 hv1 h2⟩, hE⟩
/-- a if c else b -/
def kIte (t : KT) (ta tb : KE) : KE := fun σ G M R E => t σ G M (fun c G M => if c = true then ta σ G M R E else tb σ G M R E) E
end
end BT
set_option Elab.async false
set_option linter.all false
set_option maxRecDepth 100000
set_option maxHeartbeats 4000000
namespace BT
open PySem PySem.Spec L2
open PyProof.Rows hiding St
section
variable {X : Cx} {W : WX} {pos : Pos} {a b c e : Expr} {es : List Expr}
theorem je_ite {t : KT} {ta tb : KE} (hc : JT X W c t) (ha : JE X W a ta) (hb : JE X W b tb) : JE X W (.IfExp c a b pos) (kIte t ta tb) :=
  pe_mono (pe_ifExp hc ha hb) fun σ H Q ⟨G, M, R, E, hv, h, hR, hE⟩ => ⟨G, M, _, E, hv, h, fun c G1 M1 H1 hv1 h1 => by
    cases c with
    | true => rw [if_pos rfl] at h1 ⊢; exact ⟨G1, M1, R, E, hv1, h1, hR, hE⟩
    | false => rw [if_neg Bool.false_ne_true] at h1 ⊢; exact ⟨G1, M1, R, E, hv1, h1, hR, hE⟩, hE⟩
/-! ### arguments, displays -/
def kNil : KA := fun _ G M R _ => R [] G M
def kCons (t : KE) (u : KA) : KA := fun σ G M R E => t σ G M (fun x G M => u σ G M (fun xs G M => R (x :: xs) G M) E) E
theorem ja_nil : JA X W [] kNil := pa_mono pa_nil fun σ H Q ⟨G, M, R, E, hv, h, hR, _⟩ => hR _ G M H hv h
theorem ja_cons {t : KE} {u : KA} (ha : JE X W e t) (hr : JA X W es u) (hs : starEach (e :: es) X.env = (false, eval e X.env) :: starEach es X.env := by rfl) : JA X W (e :: es) (kCons t u) :=
  pa_mono (pa_cons ha hr hs) fun σ H Q ⟨G, M, R, E, hv, h, hR, hE⟩ => ⟨G, M, _, E, hv, h, fun x G1 M1 H1 hv1 h1 => ⟨G1, M1, _, E, hv1, h1, fun xs G2 M2 H2 hv2 h2 => hR _ G2 M2 H2 hv2 h2, hE⟩, hE⟩
def kLst (t : KA) : KE := fun σ G M R E => t σ G M (fun xs G M => xs.length ≤ sizeLine ∧ ∀ p, Fr G M p → R (.ref p) G ((p, .lst xs) :: M)) E
def kTup (t : KA) : KE := fun σ G M R E => t σ G M (fun xs G M => xs.length ≤ sizeLine ∧ ∀ p, Fr G M p → R (.ref p) (upd G p (.tup xs)) M) E
theorem je_lst {t : KA} (h : JA X W es t) : JE X W (.List es pos) (kLst t) :=
  pe_mono (pe_lst h) fun σ H Q ⟨G, M, R, E, hv, h, hR, hE⟩ => ⟨G, M, _, E, hv, h, fun xs G1 M1 H1 hv1 h1 => ⟨h1.1, fun p hp => hR _ G1 _ _ (hv1.newM hp) (h1.2 p (hv1.fr hp))⟩, hE⟩
theorem je_tup {t : KA} {k : Nat} (h : JA X W es t) : JE X W (.Tuple es k pos) (kTup t) :=
  pe_mono (pe_tup h) fun σ H Q ⟨G, M, R, E, hv, h, hR, hE⟩ => ⟨G, M, _, E, hv, h, fun xs G1 M1 H1 hv1 h1 => ⟨h1.1, fun p hp => hR _ _ M1 _ (hv1.newG hp) (h1.2 p (hv1.fr hp))⟩, hE⟩
/-! ### operators -/
def kAdd : KR2 := fun x y G M R => match x, y with
  | .int i, .int j => R (.int (i + j)) G M
  | .str i, .str j => i.length + j.length ≤ sizeLine ∧ R (.str (i ++ j)) G M
  | .ref a, .ref b => ∃ xs ys, At G M a (.lst xs) ∧ At G M b (.lst ys) ∧ xs.length + ys.length ≤ sizeLine ∧ ∀ p, Fr G M p → R (.ref p) G ((p, .lst (xs ++ ys)) :: M)
  | _, _ => False
theorem kop_add : KOp X (binaryOp .Add) kAdd := fun pins s σ H x y v u Q G M R I rx ry hv h hR => by
  cases x <;> cases y <;> first
    | exact op_add pins s σ H _ _ v u Q I rx ry ⟨_, _, rfl, rfl, hR _ G M H hv h⟩
    | exact op_add_str pins s σ H _ _ v u Q I rx ry ⟨_, _, rfl, rfl, h.1, hR _ G M H hv h.2⟩
    | (obtain ⟨xs, ys, h1, h2, h3, h4⟩ := h
       exact op_cat pins s σ H _ _ v u Q I rx ry ⟨_, _, xs, ys, rfl, rfl, hv.at h1, hv.at h2, h3, fun p hp => hR _ G _ _ (hv.newM hp) (h4 p (hv.fr hp))⟩)
    | exact h.elim
def kI (C : Int → Int → Prop) (g : Int → Int → V) : KR2 := fun x y G M R => match x, y with
  | .int i, .int j => C i j ∧ R (g i j) G M
  | _, _ => False
def kI0 (g : Int → Int → V) : KR2 := fun x y G M R => match x, y with
  | .int i, .int j => R (g i j) G M
  | _, _ => False
theorem kop_I {f : Value → Value → Sem Value} {C : Int → Int → Prop} {g : Int → Int → V} (h : OpR X f (rI C g)) : KOp X f (kI C g) := kop_of h fun x y G M R H Q hv h hR => by
  cases x <;> cases y <;> first
    | exact ⟨_, _, rfl, rfl, h.1, hR _ G M H hv h.2⟩
    | exact h.elim
theorem kop_I0 {f : Value → Value → Sem Value} {g : Int → Int → V} (h : OpR X f (rI0 g)) : KOp X f (kI0 g) := kop_of h fun x y G M R H Q hv h hR => by
  cases x <;> cases y <;> first
    | exact ⟨_, _, rfl, rfl, hR _ G M H hv h⟩
    | exact h.elim
/-- sizes of products, quotients -/
def MulOk (i j : Int) : Prop := CMul i j ∨ CMulW i j
theorem kop_sub : KOp X (binaryOp .Sub) (kI0 fun i j => .int (i - j)) := kop_I0 op_sub
/-- a product of ints, a list repeated -/
def kMul : KR2 := fun x y G M R => match x, y with
  | .int i, .int j => MulOk i j ∧ R (.int (i * j)) G M
  | .ref a, .int k => ∃ xs, At G M a (.lst xs) ∧ -(2 ^ 63) ≤ k ∧ k < 2 ^ 63 ∧ xs.length * k.toNat ≤ sizeLine ∧ ∀ p, Fr G M p → R (.ref p) G ((p, .lst (List.replicate k.toNat xs).flatten) :: M)
  | _, _ => False
theorem kop_mul : KOp X (binaryOp .Mult) kMul := fun pins s σ H x y v u Q G M R I rx ry hv h hR => by
  cases x <;> cases y <;> first
    | (obtain ⟨hc, h⟩ := h
       rcases hc with hc | hc
       · exact op_mul pins s σ H _ _ v u Q I rx ry ⟨_, _, rfl, rfl, hc, hR _ G M H hv h⟩
       · exact op_mulW pins s σ H _ _ v u Q I rx ry ⟨_, _, rfl, rfl, hc, hR _ G M H hv h⟩)
    | (obtain ⟨xs, h1, h2, h3, h4, h5⟩ := h
       exact op_rep pins s σ H _ _ v u Q I rx ry ⟨_, _, xs, rfl, rfl, hv.at h1, h2, h3, h4, fun p hp => hR _ G _ _ (hv.newM hp) (h5 p (hv.fr hp))⟩)
    | exact h.elim
theorem kop_mod : KOp X (binaryOp .Mod) (kI (fun _ j => 0 < j) fun i j => .int (i % j)) := kop_I op_mod
theorem kop_fdiv : KOp X (binaryOp .FloorDiv) (kI CDivW fun i j => .int (i / j)) := kop_I op_fdivW
theorem kop_pow : KOp X (binaryOp .Pow) (kI CPow fun i j => .int (i ^ j.toNat)) := kop_I op_pow
theorem kop_shl : KOp X (binaryOp .LShift) (kI CPow fun i j => .int (i * 2 ^ j.toNat)) := kop_I op_shl
theorem kop_shr : KOp X (binaryOp .RShift) (kI (fun _ j => 0 ≤ j) fun i j => .int (i / 2 ^ j.toNat)) := kop_I op_shr
theorem kop_lt : KOp X (compareOp .Lt) (kI0 fun i j => .bl (decide (i < j))) := kop_I0 op_lt
theorem kop_le : KOp X (compareOp .LtE) (kI0 fun i j => .bl (decide (i ≤ j))) := kop_I0 op_le
theorem kop_gt : KOp X (compareOp .Gt) (kI0 fun i j => .bl (decide (j < i))) := kop_I0 op_gt
theorem kop_ge : KOp X (compareOp .GtE) (kI0 fun i j => .bl (decide (j ≤ i))) := kop_I0 op_ge
/-- equality: of plain values at once, of data by what they hold -/
def kEqv (neg : Bool) (K : PySem.W.Frag) : KR2 := fun x y G M R =>
  match scal x y with
  | true => R (.bl (if neg then !decide (x = y) else decide (x = y))) G M
  | false => ∃ d e, DatAt K G M x d ∧ DatAt K G M y e ∧ SeqAt.shaped d = true ∧ SeqAt.shaped e = true ∧ R (.bl (if neg then !PyData.eqv d e else PyData.eqv d e)) G M
theorem kop_eq (hu : X.A.units + 64 < cLine) : KOp X (compareOp .Eq) (kEqv false X.K) := fun pins s σ H x y v u Q G M R I rx ry hv h hR => by
  unfold kEqv at h
  split at h
  · rename_i e
    exact op_eq pins s σ H _ _ v u Q I rx ry ⟨e, hR _ G M H hv h⟩
  · obtain ⟨d, e, h1, h2, h3, h4, h5⟩ := h
    exact op_eqD hu pins s σ H _ _ v u Q I rx ry ⟨d, e, hv.dat h1, hv.dat h2, h3, h4, hR _ G M H hv h5⟩
theorem kop_ne (hu : X.A.units + 64 < cLine) : KOp X (compareOp .NotEq) (kEqv true X.K) := fun pins s σ H x y v u Q G M R I rx ry hv h hR => by
  unfold kEqv at h
  split at h
  · rename_i e
    exact op_ne pins s σ H _ _ v u Q I rx ry ⟨e, hR _ G M H hv h⟩
  · obtain ⟨d, e, h1, h2, h3, h4, h5⟩ := h
    exact op_neD hu pins s σ H _ _ v u Q I rx ry ⟨d, e, hv.dat h1, hv.dat h2, h3, h4, hR _ G M H hv h5⟩
def kIs (neg : Bool) : KR2 := fun x y G M R => match y with
  | .non => R (.bl (if neg then !decide (x = .non) else decide (x = .non))) G M
  | _ => False
theorem kop_is : KOp X (compareOp .Is) (kIs false) := kop_of op_isN fun x y G M R H Q hv h hR => by
  cases y <;> first
    | exact ⟨rfl, hR _ G M H hv h⟩
    | exact h.elim
theorem kop_isnot : KOp X (compareOp .IsNot) (kIs true) := kop_of op_notN fun x y G M R H Q hv h hR => by
  cases y <;> first
    | exact ⟨rfl, hR _ G M H hv h⟩
    | exact h.elim
def kUn (k : V → Hp → Mem → KR → Prop) (t : KE) : KE := fun σ G M R E => t σ G M (fun x G M => k x G M R) E
def kNeg : V → Hp → Mem → KR → Prop := fun x G M R => match x with
  | .int i => R (.int (-i)) G M
  | _ => False
theorem je_neg {t : KE} (h : JE X W a t) : JE X W (.UnaryOp .USub a pos) (kUn kNeg t) :=
  pe_mono (pe_un un_neg h) fun σ H Q ⟨G, M, R, E, hv, h, hR, hE⟩ => ⟨G, M, _, E, hv, h, fun x G1 M1 H1 hv1 h1 => by
    cases x <;> first
      | exact ⟨_, rfl, hR _ G1 M1 H1 hv1 h1⟩
      | exact h1.elim, hE⟩
/-! ### subscripts, slices -/
def kIx (K : PySem.W.Frag) : KR2 := fun x y G M R => match x, y with
  | .ref a, .int i => ∃ xs v, SeqAt' K G M a xs ∧ atI xs i = some v ∧ R v G M
  | .str z, .int i => ∃ c, z.length ≤ sizeLine ∧ atI z.cps.toList i = some c ∧ R (.str ⟨#[c]⟩) G M
  | _, _ => False
theorem ix_k : IxR X (rUp (kIx X.K)) := fun value slice pins s σ H x y v u Q I rx ry ⟨G, M, R, hv, h, hR⟩ hs => by
  cases x <;> cases y <;> first
    | (obtain ⟨xs, w, h1, h2, h3⟩ := h
       rcases h1 with h1 | h1
       · exact ix_list value slice pins s σ H _ _ v u Q I rx ry ⟨_, xs, _, w, rfl, rfl, hv.lst h1, h2, hR _ G M H hv h3⟩ hs
       · exact ix_tup value slice pins s σ H _ _ v u Q I rx ry ⟨_, xs, _, w, rfl, rfl, hv.tup h1, h2, hR _ G M H hv h3⟩ hs)
    | (obtain ⟨c, h1, h2, h3⟩ := h
       exact ix_str value slice pins s σ H _ _ v u Q I rx ry ⟨_, _, c, rfl, rfl, h1, h2, hR _ G M H hv h3⟩ hs)
    | exact h.elim
theorem je_ix {ta tb : KE} (ha : JE X W a ta) (hb : JE X W b tb) (hs : PlainIx b := by exact fun _ _ => rfl) : JE X W (.Subscript a b pos) (kBin (kIx X.K) ta tb) :=
  pe_mono (pe_ix ix_k ha hb hs) fun _ _ _ h => bin_sim h
abbrev KO := KK (Option Int)
def JO (X : Cx) (W : WX) (e : Option Expr) (t : KO) : Prop := PO X e (upG W t)
theorem po_mono {X : Cx} {e : Option Expr} {t t' : TO} (h : PO X e t) (i : ∀ σ H Q, t' σ H Q → t σ H Q) : PO X e t' := ⟨fun pins s σ H Q I q => h.run pins s σ H Q I (i σ H Q q)⟩
def kNoP : KO := fun _ G M R _ => R none G M
def asI (R : Option Int → Hp → Mem → Prop) : KR := fun v G M => match v with
  | .int i => R (some i) G M
  | _ => False
def kPart (t : KE) : KO := fun σ G M R E => t σ G M (asI R) E
theorem jo_none : JO X W none kNoP := po_mono po_none fun σ H Q ⟨G, M, R, E, hv, h, hR, _⟩ => hR _ G M H hv h
theorem jo_some {t : KE} (h : JE X W e t) : JO X W (some e) (kPart t) := po_mono (po_some h) fun σ H Q ⟨G, M, R, E, hv, h, hR, hE⟩ => ⟨G, M, _, E, hv, h, fun v G1 M1 H1 hv1 h1 => by
    cases v <;> first
      | exact ⟨_, rfl, hR _ G1 M1 H1 hv1 h1⟩
      | exact h1.elim, hE⟩
/-- xs[lo:hi] of a list -/
def kSl (K : PySem.W.Frag) (t : KE) (tl th : KO) : KE := fun σ G M R E => t σ G M (fun x G M => tl σ G M (fun l G M => th σ G M (fun u G M => match x with
  | .ref a => ∃ xs, LstAt K G M a xs ∧ ∀ p, Fr G M p → R (.ref p) G ((p, .lst (cutV xs l u)) :: M)
  | _ => False) E) E) E
theorem je_slice {t : KE} {lo hi : Option Expr} {tl th : KO} {p2 : Pos} (he : JE X W e t) (hl : JO X W lo tl) (hu : JO X W hi th) : JE X W (.Subscript e (.Slice lo hi none p2) pos) (kSl X.K t tl th) :=
  pe_mono (pe_slice sl_list he hl hu) fun σ H Q ⟨G, M, R, E, hv, h, hR, hE⟩ => ⟨G, M, _, E, hv, h, fun x G1 M1 H1 hv1 h1 => ⟨G1, M1, _, E, hv1, h1, fun l G2 M2 H2 hv2 h2 => ⟨G2, M2, _, E, hv2, h2, fun u G3 M3 H3 hv3 h3 => by
    cases x <;> first
      | (obtain ⟨xs, q1, q2⟩ := h3
         exact ⟨_, xs, rfl, hv3.lst q1, fun p hp => hR _ G3 _ _ (hv3.newM hp) (q2 p (hv3.fr hp))⟩)
      | exact h3.elim, hE⟩, hE⟩, hE⟩
/-! ### calls of built-ins -/
abbrev KC := List V → Hp → Mem → KR → Prop
def rUpC (k : KC) : List V → Hp → VK → Prop := fun vs H Q => ∃ G M R, Hv G M H ∧ k vs G M R ∧ ∀ v G' M' H', Hv G' M' H' → R v G' M' → Q v H'
def kCB (k : KC) (t : KA) : KE := fun σ G M R E => t σ G M (fun vs G M => k vs G M R) E
def KCall (X : Cx) (f : Value) (k : KC) : Prop := CallR X f (rUpC k)
theorem kcall_of {f : Value} {r : List V → Hp → VK → Prop} {k : KC} (h : CallR X f r)
    (s : ∀ vs G M R H Q, Hv G M H → k vs G M R → (∀ v G' M' H', Hv G' M' H' → R v G' M' → Q v H') → r vs H Q) : KCall X f k :=
  fun pins st σ H xs us Q I rv ⟨G, M, R, hv, hk, hR⟩ => h pins st σ H xs us Q I rv (s xs G M R H Q hv hk hR)
theorem cb_sim {t : KA} {k : KC} {σ : St} {H : Hp} {Q : VK} (h : upG W (kCB k t) σ H Q) : tCB (rUpC k) (upG W t) σ H Q := by
  obtain ⟨G, M, R, E, hv, h, hR, hE⟩ := h
  exact ⟨G, M, _, E, hv, h, fun vs G1 M1 H1 hv1 h1 => ⟨G1, M1, R, hv1, h1, hR⟩, hE⟩
variable {x : Str} {p : Pos} {id T : String}
theorem je_callB {k : KC} {t : KA} (hc : KCall X (.builtin id) k) (hm : X.mg x = none) (ha : JA X W (e :: es) t) (hv : bootBuiltins x = some (.builtin id) := by decide +kernel) (hg : Gl X x := by rfl) (hn : x ≠ "__name__" := by decide) (hdb : (x == ("__debug__" : Str)) = false := by decide)
    (he : starEach (e :: es) X.env = (false, eval e X.env) :: starEach es X.env := by rfl) (hpl : (backTo pos (starEach es X.env)).any (·.1) = false := by rfl) : JE X W (.Call (.Name x p) (e :: es) [] pos) (kCB k t) :=
  pe_mono (pe_callB hc hg hm hv ha hn hdb he hpl) fun _ _ _ h => cb_sim h
theorem je_callTy {k : KC} {t : KA} (hc : KCall X (.type T) k) (hm : X.mg x = none) (ha : JA X W (e :: es) t) (hv : bootBuiltins x = some (.type T) := by decide +kernel) (hg : Gl X x := by rfl) (hn : x ≠ "__name__" := by decide) (hdb : (x == ("__debug__" : Str)) = false := by decide)
    (he : starEach (e :: es) X.env = (false, eval e X.env) :: starEach es X.env := by rfl) (hpl : (backTo pos (starEach es X.env)).any (·.1) = false := by rfl) : JE X W (.Call (.Name x p) (e :: es) [] pos) (kCB k t) :=
  pe_mono (pe_callTy hc hg hm hv ha hn hdb he hpl) fun _ _ _ h => cb_sim h
/-- a built-in type's name as a value -/
theorem je_ty {T : String} {x : Str} {pos : Pos} (hm : X.mg x = none) (hv : bootBuiltins x = some (.type T) := by decide +kernel) (hg : Gl X x := by rfl) (hn : x ≠ "__name__" := by decide) (hd : (x == ("__debug__" : Str)) = false := by decide) : JE X W (.Name x pos) (kC (.ty T)) :=
  je_c (pe_bltn hg hm hv rfl hn hd)
/-- a module's constant -/
theorem je_glob {x : Str} {v : V} {u : Value} {pos : Pos} (hm : X.mg x = some u) (r : RelV v u) (hg : Gl X x := by rfl) (hd : (x == ("__debug__" : Str)) = false := by decide) : JE X W (.Name x pos) (kC v) := je_c (pe_glob hg hm r hd)
def kLen (K : PySem.W.Frag) : KC := fun vs G M R => match vs with
  | [.ref a] => ∃ xs, SeqAt' K G M a xs ∧ R (.int xs.length) G M
  | _ => False
theorem kc_len : KCall X (.builtin "len") (kLen X.K) := kcall_of call_len_seq fun vs G M R H Q hv h hR => by
  match vs, h with
  | [.ref a], ⟨xs, h1, h2⟩ => exact ⟨a, xs, rfl, h1.elim (fun q => .inl (hv.lst q)) (fun q => .inr (hv.tup q)), hR _ G M H hv h2⟩
def kList (K : PySem.W.Frag) : KC := fun vs G M R => match vs with
  | [.ref a] => ∃ xs, SeqAt' K G M a xs ∧ ∀ p, Fr G M p → R (.ref p) G ((p, .lst xs) :: M)
  | _ => False
theorem kc_list : KCall X (.type "list") (kList X.K) := kcall_of call_list_of fun vs G M R H Q hv h hR => by
  match vs, h with
  | [.ref a], ⟨xs, h1, h2⟩ => exact ⟨a, xs, rfl, h1.elim (fun q => .inl (hv.lst q)) (fun q => .inr (hv.tup q)), fun p hp => hR _ G _ _ (hv.newM hp) (h2 p (hv.fr hp))⟩
def kMin2 : KC := fun vs G M R => match vs with
  | [.int i, .int j] => R (.int (min i j)) G M
  | _ => False
def kMax2 : KC := fun vs G M R => match vs with
  | [.int i, .int j] => R (.int (max i j)) G M
  | _ => False
theorem kc_min2 (hc : X.calm = true := by rfl) : KCall X (.builtin "min") kMin2 := kcall_of (call_min2 hc) fun vs G M R H Q hv h hR => by
  match vs, h with
  | [.int i, .int j], h =>
    refine ⟨i, j, rfl, ?_⟩
    have e : (if j < i then j else i) = min i j := by split <;> omega
    rw [e]
    exact hR _ G M H hv h
theorem kc_max2 (hc : X.calm = true := by rfl) : KCall X (.builtin "max") kMax2 := kcall_of (call_max2 hc) fun vs G M R H Q hv h hR => by
  match vs, h with
  | [.int i, .int j], h =>
    refine ⟨i, j, rfl, ?_⟩
    have e : (if j > i then j else i) = max i j := by split <;> omega
    rw [e]
    exact hR _ G M H hv h
def kInt : KC := fun vs G M R => match vs with
  | [.int i] => R (.int i) G M
  | [.bl k] => R (.int (if k then 1 else 0)) G M
  | _ => False
theorem kc_int : KCall X (.type "int") kInt := kcall_of call_int1 fun vs G M R H Q hv h hR => by
  match vs, h with
  | [.int i], h => exact .inl ⟨i, rfl, hR _ G M H hv h⟩
  | [.bl i], h => exact .inr ⟨i, rfl, hR _ G M H hv h⟩
/-- min(xs), max(xs) of ints -/
def kMinL (K : PySem.W.Frag) : KC := fun vs G M R => match vs with
  | [.ref a] => ∃ ns : List Int, LstAt K G M a (ns.map V.int) ∧ 0 < ns.length ∧ ∀ m, m ∈ ns → (∀ y, y ∈ ns → m ≤ y) → R (.int m) G M
  | _ => False
def kMaxL (K : PySem.W.Frag) : KC := fun vs G M R => match vs with
  | [.ref a] => ∃ ns : List Int, LstAt K G M a (ns.map V.int) ∧ 0 < ns.length ∧ ∀ m, m ∈ ns → (∀ y, y ∈ ns → y ≤ m) → R (.int m) G M
  | _ => False
theorem kc_minL (hc : X.calm = true := by rfl) : KCall X (.builtin "min") (kMinL X.K) := kcall_of (cr_min hc) fun vs G M R H Q hv h hR => by
  match vs, h with
  | [.ref a], ⟨ns, h1, h2, h3⟩ => exact ⟨a, ns, rfl, hv.lst h1, h2, fun m q1 q2 => hR _ G M H hv (h3 m q1 q2)⟩
theorem kc_maxL (hc : X.calm = true := by rfl) : KCall X (.builtin "max") (kMaxL X.K) := kcall_of (cr_max hc) fun vs G M R H Q hv h hR => by
  match vs, h with
  | [.ref a], ⟨ns, h1, h2, h3⟩ => exact ⟨a, ns, rfl, hv.lst h1, h2, fun m q1 q2 => hR _ G M H hv (h3 m q1 q2)⟩
def kAll (K : PySem.W.Frag) : KC := fun vs G M R => match vs with
  | [.ref a] => ∃ bs : List Bool, LstAt K G M a (bs.map V.bl) ∧ R (.bl (bs.all _root_.id)) G M
  | _ => False
theorem kc_all (hc : X.calm = true := by rfl) : KCall X (.builtin "all") (kAll X.K) := kcall_of (cr_all hc) fun vs G M R H Q hv h hR => by
  match vs, h with
  | [.ref a], ⟨ns, h1, h2⟩ => exact ⟨a, ns, rfl, hv.lst h1, hR _ G M H hv h2⟩
def kSum (K : PySem.W.Frag) : KC := fun vs G M R => match vs with
  | [.ref a] => ∃ ns : List Int, LstAt K G M a (ns.map V.int) ∧ R (.int ns.sum) G M
  | _ => False
theorem kc_sum (hc : X.calm = true := by rfl) : KCall X (.builtin "sum") (kSum X.K) := kcall_of (cr_sum hc) fun vs G M R H Q hv h hR => by
  match vs, h with
  | [.ref a], ⟨ns, h1, h2⟩ => exact ⟨a, ns, rfl, hv.lst h1, hR _ G M H hv h2⟩
/-- isinstance(x, c) -/
def kIsi (K : PySem.W.Frag) : KC := fun vs G M R => match vs with
  | [x, c] => ∃ (t u : Value) (b : Bool), ClsV c u ∧ (∀ H, Hv G M H → TyX K H x t) ∧ PySem.W.kitOne K t u = some b ∧ R (.bl b) G M
  | _ => False
theorem kc_isi : KCall X (.builtin "isinstance") (kIsi X.K) := kcall_of call_isi fun vs G M R H Q hv h hR => by
  match vs, h with
  | [x, c], ⟨t, u, b, h1, h2, h3, h4⟩ => exact ⟨x, c, t, u, b, rfl, h1, h2 H hv, h3, hR _ G M H hv h4⟩
/-! ### methods of built-in types -/
abbrev KM := V → List V → Hp → Mem → KR → Prop
def rUpM (k : KM) : V → List V → Hp → VK → Prop := fun x vs H Q => ∃ G M R, Hv G M H ∧ k x vs G M R ∧ ∀ v G' M' H', Hv G' M' H' → R v G' M' → Q v H'
def KMt (X : Cx) (id : String) (k : KM) : Prop := MtR X id (rUpM k)
theorem kmt_of {r : V → List V → Hp → VK → Prop} {k : KM} (h : MtR X id r)
    (s : ∀ x vs G M R H Q, Hv G M H → k x vs G M R → (∀ v G' M' H', Hv G' M' H' → R v G' M' → Q v H') → r x vs H Q) : KMt X id k :=
  fun pins st σ H x xs v us Q I rx rv ⟨G, M, R, hv, hk, hR⟩ => h pins st σ H x xs v us Q I rx rv (s x xs G M R H Q hv hk hR)
def kBM (K : PySem.W.Frag) (T : String) (k : KM) (to : KE) (t : KA) : KE := fun σ G M R E => to σ G M (fun x G M => (∀ H, Hv G M H → tyV K T x H) ∧ t σ G M (fun vs G M => k x vs G M R) E) E
def kBM0 (K : PySem.W.Frag) (T : String) (k : KM) (to : KE) : KE := fun σ G M R E => to σ G M (fun x G M => (∀ H, Hv G M H → tyV K T x H) ∧ k x [] G M R) E
variable {o : Expr} {name : Str} {apos cpos : Pos}
theorem je_bm {k : KM} {to : KE} {t : KA} (pa : PlainAttrs T) (slot : Slot T name id) (hty : typeOf (.builtin id) = pure (.type "method_descriptor")) (hm : KMt X id k) (ho : JE X W o to) (ha : JA X W (e :: es) t)
    (hbase : attributeBase o name X.env (eval o X.env) = eval o X.env := by rfl)
    (hfew : ((backTo cpos (starEach (e :: es) X.env)).all (fun x => !x.1) && (backToKw cpos (keywordEach [] X.env)).all (fun x => x.1.isSome)
      && decide ((e :: es).length + ([] : List Keyword).length + (if ([] : List Keyword).isEmpty then 0 else 1) < 30)) = true := by rfl)
    (hline : (apos.endLine == cpos.line) = true := by rfl) (hs : starEach (e :: es) X.env = (false, eval e X.env) :: starEach es X.env := by rfl) (hplain : (backTo cpos (starEach es X.env)).any (·.1) = false := by rfl) :
    JE X W (.Call (.Attribute o name apos) (e :: es) [] cpos) (kBM X.K T k to t) :=
  pe_mono (pe_bm pa slot hty hm ho ha hbase hfew hline hs hplain) fun σ H Q ⟨G, M, R, E, hv, h, hR, hE⟩ => ⟨G, M, _, E, hv, h, fun x G1 M1 H1 hv1 h1 => ⟨h1.1 H1 hv1, G1, M1, _, E, hv1, h1.2, fun vs G2 M2 H2 hv2 h2 => ⟨G2, M2, R, hv2, h2, hR⟩, hE⟩, hE⟩
theorem je_bm0 {k : KM} {to : KE} (pa : PlainAttrs T) (slot : Slot T name id) (hty : typeOf (.builtin id) = pure (.type "method_descriptor")) (hm : KMt X id k) (ho : JE X W o to)
    (hbase : attributeBase o name X.env (eval o X.env) = eval o X.env := by rfl) (hline : (apos.endLine == cpos.line) = true := by rfl) : JE X W (.Call (.Attribute o name apos) [] [] cpos) (kBM0 X.K T k to) :=
  pe_mono (pe_bm0 pa slot hty hm ho hbase hline) fun σ H Q ⟨G, M, R, E, hv, h, hR, hE⟩ => ⟨G, M, _, E, hv, h, fun x G1 M1 H1 hv1 h1 => ⟨h1.1 H1 hv1, G1, M1, R, hv1, h1.2, hR⟩, hE⟩
def kAppend : KM := fun x vs G M R => match x, vs with
  | .ref a, [y] => ∃ n xs, M[n]? = some (a, .lst xs) ∧ xs.length < sizeLine ∧ R .non G (M.set n (a, .lst (xs ++ [y])))
  | _, _ => False
theorem km_append : KMt X "list.append" kAppend := kmt_of mt_append fun x vs G M R H Q hv h hR => by
  match x, vs, h with
  | .ref a, [y], ⟨n, xs, h1, h2, h3⟩ => exact ⟨a, xs, y, rfl, rfl, hv.get h1, h2, hR _ G _ _ (hv.set h1) h3⟩
def kExtend : KM := fun x vs G M R => match x, vs with
  | .ref a, [.ref b] => ∃ n xs ys, M[n]? = some (a, .lst xs) ∧ At G M b (.lst ys) ∧ xs.length + ys.length ≤ sizeLine ∧ R .non G (M.set n (a, .lst (xs ++ ys)))
  | _, _ => False
theorem km_extend : KMt X "list.extend" kExtend := kmt_of mt_extend fun x vs G M R H Q hv h hR => by
  match x, vs, h with
  | .ref a, [.ref b], ⟨n, xs, ys, h1, h2, h3, h4⟩ => exact ⟨a, b, xs, ys, rfl, rfl, hv.get h1, hv.at h2, h3, hR _ G _ _ (hv.set h1) h4⟩
def kReverse : KM := fun x vs G M R => match x, vs with
  | .ref a, [] => ∃ n xs, M[n]? = some (a, .lst xs) ∧ R .non G (M.set n (a, .lst xs.reverse))
  | _, _ => False
theorem km_reverse : KMt X "list.reverse" kReverse := kmt_of mt_reverse fun x vs G M R H Q hv h hR => by
  match x, vs, h with
  | .ref a, [], ⟨n, xs, h1, h3⟩ => exact ⟨a, xs, rfl, rfl, hv.get h1, hR _ G _ _ (hv.set h1) h3⟩
end
/-! ### defs -/
abbrev KSp := List V → Hp → Mem → KR → KX → Prop
def lift (S : KSp) : Sp := fun vs H Q E => ∃ G M R X, Hv G M H ∧ S vs G M R X ∧ (∀ v G' M' H', Hv G' M' H' → R v G' M' → Q v H') ∧ (∀ c d G' M' H', Hv G' M' H' → X c d G' M' → E c d H')
def kCall (S : KSp) (t : KA) : KE := fun σ G M R E => t σ G M (fun vs G M => S vs G M R E) E
section
variable {X : Cx} {W : WX} {pos p : Pos} {e : Expr} {es : List Expr} {x : Str} {k : Nat} {f : Addr} {fd : FuncData} {ps : List Str} {S : KSp} {t : KA}
theorem je_call (F : FnOk X.prog X.w X.K X.mg X.base (L2.CX X.prog X.w) k f fd ps (lift S)) (hr : Room k X.A) (tk : Takes X W) (hm : X.mg x = some (.ref f)) (hk : PySem.W.keepIn X.K (.ref f) = true) (hb : Binds X.K fd ps []) (ha : JA X W (e :: es) t) (hg : Gl X x := by rfl)
    (hdb : (x == ("__debug__" : Str)) = false := by decide) (he : starEach (e :: es) X.env = (false, eval e X.env) :: starEach es X.env := by rfl) (hpl : (backTo pos (starEach es X.env)).any (·.1) = false := by rfl) :
    JE X W (.Call (.Name x p) (e :: es) [] pos) (kCall S t) :=
  pe_mono (pe_callS F hr hg hm hk hb (passAt tk) ha hdb he hpl) fun σ H Q ⟨G, M, R, E, hv, h, hR, hE⟩ =>
    ⟨G, M, _, E, hv, h, fun vs G1 M1 H1 hv1 h1 => ⟨G1, M1, R, E, hv1, h1, hR, hE⟩, hE⟩
end
end BT
set_option Elab.async false
set_option linter.all false
set_option maxRecDepth 100000
set_option maxHeartbeats 4000000
namespace BT
open PySem PySem.Spec L2
open PyProof.Rows hiding St
/-! ### statements -/
structure Kd where
  nx : St → Hp → Mem → Prop
  rt : KR
  bk : St → Hp → Mem → Prop := fun _ _ _ => False
  ct : St → Hp → Mem → Prop := fun _ _ _ => False
  xc : Value → Option Addr → St → Hp → Mem → Prop := fun _ _ _ _ _ => False
abbrev KS := Kd → St → Hp → Mem → Prop
structure EndsTo (W : WX) (d : Kd) (D : Ends) : Prop where
  nx : ∀ σ G M H, Hv G M H → d.nx σ G M → D.nx σ H
  rt : ∀ v G M H, Hv G M H → d.rt v G M → D.rt v H
  bk : ∀ σ G M H, Hv G M H → d.bk σ G M → D.bk σ H
  ct : ∀ σ G M H, Hv G M H → d.ct σ G M → D.ct σ H
  xc : ∀ c a σ G M H, Hv G M H → d.xc c a σ G M → W c a σ H
def upS (W : WX) (t : KS) : TS := fun D σ H => ∃ G M d, Hv G M H ∧ t d σ G M ∧ EndsTo W d D
def JS (X : Cx) (W : WX) (s : Stmt) (t : KS) : Prop := PS X s (upS W t)
def JSs (X : Cx) (W : WX) (s : List Stmt) (t : KS) : Prop := PSs X s (upS W t)
theorem ps_mono {X : Cx} {s : Stmt} {t t' : TS} (h : PS X s t) (i : ∀ D σ H, t' D σ H → t D σ H) : PS X s t' := ⟨fun pins st σ H D I q => h.run pins st σ H D I (i D σ H q)⟩
theorem pss_mono {X : Cx} {s : List Stmt} {t t' : TS} (h : PSs X s t) (i : ∀ D σ H, t' D σ H → t D σ H) : PSs X s t' := ⟨fun pins st σ H D I q => h.run pins st σ H D I (i D σ H q)⟩
def Kd.x (d : Kd) (σ : St) : KX := fun c a G M => d.xc c a σ G M
section
variable {X : Cx} {W : WX} {pos : Pos} {s : Stmt} {ss : List Stmt} {e : Expr} {t u : KS}
def kNext : KS := fun D σ G M => D.nx σ G M
def kSeq (t u : KS) : KS := fun D σ G M => ∃ G' M', Wk G M G' M' ∧ t { D with nx := u D } σ G' M'
def kNever : KS := fun _ _ _ _ => False
theorem jss_nil : JSs X W [] kNext := pss_mono pss_nil fun D σ H ⟨G, M, d, hv, h, en⟩ => en.nx σ G M H hv h
theorem jss_cons (h1 : JS X W s t) (h2 : JSs X W ss u) : JSs X W (s :: ss) (kSeq t u) := pss_mono (pss_cons h1 h2) fun D σ H ⟨G, M, d, hv, ⟨G', M', wk, h⟩, en⟩ =>
  ⟨G', M', _, wk H hv, h, ⟨fun σ' G2 M2 H2 hv2 q => ⟨G2, M2, d, hv2, q, en⟩, en.rt, en.bk, en.ct, en.xc⟩⟩
theorem js_never : JS X W s kNever := ps_mono ps_never fun D σ H ⟨G, M, d, hv, h, en⟩ => h
theorem js_pass : JS X W (.Pass pos) kNext := ps_mono ps_pass fun D σ H ⟨G, M, d, hv, h, en⟩ => en.nx σ G M H hv h
def kSet (i : Nat) (t : KE) : KS := fun D σ G M => t σ G M (fun v G M => D.nx (σ.set i (some v)) G M) (D.x σ)
theorem js_set {i : Nat} {x : Str} {t : KE} {pos' : Pos} (he : JE X W e t) (hN : X.N.Nodup) (hi : X.N[i]? = some x := by rfl) (hx : Loc X.env.scope x := by first | exact Or.inl rfl | exact Or.inr rfl)
    (hs : swapsWith e (some (.Name x pos')) pos.line X.env = pure false := by rfl) (hf : X.fn x = true ∨ X.env.scope.names.lookup x = some .local := by first | exact .inl rfl | exact .inr rfl | assumption) :
    JS X W (.Assign [.Name x pos'] e pos) (kSet i t) := ps_mono (ps_set hN hi hx he hs hf) fun D σ H ⟨G, M, d, hv, h, en⟩ =>
  ⟨G, M, _, _, hv, h, fun v G' M' H' hv' q => en.nx _ G' M' H' hv' q, fun c a G' M' H' hv' q => en.xc c a σ G' M' H' hv' q⟩
def kExpr (t : KE) : KS := fun D σ G M => t σ G M (fun _ G M => D.nx σ G M) (D.x σ)
theorem js_expr {t : KE} (he : JE X W e t) (hs : swapsWith e none pos.line X.env = pure false := by rfl) : JS X W (.Expr e pos) (kExpr t) := ps_mono (ps_expr he hs) fun D σ H ⟨G, M, d, hv, h, en⟩ =>
  ⟨G, M, _, _, hv, h, fun v G' M' H' hv' q => en.nx _ G' M' H' hv' q, fun c a G' M' H' hv' q => en.xc c a σ G' M' H' hv' q⟩
def kRet (t : KE) : KS := fun D σ G M => t σ G M D.rt (D.x σ)
theorem js_ret {t : KE} (he : JE X W e t) : JS X W (.Return (some e) pos) (kRet t) := ps_mono (ps_ret he) fun D σ H ⟨G, M, d, hv, h, en⟩ =>
  ⟨G, M, _, _, hv, h, fun v G' M' H' hv' q => en.rt _ G' M' H' hv' q, fun c a G' M' H' hv' q => en.xc c a σ G' M' H' hv' q⟩
def kRetN : KS := fun D σ G M => D.rt .non G M
theorem js_retN : JS X W (.Return none pos) kRetN := ps_mono ps_retN fun D σ H ⟨G, M, d, hv, h, en⟩ => en.rt _ G M H hv h
def kIf (c : KT) (t u : KS) : KS := fun D σ G M => c σ G M (fun b G M => if b = true then t D σ G M else u D σ G M) (D.x σ)
theorem js_if {c : Expr} {a b : List Stmt} {tc : KT} (hc : JT X W c tc) (ha : JSs X W a t) (hb : JSs X W b u) : JS X W (.If c a b pos) (kIf tc t u) := ps_mono (ps_if hc ha hb) fun D σ H ⟨G, M, d, hv, h, en⟩ =>
  ⟨G, M, _, _, hv, h, fun v G' M' H' hv' q => by
    cases v with
    | true => rw [if_pos rfl] at q ⊢; exact ⟨G', M', d, hv', q, en⟩
    | false => rw [if_neg Bool.false_ne_true] at q ⊢; exact ⟨G', M', d, hv', q, en⟩, fun c a G' M' H' hv' q => en.xc c a σ G' M' H' hv' q⟩
/-! ### targets -/
structure KG where
  val : V → St → Hp → Mem → (St → Hp → Mem → Prop) → Prop
  tup : List V → St → Hp → Mem → (St → Hp → Mem → Prop) → Prop
structure JG (X : Cx) (tg : Expr) (g : KG) (gr : TG) : Prop where
  pg : PG X tg gr
  val : ∀ v σ G M R H Q, Hv G M H → g.val v σ G M R → (∀ σ' G' M' H', Hv G' M' H' → R σ' G' M' → Q σ' H') → gr v σ H Q
  tup : ∀ T vs σ G M R H Q, Hv G M H → H T = none → g.tup vs σ G M R → (∀ σ' G' M' H', Hv G' M' H' → R σ' G' M' → Q σ' H') → gr (.ref T) σ (upd H T (.tup vs)) Q
def kgName (i : Nat) : KG := ⟨fun v σ G M R => R (σ.set i (some v)) G M, fun vs σ G M R => ∀ T, Fr G M T → R (σ.set i (some (.ref T))) (upd G T (.tup vs)) M⟩
theorem jg_name {i : Nat} {x : Str} (hN : X.N.Nodup) (hi : X.N[i]? = some x := by rfl) (hx : Loc X.env.scope x := by first | exact Or.inl rfl | exact Or.inr rfl) (hf : X.fn x = true ∨ X.env.scope.names.lookup x = some .local := by first | exact .inl rfl | exact .inr rfl | assumption) : JG X (.Name x pos) (kgName i) (gName i) :=
  ⟨pg_name hN hi hx hf, fun v σ G M R H Q hv h hR => hR _ G M H hv h, fun T vs σ G M R H Q hv hT h hR => hR _ _ M _ (hv.newG hT) (h T (hv.fr hT))⟩
/-- several targets at once -/
abbrev KGs := List V → St → Hp → Mem → (St → Hp → Mem → Prop) → Prop
def kgsNil : KGs := fun vs σ G M R => match vs with
  | [] => R σ G M
  | _ => False
def kgsCons (g : KG) (r : KGs) : KGs := fun vs σ G M R => match vs with
  | v :: vs => g.val v σ G M (fun σ G M => r vs σ G M R)
  | [] => False
structure JGs (X : Cx) (ts : List Expr) (g : KGs) (gr : TGs) : Prop where
  pgs : PGs X ts gr
  sim : ∀ vs σ G M R H Q, Hv G M H → g vs σ G M R → (∀ σ' G' M' H', Hv G' M' H' → R σ' G' M' → Q σ' H') → gr vs σ H Q
theorem jgs_nil : JGs X [] kgsNil gNil := ⟨pgs_nil, fun vs σ G M R H Q hv h hR => by
  match vs, h with
  | [], h => exact ⟨rfl, hR _ G M H hv h⟩⟩
theorem jgs_cons {tg : Expr} {ts : List Expr} {g : KG} {r : KGs} {gr : TG} {gs : TGs} (h1 : JG X tg g gr) (hr : JGs X ts r gs)
    (hs : (assignEach (tg :: ts) X.env).map (·.2) = assign tg X.env :: (assignEach ts X.env).map (·.2) := by rfl) : JGs X (tg :: ts) (kgsCons g r) (gCons gr gs) :=
  ⟨pgs_cons h1.pg hr.pgs hs, fun vs σ G M R H Q hv h hR => by
    match vs, h with
    | v :: vs, h => exact ⟨v, vs, rfl, h1.val v σ G M _ H _ hv h fun σ' G' M' H' hv' q => hr.sim vs σ' G' M' R H' Q hv' q hR⟩⟩
def onLen (n : Nat) (g : KGs) : KGs := fun vs σ G M R => match vs.length == n with
  | true => g vs σ G M R
  | false => False
theorem onLen_of {n : Nat} {g : KGs} {vs : List V} {σ : St} {G : Hp} {M : Mem} {R : St → Hp → Mem → Prop} (h : onLen n g vs σ G M R) : vs.length = n ∧ g vs σ G M R := by
  unfold onLen at h
  split at h
  · rename_i e; exact ⟨beq_iff_eq.mp e, h⟩
  · exact h.elim
def kgTup (K : PySem.W.Frag) (n : Nat) (g : KGs) : KG := ⟨fun v σ G M R => match v with
    | .ref a => ∃ xs, SqT K G a xs ∧ onLen n g xs σ G M R
    | _ => False, onLen n g⟩
theorem jg_tup {K : PySem.W.Frag} {ts : List Expr} {g : KGs} {gs : TGs} {n k : Nat} (hc : X.calm = true) (h : JGs X ts g gs) (hK : X.K = K := by rfl) (hn : (assignEach ts X.env).length = n := by rfl) (hst : (assignEach ts X.env).findIdx? (·.1) = none := by rfl) :
    JG X (.Tuple ts k pos) (kgTup K n g) (gTup K n gs) := by
  subst hK
  exact ⟨pg_tup hc h.pgs hn hst, fun v σ G M R H Q hv q hR => by
    match v, q with
    | .ref a, ⟨xs, q1, q2⟩ =>
      obtain ⟨e, q3⟩ := onLen_of q2
      exact ⟨a, xs, rfl, hv.tup q1, e, h.sim xs σ G M R H Q hv q3 hR⟩,
   fun T vs σ G M R H Q hv hT q hR => by
    obtain ⟨e, q3⟩ := onLen_of q
    exact ⟨T, vs, rfl, .inl (.inl upd_same), e, h.sim vs σ G M R _ Q (hv.junk hT) q3 hR⟩⟩
/-- nothing is raised -/
def W0 : WX := fun _ _ _ _ => False
/-- a place of a list as a target -/
def setL (o i v : V) (G : Hp) (M : Mem) (R : Hp → Mem → Prop) : Prop := match o, i with
  | .ref a, .int k => ∃ n xs j, M[n]? = some (a, .lst xs) ∧ ixN xs.length k = some j ∧ R G (M.set n (a, .lst (xs.set j v)))
  | _, _ => False
def kgIx (to ti : KE) : KG := ⟨fun v σ G M R => to σ G M (fun o G M => ti σ G M (fun i G M => setL o i v G M (fun G M => R σ G M)) (fun _ _ _ _ => False)) (fun _ _ _ _ => False), fun _ _ _ _ _ => False⟩
theorem jg_ix {o i : Expr} {to ti : KE} (ho : JE X W0 o to) (hi : JE X W0 i ti)
    (ha : ∀ v, assign (.Subscript o i pos) X.env v = (do
      let ov ← holding [v] (eval o X.env)
      let iv ← holding [v, ov] (eval i X.env)
      standAt pos
      holding [v, ov, iv] (setItem ov iv v)
      release [v, ov, iv] []) := by intro _; rfl) : JG X (.Subscript o i pos) (kgIx to ti) (gSub (upG W0 to) (upG W0 ti) rSetL) :=
  ⟨pg_sub ho hi set_list ha, fun v σ G M R H Q hv q hR => ⟨G, M, _, _, hv, q, fun ov G2 M2 H2 hv2 q2 => ⟨G2, M2, _, _, hv2, q2, fun iv G3 M3 H3 hv3 q3 => by
    match ov, iv, q3 with
    | .ref a, .int k, ⟨n, xs, j, e1, e2, q⟩ => exact ⟨a, xs, k, j, rfl, rfl, hv3.get e1, e2, hR σ G3 _ _ (hv3.set e1) q⟩, fun _ _ _ _ _ _ z => z.elim⟩, fun _ _ _ _ _ _ z => z.elim⟩,
   fun _ _ _ _ _ _ _ _ _ _ z => z.elim⟩
/-- a target of an assignment -/
def kAsg (t : KE) (g : KG) : KS := fun D σ G M => t σ G M (fun v G M => g.val v σ G M D.nx) (D.x σ)
theorem js_asg {tg : Expr} {t : KE} {g : KG} {gr : TG} (he : JE X W e t) (hg : JG X tg g gr) (hs : swapsWithSole [tg] e pos.line X.env = pure false := by rfl) (hw : swappedStores [tg] e X.env = pure none := by rfl)
    (h1 : (assignEach [tg] X.env).map (·.2) = [assign tg X.env] := by rfl) : JS X W (.Assign [tg] e pos) (kAsg t g) := ps_mono (ps_asg he hg.pg hs hw h1) fun D σ H ⟨G, M, d, hv, h, en⟩ =>
  ⟨G, M, _, _, hv, h, fun v G' M' H' hv' q => hg.val v σ G' M' _ H' _ hv' q fun σ' G2 M2 H2 hv2 q2 => en.nx _ G2 M2 H2 hv2 q2, fun c a G' M' H' hv' q => en.xc c a σ G' M' H' hv' q⟩
end
end BT
set_option Elab.async false
set_option linter.all false
set_option maxRecDepth 100000
set_option maxHeartbeats 4000000
namespace BT
open PySem PySem.Spec L2
open PyProof.Rows hiding St
/-! ### what is walked -/
structure Src where
  n : Nat
  get : Nat → V ⊕ List V
  ok : Hp → Mem → Prop
abbrev KI := KK Src
/-- an iterator that gives what the source says -/
structure Goes (src : Src) (J : It) : Prop where
  go : ∀ i G M H, Hv G M H → src.ok G M → i < src.n → J.go i H
  stop : ∀ i G M H, Hv G M H → src.ok G M → src.n ≤ i → J.stop i H
  yld : ∀ i G M H x H', Hv G M H → src.ok G M → i < src.n → J.yld i H x H' → match src.get i with
    | .inl v => x = v ∧ H' = H
    | .inr vs => ∃ T, x = .ref T ∧ H T = none ∧ H' = upd H T (.tup vs)
def upI (W : WX) (t : KI) : TI := fun σ H Q => ∃ G M R E, Hv G M H ∧ t σ G M R E ∧ (∀ src G' M' H', Hv G' M' H' → R src G' M' → ∀ J, Goes src J → Q J H') ∧ (∀ c d G' M' H', Hv G' M' H' → E c d G' M' → W c d σ H')
def JI (X : Cx) (W : WX) (tg it : Expr) (t : KI) : Prop := PI X tg it (upI W t)
theorem pi_mono {X : Cx} {tg it : Expr} {t t' : TI} (h : PI X tg it t) (i : ∀ σ H Q, t' σ H Q → t σ H Q) : PI X tg it t' := ⟨fun pins s σ H Q I q => h.run pins s σ H Q I (i σ H Q q)⟩
def srcL (K : PySem.W.Frag) (a : Addr) (xs : List V) : Src := ⟨xs.length, fun i => .inl (xs.getD i .non), fun G M => LstAt K G M a xs⟩
def srcT (K : PySem.W.Frag) (a : Addr) (xs : List V) : Src := ⟨xs.length, fun i => .inl (xs.getD i .non), fun G M => SqT K G a xs⟩
def srcR (lo : Int) (n : Nat) : Src := ⟨n, fun i => .inl (.int (lo + i)), fun _ _ => True⟩
def srcC (lo c : Int) (n : Nat) : Src := ⟨n, fun i => .inl (.int (lo + (i : Nat) * c)), fun _ _ => True⟩
def srcE (K : PySem.W.Frag) (a : Addr) (xs : List V) : Src := ⟨xs.length, fun i => .inr [.int i, xs.getD i .non], fun G M => LstAt K G M a xs⟩
def srcZ (K : PySem.W.Frag) (a b : Addr) (xs ys : List V) : Src := ⟨min xs.length ys.length, fun i => .inr [xs.getD i .non, ys.getD i .non], fun G M => LstAt K G M a xs ∧ LstAt K G M b ys⟩
def srcV (K : PySem.W.Frag) (a : Addr) (xs : List V) : Src := ⟨xs.length, fun i => .inl (xs.getD (xs.length - 1 - i) .non), fun G M => LstAt K G M a xs⟩
theorem getD_of {xs : List V} {i : Nat} {x : V} (h : xs[i]? = some x) : xs.getD i .non = x := by
  rw [List.getD_eq_getElem?_getD, h]; rfl
theorem get_lt {xs : List V} {i : Nat} (h : i < xs.length) : xs[i]? = some (xs.getD i .non) := by
  rw [List.getD_eq_getElem?_getD, List.getElem?_eq_getElem h]; rfl
theorem goes_L {K : PySem.W.Frag} {a : Addr} {xs : List V} : Goes (srcL K a xs) (Itl K a) where
  go := fun i G M H hv ok hi => ⟨xs, _, hv.lst ok, get_lt hi⟩
  stop := fun i G M H hv ok hi => ⟨xs, hv.lst ok, hi⟩
  yld := fun i G M H x H' hv ok hi y => ⟨(getD_of (y.2 xs (hv.lst ok))).symm, y.1⟩
theorem goes_T {K : PySem.W.Frag} {a : Addr} {xs : List V} : Goes (srcT K a xs) (Itt K a) where
  go := fun i G M H hv ok hi => ⟨xs, _, hv.tup ok, get_lt hi⟩
  stop := fun i G M H hv ok hi => ⟨xs, hv.tup ok, hi⟩
  yld := fun i G M H x H' hv ok hi y => ⟨(getD_of (y.2 xs (hv.tup ok))).symm, y.1⟩
theorem goes_R {lo : Int} {n : Nat} : Goes (srcR lo n) (Itr lo n) where
  go := fun i G M H hv ok hi => hi
  stop := fun i G M H hv ok hi => hi
  yld := fun i G M H x H' hv ok hi y => ⟨y.2, y.1⟩
theorem goes_C {lo c : Int} {n : Nat} : Goes (srcC lo c n) (Itc lo c n) where
  go := fun i G M H hv ok hi => hi
  stop := fun i G M H hv ok hi => hi
  yld := fun i G M H x H' hv ok hi y => ⟨y.2, y.1⟩
theorem goes_E {K : PySem.W.Frag} {a : Addr} {xs : List V} : Goes (srcE K a xs) (Ite K a) where
  go := fun i G M H hv ok hi => ⟨xs, _, hv.lst ok, get_lt hi⟩
  stop := fun i G M H hv ok hi => ⟨xs, hv.lst ok, hi⟩
  yld := fun i G M H x H' hv ok hi y => by
    obtain ⟨T, z, e1, e2, e3, e4⟩ := y
    have e5 := getD_of (e4 xs (hv.lst ok))
    exact ⟨T, e1, e2, by rw [e3, ← e5]⟩
theorem goes_Z {K : PySem.W.Frag} {a b : Addr} {xs ys : List V} : Goes (srcZ K a b xs ys) (Itz K a b) where
  go := fun i G M H hv ok hi => ⟨xs, ys, _, _, hv.lst ok.1, hv.lst ok.2, get_lt (Nat.lt_of_lt_of_le hi (Nat.min_le_left _ _)), get_lt (Nat.lt_of_lt_of_le hi (Nat.min_le_right _ _))⟩
  stop := fun i G M H hv ok hi => ⟨xs, ys, hv.lst ok.1, hv.lst ok.2, by
    have hi : min xs.length ys.length ≤ i := hi
    omega⟩
  yld := fun i G M H x H' hv ok hi y => by
    obtain ⟨T, z, w, e1, e2, e3, e4, e5⟩ := y
    have e6 := getD_of (e4 xs (hv.lst ok.1))
    have e7 := getD_of (e5 ys (hv.lst ok.2))
    exact ⟨T, e1, e2, by rw [e3, ← e6, ← e7]⟩
theorem goes_V {K : PySem.W.Frag} {a : Addr} {xs : List V} : Goes (srcV K a xs) (Itv K a xs.length) where
  go := fun i G M H hv ok hi => ⟨hi, xs, _, hv.lst ok, get_lt (by have hi : i < xs.length := hi; omega)⟩
  stop := fun i G M H hv ok hi => hi
  yld := fun i G M H x H' hv ok hi y => ⟨(getD_of (y.2 xs (hv.lst ok))).symm, y.1⟩
section
variable {X : Cx} {W : WX} {pos p tpos : Pos} {e e2 a b c : Expr} {es : List Expr} {tg : Expr}
def kiSeq (K : PySem.W.Frag) (t : KE) : KI := fun σ G M R E => t σ G M (fun x G M => match x with
  | .ref a => ∃ xs, LstAt K G M a xs ∧ R (srcL K a xs) G M
  | _ => False) E
def kiTup (K : PySem.W.Frag) (t : KE) : KI := fun σ G M R E => t σ G M (fun x G M => match x with
  | .ref a => ∃ xs, SqT K G a xs ∧ R (srcT K a xs) G M
  | _ => False) E
theorem ji_list {t : KE} (h : JE X W e t) : JI X W tg e (kiSeq X.K t) := pi_mono (pi_list h) fun σ H Q ⟨G, M, R, E, hv, h, hR, hE⟩ => ⟨G, M, _, E, hv, h, fun x G1 M1 H1 hv1 q => by
    match x, q with
    | .ref a, ⟨xs, q1, q2⟩ => exact ⟨a, rfl, ⟨xs, hv1.lst q1⟩, hR _ G1 M1 H1 hv1 q2 _ goes_L⟩, hE⟩
theorem ji_tup {t : KE} (h : JE X W e t) : JI X W tg e (kiTup X.K t) := pi_mono (pi_tup h) fun σ H Q ⟨G, M, R, E, hv, h, hR, hE⟩ => ⟨G, M, _, E, hv, h, fun x G1 M1 H1 hv1 q => by
    match x, q with
    | .ref a, ⟨xs, q1, q2⟩ => exact ⟨a, rfl, ⟨xs, hv1.tup q1⟩, hR _ G1 M1 H1 hv1 q2 _ goes_T⟩, hE⟩
/-- range(n), range(a, b), range(a, b, c) -/
def kiR1 (t : KA) : KI := fun σ G M R E => t σ G M (fun vs G M => match vs with
  | [.int j] => (-(2 ^ 62) ≤ j ∧ j < 2 ^ 62) ∧ R (srcR 0 j.toNat) G M
  | _ => False) E
def kiR2 (t : KA) : KI := fun σ G M R E => t σ G M (fun vs G M => match vs with
  | [.int i, .int j] => (-(2 ^ 62) ≤ i ∧ i < 2 ^ 62 ∧ -(2 ^ 62) ≤ j ∧ j < 2 ^ 62) ∧ R (srcR i (j - i).toNat) G M
  | _ => False) E
def kiR3 (t : KA) : KI := fun σ G M R E => t σ G M (fun vs G M => match vs with
  | [.int i, .int j, .int c] => ∃ n, RgC i j c n ∧ R (srcC i c n) G M
  | _ => False) E
theorem ji_range1 {t : KA} (hm : X.mg "range" = none) (ha : JA X W [a] t) (hg : Gl X "range" := by rfl) (hs : starEach [a] X.env = [(false, eval a X.env)] := by rfl) : JI X W tg (.Call (.Name "range" p) [a] [] pos) (kiR1 t) :=
  pi_mono (pi_range1 hg hm ha hs) fun σ H Q ⟨G, M, R, E, hv, h, hR, hE⟩ => ⟨G, M, _, E, hv, h, fun vs G1 M1 H1 hv1 q => by
    match vs, q with
    | [.int j], ⟨⟨q1, q2⟩, q3⟩ => exact ⟨j, rfl, q1, q2, hR _ G1 M1 H1 hv1 q3 _ goes_R⟩, hE⟩
theorem ji_range2 {t : KA} (hm : X.mg "range" = none) (ha : JA X W [a, b] t) (hg : Gl X "range" := by rfl) (hs : starEach [a, b] X.env = [(false, eval a X.env), (false, eval b X.env)] := by rfl) (hs2 : starEach [b] X.env = [(false, eval b X.env)] := by rfl) : JI X W tg (.Call (.Name "range" p) [a, b] [] pos) (kiR2 t) :=
  pi_mono (pi_range2 hg hm ha hs hs2) fun σ H Q ⟨G, M, R, E, hv, h, hR, hE⟩ => ⟨G, M, _, E, hv, h, fun vs G1 M1 H1 hv1 q => by
    match vs, q with
    | [.int i, .int j], ⟨q1, q3⟩ => exact ⟨i, j, rfl, q1, hR _ G1 M1 H1 hv1 q3 _ goes_R⟩, hE⟩
theorem ji_range3 {t : KA} (hm : X.mg "range" = none) (ha : JA X W [a, b, c] t) (hg : Gl X "range" := by rfl) (hs : starEach [a, b, c] X.env = (false, eval a X.env) :: starEach [b, c] X.env := by rfl) (hpl : (backTo pos (starEach [b, c] X.env)).any (·.1) = false := by rfl) : JI X W tg (.Call (.Name "range" p) [a, b, c] [] pos) (kiR3 t) :=
  pi_mono (pi_range3 hg hm ha hs hpl) fun σ H Q ⟨G, M, R, E, hv, h, hR, hE⟩ => ⟨G, M, _, E, hv, h, fun vs G1 M1 H1 hv1 q => by
    match vs, q with
    | [.int i, .int j, .int c], ⟨n, q1, q3⟩ => exact ⟨i, j, c, n, rfl, q1, hR _ G1 M1 H1 hv1 q3 _ goes_C⟩, hE⟩
def kiEnum (K : PySem.W.Frag) (t : KA) : KI := fun σ G M R E => t σ G M (fun vs G M => match vs with
  | [.ref a] => ∃ xs, LstAt K G M a xs ∧ R (srcE K a xs) G M
  | _ => False) E
def kiRev (K : PySem.W.Frag) (t : KA) : KI := fun σ G M R E => t σ G M (fun vs G M => match vs with
  | [.ref a] => ∃ xs, LstAt K G M a xs ∧ R (srcV K a xs) G M
  | _ => False) E
def kiZip (K : PySem.W.Frag) (t : KA) : KI := fun σ G M R E => t σ G M (fun vs G M => match vs with
  | [.ref a, .ref b] => ∃ xs ys, LstAt K G M a xs ∧ LstAt K G M b ys ∧ R (srcZ K a b xs ys) G M
  | _ => False) E
variable {elts : List Expr} {kk : Nat}
theorem ji_enum {t : KA} (hm : X.mg "enumerate" = none) (ha : JA X W [e] t) (hg : Gl X "enumerate" := by rfl) (hs : starEach [e] X.env = [(false, eval e X.env)] := by rfl) : JI X W (.Tuple elts kk tpos) (.Call (.Name "enumerate" p) [e] [] pos) (kiEnum X.K t) :=
  pi_mono (pi_enum hg hm ha hs) fun σ H Q ⟨G, M, R, E, hv, h, hR, hE⟩ => ⟨G, M, _, E, hv, h, fun vs G1 M1 H1 hv1 q => by
    match vs, q with
    | [.ref a], ⟨xs, q1, q3⟩ => exact ⟨a, xs, rfl, hv1.lst q1, hR _ G1 M1 H1 hv1 q3 _ goes_E⟩, hE⟩
theorem ji_rev {t : KA} (hm : X.mg "reversed" = none) (ha : JA X W [e] t) (hg : Gl X "reversed" := by rfl) (hs : starEach [e] X.env = [(false, eval e X.env)] := by rfl) : JI X W tg (.Call (.Name "reversed" p) [e] [] pos) (kiRev X.K t) :=
  pi_mono (pi_reversed hg hm ha hs) fun σ H Q ⟨G, M, R, E, hv, h, hR, hE⟩ => ⟨G, M, _, E, hv, h, fun vs G1 M1 H1 hv1 q => by
    match vs, q with
    | [.ref a], ⟨xs, q1, q3⟩ => exact ⟨a, xs, rfl, hv1.lst q1, hR _ G1 M1 H1 hv1 q3 _ goes_V⟩, hE⟩
theorem ji_zip {t : KA} (hm : X.mg "zip" = none) (ha : JA X W [e, e2] t) (hg : Gl X "zip" := by rfl) (hs : starEach [e, e2] X.env = (false, eval e X.env) :: starEach [e2] X.env := by rfl) (hpl : (backTo pos (starEach [e2] X.env)).any (·.1) = false := by rfl) :
    JI X W (.Tuple elts kk tpos) (.Call (.Name "zip" p) [e, e2] [] pos) (kiZip X.K t) :=
  pi_mono (pi_zip hg hm ha hs hpl) fun σ H Q ⟨G, M, R, E, hv, h, hR, hE⟩ => ⟨G, M, _, E, hv, h, fun vs G1 M1 H1 hv1 q => by
    match vs, q with
    | [.ref a, .ref b], ⟨xs, ys, q1, q2, q3⟩ => exact ⟨a, b, xs, ys, rfl, hv1.lst q1, hv1.lst q2, hR _ G1 M1 H1 hv1 q3 _ goes_Z⟩, hE⟩
/-! ### for -/
def asg (g : KG) (w : V ⊕ List V) : St → Hp → Mem → (St → Hp → Mem → Prop) → Prop := match w with
  | .inl v => g.val v
  | .inr vs => g.tup vs
def wk1 (Pv : St → Hp → Mem → Prop) : St → Hp → Mem → Prop := fun σ G M => ∃ G' M', Wk G M G' M' ∧ Pv σ G' M'
def kFor (ti : KI) (g : KG) (tb : KS) : KS := fun D σ G M => ti σ G M (fun src G M => ∃ Pv : Nat → St → Hp → Mem → Prop, Pv 0 σ G M ∧ (∀ i σ G M, i ≤ src.n → Pv i σ G M → src.ok G M) ∧
  (∀ i σ G M, i < src.n → Pv i σ G M → asg g (src.get i) σ G M (fun σ G M => tb { D with nx := wk1 (Pv (i + 1)), ct := wk1 (Pv (i + 1)), bk := D.nx } σ G M)) ∧ (∀ σ G M, Pv src.n σ G M → D.nx σ G M)) (D.x σ)
theorem asg_sim {g : KG} {gr : TG} (hg : JG X tg g gr) {w : V ⊕ List V} {σ : St} {G : Hp} {M : Mem} {R : St → Hp → Mem → Prop} {H H' : Hp} {x : V} {Q : St → Hp → Prop} (hv : Hv G M H)
    (y : match w with | .inl v => x = v ∧ H' = H | .inr vs => ∃ T, x = .ref T ∧ H T = none ∧ H' = upd H T (.tup vs)) (h : asg g w σ G M R) (hR : ∀ σ' G' M' H', Hv G' M' H' → R σ' G' M' → Q σ' H') : gr x σ H' Q := by
  cases w with
  | inl v =>
    obtain ⟨rfl, rfl⟩ := y
    exact hg.val _ σ G M R _ Q hv h hR
  | inr vs =>
    obtain ⟨T, rfl, hT, rfl⟩ := y
    exact hg.tup T vs σ G M R H Q hv hT h hR
theorem js_for {it : Expr} {body : List Stmt} {ti : KI} {g : KG} {gr : TG} {tb : KS} (hp : PassesOwn (model X.prog X.w) X.A X.env X.xe) (hc : X.calm = true) (hi : JI X W tg it ti) (hg : JG X tg g gr) (hb : JSs X W body tb)
    (hs : ∀ x, foldedSetIterable it X.env x = pure x := by intro _; rfl) : JS X W (.For tg it body [] pos) (kFor ti g tb) := ps_mono (ps_for hp hc hi hg.pg hb hs) fun D σ H ⟨G, M, d, hv, h, en⟩ => by
  refine ⟨G, M, _, _, hv, h, fun src G1 M1 H1 hv1 q J go => ?_, fun c a G' M' H' hv' q => en.xc c a σ G' M' H' hv' q⟩
  obtain ⟨Pv, p0, pok, pst, pend⟩ := q
  refine ⟨fun i m σ H => m = src.n - i ∧ i ≤ src.n ∧ ∃ G M, Hv G M H ∧ Pv i σ G M, ⟨src.n, by simp, Nat.zero_le _, G1, M1, hv1, p0⟩, ?_⟩
  rintro i m σ2 H2 ⟨rfl, hi2, G2, M2, hv2, p2⟩
  have ok := pok i σ2 G2 M2 hi2 p2
  by_cases hlt : i < src.n
  · refine .inr ⟨go.go i G2 M2 H2 hv2 ok hlt, fun σ' H' => ∃ G M, Hv G M H' ∧ Pv (i + 1) σ' G M, fun σ' H' ⟨G3, M3, hv3, p3⟩ => ⟨src.n - (i + 1), by omega, rfl, hlt, G3, M3, hv3, p3⟩, fun x H' y => ?_⟩
    refine asg_sim hg hv2 (go.yld i G2 M2 H2 x H' hv2 ok hlt y) (pst i σ2 G2 M2 hlt p2) fun σ3 G3 M3 H3 hv3 q3 => ?_
    have e1 : ∀ σ G M H, Hv G M H → wk1 (Pv (i + 1)) σ G M → ∃ G M, Hv G M H ∧ Pv (i + 1) σ G M := fun σ G M H hv ⟨G', M', wk, q⟩ => ⟨G', M', wk H hv, q⟩
    exact ⟨G3, M3, _, hv3, q3, ⟨e1, en.rt, en.nx, e1, en.xc⟩⟩
  · have e : i = src.n := by omega
    subst e
    exact .inl ⟨go.stop _ G2 M2 H2 hv2 ok (Nat.le_refl _), en.nx _ G2 M2 H2 hv2 (pend σ2 G2 M2 p2)⟩
/-! ### while -/
def kWhile (c : KT) (tb : KS) : KS := fun D σ G M => ∃ Pv : Nat → St → Hp → Mem → Prop, (∃ m, Pv m σ G M) ∧ ∀ m σ G M, Pv m σ G M →
  c σ G M (fun b G M => if b = true then tb { D with nx := fun σ G M => ∃ m', m' < m ∧ wk1 (Pv m') σ G M, ct := fun σ G M => ∃ m', m' < m ∧ wk1 (Pv m') σ G M, bk := D.nx } σ G M else D.nx σ G M) (D.x σ)
theorem js_while {c : Expr} {body : List Stmt} {tc : KT} {tb : KS} (hp : PassesOwn (model X.prog X.w) X.A X.env X.xe) (hc : JT X W c tc) (hb : JSs X W body tb) : JS X W (.While c body [] pos) (kWhile tc tb) := ps_mono (ps_while hp hc hb) fun D σ H ⟨G, M, d, hv, ⟨Pv, ⟨m0, p0⟩, st⟩, en⟩ => by
  refine ⟨fun m σ H => ∃ G M, Hv G M H ∧ Pv m σ G M, ⟨m0, G, M, hv, p0⟩, ?_⟩
  rintro m σ1 H1 ⟨G1, M1, hv1, p1⟩
  refine ⟨G1, M1, _, _, hv1, st m σ1 G1 M1 p1, fun b G2 M2 H2 hv2 q2 => ?_, fun c a G' M' H' hv' q => en.xc c a σ1 G' M' H' hv' q⟩
  cases b with
  | true =>
    rw [if_pos rfl] at q2 ⊢
    refine ⟨fun σ' H' => ∃ m', m' < m ∧ ∃ G M, Hv G M H' ∧ Pv m' σ' G M, fun σ' H' h => h, ?_⟩
    have e1 : ∀ σ G M H, Hv G M H → (∃ m', m' < m ∧ wk1 (Pv m') σ G M) → ∃ m', m' < m ∧ ∃ G M, Hv G M H ∧ Pv m' σ G M := fun σ G M H hv ⟨m', l, G', M', wk, q⟩ => ⟨m', l, G', M', wk H hv, q⟩
    exact ⟨G2, M2, _, hv2, q2, ⟨e1, en.rt, en.nx, e1, en.xc⟩⟩
  | false =>
    rw [if_neg Bool.false_ne_true] at q2 ⊢
    exact en.nx _ G2 M2 H2 hv2 q2
/-! ### list comprehensions -/
def E0 : KX := fun _ _ _ _ => False
def kYes : KT := fun _ G M R _ => R true G M
def JTs (X : Cx) (W : WX) (es : List Expr) (t : KT) : Prop := PTs X es (upG W t)
theorem jts_nil : JTs X W [] kYes := ⟨fun pins s σ H Q I ⟨G, M, R, E, hv, h, hR, _⟩ => pts_nil.run pins s σ H Q I (hR _ G M H hv h)⟩
theorem jts_one {t : KT} (h : JT X W c t) : JTs X W [c] t := pts_one h
def kComp (ti : KI) (g : KG) (tt : KT) (te : KE) (own : List Nat) : KE := fun σ G M R E => ti σ G M (fun src G M => src.n ≤ sizeLine ∧ ∃ Pv : Nat → List V → Hp → Mem → Prop, Pv 0 [] G M ∧ (∀ i acc G M, i ≤ src.n → Pv i acc G M → src.ok G M) ∧
  (∀ i acc G M D, i < src.n → acc.length ≤ i → Pv i acc G M → Fr G M D → asg g (src.get i) (wipe σ own) G ((D, .lst acc) :: M) (fun σ2 G M => wipe σ2 own = wipe σ own ∧ tt σ2 G M (fun b G M =>
    if b = true then te σ2 G M (fun y G M => ∃ G' M', Wk G M G' ((D, .lst acc) :: M') ∧ Pv (i + 1) (acc ++ [y]) G' M') E0 else ∃ G' M', Wk G M G' ((D, .lst acc) :: M') ∧ Pv (i + 1) acc G' M') E0)) ∧
  (∀ acc G M p, Pv src.n acc G M → acc.length ≤ src.n → Fr G M p → R (.ref p) G ((p, .lst acc) :: M))) E
theorem comp_sim {K : PySem.W.Frag} {ti : KI} {g : KG} {gr : TG} {tt : KT} {te : KE} {own : List Nat} {σ : St} {H : Hp} {Q : VK}
    (hgv : ∀ v σ G M R H Q, Hv G M H → g.val v σ G M R → (∀ σ' G' M' H', Hv G' M' H' → R σ' G' M' → Q σ' H') → gr v σ H Q)
    (hgt : ∀ T vs σ G M R H Q, Hv G M H → H T = none → g.tup vs σ G M R → (∀ σ' G' M' H', Hv G' M' H' → R σ' G' M' → Q σ' H') → gr (.ref T) σ (upd H T (.tup vs)) Q)
    (h : upG W (kComp ti g tt te own) σ H Q) : tLc (upI W ti) gr (upG W0 tt) (upG W0 te) own σ H Q := by
  obtain ⟨G, M, R, E, hv, h, hR, hE⟩ := h
  refine ⟨G, M, _, E, hv, h, fun src G1 M1 H1 hv1 q J go => ?_, hE⟩
  obtain ⟨hn, Pv, p0, pok, pst, pend⟩ := q
  intro D hD
  refine ⟨fun i m H => m = src.n - i ∧ i ≤ src.n ∧ ∃ acc G M, acc.length ≤ i ∧ Hv G ((D, .lst acc) :: M) H ∧ Pv i acc G M, ⟨src.n, by simp, Nat.zero_le _, [], G1, M1, Nat.le_refl _, hv1.newM hD, p0⟩, ?_⟩
  rintro i m H2 ⟨rfl, hi2, acc, G2, M2, hacc, hv2, p2⟩
  have hv2' : Hv G2 M2 H2 := Wk.drop0 H2 hv2
  have ok := pok i acc G2 M2 hi2 p2
  have fD : Fr G2 M2 D := by
    refine ⟨hv2.dj (D, .lst acc) List.mem_cons_self, fun x hx e => ?_⟩
    have nd := hv2.nd
    rw [List.map_cons, List.nodup_cons] at nd
    exact nd.1 (by rw [← e]; exact List.mem_map.mpr ⟨x, hx, rfl⟩)
  by_cases hlt : i < src.n
  · refine .inr ⟨go.go i G2 M2 H2 hv2' ok hlt, fun H' => ∃ acc G M, acc.length ≤ i + 1 ∧ Hv G ((D, .lst acc) :: M) H' ∧ Pv (i + 1) acc G M, fun H' ⟨acc', G3, M3, l3, hv3, p3⟩ => ⟨src.n - (i + 1), by omega, rfl, hlt, acc', G3, M3, l3, hv3, p3⟩, fun x H' y => ?_⟩
    have step := pst i acc G2 M2 D hlt hacc p2 fD
    have yy := go.yld i G2 M2 H2 x H' hv2' ok hlt y
    have fin : ∀ σ3 G3 M3 H3, Hv G3 M3 H3 → (wipe σ3 own = wipe σ own ∧ tt σ3 G3 M3 (fun b G M =>
        if b = true then te σ3 G M (fun y G M => ∃ G' M', Wk G M G' ((D, .lst acc) :: M') ∧ Pv (i + 1) (acc ++ [y]) G' M') E0 else ∃ G' M', Wk G M G' ((D, .lst acc) :: M') ∧ Pv (i + 1) acc G' M') E0) →
        (wipe σ3 own = wipe σ own ∧ upG W0 tt σ3 H3 fun b H3 => if b = true then upG W0 te σ3 H3 fun y H4 => ∃ acc, H4 D = some (.lst acc) ∧ acc.length < sizeLine ∧ (∃ acc' G M, acc'.length ≤ i + 1 ∧ Hv G ((D, .lst acc') :: M) (upd H4 D (.lst (acc ++ [y]))) ∧ Pv (i + 1) acc' G M) else ∃ acc' G M, acc'.length ≤ i + 1 ∧ Hv G ((D, .lst acc') :: M) H3 ∧ Pv (i + 1) acc' G M) := by
      rintro σ3 G3 M3 H3 hv3 ⟨ew, q3⟩
      refine ⟨ew, G3, M3, _, _, hv3, q3, fun b G4 M4 H4 hv4 q4 => ?_, fun _ _ _ _ _ _ z => z.elim⟩
      cases b with
      | true =>
        rw [if_pos rfl] at q4 ⊢
        refine ⟨G4, M4, _, _, hv4, q4, fun y G5 M5 H5 hv5 ⟨G6, M6, wk, p6⟩ => ?_, fun _ _ _ _ _ _ z => z.elim⟩
        have hv6 := wk H5 hv5
        refine ⟨acc, hv6.mu (D, .lst acc) List.mem_cons_self, by omega, acc ++ [y], G6, M6, by rw [List.length_append]; exact Nat.succ_le_succ hacc, ?_, p6⟩
        exact hv6.set (n := 0) (o' := .lst (acc ++ [y])) rfl
      | false =>
        rw [if_neg Bool.false_ne_true] at q4 ⊢
        obtain ⟨G6, M6, wk, p6⟩ := q4
        exact ⟨acc, G6, M6, by omega, wk H4 hv4, p6⟩
    revert yy step
    cases src.get i with
    | inl v =>
      rintro step ⟨rfl, rfl⟩
      exact hgv _ _ G2 _ _ _ _ hv2 step fin
    | inr vs =>
      rintro step ⟨T, rfl, hT, rfl⟩
      exact hgt T vs _ G2 _ _ _ _ hv2 hT step fin
  · have e : i = src.n := by omega
    subst e
    exact .inl ⟨go.stop _ G2 M2 H2 hv2' ok (Nat.le_refl _), hR _ _ _ _ hv2 (pend acc G2 M2 D p2 hacc fD)⟩
variable {elt it : Expr} {ifs : List Expr} {scope : Scope} {own : List (Str × Nat)} {spos py : Pos}
theorem je_comp {ti : KI} {g : KG} {gr : TG} {tt : KT} {te : KE} (hc : X.calm = true) (hN : X.N.Nodup) (hi : JI X W tg it ti) (ok : BlkOk X.N X.env.scope scope own)
    (hg : ∀ (s : Shared) (H : Hp) (C : Addr) (cl : List (Str × Addr)) (fp : List Addr), JG (X.blk s H scope (compEnvC scope cl C X.env) fp) tg g gr) (ht : ∀ (s : Shared) (H : Hp) (C : Addr) (cl : List (Str × Addr)) (fp : List Addr), JTs (X.blk s H scope (compEnvC scope cl C X.env) fp) W0 ifs tt)
    (he : ∀ (s : Shared) (H : Hp) (C : Addr) (cl : List (Str × Addr)) (fp : List Addr), JE (X.blk s H scope (compEnvC scope cl C X.env) fp) W0 elt te) (hs : ∀ x, foldedSetIterable it X.env x = pure x := by intro _; rfl) :
    JE X W (.ListComp elt [⟨tg, it, ifs, 0⟩] scope pos) (kComp ti g tt te (own.map (·.2))) :=
  pe_mono (pe_lc hc hN hi ok (fun s H C cl fp => (hg s H C cl fp).pg) ht he hs) fun σ H Q h =>
    comp_sim (K := X.K) (fun v σ G M R H Q hv => ((hg X.s_0 H 0 [] []).val v σ G M R H Q hv)) (fun T vs σ G M R H Q hv => ((hg X.s_0 H 0 [] []).tup T vs σ G M R H Q hv)) h
theorem js_setComp {i : Nat} {y : Str} {ti : KI} {g : KG} {gr : TG} {tt : KT} {te : KE} (hc : X.calm = true) (hN : X.N.Nodup) (hsw : swapsWith (.ListComp elt [⟨tg, it, ifs, 0⟩] scope pos) (some (.Name y py)) spos.line X.env = pure true) (hi : JI X W tg it ti) (ok : BlkOk X.N X.env.scope scope own)
    (hg : ∀ (s : Shared) (H : Hp) (C : Addr) (cl : List (Str × Addr)) (fp : List Addr), JG (X.blk s H scope (compEnvC scope cl C X.env) fp) tg g gr) (ht : ∀ (s : Shared) (H : Hp) (C : Addr) (cl : List (Str × Addr)) (fp : List Addr), JTs (X.blk s H scope (compEnvC scope cl C X.env) fp) W0 ifs tt)
    (he : ∀ (s : Shared) (H : Hp) (C : Addr) (cl : List (Str × Addr)) (fp : List Addr), JE (X.blk s H scope (compEnvC scope cl C X.env) fp) W0 elt te) (hy : X.N[i]? = some y := by rfl) (hyl : X.env.scope.names.lookup y = some .local := by rfl) (hs : ∀ x, foldedSetIterable it X.env x = pure x := by intro _; rfl) :
    JS X W (.Assign [.Name y py] (.ListComp elt [⟨tg, it, ifs, 0⟩] scope pos) spos) (kSet i (kComp ti g tt te (own.map (·.2)))) :=
  ps_mono (ps_setLc hc hN hy hyl hsw hi ok (fun s H C cl fp => (hg s H C cl fp).pg) ht he hs) fun D σ H ⟨G, M, d, hv, h, en⟩ =>
    comp_sim (K := X.K) (fun v σ G M R H Q hv => ((hg X.s_0 H 0 [] []).val v σ G M R H Q hv)) (fun T vs σ G M R H Q hv => ((hg X.s_0 H 0 [] []).tup T vs σ G M R H Q hv))
      ⟨G, M, _, _, hv, h, fun v G' M' H' hv' q => en.nx _ G' M' H' hv' q, fun c a G' M' H' hv' q => en.xc c a σ G' M' H' hv' q⟩
end
/-! ### a def -/
/-- what is known may be weakened at the end -/
def wkR (R : KR) : KR := fun v G M => ∃ G' M', Wk G M G' M' ∧ R v G' M'
def wkX (Z : KX) : KX := fun c d G M => ∃ G' M', Wk G M G' M' ∧ Z c d G' M'
theorem ret0 {R : KR} {v : V} {G : Hp} {M : Mem} (h : R v G M) : wkR R v G M := ⟨G, M, Wk.refl, h⟩
theorem retW {R : KR} {v : V} {G G' : Hp} {M M' : Mem} (w : Wk G M G' M') (h : R v G' M') : wkR R v G M := ⟨G', M', w, h⟩
section
variable {P : Program} {w : World} {K : PySem.W.Frag} {mg : Str → Option Value} {base : Heap}
theorem fn_ok {x qual : Str} {st : Stmt} {f : Addr} {fd : FuncData} {N ps : List Str} {k : Nat} {S : KSp} (F : Fun K x qual st f fd) (sc : FnScope N ps (defScope st)) (len : ∀ vs G M R X, S vs G M R X → vs.length = ps.length)
    (hbody : ∀ (cdv : Value) (A : Around) (outer : List Env) (s : Shared) (H : Hp) (E : XK), Room k (A.deeper (envOfC qual (defScope st) s.heap.objs.size f cdv)) →
      ∃ t, JSs (cxOf (L2.CX P w) P w K mg base N qual (defScope st) f cdv A outer s H E) (fun c d _ H => E c d H) (defBody st) t ∧
        ∀ vs G M R Z, S vs G M R Z → t { nx := fun _ G M => wkR R .non G M, rt := wkR R, xc := fun c d _ G M => wkX Z c d G M } (start N vs) G M) : FnOk P w K mg base (L2.CX P w) (k + 1) f fd ps (lift S) := by
  refine F.okX sc (fun vs H Q E ⟨G, M, R, Z, _, h, _⟩ => len vs G M R Z h) fun cdv A outer s H vs Q E hr ⟨G, M, R, Z, hv, h, hR, hZ⟩ => ?_
  obtain ⟨t, j, q⟩ := hbody cdv A outer s H E hr
  exact ⟨_, j, G, M, _, hv, q vs G M R Z h, ⟨fun σ G M H hv ⟨G', M', w, q⟩ => hR _ G' M' H (w H hv) q, fun v G M H hv ⟨G', M', w, q⟩ => hR _ G' M' H (w H hv) q, fun _ _ _ _ _ z => z.elim, fun _ _ _ _ _ z => z.elim, fun c a σ G M H hv ⟨G', M', w, q⟩ => hZ c a G' M' H (w H hv) q⟩⟩
/-- a def that keeps its promise -/
structure Def (P : Program) (w : World) (K : PySem.W.Frag) (mg : Str → Option Value) (base : Heap) (lev : Nat) (x : Str) (ps : List Str) (S : KSp) : Prop where
  ex : ∃ f fd, FnOk P w K mg base (L2.CX P w) lev f fd ps (lift S) ∧ mg x = some (.ref f) ∧ PySem.W.keepIn K (.ref f) = true ∧ Binds K fd ps []
end
section
variable {X : Cx} {W : WX} {pos p : Pos} {e : Expr} {es : List Expr} {x : Str} {k lev : Nat} {ps : List Str} {S : KSp} {t : KA}
theorem je_callD (D : Def X.prog X.w X.K X.mg X.base lev x ps S) (hr : Room k X.A) (tk : Takes X W) (ha : JA X W (e :: es) t) (hl : lev ≤ k := by decide) (hg : Gl X x := by rfl)
    (hdb : (x == ("__debug__" : Str)) = false := by decide) (he : starEach (e :: es) X.env = (false, eval e X.env) :: starEach es X.env := by rfl) (hpl : (backTo pos (starEach es X.env)).any (·.1) = false := by rfl) :
    JE X W (.Call (.Name x p) (e :: es) [] pos) (kCall S t) := by
  obtain ⟨f, fd, F, hm, hk, hb⟩ := D.ex
  exact je_call (F.mono hl) hr tk hm hk hb ha hg hdb he hpl
end
end BT
set_option Elab.async false
set_option linter.all false
set_option maxRecDepth 100000
set_option maxHeartbeats 4000000
namespace BT
open PySem PySem.Spec L2
open PyProof.Rows hiding St
/-! ### promises by the number of arguments -/
def sp1 (f : V → Hp → Mem → KR → KX → Prop) : KSp := fun vs G M R Z => match vs with
  | [x] => f x G M R Z
  | _ => False
def sp2 (f : V → V → Hp → Mem → KR → KX → Prop) : KSp := fun vs G M R Z => match vs with
  | [x, y] => f x y G M R Z
  | _ => False
def sp3 (f : V → V → V → Hp → Mem → KR → KX → Prop) : KSp := fun vs G M R Z => match vs with
  | [x, y, z] => f x y z G M R Z
  | _ => False
def sp4 (f : V → V → V → V → Hp → Mem → KR → KX → Prop) : KSp := fun vs G M R Z => match vs with
  | [x, y, z, u] => f x y z u G M R Z
  | _ => False
def sp5 (f : V → V → V → V → V → Hp → Mem → KR → KX → Prop) : KSp := fun vs G M R Z => match vs with
  | [x, y, z, u, t] => f x y z u t G M R Z
  | _ => False
section
variable {vs : List V} {G : Hp} {M : Mem} {R : KR} {Z : KX}
theorem sp1_of {f} (h : sp1 f vs G M R Z) : ∃ x, vs = [x] ∧ f x G M R Z := by
  match vs, h with
  | [x], h => exact ⟨x, rfl, h⟩
theorem sp2_of {f} (h : sp2 f vs G M R Z) : ∃ x y, vs = [x, y] ∧ f x y G M R Z := by
  match vs, h with
  | [x, y], h => exact ⟨x, y, rfl, h⟩
theorem sp3_of {f} (h : sp3 f vs G M R Z) : ∃ x y z, vs = [x, y, z] ∧ f x y z G M R Z := by
  match vs, h with
  | [x, y, z], h => exact ⟨x, y, z, rfl, h⟩
theorem sp4_of {f} (h : sp4 f vs G M R Z) : ∃ x y z u, vs = [x, y, z, u] ∧ f x y z u G M R Z := by
  match vs, h with
  | [x, y, z, u], h => exact ⟨x, y, z, u, rfl, h⟩
theorem sp5_of {f} (h : sp5 f vs G M R Z) : ∃ x y z u t, vs = [x, y, z, u, t] ∧ f x y z u t G M R Z := by
  match vs, h with
  | [x, y, z, u, t], h => exact ⟨x, y, z, u, t, rfl, h⟩
theorem sp_len1 {f} (h : sp1 f vs G M R Z) : vs.length = 1 := by obtain ⟨_, rfl, _⟩ := sp1_of h; rfl
theorem sp_len2 {f} (h : sp2 f vs G M R Z) : vs.length = 2 := by obtain ⟨_, _, rfl, _⟩ := sp2_of h; rfl
theorem sp_len3 {f} (h : sp3 f vs G M R Z) : vs.length = 3 := by obtain ⟨_, _, _, rfl, _⟩ := sp3_of h; rfl
theorem sp_len4 {f} (h : sp4 f vs G M R Z) : vs.length = 4 := by obtain ⟨_, _, _, _, rfl, _⟩ := sp4_of h; rfl
theorem sp_len5 {f} (h : sp5 f vs G M R Z) : vs.length = 5 := by obtain ⟨_, _, _, _, _, rfl, _⟩ := sp5_of h; rfl
end
/-- what a body has at its ends -/
abbrev ends (R : KR) (Z : KX) : Kd := { nx := fun _ G M => wkR R .non G M, rt := wkR R, xc := fun c d _ G M => wkX Z c d G M }
/-! ### small helps -/
section
variable {K : PySem.W.Frag} {G : Hp} {M : Mem} {a p : Addr} {xs : List V} {o : HO} {n : Nat}
theorem lst_n (h : M[n]? = some (a, .lst xs)) : SeqAt' K G M a xs := .inl (.inl (List.mem_of_getElem? h))
theorem lat_n (h : M[n]? = some (a, .lst xs)) : LstAt K G M a xs := .inl (List.mem_of_getElem? h)
theorem lst_g (h : SqL K G a xs) : SeqAt' K G M a xs := .inl (.inr h)
theorem lat_g (h : SqL K G a xs) : LstAt K G M a xs := .inr h
theorem tup_g (h : SqT K G a xs) : SeqAt' K G M a xs := .inr h
theorem at_n (h : M[n]? = some (a, o)) : At G M a o := .inl (List.mem_of_getElem? h)
theorem set_n {x : Addr × HO} (h : M[n]? = some (p, o)) : (M.set n x)[n]? = some x := List.getElem?_set_self (List.getElem?_eq_some_iff.mp h).1
theorem sqt_new {xs : List V} : SqT K (upd G p (.tup xs)) p xs := .inl (.inl upd_same)
theorem sql_new {xs : List V} : SqL K (upd G p (.lst xs)) p xs := .inl (.inl upd_same)
theorem ite2' {c : Bool} {A B : Prop} (h1 : c = true → A) (h2 : c = false → B) : if c = true then A else B := by
  cases c with
  | true => rw [if_pos rfl]; exact h1 rfl
  | false => rw [if_neg Bool.false_ne_true]; exact h2 rfl
theorem sz {n : Nat} (h : n ≤ 16777216) : n ≤ sizeLine := h
theorem tyl_n (h : M[n]? = some (a, .lst xs)) : ∀ H, Hv G M H → tyV K "list" (.ref a) H := fun H hv => .inl ⟨rfl, xs, .inl (.inl (hv.get h))⟩
theorem tyl_g (h : SqL K G a xs) : ∀ H, Hv G M H → tyV K "list" (.ref a) H := fun H hv => .inl ⟨rfl, xs, ex_l hv.exx h⟩
end
/-! ### the law's pool of numbers -/
def pool (c s : Int) : HO := .lst [.int c, .int s]
def PoolOk (s : Int) : Prop := 0 ≤ s ∧ s < 2147483647
def S_law_take (K : PySem.W.Frag) : KSp := sp2 fun x y G M R Z => ∃ (p : Addr) (m : Int) (n : Nat) (c s : Int), x = .ref p ∧ y = .int m ∧ M[n]? = some (p, pool c s) ∧ PoolOk s ∧ 0 < m ∧ m < 2 ^ 200 ∧
  ∀ r c' s', 0 ≤ r → r < m → PoolOk s' → R (.int r) G (M.set n (p, pool c' s'))
def S_law_pool (K : PySem.W.Frag) : KSp := sp2 fun x y G M R Z => ∃ (a : Addr) (ns : List Int) (k : Int), x = .ref a ∧ y = .int k ∧ SqL K G a (ns.map V.int) ∧ 0 ≤ k ∧ k ≤ 100 ∧ ns.length ≤ 63 ∧
  ∀ p c s, Fr G M p → PoolOk s → R (.ref p) G ((p, pool c s) :: M)
end BT
set_option Elab.async false
set_option linter.all false
set_option maxRecDepth 100000
set_option maxHeartbeats 4000000
namespace BT
open PySem PySem.Spec L2
open PyProof.Rows hiding St
/-! ### shapes of data -/
inductive Shp : Nat → PyData → Prop
  | non {n} : Shp n .none
  | bl {n b} : Shp n (.bool b)
  | int {n i} : Shp n (.int i)
  | str {n x} : PyData.strOk x = true → Shp n (.str x)
  | list {n ds} : (∀ d, d ∈ ds → Shp n d) → Shp (n + 1) (.list ds)
  | tuple {n ds} : (∀ d, d ∈ ds → Shp n d) → Shp (n + 1) (.tuple ds)
theorem shp_all {n : Nat} (ih : ∀ d, Shp n d → d.canLay0 = true ∧ d.depth ≤ n) : ∀ ds : List PyData, (∀ d, d ∈ ds → Shp n d) → PyData.canLayAll0 ds = true ∧ PyData.depthAll ds ≤ n
  | [], _ => by
    refine ⟨by simp [PyData.canLayAll0], by simp [PyData.depthAll]⟩
  | d :: ds, h => by
    obtain ⟨a, b⟩ := ih d (h d List.mem_cons_self)
    obtain ⟨c, e⟩ := shp_all ih ds fun x hx => h x (List.mem_cons_of_mem _ hx)
    refine ⟨by simp [PyData.canLayAll0, a, c], ?_⟩
    show max d.depth (PyData.depthAll ds) ≤ n
    omega
theorem shp_of : ∀ (n : Nat) (d : PyData), Shp n d → d.canLay0 = true ∧ d.depth ≤ n
  | n, _, .non => by refine ⟨by simp [PyData.canLay0], by simp [PyData.depth]⟩
  | n, _, .bl => by refine ⟨by simp [PyData.canLay0], by simp [PyData.depth]⟩
  | n, _, .int => by refine ⟨by simp [PyData.canLay0], by simp [PyData.depth]⟩
  | n, _, .str h => by refine ⟨by simp [PyData.canLay0, h], by simp [PyData.depth]⟩
  | n + 1, .list ds, .list h => by
    obtain ⟨a, b⟩ := shp_all (shp_of n) ds h
    refine ⟨by simp [PyData.canLay0, a], ?_⟩
    show PyData.depthAll ds + 1 ≤ n + 1
    omega
  | n + 1, .tuple ds, .tuple h => by
    obtain ⟨a, b⟩ := shp_all (shp_of n) ds h
    refine ⟨by simp [PyData.canLay0, a], ?_⟩
    show PyData.depthAll ds + 1 ≤ n + 1
    omega
theorem Shp.shaped {n : Nat} {d : PyData} (h : Shp n d) (hn : n ≤ 64) : SeqAt.shaped d = true := by
  obtain ⟨a, b⟩ := shp_of n d h
  unfold SeqAt.shaped
  rw [a, decide_eq_true (Nat.le_trans b hn)]; rfl
theorem Shp.refl {n : Nat} {d : PyData} (h : Shp n d) : PyData.eqv d d = true := by
  obtain ⟨a, b⟩ := shp_of n d h
  exact SeqAt.eqv_refl d a
theorem shp_ints {n : Nat} (ns : List Int) : Shp (n + 1) (.list (ns.map .int)) := .list fun d hd => by
  obtain ⟨i, _, rfl⟩ := List.mem_map.mp hd
  exact .int
/-! ### data known -/
section
variable {K : PySem.W.Frag} {G G' : Hp} {M : Mem} {a : Addr} {v : V} {d : PyData} {vs : List V} {ds : List PyData}
def DatAll (K : PySem.W.Frag) (G : Hp) (M : Mem) (vs : List V) (ds : List PyData) : Prop := ∀ H, Hv G M H → DpAll K H vs ds
theorem dat_g (h : Dp K G v d) : DatAt K G M v d := fun H hv => ex_d hv.exx d h
theorem dats_g (h : DpAll K G vs ds) : DatAll K G M vs ds := fun H hv => ex_ds hv.exx ds h
theorem dat_list (h : LstAt K G M a vs) (hs : DatAll K G M vs ds) : DatAt K G M (.ref a) (.list ds) := fun H hv => .lst (hv.lst h) (hs H hv)
theorem dat_tup (h : SqT K G a vs) (hs : DatAll K G M vs ds) : DatAt K G M (.ref a) (.tuple ds) := fun H hv => .tup (hv.tup h) (hs H hv)
theorem dat_int {i : Int} : DatAt K G M (.int i) (.int i) := fun H hv => .int i
theorem dat_bl {i : Bool} : DatAt K G M (.bl i) (.bool i) := fun H hv => .bl i
theorem dat_non : DatAt K G M .non .none := fun H hv => .non
theorem dat_str {i : Str} : DatAt K G M (.str i) (.str i) := fun H hv => .str i
theorem dats_nil : DatAll K G M [] [] := fun H hv => .nil
theorem dats_cons (h : DatAt K G M v d) (hs : DatAll K G M vs ds) : DatAll K G M (v :: vs) (d :: ds) := fun H hv => .cons (h H hv) (hs H hv)
theorem dpall_ints : ∀ ns : List Int, DpAll K G (ns.map V.int) (ns.map PyData.int)
  | [] => .nil
  | n :: ns => .cons (.int n) (dpall_ints ns)
theorem dats_ints {ns : List Int} : DatAll K G M (ns.map V.int) (ns.map PyData.int) := fun H hv => dpall_ints ns
theorem dat_ints {ns : List Int} (h : LstAt K G M a (ns.map V.int)) : DatAt K G M (.ref a) (.list (ns.map .int)) := dat_list h dats_ints
theorem dp_ints {ns : List Int} (h : SqL K G a (ns.map V.int)) : Dp K G (.ref a) (.list (ns.map .int)) := .lst h (dpall_ints ns)
theorem dpall_snoc : ∀ {vs : List V} {ds : List PyData}, DpAll K G vs ds → Dp K G v d → DpAll K G (vs ++ [v]) (ds ++ [d])
  | _, _, .nil, h => .cons h .nil
  | _, _, .cons a b, h => .cons a (dpall_snoc b h)
theorem dpall_len : ∀ {vs : List V} {ds : List PyData}, DpAll K G vs ds → vs.length = ds.length
  | _, _, .nil => rfl
  | _, _, .cons _ b => by simp [dpall_len b]
theorem dpall_get : ∀ {vs : List V} {ds : List PyData} {i : Nat} {d : PyData}, DpAll K G vs ds → ds[i]? = some d → ∃ v, vs[i]? = some v ∧ Dp K G v d
  | _, _, _, _, .nil, e => by simp at e
  | _, _, 0, _, .cons a _, e => by
    rw [List.getElem?_cons_zero] at e
    cases e; exact ⟨_, rfl, a⟩
  | _, _, i + 1, d, .cons _ b, e => by
    obtain ⟨v, h1, h2⟩ := dpall_get (i := i) (d := d) b (by simpa using e)
    exact ⟨v, by simpa using h1, h2⟩
theorem dpall_get' : ∀ {vs : List V} {ds : List PyData} {i : Nat} {v : V}, DpAll K G vs ds → vs[i]? = some v → ∃ d, ds[i]? = some d ∧ Dp K G v d
  | _, _, _, _, .nil, e => by simp at e
  | _, _, 0, _, .cons a _, e => by
    rw [List.getElem?_cons_zero] at e
    cases e; exact ⟨_, rfl, a⟩
  | _, _, i + 1, d, .cons _ b, e => by
    obtain ⟨v, h1, h2⟩ := dpall_get' (i := i) (v := d) b (by simpa using e)
    exact ⟨v, by simpa using h1, h2⟩
theorem dpall_one {x : V} {i : PyData} (h : DpAll K G [x] [i]) : Dp K G x i := by
  cases h with
  | cons a b => exact a
theorem dp_int_inv {i : Int} (h : Dp K G v (.int i)) : v = .int i := by cases h; rfl
theorem dp_tup_inv (h : Dp K G v (.tuple ds)) : ∃ t xs, v = .ref t ∧ SqT K G t xs ∧ DpAll K G xs ds := by
  cases h with
  | tup s a => exact ⟨_, _, rfl, s, a⟩
theorem dp_list_inv (h : Dp K G v (.list ds)) : ∃ t xs, v = .ref t ∧ SqL K G t xs ∧ DpAll K G xs ds := by
  cases h with
  | lst s a => exact ⟨_, _, rfl, s, a⟩
theorem dpall_ints_inv : ∀ {vs : List V} {ns : List Int}, DpAll K G vs (ns.map .int) → vs = ns.map V.int
  | _, [], h => by cases h; rfl
  | _, n :: ns, h => by
    cases h with
    | cons a b =>
      have e := dp_int_inv a
      subst e
      rw [dpall_ints_inv b]; rfl
end
/-! ### pairs of ints -/
def prD (p : Int × Int) : PyData := .tuple [.int p.1, .int p.2]
theorem dp_pr_inv {K : PySem.W.Frag} {G : Hp} {v : V} {p : Int × Int} (h : Dp K G v (prD p)) : ∃ t, v = .ref t ∧ SqT K G t [.int p.1, .int p.2] := by
  obtain ⟨t, xs, rfl, s, a⟩ := dp_tup_inv h
  have e : xs = [V.int p.1, V.int p.2] := dpall_ints_inv (ns := [p.1, p.2]) a
  rw [e] at s
  exact ⟨t, rfl, s⟩
theorem dp_pr {K : PySem.W.Frag} {G : Hp} {t : Addr} {a b : Int} (h : SqT K G t [.int a, .int b]) : Dp K G (.ref t) (prD (a, b)) := .tup h (.cons (.int a) (.cons (.int b) .nil))
theorem shp_prs {n : Nat} (ps : List (Int × Int)) : Shp (n + 2) (.list (ps.map prD)) := .list fun d hd => by
  obtain ⟨p, _, rfl⟩ := List.mem_map.mp hd
  refine .tuple fun d hd => ?_
  rcases List.mem_cons.mp hd with rfl | hd
  · exact .int
  · rcases List.mem_cons.mp hd with rfl | hd
    · exact .int
    · cases hd
/-! ### lists of ints by place -/
section
theorem atI_int {ns : List Int} {k : Int} (h0 : 0 ≤ k) (h1 : k < ns.length) : atI (ns.map V.int) k = some (.int (ns.getD k.toNat 0)) := by
  obtain ⟨j, rfl⟩ : ∃ j : Nat, k = j := ⟨k.toNat, by omega⟩
  have hj : j < ns.length := by omega
  refine atI_nat ?_
  rw [List.getElem?_map, List.getElem?_eq_getElem hj, Int.toNat_natCast, List.getD_eq_getElem?_getD, List.getElem?_eq_getElem hj]; rfl
theorem ixN_int {n : Nat} {k : Int} (h0 : 0 ≤ k) (h1 : k < n) : ixN n k = some k.toNat := by
  unfold ixN
  rw [if_pos h0, if_pos h1]
theorem map_set_int {ns : List Int} {j : Nat} {i : Int} : (ns.map V.int).set j (.int i) = (ns.set j i).map V.int := by rw [List.map_set]
theorem lat_cons {K : PySem.W.Frag} {G : Hp} {M : Mem} {a : Addr} {xs : List V} {x : Addr × HO} (h : LstAt K G M a xs) : LstAt K G (x :: M) a xs := by
  rcases h with h | h
  · exact .inl (List.mem_cons_of_mem _ h)
  · exact .inr h
theorem lat_ex {K : PySem.W.Frag} {G G' : Hp} {M : Mem} {a : Addr} {xs : List V} (e : Ex G G') (h : LstAt K G M a xs) : LstAt K G' M a xs := by
  rcases h with h | h
  · exact .inl h
  · exact .inr (ex_l e h)
theorem lat_0 {K : PySem.W.Frag} {G : Hp} {M : Mem} {a : Addr} {xs : List V} : LstAt K G ((a, .lst xs) :: M) a xs := .inl List.mem_cons_self
theorem seq_0 {K : PySem.W.Frag} {G : Hp} {M : Mem} {a : Addr} {xs : List V} : SeqAt' K G ((a, .lst xs) :: M) a xs := .inl lat_0
theorem isi_list {K : PySem.W.Frag} {G : Hp} {M : Mem} {a : Addr} {xs : List V} {R : KR} {n : Nat} (h : M[n]? = some (a, .lst xs)) (q : R (.bl true) G M) : kIsi K [.ref a, .ty "list"] G M R :=
  ⟨.type "list", .type "list", true, .ty "list", fun H hv => .base (.lst (hv.get h)), kit_ty (by decide +kernel), q⟩
theorem mul_l {i j : Int} (h0 : -(2 ^ 64) < i) (h1 : i < 2 ^ 64) : MulOk i j := .inl (.inl ⟨h0, h1⟩)
theorem mul_r {i j : Int} (h0 : -(2 ^ 64) < j) (h1 : j < 2 ^ 64) : MulOk i j := .inl (.inr ⟨h0, h1⟩)
theorem divW {m : Int} (h0 : 0 < m) (h1 : m < 2 ^ 200) (c : Int) : CDivW c m := wide_div (b := 200) h0 (by omega) (by decide) (by decide)
theorem sz0 : (0 : Nat) ≤ sizeLine := by decide
theorem sz1 : (1 : Nat) ≤ sizeLine := by decide
theorem sz2 : (2 : Nat) ≤ sizeLine := by decide
theorem sz3 : (3 : Nat) ≤ sizeLine := by decide
theorem sz4 : (4 : Nat) ≤ sizeLine := by decide
theorem sz5 : (5 : Nat) ≤ sizeLine := by decide
theorem sz6 : (6 : Nat) ≤ sizeLine := by decide
theorem sz7 : (7 : Nat) ≤ sizeLine := by decide
theorem sz8 : (8 : Nat) ≤ sizeLine := by decide
theorem pow10_18 : CPow 10 18 := ⟨by decide, by decide, by decide⟩
end
end BT
namespace BT
open PySem PySem.Spec L2
section
variable {K : PySem.W.Frag} {G : Hp} {M : Mem} {a b : Addr} {vs ws : List V} {i : Nat} {v u : V} {g : KG} {σ : St} {R : St → Hp → Mem → Prop}
theorem asg_L (h : vs[i]? = some v) (q : g.val v σ G M R) : asg g ((srcL K a vs).get i) σ G M R := by
  show g.val (vs.getD i .non) σ G M R
  rw [getD_of h]; exact q
theorem asg_T (h : vs[i]? = some v) (q : g.val v σ G M R) : asg g ((srcT K a vs).get i) σ G M R := by
  show g.val (vs.getD i .non) σ G M R
  rw [getD_of h]; exact q
theorem asg_V (h : vs[vs.length - 1 - i]? = some v) (q : g.val v σ G M R) : asg g ((srcV K a vs).get i) σ G M R := by
  show g.val (vs.getD (vs.length - 1 - i) .non) σ G M R
  rw [getD_of h]; exact q
theorem asg_E (h : vs[i]? = some v) (q : g.tup [.int i, v] σ G M R) : asg g ((srcE K a vs).get i) σ G M R := by
  show g.tup [.int i, vs.getD i .non] σ G M R
  rw [getD_of h]; exact q
theorem asg_Z (h : vs[i]? = some v) (h2 : ws[i]? = some u) (q : g.tup [v, u] σ G M R) : asg g ((srcZ K a b vs ws).get i) σ G M R := by
  show g.tup [vs.getD i .non, ws.getD i .non] σ G M R
  rw [getD_of h, getD_of h2]; exact q
theorem dpall_at {ds : List PyData} {d : PyData} (h : DpAll K G vs ds) (e : ds[i]? = some d) : ∃ v, vs[i]? = some v ∧ Dp K G v d := dpall_get h e
end
end BT
namespace BT
open PySem PySem.Spec L2
/-- a cell becomes frozen -/
theorem frz {G : Hp} {M : Mem} {p : Addr} (o : HO) (h : Fr G M p) : ∃ G', Ex G G' ∧ G' p = some o ∧ Wk G ((p, o) :: M) G' M ∧ ∀ q M0, Fr G M0 q → q ≠ p → Fr G' M0 q :=
  ⟨upd G p o, Ex.new h, upd_same, Wk.frz0, fun q M0 f hq => ⟨by rw [upd_ne hq]; exact f.1, f.2⟩⟩
theorem Wk.nil' {G : Hp} {M : Mem} : Wk G M G [] := fun H h => ⟨h.ex, fun _ z => (nomatch z), List.nodup_nil, fun _ z => (nomatch z)⟩
theorem sql_of {K : PySem.W.Frag} {G : Hp} {a : Addr} {xs : List V} (h : G a = some (.lst xs)) : SqL K G a xs := .inl (.inl h)
theorem sqt_of {K : PySem.W.Frag} {G : Hp} {a : Addr} {xs : List V} (h : G a = some (.tup xs)) : SqT K G a xs := .inl (.inl h)
theorem Fr.cons {G : Hp} {M : Mem} {p : Addr} {x : Addr × HO} (h : Fr G (x :: M) p) : Fr G M p := ⟨h.1, fun y hy => h.2 y (List.mem_cons_of_mem _ hy)⟩
end BT
set_option Elab.async false
set_option linter.all false
set_option maxRecDepth 100000
set_option maxHeartbeats 4000000
namespace BT
open PySem PySem.Spec L2
open PyProof.Rows hiding St
/-- the slots at a body's start -/
def sta (n : Nat) (vs : List V) : St := vs.map some ++ List.replicate (n - vs.length) none
/-! ### ranges with a step -/
theorem rg_up {i j c : Int} (hc : 0 < c) (hc2 : c < 1000000) (hi : -1000000000000 < i) (hi2 : i < 1000000000000) (hj : -1000000000000 < j) (hj2 : j < 1000000000000) :
    RgC i j c (if i < j then ((j - i - 1) / c + 1).toNat else 0) := by
  have e : Builtin.Range.rangeSize i j c = if i < j then (j - i - 1) / c + 1 else 0 := by
    unfold Builtin.Range.rangeSize
    rw [if_pos hc]
  have hb : 0 ≤ (j - i - 1) / c ∨ ¬ i < j := by
    by_cases h : i < j
    · exact .inl (Int.ediv_nonneg (by omega) (by omega))
    · exact .inr h
  have hb2 : (j - i - 1) / c ≤ 2000000000000 ∨ ¬ i < j := by
    by_cases h : i < j
    · left
      have := Int.ediv_le_self c (show 0 ≤ j - i - 1 by omega)
      omega
    · exact .inr h
  refine ⟨by omega, by omega, ?_, ?_⟩
  · unfold Builtin.Range.small
    rw [e]
    simp only [Builtin.Range.rangeFitsLong, Bool.and_eq_true, Bool.or_eq_true, decide_eq_true_eq, beq_iff_eq, hc, gt_iff_lt, if_true]
    by_cases h : i < j
    · rw [if_pos h]; omega
    · rw [if_neg h]; omega
  · rw [e]
    by_cases h : i < j
    · rw [if_pos h, if_pos h]; omega
    · rw [if_neg h, if_neg h]; rfl
theorem rg_down {i j : Int} (hi : -1000000000000 < i) (hi2 : i < 1000000000000) (hj : -1000000000000 < j) (hj2 : j < 1000000000000) : RgC i j (-1) (i - j).toNat :=
  RgC.neg (by omega) (by omega) (by omega) (by omega)
section
variable {X : Cx} {W : WX} {pos : Pos} {a b c e : Expr} {es : List Expr}
/-! ### sorted, xs[::-1] -/
def kSorted (K : PySem.W.Frag) : KC := fun vs G M R => match vs with
  | [.ref a] => ∃ ns : List Int, LstAt K G M a (ns.map V.int) ∧ ∀ (ns' : List Int) (p : Addr), ns'.Perm ns → ns'.Pairwise (· ≤ ·) → Fr G M p → R (.ref p) G ((p, .lst (ns'.map V.int)) :: M)
  | _ => False
theorem kc_sorted : KCall X (.builtin "sorted") (kSorted X.K) := kcall_of cr_sortedI fun vs G M R H Q hv h hR => by
  match vs, h with
  | [.ref a], ⟨ns, h1, h2⟩ => exact ⟨a, ns, rfl, hv.lst h1, fun ns' p q1 q2 q3 => hR _ G _ _ (hv.newM q3) (h2 ns' p q1 q2 (hv.fr q3))⟩
def kRevL (K : PySem.W.Frag) : V → Hp → Mem → KR → Prop := fun x G M R => match x with
  | .ref a => ∃ xs, LstAt K G M a xs ∧ ∀ p, Fr G M p → R (.ref p) G ((p, .lst xs.reverse) :: M)
  | _ => False
theorem je_revl {t : KE} {k : Nat} {p1 p2 p3 : Pos} (he : JE X W e t) : JE X W (.Subscript e (.Slice none none (some (.UnaryOp .USub (.Constant (.int 1) k p1) p2)) p3) pos) (kUn (kRevL X.K) t) :=
  pe_mono (pe_revL he) fun σ H Q ⟨G, M, R, E, hv, h, hR, hE⟩ => ⟨G, M, _, E, hv, h, fun x G1 M1 H1 hv1 h1 => by
    match x, h1 with
    | .ref a, ⟨xs, q1, q2⟩ => exact ⟨a, xs, rfl, hv1.lst q1, fun p hp => hR _ G1 _ _ (hv1.newM hp) (q2 p (hv1.fr hp))⟩, hE⟩
/-! ### in, not in: flat things in a list or a tuple -/
def kIn (neg : Bool) (K : PySem.W.Frag) : KR2 := fun x y G M R => match y with
  | .ref a => ∃ xs, SeqAt' K G M a xs ∧ flatV x = true ∧ xs.all flatV = true ∧ R (.bl (if neg then !inV x xs else inV x xs)) G M
  | _ => False
theorem kop_in : KOp X (compareOp .In) (kIn false X.K) := kop_of op_in_seq fun x y G M R H Q hv h hR => by
  match y, h with
  | .ref a, ⟨xs, h1, h2, h3, h4⟩ => exact ⟨a, xs, rfl, h1.elim (fun q => .inl (hv.lst q)) (fun q => .inr (hv.tup q)), h2, h3, hR _ G M H hv h4⟩
theorem kop_notin : KOp X (compareOp .NotIn) (kIn true X.K) := kop_of op_notIn_seq fun x y G M R H Q hv h hR => by
  match y, h with
  | .ref a, ⟨xs, h1, h2, h3, h4⟩ => exact ⟨a, xs, rfl, h1.elim (fun q => .inl (hv.lst q)) (fun q => .inr (hv.tup q)), h2, h3, hR _ G M H hv h4⟩
/-! ### list.index, list.insert, tuple(xs), bool(x), list(range) -/
def kIndex (K : PySem.W.Frag) : KM := fun x vs G M R => match x, vs with
  | .ref a, [y] => ∃ ys j z, LstAt K G M a ys ∧ flatV y = true ∧ ys.all flatV = true ∧ ys[j]? = some z ∧ eqV z y = true ∧ (∀ m z', m < j → ys[m]? = some z' → eqV z' y = false) ∧ R (.int (j : Nat)) G M
  | _, _ => False
end
end BT
namespace BT
open PySem PySem.Spec L2
open PyProof.Rows hiding St
theorem rg_mul {i c : Int} {n : Nat} (hc : 0 < c) (hc2 : c < 1000000) (hi : -1000000000 < i) (hi2 : i < 1000000000) (hn : n < 100000) : RgC i (i + c * n) c n := by
  have hm : c * n < 100000000000 := by
    have h1 : c * (n : Int) ≤ 1000000 * (n : Int) := Int.mul_le_mul_of_nonneg_right (by omega) (by omega)
    omega
  have hm0 : 0 ≤ c * n := Int.mul_nonneg (by omega) (by omega)
  have q := rg_up (i := i) (j := i + c * n) hc hc2 (by omega) (by omega) (by omega) (by omega)
  have e : (if i < i + c * n then ((i + c * n - i - 1) / c + 1).toNat else 0) = n := by
    cases n with
    | zero => rw [if_neg (by simp)]
    | succ k =>
      have hk : 0 < c * ((k + 1 : Nat) : Int) := Int.mul_pos hc (by omega)
      rw [if_pos (by omega)]
      have e1 : i + c * ((k + 1 : Nat) : Int) - i - 1 = (c - 1) + c * (k : Int) := by
        rw [show ((k + 1 : Nat) : Int) = (k : Int) + 1 by omega, Int.mul_add]; omega
      rw [e1, ((Int.ediv_emod_unique hc).mpr ⟨rfl, by omega, by omega⟩).1]
      omega
  rw [e] at q
  exact q
theorem fn_false {P : Program} {w : World} {K : PySem.W.Frag} {mg : Str → Option Value} {base : Heap} {CX : CXT} {k : Nat} {f : Addr} {fd : FuncData} {ps : List Str} {S : KSp} (h : ∀ vs G M R Z, ¬ S vs G M R Z) : FnOk P w K mg base CX k f fd ps (lift S) :=
  ⟨fun vs H Q E ⟨G, M, R, Z, _, q, _⟩ => (h vs G M R Z q).elim, fun A outer s H args us vs Q E _ _ _ _ ⟨G, M, R, Z, _, q, _⟩ => (h vs G M R Z q).elim⟩
theorem cx_none {P : Program} {w : World} {l : List Env} {H : Hp} {s : Shared} {e : Value} {s' : Shared} (h : L2.CX P w l H s (fun _ _ _ => False) e s') : False := by
  obtain ⟨_, _, _, _, _, _, _, _, _, _, _, _, z⟩ := h
  exact z.elim
/-- a law's promise -/
def S_law (K : PySem.W.Frag) : KSp := sp1 fun x G M R Z => ∃ (a : Addr) (ns : List Int), x = .ref a ∧ SqL K G a (ns.map V.int) ∧ ns.length ≤ 63 ∧ ∀ G' M', R (.bl true) G' M'
theorem law_start {K : PySem.W.Frag} {H : Hp} {a : Addr} {ns : List Int} (hl : ns.length ≤ 63) (hS : SqL K H a (ns.map V.int)) : lift (S_law K) [.ref a] H (fun v _ => v = .bl true) fun _ _ _ => False :=
  ⟨H, [], fun v _ _ => v = .bl true, fun _ _ _ _ => False, Hv.self H, ⟨a, ns, rfl, hS, hl, fun _ _ => rfl⟩, fun _ _ _ _ _ h => h, fun _ _ _ _ _ _ z => z⟩
end BT
namespace BT
open PySem PySem.Spec L2
open PyProof.Rows hiding St
/-! ### is of None and of truths -/
def kIs2 (neg : Bool) : KR2 := fun x y G M R => match x, y with
  | .bl a, .bl b => R (.bl (if neg then !decide (a = b) else decide (a = b))) G M
  | x, .non => R (.bl (if neg then !decide (x = .non) else decide (x = .non))) G M
  | _, _ => False
theorem kop_is2 {X : Cx} : KOp X (compareOp .Is) (kIs2 false) := fun pins s σ H x y v u Q G M R I rx ry hv h hR => by
  cases y <;> cases x <;> first
    | exact op_isBl pins s σ H _ _ v u Q I rx ry ⟨_, _, rfl, rfl, hR _ G M H hv h⟩
    | exact op_isN pins s σ H _ _ v u Q I rx ry ⟨rfl, hR _ G M H hv h⟩
    | exact h.elim
theorem kop_isnot2 {X : Cx} : KOp X (compareOp .IsNot) (kIs2 true) := fun pins s σ H x y v u Q G M R I rx ry hv h hR => by
  cases y <;> cases x <;> first
    | exact op_notBl pins s σ H _ _ v u Q I rx ry ⟨_, _, rfl, rfl, hR _ G M H hv h⟩
    | exact op_notN pins s σ H _ _ v u Q I rx ry ⟨rfl, hR _ G M H hv h⟩
    | exact h.elim
/-! ### types of values -/
inductive PT | int | bool | non | str | list | tuple | dict
  deriving DecidableEq
def PT.name : PT → String
  | .int => "int" | .bool => "bool" | .non => "NoneType" | .str => "str" | .list => "list" | .tuple => "tuple" | .dict => "dict"
def TyK (K : PySem.W.Frag) (G : Hp) (M : Mem) (x : V) (T : PT) : Prop := ∀ H, Hv G M H → TyX K H x (.type T.name)
section
variable {K : PySem.W.Frag} {G : Hp} {M : Mem} {a : Addr} {xs : List V} {n : Nat}
theorem ty_int {i : Int} : TyK K G M (.int i) .int := fun H hv => .base (.int i)
theorem ty_bl {i : Bool} : TyK K G M (.bl i) .bool := fun H hv => .base (.bl i)
theorem ty_non : TyK K G M .non .non := fun H hv => .base .non
theorem ty_str {i : Str} : TyK K G M (.str i) .str := fun H hv => .base (.str i)
theorem ty_lst (h : LstAt K G M a xs) : TyK K G M (.ref a) .list := fun H hv => by
  rcases hv.lst h with (z | ⟨o, z⟩) | ⟨o, its, m, z1, z2, _⟩
  · exact .base (.lst z)
  · exact .base (.frz z)
  · exact .kList z1 z2
theorem ty_tup (h : SqT K G a xs) : TyK K G M (.ref a) .tuple := fun H hv => by
  rcases hv.tup h with (z | ⟨o, z⟩) | ⟨o, its, m, z1, z2, _⟩
  · exact .base (.tup z)
  · exact .fTuple z
  · exact .kTuple z1 z2
theorem ty_dict {kvs : List (Key × V)} (h : At G M a (.dK kvs)) : TyK K G M (.ref a) .dict := fun H hv => .base (.dK (hv.at h))
/-- isinstance(x, T): both answers -/
def isaB (T U : PT) : Bool := T == U || (T == .bool && U == .int)
theorem kit_pt (T U : PT) : PySem.W.kitOne K (.type T.name) (.type U.name) = some (isaB T U) := by
  cases T <;> cases U <;> exact kit_ty (by decide +kernel)
theorem isi_pt {x : V} {T : PT} {R : KR} (U : PT) (h : TyK K G M x T) (q : R (.bl (isaB T U)) G M) : kIsi K [x, .ty U.name] G M R :=
  ⟨.type T.name, .type U.name, _, .ty U.name, h, kit_pt T U, q⟩
end
end BT
namespace BT
open PySem PySem.Spec L2
/-! ### steps by name -/
section
variable {D : Kd} {σ : St} {G : Hp} {M : Mem} {i : Nat} {te ta tb : KE}
theorem kset_of (h : te σ G M (fun v G M => D.nx (σ.set i (some v)) G M) (D.x σ)) : kSet i te D σ G M := h
theorem kret_of (h : te σ G M D.rt (D.x σ)) : kRet te D σ G M := h
theorem kexpr_of (h : te σ G M (fun _ G M => D.nx σ G M) (D.x σ)) : kExpr te D σ G M := h
theorem kbin_of {β : Type} {k : V → V → Hp → Mem → (β → Hp → Mem → Prop) → Prop} {R : β → Hp → Mem → Prop} {E : KX} (h : ta σ G M (fun x G M => tb σ G M (fun y G M => k x y G M R) E) E) : kBin k ta tb σ G M R E := h
theorem kcb_of {k : KC} {t : KA} {R : KR} {E : KX} (h : t σ G M (fun vs G M => k vs G M R) E) : kCB k t σ G M R E := h
theorem kcons_of {t : KE} {u : KA} {R : List V → Hp → Mem → Prop} {E : KX} (h : t σ G M (fun x G M => u σ G M (fun xs G M => R (x :: xs) G M) E) E) : kCons t u σ G M R E := h
end
end BT
set_option Elab.async false
set_option linter.all false
set_option maxRecDepth 100000
set_option maxHeartbeats 4000000
namespace BT
open PySem PySem.Spec L2
open PyProof.Rows hiding St
/-! ### own errors: raised, caught, held -/
/-- the address of a class, by its name -/
def cl (K : PySem.W.Frag) (x : Str) : Addr := match PySem.W.nsIn K mainGlobals x with
  | some (some (.ref a)) => a
  | _ => 0
theorem cl_of {K : PySem.W.Frag} {x : Str} {C : Addr} (a : PySem.W.nsIn K mainGlobals x = some (some (.ref C))) : cl K x = C := by
  unfold cl
  rw [a]
/-- a class that is known -/
structure XG (K : PySem.W.Frag) (mg : Str → Option Value) (x : Str) : Prop where
  g : mg x = some (.ref (cl K x))
  k : PySem.W.keepIn K (.ref (cl K x)) = true
/-- a class without own __init__ under ValueError, to be raised -/
structure XR (K : PySem.W.Frag) (x : Str) : Prop where
  n : PySem.W.excIn K (cl K x) [.type "ValueError", .type "Exception", .type "BaseException", .type "object"] "ValueError.__new__" = true
  b : PySem.W.subIn K (.ref (cl K x)) (.type "BaseException") = some true
  t : PySem.W.typeIn K (.ref (cl K x)) = some (.type "type")
theorem xg_mk {K : PySem.W.Frag} {mg : Str → Option Value} {h : Heap} {x : Str} {C : Addr} (X : K.In h) (G : h.Ns mainGlobals mg) (a : PySem.W.nsIn K mainGlobals x = some (some (.ref C))) (k : PySem.W.keepIn K (.ref C) = true) : XG K mg x := by
  have e := cl_of a
  exact ⟨by rw [e]; exact PySem.W.mg_of X G a, by rw [e]; exact k⟩
theorem xr_mk {K : PySem.W.Frag} {x : Str} {C : Addr} (a : PySem.W.nsIn K mainGlobals x = some (some (.ref C)))
    (q : PySem.W.excIn K C [.type "ValueError", .type "Exception", .type "BaseException", .type "object"] "ValueError.__new__" = true)
    (b : PySem.W.subIn K (.ref C) (.type "BaseException") = some true) (t : PySem.W.typeIn K (.ref C) = some (.type "type")) : XR K x := by
  have e := cl_of a
  exact ⟨by rw [e]; exact q, by rw [e]; exact b, by rw [e]; exact t⟩
theorem xe_mk {K : PySem.W.Frag} {x : Str} {C : Addr} (a : PySem.W.nsIn K mainGlobals x = some (some (.ref C))) (q : ExcC K C) : ExcC K (cl K x) := by
  rw [cl_of a]
  exact q
section
variable {X : Cx} {W : WX} {pos : Pos}
/-- raise C('m') -/
def kRaise (K : PySem.W.Frag) (x : Str) : KS := fun D σ G M => D.xc (.ref (cl K x)) none σ G M
theorem js_raise {x m : Str} {j : Nat} {p p2 pos2 : Pos} (g : XG X.K X.mg x) (r : XR X.K x) (tk : Takes X W) (hc : X.calm = true := by rfl) (hg : Gl X x := by rfl) (hdb : (x == ("__debug__" : Str)) = false := by decide) :
    JS X W (.Raise (some (.Call (.Name x p) [.Constant (.str m) j p2] [] pos2)) none pos) (kRaise X.K x) :=
  ps_mono (ps_raise hc tk (pmk_own PySem.F.excBase_ValueError r.n g.g g.k (raises_own r.b r.t) hg hdb)) fun D σ H ⟨G, M, d, hv, h, en⟩ => en.xc _ _ _ _ _ _ hv h

/-- a caught error that is held: its class and its dict -/
def ExT (cls : Value) (d : Option Addr) (a : Addr) : HO := .ext fun h => ∃ (oe : Obj) (vs : Array Value), h.get? a = some oe ∧ Zc cls d oe ∧ oe.data = .fields vs
theorem exT_ok {P : Program} {w : World} {H : Hp} {h : Heap} {a : Addr} {cls : Value} {d : Option Addr} {oe : Obj} {vs : Array Value} (e : h.get? a = some oe) (z : Zc cls d oe) (q : oe.data = .fields vs) : ObjOk P w H h a (ExT cls d a) :=
  ⟨⟨oe, vs, e, z, q⟩, ⟨oe, e⟩, fun _ _ ⟨o, v, q, r⟩ k => ⟨o, v, k o q, r⟩⟩
/-- an object that nobody tracked is tracked from here on -/
theorem inv_track {pins : List (Addr × Obj)} {σ : St} {H : Hp} {s : Shared} {a : Addr} {o : HO} (I : Inv X pins σ H s) (n : H a = none) (n0 : X.s_0.heap.get? a = none) (nl : a ≠ X.env.locals)
    (nc : ∀ y c, X.env.cells.lookup y = some c → c ≠ a) (np : ∀ p ∈ X.pn ++ pins, p.1 ≠ a) (new : ObjOk X.prog X.w (upd H a o) s.heap a o) : Inv X pins σ (upd H a o) s := by
  have ne : ∀ b u, H b = some u → b ≠ a := fun b u e z => by
    rw [z, n] at e
    cases e
  refine ⟨I.ok, I.os, I.bare, ⟨I.base.keep, I.base.slot, fun b u e m x => ?_, I.base.there, fun b xs e => ?_, fun b u v e => ?_, fun b ps e => ?_⟩, I.loc, I.cell, ?_, fun y c e => ?_, fun p hp => ?_, fun b u e => ?_, I.len⟩
  · rw [upd_ne (fun z => by rw [z, n0] at e; cases e)]
    exact I.base.free b u e m x
  · have q := I.base.tups b xs e
    rw [upd_ne (ne b _ q)]
    exact q
  · have q := I.base.frzs b u v e
    rw [upd_ne (ne b _ q)]
    exact q
  · obtain ⟨m, q⟩ := I.base.tbls b ps e
    exact ⟨m, by rw [upd_ne (ne b _ q)]; exact q⟩
  · rw [upd_ne (Ne.symm nl)]
    exact I.free
  · rw [upd_ne (nc y c e)]
    exact I.freeC y c e
  · obtain ⟨p1, p2, p3, p4, p5⟩ := I.pin p hp
    exact ⟨p1, by rw [upd_ne (np p hp)]; exact p2, p3, p4, p5⟩
  · by_cases hb : b = a
    · subst hb
      rw [upd_same] at e
      cases e
      exact new
    · rw [upd_ne hb] at e
      exact (I.hok b u e).stay (fun c v _ q => q) (fun c q => by rw [upd_ne (ne c _ q)]; exact q) fun c xs q => by rw [upd_ne (ne c _ q)]; exact q
end

/-- what 'except x as n: y = n' wishes of an error of the body -/
def wKeep (K : PySem.W.Frag) (c : Value) (i j : Nat) (Wout : WX) (D : Ends) : WX := fun cls d σ H => ∃ b, PySem.W.exmOne K cls c = some b ∧
  (b = true → ∀ a, H a = none → D.nx (((σ.set i (some (.ref a))).set j (some (.ref a))).set i none) (upd H a (ExT cls d a))) ∧ (b = false → Wout cls d σ H)
section
variable {X : Cx} {x n y : Str} {c : Value} {i j : Nat} {body : List Stmt} {np pos pos' q1 q2 q3 : Pos} {tb : WX → TS} {Wout : WX}
theorem ps_try_keep (hs : X.stack = X.env :: X.outer) (hf : X.env.frame = some X.env.locals) (hx : X.ex = []) (hN : X.N.Nodup) (hi : X.N[i]? = some n) (hj : X.N[j]? = some y) (hln : X.env.kindOf n = some .local) (hlj : Loc X.env.scope y) (hij : i ≠ j)
    (hfy : X.fn y = true ∨ X.env.scope.names.lookup y = some .local) (hdn : (n == ("__debug__" : Str)) = false) (hcn : (n == ("__classdict__" : Str)) = false)
    (hsw : swapsWith (.Name n q2) (some (.Name y q1)) q3.line X.env = pure false) (hc : Names X x c) (tk : Takes X Wout)
    (hb : ∀ (W : WX) (pn : List (Addr × Obj)) (xe : Value → Shared → Prop), Takes (X.tr pn xe) W → PassesOwn (model X.prog X.w) X.A X.env xe → PSs (X.tr pn xe) body (tb W)) :
    PS X (.Try body [.ExceptHandler (some (.Name x np)) (some n) [.Assign [.Name y q1] (.Name n q2) q3] pos'] [] [] pos) (fun D σ H => tb (wKeep X.K c i j Wout D) D σ H) := by
  refine ⟨fun pins s σ H D I h => ?_⟩
  have ok := I.ok
  have fr0 : X.A.frames = some (X.env :: X.outer) := by rw [ok.frames, hs]
  refine wpAny_Try_except ?_
  refine wpAny_mono ((hb (wKeep X.K c i j Wout D) (X.pn ++ pins) _ (fun u s' xx => ?_) PassesOwn.looking).run [] s σ H D (I.toTry _) h) (fun f s1 hsp => ?_) (fun e s1 he => he)
  · obtain ⟨a, B, sI, pins', σ', H', cls, d, rfl, J', nb, up, sky, na, os, ag, b, hb1, hyes, hno⟩ := xx
    have J : Inv X pins σ' H' sI := J'.ofTry ok
    have sky2 : Sky B (X.env :: X.outer) a (Zc cls d) X.env.locals s'.heap := by
      rw [← hs]
      exact sky
    show wpAny (model X.prog X.w) X.A (noteFrame (.ref a) X.env) _ _ _
    refine Sky.land Zc.steady fr0 hf sky2 fun h3 fl3 up3 => ?_
    have J3 : Inv X pins σ' H' { s' with heap := h3 } := J.landed nb fl3.1 (up.trans up3) os ag
    obtain ⟨oe3, vs3, he3, hz3, hd3⟩ := fl3.there
    have nfr : a ∉ frs (X.env :: X.outer) := fun hm => by
      obtain ⟨_, o', e', hnf⟩ := fl3.2.2.1.mem hm
      rw [he3] at e'
      cases e'
      exact hnf _ hd3
    have nL : a ≠ X.env.locals := fun z => nfr (List.mem_filterMap.mpr ⟨X.env, List.mem_cons_self, by rw [hf, z]⟩)
    have nF : a ∉ X.fs := fun hm => by
      obtain ⟨e, he, q⟩ := List.mem_filterMap.mp hm
      exact nfr (List.mem_filterMap.mpr ⟨e, List.mem_cons_of_mem _ he, q⟩)
    have nI : sI.heap.get? a = none := by
      cases e : sI.heap.get? a with
      | none => rfl
      | some o =>
        have z := nb a o e (by rw [hs]; exact nfr)
        rw [fl3.2.1] at z
        cases z
    have n0 : X.s_0.heap.get? a = none := by
      cases e : X.s_0.heap.get? a with
      | none => rfl
      | some o =>
        obtain ⟨o', z⟩ := J.base.there a o e (by rw [hx]; exact fun z => nomatch z)
        rw [nI] at z
        cases z
    have nc : ∀ w c, X.env.cells.lookup w = some c → c ≠ a := fun w c e z => by
      obtain ⟨v, o, ho, _⟩ := J.cell w c e
      rw [z, nI] at ho
      cases ho
    have npn : ∀ p ∈ X.pn ++ pins, p.1 ≠ a := fun p hp z => by
      obtain ⟨q, _⟩ := J.pin p hp
      rw [z, nI] at q
      cases q
    have S3 := J3.suite he3 hd3 na nL nF
    refine wpAny_handleBy_cons (codeAny_handlers_test ?_) (by intro q; cases q)
    have LT : PySem.W.Looks (model X.prog X.w) h3 (typeOf (.ref a)) cls := fun A Q E s k q => wpAny_typeOf_ref (k _ _ he3) (by rw [hz3.1]; exact q)
    have LM := PySem.W.exm_one (M := model X.prog X.w) (J3.kIn) LT hb1
    have look : ∀ {Q : Value → Shared → Prop} {E : Value → Shared → Prop}, Q c { s' with heap := h3 } → wpAny (model X.prog X.w) (X.A.mark (some (.ref a))) (eval (.Name x np) X.env) Q E { s' with heap := h3 } := fun {Q E} q => by
      obtain ⟨hg, hdbg, hm | ⟨hm, hv, hnn⟩⟩ := hc
      · exact ld_glob (X := X.suite a ((a, oe3) :: (X.pn ++ pins))) S3 hg hm q hdbg
      · exact ld_blt (X := X.suite a ((a, oe3) :: (X.pn ++ pins))) S3 hg hm hv q hnn hdbg
    refine look (LM.here ?_)
    cases b with
    | true =>
      refine codeAny_handlers_suite_as ?_
      refine HandSPX.lands_againZ fl3 fun h4 fl4 up4 => ?_
      have J4 : Inv X pins σ' H' { s' with heap := h4 } := J.landed nb fl4.1 ((up.trans up3).trans up4) os ag
      obtain ⟨oe4, vs4, he4, hz4, hd4⟩ := fl4.there
      have S4 := J4.suite he4 hd4 na nL nF
      refine store_ok (X := X.suite a ((a, oe4) :: (X.pn ++ pins))) (v := .ref a) S4 hN hi (.inl hln) rfl (fun s5 S5 => ?_) (.inr hln)
      have lenσ : σ'.length = X.N.length := J.len
      have hiσ : i < σ'.length := by
        rw [lenσ]
        exact (List.getElem?_eq_some_iff.mp hi).1
      have P1 : PSs (X.suite a ((a, oe4) :: (X.pn ++ pins))) [.Assign [.Name y q1] (.Name n q2) q3] (tSeq (tAsg (tVar i) (gName j)) tNext) :=
        pss_cons (ps_set hN hj hlj (pe_var hi (.inl hln) hdn hcn) hsw hfy) pss_nil
      refine wpAny_mono (P1.run [] s5 (σ'.set i (some (.ref a))) H' { nx := fun σ6 H6 => σ6 = (σ'.set i (some (.ref a))).set j (some (.ref a)) ∧ H6 = H', rt := fun _ _ => False, bk := fun _ _ => False, ct := fun _ _ => False } S5 ?_) (fun f s6 hsp => ?_) (fun _ _ z => False.elim z)
      · exact ⟨.ref a, by rw [List.getElem?_set_self hiσ], rfl, rfl⟩
      · cases f with
        | next =>
          obtain ⟨σ6, H6, S6, rfl, rfl⟩ := hsp
          refine gone_ok (X := X.suite a ((a, oe4) :: (X.pn ++ pins))) S6 hN hi hln fun s7 S7 => ?_
          obtain ⟨k1, k2, _⟩ := S7.pin (a, oe4) (List.mem_append.mpr (.inl List.mem_cons_self))
          exact ⟨_, _, inv_track (S7.unsuite ok) na n0 nL nc npn (exT_ok k1 hz4 hd4), hyes rfl a na⟩
        | brk => obtain ⟨_, _, _, z⟩ := hsp; exact z.elim
        | cont => obtain ⟨_, _, _, z⟩ := hsp; exact z.elim
        | ret u => obtain ⟨_, _, _, _, _, z⟩ := hsp; exact z.elim
    | false =>
      show wpAny _ X.A (handleBy (.ref a) X.env []) _ _ _
      refine wpAny_handleBy_nil ?_
      obtain ⟨k1, k2, k3, oe, vs, T, oT, ts', he, hz, hd, h1, hr⟩ := id fl3
      unfold PySem.passOn
      refine wpAny_bind (wpAny_field he hd h1 ?_)
      rw [if_neg (show ¬ ((Value.ref T == Value.none) = true) from by simp)]
      have fin : wpAny (model X.prog X.w) X.A (setFlight (.ref a) X.env.frame) (fun _ s4 => wpAny (model X.prog X.w) X.A (throw (.ref a) : Sem Flow) (SP X pins D) X.xe s4) X.xe { s' with heap := h3 } := by
        rw [hf]
        refine HandSPX.setFlight_upZ fl3 fun h4 hh4 up4 => wpAny_throw (tk _ _ ?_)
        exact ⟨a, B, sI, pins, σ', H', cls, d, rfl, J, nb, (up.trans up3).trans up4, .inr (.inr (by rw [hs]; exact hh4)), na, os, ag, hno rfl⟩
      first
        | exact wpAny_bind (wpAny_pure (wpAny_bind fin))
        | exact wpAny_bind fin
  · cases f with
    | next => obtain ⟨σ', H', J', q⟩ := hsp; exact wpAny_execs_nil ⟨σ', H', J'.ofTry ok, q⟩
    | brk => obtain ⟨σ', H', J', q⟩ := hsp; exact ⟨σ', H', J'.ofTry ok, q⟩
    | cont => obtain ⟨σ', H', J', q⟩ := hsp; exact ⟨σ', H', J'.ofTry ok, q⟩
    | ret u => obtain ⟨v, σ', H', J', r, q⟩ := hsp; exact ⟨v, σ', H', J'.ofTry ok, r, q⟩
end
/-! ### the readings -/
/-- an error of the class named x, held at a -/
def ErA (K : PySem.W.Frag) (x : Str) (d : Option Addr) (a : Addr) : HO := ExT (.ref (cl K x)) d a
/-- try: t, except C as n (slot i): y = n (slot j); the classes that the law knows, and whether they stand under C -/
def kTry (K : PySem.W.Frag) (tab : List (Str × Bool)) (i j : Nat) (t : KS) : KS := fun D σ G M => t { D with xc := fun c d σ' G' M' => ∃ p ∈ tab, c = .ref (cl K p.1) ∧
  (if p.2 = true then ∀ a, Fr G' M' a → D.nx (((σ'.set i (some (.ref a))).set j (some (.ref a))).set i none) (upd G' a (ErA K p.1 d a)) M' else D.xc c d σ' G' M') } σ G M
section
variable {X : Cx} {W : WX} {pos : Pos}
theorem js_try {K : PySem.W.Frag} {x n y : Str} {i j : Nat} {tab : List (Str × Bool)} {body : List Stmt} {t : KS} {np pos' q1 q2 q3 : Pos} (g : XG X.K X.mg x) (ht : ∀ p ∈ tab, PySem.W.exmOne X.K (.ref (cl X.K p.1)) (.ref (cl X.K x)) = some p.2) (hN : X.N.Nodup) (tk : Takes X W)
    (hb : ∀ (W : WX) (pn : List (Addr × Obj)) (xe : Value → Shared → Prop), Takes (X.tr pn xe) W → PassesOwn (model X.prog X.w) X.A X.env xe → JSs (X.tr pn xe) W body t)
    (hK : X.K = K := by rfl) (hs : X.stack = X.env :: X.outer := by rfl) (hf : X.env.frame = some X.env.locals := by rfl) (hx : X.ex = [] := by rfl) (hi : X.N[i]? = some n := by rfl) (hj : X.N[j]? = some y := by rfl)
    (hln : X.env.kindOf n = some .local := by rfl) (hlj : Loc X.env.scope y := by first | exact Or.inl rfl | exact Or.inr rfl) (hij : i ≠ j := by decide)
    (hfy : X.fn y = true ∨ X.env.scope.names.lookup y = some .local := by first | exact .inl rfl | exact .inr rfl) (hdn : (n == ("__debug__" : Str)) = false := by decide) (hcn : (n == ("__classdict__" : Str)) = false := by decide)
    (hsw : swapsWith (.Name n q2) (some (.Name y q1)) q3.line X.env = pure false := by rfl) (hg : Gl X x := by rfl) (hxd : (x == ("__debug__" : Str)) = false := by decide) :
    JS X W (.Try body [.ExceptHandler (some (.Name x np)) (some n) [.Assign [.Name y q1] (.Name n q2) q3] pos'] [] [] pos) (kTry K tab i j t) := by
  subst hK
  refine ps_mono (ps_try_keep (c := .ref (cl X.K x)) (tb := fun W => upS W t) hs hf hx hN hi hj hln hlj hij hfy hdn hcn hsw ⟨hg, hxd, .inl g.g⟩ tk hb) fun D σ H ⟨G, M, d, hv, h, en⟩ => ?_
  refine ⟨G, M, _, hv, h, ⟨en.nx, en.rt, en.bk, en.ct, fun c e σ' G' M' H' hv' q => ?_⟩⟩
  obtain ⟨p, hp, rfl, q⟩ := q
  refine ⟨p.2, ht p hp, fun hb a na => ?_, fun hb => ?_⟩
  · rw [if_pos hb] at q
    exact en.nx _ _ _ _ (hv'.newG na) (q a (hv'.fr na))
  · rw [if_neg (by rw [hb]; exact Bool.false_ne_true)] at q
    exact en.xc _ _ _ _ _ _ hv' q
/-- isinstance(v, C), where v is an error that is held, or None -/
def kIsX (K : PySem.W.Frag) (c : V) (tab : List (Str × Bool)) : KC := fun vs G M R => match vs with
  | [.non, c'] => c' = c ∧ R (.bl false) G M
  | [.ref a, c'] => c' = c ∧ ∃ p ∈ tab, At G M a (ErA K p.1 none a) ∧ R (.bl p.2) G M
  | _ => False
theorem kc_isX {tab : List (Str × Bool)} {c : V} {cv : Value} (hcv : ClsV c cv) (hn : PySem.W.kitOne X.K (.type "NoneType") cv = some false)
    (ht : ∀ p ∈ tab, ExcC X.K (cl X.K p.1) ∧ PySem.W.kitOne X.K (.ref (cl X.K p.1)) cv = some p.2) : KCall X (.builtin "isinstance") (kIsX X.K c tab) := by
  intro pins s σ H xs us Q I r h
  obtain ⟨G, M, R, hv, h, hR⟩ := h
  match xs, h with
  | [.non, c'], h2 =>
    obtain ⟨rfl, h3⟩ := h2
    exact (call_isi (X := X)) pins s σ H [.non, c'] _ Q I r ⟨_, _, .type "NoneType", _, false, rfl, hcv, .base .non, hn, hR _ _ _ _ hv h3⟩
  | [.ref a, c'], h2 =>
    obtain ⟨rfl, p, hp, ha, h3⟩ := h2
    cases r with
    | cons rx rr =>
      cases rr with
      | cons rt rr =>
        cases rr
        have ec := hcv.eq rt
        subst ec
        cases rx
        obtain ⟨C, e⟩ := ht p hp
        have hH : H a = some (ErA X.K p.1 none a) := hv.at ha
        obtain ⟨⟨oe, vs, hget, hz, hd⟩, _, _⟩ := I.hok a _ hH
        have J : PySem.W.InstAt s.heap a oe (cl X.K p.1) none := by
          obtain ⟨oc, od, oda, osl⟩ := oe
          obtain ⟨h1, h2⟩ := hz
          dsimp only at h1 h2 hd
          subst h1 h2 hd
          exact ⟨hget, rfl, rfl, trivial⟩
        exact PySem.W.kia_one (PySem.W.handS_kitx_exc C.hg C.hk C.hs C.hd C.ha C.hn C.ht C.hm) I.kIn J e (fun z => nomatch z) fun tk => ⟨.bl p.2, H, I.kept (t' := tk) fun _ _ z => z, rfl, hR _ _ _ _ hv h3⟩
/-- the name of an own class -/
theorem je_cls {K : PySem.W.Frag} {x : Str} {pos : Pos} (g : XG X.K X.mg x) (hK : X.K = K := by rfl) (hg : Gl X x := by rfl) (hd : (x == ("__debug__" : Str)) = false := by decide) : JE X W (.Name x pos) (kC (.ref (cl K x))) := by
  subst hK
  exact je_glob g.g rfl hg hd
end
theorem kop_shlW {X : Cx} : KOp X (binaryOp .LShift) (kI CShl fun i j => .int (i * 2 ^ j.toNat)) := kop_I op_shlW
theorem excX {R : KR} {Z : KX} {c : Value} {d : Option Addr} {σ : St} {G : Hp} {M : Mem} (h : Z c d G M) : (ends R Z).xc c d σ G M := ⟨G, M, Wk.refl, h⟩
theorem kit_ref {K : PySem.W.Frag} {t : Value} {C : Addr} {b : Bool} (hc : PySem.W.hasDictIn K C = true) (ht : PySem.W.typeIn K (.ref C) = some (.type "type")) (hs : PySem.W.subIn K (.ref C) (.ref C) = some true) (h : PySem.W.subIn K t (.ref C) = some b) :
    PySem.W.kitOne K t (.ref C) = some b := by
  unfold PySem.W.kitOne
  by_cases e : (t == .ref C) = true
  · rw [if_pos e]
    have e2 : t = .ref C := beq_iff_eq.mp e
    rw [e2, hs] at h
    exact h
  · rw [if_neg e]
    obtain ⟨cd, hcd, _⟩ := PySem.W.any_some hc
    have e1 : ((PySem.W.clsIn K C).isSome && PySem.W.typeIn K (.ref C) == some (.type "type")) = true := by rw [hcd, ht] <;> rfl
    show (if ((PySem.W.clsIn K C).isSome && PySem.W.typeIn K (.ref C) == some (.type "type")) = true then PySem.W.subIn K t (.ref C) else none) = some b
    rw [if_pos e1]
    exact h
theorem kit_tyV {K : PySem.W.Frag} {t : Value} {T : String} {b : Bool} (hm : PySem.W.kitMeta T = true) (hne : (t == .type T) = false) (h : PySem.W.subIn K t (.type T) = some b) : PySem.W.kitOne K t (.type T) = some b := by
  unfold PySem.W.kitOne
  rw [if_neg (by rw [hne]; exact Bool.false_ne_true)]
  show (if PySem.W.kitMeta T = true then PySem.W.subIn K t (.type T) else none) = some b
  rw [if_pos hm]
  exact h
end BT
set_option Elab.async false
set_option linter.all false
set_option maxRecDepth 100000
set_option maxHeartbeats 4000000
namespace BT
open PySem PySem.Spec L2
open PyProof.Rows hiding St
section
variable {X : Cx} {W : WX} {pos p : Pos} {a b : Expr}
/-! ### list(range(..)) -/
def rgL (i j : Int) (G : Hp) (M : Mem) (R : KR) : Prop := RgOk i j ∧ ∀ q, Fr G M q → R (.ref q) G ((q, .lst (rgV i j)) :: M)
def kListR1 (t : KE) : KE := fun σ G M R E => t σ G M (fun x G M => match x with
  | .int n => rgL 0 n G M R
  | _ => False) E
def kListR2 (t u : KE) : KE := fun σ G M R E => t σ G M (fun x G M => u σ G M (fun y G M => match x, y with
  | .int i, .int j => rgL i j G M R
  | _, _ => False) E) E
theorem je_listR1 {t : KE} {p2 pos2 : Pos} (hl : X.mg "list" = none) (hr : X.mg "range" = none) (ha : JE X W a t) (hc : X.calm = true := by rfl) (h1 : Gl X "list" := by rfl) (h2 : Gl X "range" := by rfl)
    (na : starEach [a] X.env = (false, eval a X.env) :: starEach [] X.env := by rfl) (nb : starEach [.Call (.Name "range" p2) [a] [] pos2] X.env = (false, eval (.Call (.Name "range" p2) [a] [] pos2) X.env) :: starEach [] X.env := by rfl) :
    JE X W (.Call (.Name "list" p) [.Call (.Name "range" p2) [a] [] pos2] [] pos) (kListR1 t) :=
  pe_mono (pe_listRg hc h1 hl (prg_1 h2 hr ha na) nb) fun σ H Q ⟨G, M, R, E, hv, h, hR, hE⟩ => ⟨G, M, _, E, hv, h, fun x G1 M1 H1 hv1 q => by
    match x, q with
    | .int n, ⟨q1, q2⟩ => exact ⟨n, rfl, q1, fun w hw => hR _ G1 _ _ (hv1.newM hw) (q2 w (hv1.fr hw))⟩, hE⟩
theorem je_listR2 {t u : KE} {p2 pos2 : Pos} (hl : X.mg "list" = none) (hr : X.mg "range" = none) (ha : JE X W a t) (hb : JE X W b u) (hc : X.calm = true := by rfl) (h1 : Gl X "list" := by rfl) (h2 : Gl X "range" := by rfl)
    (na : starEach [a, b] X.env = (false, eval a X.env) :: starEach [b] X.env := by rfl) (nb : starEach [b] X.env = (false, eval b X.env) :: starEach [] X.env := by rfl) (hp : (backTo pos2 (starEach [b] X.env)).any (·.1) = false := by rfl)
    (nc : starEach [.Call (.Name "range" p2) [a, b] [] pos2] X.env = (false, eval (.Call (.Name "range" p2) [a, b] [] pos2) X.env) :: starEach [] X.env := by rfl) :
    JE X W (.Call (.Name "list" p) [.Call (.Name "range" p2) [a, b] [] pos2] [] pos) (kListR2 t u) :=
  pe_mono (pe_listRg hc h1 hl (prg_2 h2 hr ha hb na nb hp) nc) fun σ H Q ⟨G, M, R, E, hv, h, hR, hE⟩ => ⟨G, M, _, E, hv, h, fun x G1 M1 H1 hv1 q => ⟨G1, M1, _, E, hv1, q, fun y G2 M2 H2 hv2 q => by
    match x, y, q with
    | .int i, .int j, ⟨q1, q2⟩ => exact ⟨i, j, rfl, rfl, q1, fun w hw => hR _ G2 _ _ (hv2.newM hw) (q2 w (hv2.fr hw))⟩, hE⟩, hE⟩
/-! ### an empty dict -/
def kDNew : KE := fun _ G M R _ => ∀ q, Fr G M q → R (.ref q) G ((q, .dK []) :: M)
theorem je_dnew : JE X W (.Dict [] [] pos) kDNew := pe_mono pe_dnewK fun σ H Q ⟨G, M, R, E, hv, h, hR, hE⟩ => fun w hw => hR _ G _ _ (hv.newM hw) (h w (hv.fr hw))
/-! ### constants of the module -/
theorem je_const {x : Str} {v : V} (h : ∃ u, X.mg x = some u ∧ RelV v u) (hg : Gl X x := by rfl) (hd : (x == ("__debug__" : Str)) = false := by decide) : JE X W (.Name x pos) (kC v) := by
  obtain ⟨u, hm, r⟩ := h
  exact je_glob hm r hg hd
/-- a tuple of texts that the module holds -/
def kConT (K : PySem.W.Frag) (x : Str) (xs : List V) : KE := fun _ G M R _ => (∀ H, SqT K H (cl K x) xs) → R (.ref (cl K x)) G M
structure XT (K : PySem.W.Frag) (mg : Str → Option Value) (x : Str) (xs : List V) : Prop where
  g : mg x = some (.ref (cl K x))
  s : ∀ H, SqT K H (cl K x) xs
theorem je_conT {K : PySem.W.Frag} {x : Str} {xs : List V} (h : XT X.K X.mg x xs) (hK : X.K = K := by rfl) (hg : Gl X x := by rfl) (hd : (x == ("__debug__" : Str)) = false := by decide) : JE X W (.Name x pos) (kConT K x xs) := by
  subst hK
  exact pe_mono (je_glob (W := W) (v := .ref (cl X.K x)) h.g rfl hg hd) fun σ H Q ⟨G, M, R, E, hv, q, hR, hE⟩ => ⟨G, M, R, E, hv, q h.s, hR, hE⟩
end
theorem vals_abs : ∀ {us : List Value} {xs : List V}, us.map absV = xs.map some → (∀ x, x ∈ xs → (∃ i, x = .int i) ∨ ∃ s, x = .str s) → Vals xs us
  | [], [], _, _ => .nil
  | [], _ :: _, h, _ => by cases h
  | _ :: _, [], h, _ => by cases h
  | u :: us, x :: xs, h, hx => by
    rw [List.map_cons, List.map_cons] at h
    injection h with h1 h2
    refine .cons ?_ (vals_abs h2 fun y hy => hx y (List.mem_cons_of_mem _ hy))
    rcases hx x List.mem_cons_self with ⟨i, rfl⟩ | ⟨s, rfl⟩
    · cases u <;> simp only [absV] at h1 <;> first | (cases h1; done) | (injection h1 with h1; first | (cases h1; exact ⟨_, rfl⟩) | cases h1)
    · cases u <;> simp only [absV] at h1 <;> first | (cases h1; done) | (injection h1 with h1; first | (cases h1; exact ⟨_, rfl⟩) | cases h1)
theorem xt_mk {K : PySem.W.Frag} {mg : Str → Option Value} {h : Heap} {x : Str} {C : Addr} {xs : List V} {od : Option Addr} {its : Array Value} {n : Nat} {sl : Array (Option Value)} (X : K.In h) (G : h.Ns mainGlobals mg) (a : PySem.W.nsIn K mainGlobals x = some (some (.ref C)))
    (l : K.lookup C = some ⟨.type "tuple", od, .seq its n, sl⟩) (e : its.toList.map absV = xs.map some) (hx : ∀ x, x ∈ xs → (∃ i, x = .int i) ∨ ∃ s, x = .str s) (hs : its.size ≤ 1000) : XT K mg x xs := by
  have ec := cl_of a
  refine ⟨by rw [ec]; exact PySem.W.mg_of X G a, fun H => ?_⟩
  rw [ec]
  exact .inr ⟨_, its, n, l, rfl, rfl, Nat.le_trans hs (by decide), vals_abs e hx⟩
/-! ### sum of a tuple -/
section
variable {prog : Program} {w : World} {A : Around} {E : Value → Shared → Prop} {s : Shared} {l : Addr} {its : List Value} {ns : List Int} {Q : Value → Shared → Prop}
theorem sum_tupT (hh : A.handled = none) (hl : s.heap.IsTuple l its.toArray) (hi : IntsAre its ns)
    (h : ∀ h' tk t', (∀ b o, s.heap.get? b = some o → h'.get? b = some o) → Q (.int ns.sum t') { s with heap := h', toks := tk }) : wpAny (model prog w) A (call (.builtin "sum") [.ref l]) Q E s := by
  obtain ⟨xs, e⟩ := hi.allInts.items
  have hn : numsOf (intItems xs).toList = ns := by rw [← e]; exact hi.numsOf
  rw [nums_intItems] at hn
  rw [e] at hl
  have hlt : l < s.heap.objs.size := by obtain ⟨_, e, _⟩ := hl; exact Heap.lt_size e
  refine call_sum_walkG (wpAny_pyIter_tuple hl ?_)
  refine ⟨_, _, _, _, _, _, numAt xs, rfl, Walks.tuple (A := A.in1) hh _ l (Nat.ne_of_lt hlt) (intItems xs), ⟨⟨_, Heap.get?_push_size _ rfl, rfl, rfl⟩, hl.push _⟩, fun b hb => ?_, (fun _ _ => intItems_at), fun h' tk t' hk => ?_⟩
  · show b < (s.heap.push _).objs.size
    rw [Heap.size_push]
    simp only [List.mem_cons, List.not_mem_nil, or_false] at hb
    rcases hb with z | z
    · rw [z]; exact Nat.lt_succ_self _
    · rw [z]; exact Nat.lt_succ_of_lt hlt
  · have := h h' tk t' fun b o eb => hk b o (fun hm => absurd (Heap.lt_size eb) ((List.mem_singleton.mp hm) ▸ Nat.lt_irrefl _)) (Heap.get?_push_of_some _ eb)
    have e2 : preSum (numAt xs) (intItems xs).size = ns.sum := by
      rw [preSum_eq, List.take_of_length_le (by simp [intItems]), hn]
    rw [e2]; exact this
end
section
variable {X : Cx}
def kSumS (K : PySem.W.Frag) : KC := fun vs G M R => match vs with
  | [.ref a] => ∃ ns : List Int, SeqAt' K G M a (ns.map V.int) ∧ R (.int ns.sum) G M
  | _ => False
theorem kc_sumS (hc : X.calm = true := by rfl) : KCall X (.builtin "sum") (kSumS X.K) := by
  intro pins s σ H vs us Q I r h
  obtain ⟨G, M, R, hv, h, hR⟩ := h
  match vs, h with
  | [.ref a], ⟨ns, h1, h2⟩ =>
    rcases h1 with h1 | h1
    · exact cr_sum hc pins s σ H [.ref a] us Q I r ⟨a, ns, rfl, hv.lst h1, hR _ _ _ _ hv h2⟩
    · obtain ⟨its, rv, ht, _⟩ := I.tuple (ex_t hv.exx h1)
      rw [Vals.ref1 r]
      exact sum_tupT (I.ok.hd hc) ht rv.ints fun h' tk t' hk => ⟨.int _, H, I.kept hk, ⟨_, rfl⟩, hR _ _ _ _ hv h2⟩
end
end BT
namespace BT
open PySem PySem.Spec L2
open PyProof.Rows hiding St
/-! ### whole numbers -/
def isIntV : V → Bool
  | .int _ => true
  | _ => false
def withinV (x : V) (lo hi : Int) : Bool := match x with
  | .int i => decide (lo ≤ i) && decide (i ≤ hi)
  | _ => false
def S_is_whole (K : PySem.W.Frag) : KSp := sp1 fun x G M R Z => ∃ T : PT, TyK K G M x T ∧ R (.bl (T == .int)) G M
def S_is_within (K : PySem.W.Frag) : KSp := sp3 fun x y z G M R Z => ∃ (T : PT) (lo hi : Int), y = .int lo ∧ z = .int hi ∧ TyK K G M x T ∧ (T == .int) = isIntV x ∧ R (.bl (withinV x lo hi)) G M
/-! ### kinds and draws -/
structure Kn where
  leaf : Bool
  n : Nat
def Kn.txt (k : Kn) : Str := if k.leaf then "leaf" else "shuffle"
def KnOk (k : Kn) : Prop := k.n ≤ 64 ∧ (k.leaf = true → k.n ≤ 6) ∧ (k.leaf = false → 1 ≤ k.n)
def fac : Nat → Nat
  | 0 => 1
  | n + 1 => (n + 1) * fac n
def manyK (k : Kn) : Nat := if k.leaf then 2 ^ k.n else fac k.n
def prK : List Kn → Nat
  | [] => 1
  | k :: ks => manyK k * prK ks
def knD (k : Kn) : PyData := .tuple [.str k.txt, .int k.n]
def rowAt : Nat → Nat → List Nat
  | 0, _ => []
  | s + 1, n => rowAt s (n / (s + 1)) ++ [n % (s + 1)]
/-- a draw: a leaf's number, or a row -/
inductive Dr | leaf (n : Nat) | row (l : List Nat)
def dOf (k : Kn) (n : Nat) : Dr := if k.leaf then .leaf n else .row (rowAt k.n n)
def drR : List Kn → Nat → List Dr
  | [], _ => []
  | k :: ks, n => dOf k (n % manyK k) :: drR ks (n / manyK k)
def drawsAt (ks : List Kn) (n : Nat) : List Dr := (drR ks.reverse n).reverse
def natsV (l : List Nat) : List V := l.map fun (n : Nat) => V.int (n : Int)
inductive A2 {α β : Type} (r : α → β → Prop) : List α → List β → Prop
  | nil : A2 r [] []
  | cons {a : α} {b : β} {as : List α} {bs : List β} : r a b → A2 r as bs → A2 r (a :: as) (b :: bs)
/-- a draw as it lies: a row's list is one of the cells -/
def DrM (M : Mem) (v : V) (d : Dr) : Prop := match d with
  | .leaf n => v = .int n
  | .row l => ∃ b, v = .ref b ∧ (b, HO.lst (natsV l)) ∈ M
def DrV (K : PySem.W.Frag) (G : Hp) (M : Mem) (v : V) (d : Dr) : Prop := match d with
  | .leaf n => v = .int n
  | .row l => ∃ b, v = .ref b ∧ LstAt K G M b (natsV l)
def KnAt (K : PySem.W.Frag) (G : Hp) (M : Mem) (a : Addr) (ks : List Kn) : Prop := ∃ us, LstAt K G M a us ∧ DpAll K G us (ks.map knD) ∧ (∀ k, k ∈ ks → KnOk k) ∧ ks.length ≤ 1000
def DrAt (K : PySem.W.Frag) (G : Hp) (M : Mem) (a : Addr) (ds : List Dr) : Prop := ∃ us, LstAt K G M a us ∧ A2 (DrV K G M) us ds
def DrOk (k : Kn) (d : Dr) : Prop := match d with
  | .leaf n => k.leaf = true ∧ n < 2 ^ k.n
  | .row l => k.leaf = false ∧ l.length = k.n ∧ ∀ (i v : Nat), l[i]? = some v → v ≤ i
def S_leaves (K : PySem.W.Frag) : KSp := sp1 fun x G M R Z => ∃ n : Nat, x = .int n ∧ n ≤ 1000 ∧ R (.int ((2 ^ n : Nat) : Int)) G M
def S_many_of (K : PySem.W.Frag) : KSp := sp1 fun x G M R Z => ∃ k : Kn, Dp K G x (knD k) ∧ KnOk k ∧ R (.int (manyK k)) G M
def S_how_many (K : PySem.W.Frag) : KSp := sp1 fun x G M R Z => ∃ (a : Addr) (ks : List Kn), x = .ref a ∧ KnAt K G M a ks ∧ R (.int (prK ks)) G M
def S_row_at (K : PySem.W.Frag) : KSp := sp2 fun x y G M R Z => ∃ s n : Nat, x = .int s ∧ y = .int n ∧ s ≤ 64 ∧ ∀ p, Fr G M p → R (.ref p) G ((p, .lst (natsV (rowAt s n))) :: M)
def S_draws_at (K : PySem.W.Frag) : KSp := sp2 fun x y G M R Z => ∃ (a : Addr) (ks : List Kn) (T : PT), x = .ref a ∧ KnAt K G M a ks ∧ TyK K G M y T ∧ (T == .int) = isIntV y ∧
  (∀ n : Nat, y = .int n → n < prK ks → ∀ (p : Addr) (us : List V) (Mn : Mem), A2 (DrM Mn) us (drawsAt ks n) → R (.ref p) G ((p, .lst us) :: (Mn ++ M))) ∧
  (withinV y 0 ((prK ks : Int) - 1) = false → Z (.ref (cl K "NoNumber")) none G M)
/-! ### sizes and needs -/
def highN (m : Nat) : Nat := ((List.range 6).filter fun k => decide (2 ^ k < m)).length
def lastN (m : Nat) : Nat := highN m - 1
def sideN (m : Nat) : Nat := ((List.range 7).filter fun k => decide (1 ≤ k) && decide (m ≤ k * k)).headD 0
def stairN (m p : Nat) : Nat := ((List.range 6).filter fun k => decide (k = lastN m) || decide (p % (2 * 2 ^ k) ≠ 0)).headD 0
def slotA (m st : Nat) : Nat := if st = lastN m then m else 2 * 2 ^ st
def trN : Nat → Nat → List Nat
  | 0, m => [m]
  | f + 1, m => if 4 < m then m :: trN f ((m + 3) / 4) else [m]
def treesN (m : Nat) : List Nat := trN 3 m
def spareK (m most : Nat) : List Kn := List.replicate ((most + sideN m - 1) / sideN m) ⟨false, m + sideN m⟩
def stairL (m most : Nat) : List Nat := lastN m :: (List.range ((most + 1) / 2 - 1)).map fun i => stairN m (i + 1)
def stairsK (m most : Nat) : List Kn := if most = 0 then [] else (stairL m most).map fun st => ⟨false, slotA m st + 2 * 2 ^ st⟩
def groveK (ts : List Nat) (most : Nat) : List Kn := (ts.flatMap fun m => List.replicate m ⟨true, highN m⟩) ++ (List.replicate most (ts.map fun m => (⟨true, highN m⟩ : Kn))).flatten
def kindsK (w : Str) (m most : Nat) : List Kn := if w = "spare" then spareK m most else if w = "stairs" then stairsK m most else if w = "tree" then groveK [m] most else if w = "grove" then groveK (treesN m) most else []
/-- a list of kinds that was told: a cell of its own -/
def KndsR (K : PySem.W.Frag) (G : Hp) (M : Mem) (ks : List Kn) (R : KR) : Prop := ∀ (t : Addr) (us : List V) (G' : Hp), Ex G G' → DpAll K G' us (ks.map knD) → R (.ref t) G' ((t, .lst us) :: M)
def natOk (x : V) (m : Nat) (lo hi : Nat) : Prop := x = .int m ∧ lo ≤ m ∧ m ≤ hi
def S_side_of (K : PySem.W.Frag) : KSp := sp1 fun x G M R Z => ∃ m, natOk x m 1 32 ∧ R (.int (sideN m)) G M
def S_high_of (K : PySem.W.Frag) : KSp := sp1 fun x G M R Z => ∃ m, natOk x m 1 32 ∧ R (.int (highN m)) G M
def S_last_of (K : PySem.W.Frag) : KSp := sp1 fun x G M R Z => ∃ m, natOk x m 1 32 ∧ R (.int (lastN m)) G M
def S_stair_of (K : PySem.W.Frag) : KSp := sp2 fun x y G M R Z => ∃ m p, natOk x m 1 32 ∧ natOk y p 1 30 ∧ R (.int (stairN m p)) G M
def S_slots_of (K : PySem.W.Frag) : KSp := sp2 fun x y G M R Z => ∃ m st, natOk x m 1 32 ∧ natOk y st 0 6 ∧ ∀ t G', Ex G G' → SqT K G' t [.int (slotA m st), .int ((2 * 2 ^ st : Nat) : Int)] → R (.ref t) G' M
def S_trees_of (K : PySem.W.Frag) : KSp := sp1 fun x G M R Z => ∃ m, natOk x m 1 32 ∧ ∀ t, Fr G M t → R (.ref t) G ((t, .lst (natsV (treesN m))) :: M)
def S_look_at_many (K : PySem.W.Frag) : KSp := sp1 fun x G M R Z => ∃ T : PT, TyK K G M x T ∧ (T == .int) = isIntV x ∧ (withinV x 1 32 = true → R .non G M) ∧ (withinV x 1 32 = false → Z (.ref (cl K "NoSize")) none G M)
def S_look_at_sizes (K : PySem.W.Frag) : KSp := sp2 fun x y G M R Z => ∃ T U : PT, TyK K G M x T ∧ (T == .int) = isIntV x ∧ TyK K G M y U ∧ (U == .int) = isIntV y ∧
  ((withinV x 1 32 && withinV y 0 60) = true → R .non G M) ∧ ((withinV x 1 32 && withinV y 0 60) = false → Z (.ref (cl K "NoSize")) none G M)
def waysL : List Str := ["scan", "spare", "stairs", "tree", "grove"]
def wayV (x : V) : Bool := match x with
  | .str s => waysL.contains s
  | _ => false
def isStrV : V → Bool
  | .str _ => true
  | _ => false
def S_look_at_way (K : PySem.W.Frag) : KSp := sp1 fun x G M R Z => ∃ T : PT, TyK K G M x T ∧ (T == .str) = isStrV x ∧ (wayV x = true → R .non G M) ∧ (wayV x = false → Z (.ref (cl K "NoWay")) none G M)
def S_spare_needs (K : PySem.W.Frag) : KSp := sp2 fun x y G M R Z => ∃ m q, natOk x m 1 32 ∧ natOk y q 0 60 ∧ KndsR K G M (spareK m q) R
def S_stairs_needs (K : PySem.W.Frag) : KSp := sp2 fun x y G M R Z => ∃ m q, natOk x m 1 32 ∧ natOk y q 0 60 ∧ KndsR K G M (stairsK m q) R
def S_grove_needs (K : PySem.W.Frag) : KSp := sp2 fun x y G M R Z => ∃ (a : Addr) (ts : List Nat) (q : Nat), x = .ref a ∧ LstAt K G M a (natsV ts) ∧ (∀ t, t ∈ ts → 1 ≤ t ∧ t ≤ 32) ∧ ts.length ≤ 3 ∧ natOk y q 0 60 ∧ KndsR K G M (groveK ts q) R
def S_kinds_of (K : PySem.W.Frag) : KSp := sp3 fun w x y G M R Z => ∃ (s : Str) (m q : Nat), w = .str s ∧ natOk x m 1 32 ∧ natOk y q 0 60 ∧ KndsR K G M (kindsK s m q) R
def S_needs (K : PySem.W.Frag) : KSp := sp3 fun w x y G M R Z => ∃ S T U : PT, TyK K G M w S ∧ (S == .str) = isStrV w ∧ TyK K G M x T ∧ (T == .int) = isIntV x ∧ TyK K G M y U ∧ (U == .int) = isIntV y ∧
  (∀ (s : Str) (m q : Nat), w = .str s → wayV w = true → natOk x m 1 32 → natOk y q 0 60 → KndsR K G M (kindsK s m q) R) ∧
  (wayV w = false → Z (.ref (cl K "NoWay")) none G M) ∧ (wayV w = true → (withinV x 1 32 && withinV y 0 60) = false → Z (.ref (cl K "NoSize")) none G M)
def S_law_whole (K : PySem.W.Frag) : KSp := sp1 fun x G M R Z => ∃ T : PT, TyK K G M x T ∧ R (.bl (T == .int)) G M
def S_law_high (K : PySem.W.Frag) : KSp := sp1 fun x G M R Z => ∃ m, natOk x m 1 32 ∧ R (.int (highN m)) G M
def S_law_spare (K : PySem.W.Frag) : KSp := sp2 fun x y G M R Z => ∃ m q, natOk x m 1 32 ∧ natOk y q 0 60 ∧ KndsR K G M (spareK m q) R
def S_law_stairs (K : PySem.W.Frag) : KSp := sp2 fun x y G M R Z => ∃ m q, natOk x m 1 32 ∧ natOk y q 0 60 ∧ KndsR K G M (stairsK m q) R
def S_law_trees (K : PySem.W.Frag) : KSp := sp2 fun x y G M R Z => ∃ (a : Addr) (ts : List Nat) (q : Nat), x = .ref a ∧ LstAt K G M a (natsV ts) ∧ (∀ t, t ∈ ts → 1 ≤ t ∧ t ≤ 32) ∧ ts.length ≤ 3 ∧ natOk y q 0 60 ∧ KndsR K G M (groveK ts q) R
def S_law_due (K : PySem.W.Frag) : KSp := sp3 fun w x y G M R Z => ∃ (s : Str) (m q : Nat), w = .str s ∧ natOk x m 1 32 ∧ natOk y q 0 60 ∧ KndsR K G M (kindsK s m q) R
def S_law_is (K : PySem.W.Frag) : KSp := sp2 fun x y G M R Z => ∃ (a b : Addr) (us ws : List V) (ks : List Kn), x = .ref a ∧ y = .ref b ∧ LstAt K G M a us ∧ DpAll K G us (ks.map knD) ∧ LstAt K G M b ws ∧ DpAll K G ws (ks.map knD) ∧ ks.length ≤ 1000 ∧ R (.bl true) G M
def S_law_refused (K : PySem.W.Frag) : KSp := sp3 fun w x y G M R Z => ∃ S T U : PT, TyK K G M w S ∧ (S == .str) = isStrV w ∧ TyK K G M x T ∧ (T == .int) = isIntV x ∧ TyK K G M y U ∧ (U == .int) = isIntV y ∧
  (wayV w && (withinV x 1 32 && withinV y 0 60)) = false ∧ ∀ (t : Addr) (G' : Hp), Ex G G' → R (.ref t) G' ((t, .lst [.bl (!wayV w), .bl (wayV w), .bl true, .bl false]) :: M)
def S_law_odd_right (K : PySem.W.Frag) : KSp := sp4 fun x w y z G M R Z => ∃ (p : Addr) (n : Nat) (c s : Int) (g : Str) (m q : Nat), x = .ref p ∧ M[n]? = some (p, pool c s) ∧ PoolOk s ∧ w = .str g ∧ wayV w = true ∧ natOk y m 1 32 ∧ natOk z q 0 60 ∧ ∀ G' M', Ex G G' → R (.bl true) G' M'
def S_law_right (K : PySem.W.Frag) : KSp := sp1 fun x G M R Z => ∃ (p : Addr) (n : Nat) (c s : Int), x = .ref p ∧ M[n]? = some (p, pool c s) ∧ PoolOk s ∧ ∀ G' M', Ex G G' → R (.bl true) G' M'
/-! readings of the defs, printed by gen.py -/
def tab_tr_TouchError : List (Str × Bool) := [("NoSize", true), ("NoWay", true)]
def tab_is_NoSize : List (Str × Bool) := [("NoSize", true), ("NoWay", false)]
def tab_is_NoWay : List (Str × Bool) := [("NoSize", false), ("NoWay", true)]
def tab_is_Over : List (Str × Bool) := [("NoSize", false), ("NoWay", false)]
def tab_is_ValueError : List (Str × Bool) := [("NoSize", true), ("NoWay", true)]
def con_WAYS : List V := [.str "scan", .str "spare", .str "stairs", .str "tree", .str "grove"]
/-- law_pool(_law_script, _law_k); slots 0 _law_script, 1 _law_k, 2 _law_cell, 3 _law_seed -/
def rd_law_pool_4 (K : PySem.W.Frag) : KS :=
  kSeq (kRet (kLst (kCons (kVar 2) (kCons (kVar 3) (kNil))))) (kNext)
def rd_law_pool_3 (K : PySem.W.Frag) : KS :=
  kSeq (kIf (kT (kBin (kI0 fun i j => .bl (decide (i < j))) (kVar 2) (kBin (kI CPow fun i j => .int (i ^ j.toNat)) (kC (.int 10)) (kC (.int 18))))) (kSeq (kSet 2 (kC (.int 0))) (kNext)) (kNext)) (rd_law_pool_4 K)
def rd_law_pool_2 (K : PySem.W.Frag) : KS :=
  kSeq (kSet 3 (kBin (kI (fun _ j => 0 < j) fun i j => .int (i % j)) (kBin (kMul) (kBin (kAdd) (kBin (kAdd) (kBin (kI (fun _ j => 0 < j) fun i j => .int (i % j)) (kVar 2) (kC (.int 1000000007))) (kBin (kMul) (kBin (kMul) (kC (.int 15485863)) (kVar 1)) (kVar 1))) (kC (.int 3))) (kC (.int 39373))) (kC (.int 2147483647)))) (rd_law_pool_3 K)
def rd_law_pool_1 (K : PySem.W.Frag) : KS :=
  kSeq (kIf (kT (kBin (kI0 fun i j => .bl (decide (i < j))) (kVar 1) (kCB (kLen K) (kCons (kVar 0) (kNil))))) (kSeq (kSet 2 (kBin (kIx K) (kVar 0) (kVar 1))) (kNext)) (kNext)) (rd_law_pool_2 K)
def rd_law_pool (K : PySem.W.Frag) : KS :=
  kSeq (kSet 2 (kC (.int 0))) (rd_law_pool_1 K)
/-- law_take(_law_pool_here, _law_many); slots 0 _law_pool_here, 1 _law_many, 2 _law_found -/
def rd_law_take_2 (K : PySem.W.Frag) : KS :=
  kSeq (kRet (kBin (kI (fun _ j => 0 < j) fun i j => .int (i % j)) (kBin (kI CDivW fun i j => .int (i / j)) (kBin (kI (fun _ j => 0 < j) fun i j => .int (i % j)) (kBin (kMul) (kBin (kIx K) (kVar 0) (kC (.int 1))) (kBin (kIx K) (kVar 0) (kC (.int 1)))) (kC (.int 2147483629))) (kC (.int 64))) (kVar 1))) (kNext)
def rd_law_take_1 (K : PySem.W.Frag) : KS :=
  kSeq (kAsg (kBin (kI (fun _ j => 0 < j) fun i j => .int (i % j)) (kBin (kAdd) (kBin (kMul) (kBin (kIx K) (kVar 0) (kC (.int 1))) (kC (.int 48271))) (kC (.int 11))) (kC (.int 2147483647))) (kgIx (kVar 0) (kC (.int 1)))) (rd_law_take_2 K)
def rd_law_take (K : PySem.W.Frag) : KS :=
  kSeq (kIf (kT (kBin (kI0 fun i j => .bl (decide (j < i))) (kBin (kIx K) (kVar 0) (kC (.int 0))) (kC (.int 0)))) (kSeq (kSet 2 (kBin (kI (fun _ j => 0 < j) fun i j => .int (i % j)) (kBin (kIx K) (kVar 0) (kC (.int 0))) (kVar 1))) (kSeq (kAsg (kBin (kI CDivW fun i j => .int (i / j)) (kBin (kIx K) (kVar 0) (kC (.int 0))) (kVar 1)) (kgIx (kVar 0) (kC (.int 0)))) (kSeq (kRet (kVar 2)) (kNext)))) (kNext)) (rd_law_take_1 K)
/-- law_spare(_law_many, _law_most); slots 0 _law_many, 1 _law_most, 2 _law_side, 3 _law_k -/
def rd_law_spare_1 (K : PySem.W.Frag) : KS :=
  kSeq (kRet (kBin (kMul) (kLst (kCons (kTup (kCons (kC (.str "shuffle")) (kCons (kBin (kAdd) (kVar 0) (kVar 2)) (kNil)))) (kNil))) (kBin (kI CDivW fun i j => .int (i / j)) (kBin (kI0 fun i j => .int (i - j)) (kBin (kAdd) (kVar 1) (kVar 2)) (kC (.int 1))) (kVar 2)))) (kNext)
def rd_law_spare (K : PySem.W.Frag) : KS :=
  kSeq (kSet 2 (kBin (kIx K) (kComp (kiR2 (kCons (kC (.int 1)) (kCons (kC (.int 7)) (kNil)))) (kgName 3) (kT (kBin (kI0 fun i j => .bl (decide (j ≤ i))) (kBin (kMul) (kVar 3) (kVar 3)) (kVar 0))) (kVar 3) [3]) (kC (.int 0)))) (rd_law_spare_1 K)
/-- law_stairs(_law_many, _law_most); slots 0 _law_many, 1 _law_most, 2 _law_last, 3 _law_k, 4 _law_kinds, 5 _law_pour, 6 _law_stair -/
def rd_law_stairs_b0 (K : PySem.W.Frag) : KS :=
  kSeq (kIf (kT (kBin (kI0 fun i j => .bl (decide (i < j))) (kBin (kMul) (kC (.int 2)) (kVar 5)) (kVar 1))) (kSeq (kSet 6 (kBin (kIx K) (kComp (kiR1 (kCons (kC (.int 6)) (kNil))) (kgName 3) (kOr (kT (kBin (kEqv false K) (kVar 3) (kVar 2))) (kT (kBin (kEqv true K) (kBin (kI (fun _ j => 0 < j) fun i j => .int (i % j)) (kVar 5) (kBin (kI CPow fun i j => .int (i * 2 ^ j.toNat)) (kC (.int 2)) (kVar 3))) (kC (.int 0))))) (kVar 3) [3]) (kC (.int 0)))) (kSeq (kExpr (kBM K "list" (kAppend) (kVar 4) (kCons (kTup (kCons (kC (.str "shuffle")) (kCons (kBin (kIx K) (kLst (kCons (kBin (kI CPow fun i j => .int (i * 2 ^ j.toNat)) (kC (.int 4)) (kVar 6)) (kCons (kBin (kAdd) (kVar 0) (kBin (kI CPow fun i j => .int (i * 2 ^ j.toNat)) (kC (.int 2)) (kVar 2))) (kNil)))) (kCB (kInt) (kCons (kBin (kEqv false K) (kVar 6) (kVar 2)) (kNil)))) (kNil)))) (kNil)))) (kNext))) (kNext)) (kNext)
def rd_law_stairs_3 (K : PySem.W.Frag) : KS :=
  kSeq (kRet (kVar 4)) (kNext)
def rd_law_stairs_2 (K : PySem.W.Frag) : KS :=
  kSeq (kFor (kiR2 (kCons (kC (.int 1)) (kCons (kC (.int 31)) (kNil)))) (kgName 5) (rd_law_stairs_b0 K)) (rd_law_stairs_3 K)
def rd_law_stairs_1 (K : PySem.W.Frag) : KS :=
  kSeq (kSet 4 (kBin (kMul) (kLst (kCons (kTup (kCons (kC (.str "shuffle")) (kCons (kBin (kAdd) (kVar 0) (kBin (kI CPow fun i j => .int (i * 2 ^ j.toNat)) (kC (.int 2)) (kVar 2))) (kNil)))) (kNil))) (kCB (kMin2) (kCons (kVar 1) (kCons (kC (.int 1)) (kNil)))))) (rd_law_stairs_2 K)
def rd_law_stairs (K : PySem.W.Frag) : KS :=
  kSeq (kSet 2 (kBin (kIx K) (kComp (kiR1 (kCons (kC (.int 6)) (kNil))) (kgName 3) (kT (kBin (kI0 fun i j => .bl (decide (j ≤ i))) (kBin (kI CPow fun i j => .int (i * 2 ^ j.toNat)) (kC (.int 2)) (kVar 3)) (kVar 0))) (kVar 3) [3]) (kC (.int 0)))) (rd_law_stairs_1 K)
/-- law_high(_law_many); slots 0 _law_many, 1 _law_k -/
def rd_law_high (K : PySem.W.Frag) : KS :=
  kSeq (kRet (kCB (kLen K) (kCons (kComp (kiR1 (kCons (kC (.int 6)) (kNil))) (kgName 1) (kT (kBin (kI0 fun i j => .bl (decide (i < j))) (kBin (kI CPow fun i j => .int (i * 2 ^ j.toNat)) (kC (.int 1)) (kVar 1)) (kVar 0))) (kVar 1) [1]) (kNil)))) (kNext)
/-- law_trees(_law_trees_here, _law_most); slots 0 _law_trees_here, 1 _law_most, 2 _law_kinds, 3 _law_many, 4 _law_k -/
def rd_law_trees_b0 (K : PySem.W.Frag) : KS :=
  kSeq (kExpr (kBM K "list" (kExtend) (kVar 2) (kCons (kComp (kiR1 (kCons (kVar 3) (kNil))) (kgName 4) (kYes) (kTup (kCons (kC (.str "leaf")) (kCons (kCall (S_law_high K) (kCons (kVar 3) (kNil))) (kNil)))) [4]) (kNil)))) (kNext)
def rd_law_trees_b1 (K : PySem.W.Frag) : KS :=
  kSeq (kExpr (kBM K "list" (kExtend) (kVar 2) (kCons (kComp (kiSeq K (kVar 0)) (kgName 3) (kYes) (kTup (kCons (kC (.str "leaf")) (kCons (kCall (S_law_high K) (kCons (kVar 3) (kNil))) (kNil)))) [3]) (kNil)))) (kNext)
def rd_law_trees_3 (K : PySem.W.Frag) : KS :=
  kSeq (kRet (kVar 2)) (kNext)
def rd_law_trees_2 (K : PySem.W.Frag) : KS :=
  kSeq (kFor (kiR1 (kCons (kVar 1) (kNil))) (kgName 4) (rd_law_trees_b1 K)) (rd_law_trees_3 K)
def rd_law_trees_1 (K : PySem.W.Frag) : KS :=
  kSeq (kFor (kiSeq K (kVar 0)) (kgName 3) (rd_law_trees_b0 K)) (rd_law_trees_2 K)
def rd_law_trees (K : PySem.W.Frag) : KS :=
  kSeq (kSet 2 (kLst (kNil))) (rd_law_trees_1 K)
/-- law_due(_law_way, _law_many, _law_most); slots 0 _law_way, 1 _law_many, 2 _law_most, 3 _law_trees_here -/
def rd_law_due_b0 (K : PySem.W.Frag) : KS :=
  kSeq (kSet 3 (kBin (kAdd) (kVar 3) (kLst (kCons (kBin (kI CDivW fun i j => .int (i / j)) (kBin (kAdd) (kBin (kIx K) (kVar 3) (kUn kNeg (kC (.int 1)))) (kC (.int 3))) (kC (.int 4))) (kNil))))) (kNext)
def rd_law_due_5 (K : PySem.W.Frag) : KS :=
  kSeq (kRet (kBin (kIx K) (kLst (kCons (kLst (kNil)) (kCons (kCall (S_law_trees K) (kCons (kVar 3) (kCons (kVar 2) (kNil)))) (kNil)))) (kCB (kInt) (kCons (kBin (kEqv false K) (kVar 0) (kC (.str "grove"))) (kNil))))) (kNext)
def rd_law_due_4 (K : PySem.W.Frag) : KS :=
  kSeq (kIf (kT (kBin (kEqv false K) (kVar 0) (kC (.str "tree")))) (kSeq (kRet (kCall (S_law_trees K) (kCons (kLst (kCons (kVar 1) (kNil))) (kCons (kVar 2) (kNil))))) (kNext)) (kNext)) (rd_law_due_5 K)
def rd_law_due_3 (K : PySem.W.Frag) : KS :=
  kSeq (kIf (kT (kBin (kEqv false K) (kVar 0) (kC (.str "stairs")))) (kSeq (kRet (kCall (S_law_stairs K) (kCons (kVar 1) (kCons (kVar 2) (kNil))))) (kNext)) (kNext)) (rd_law_due_4 K)
def rd_law_due_2 (K : PySem.W.Frag) : KS :=
  kSeq (kIf (kT (kBin (kEqv false K) (kVar 0) (kC (.str "spare")))) (kSeq (kRet (kCall (S_law_spare K) (kCons (kVar 1) (kCons (kVar 2) (kNil))))) (kNext)) (kNext)) (rd_law_due_3 K)
def rd_law_due_1 (K : PySem.W.Frag) : KS :=
  kSeq (kWhile (kT (kBin (kI0 fun i j => .bl (decide (j < i))) (kBin (kIx K) (kVar 3) (kUn kNeg (kC (.int 1)))) (kC (.int 4)))) (rd_law_due_b0 K)) (rd_law_due_2 K)
def rd_law_due (K : PySem.W.Frag) : KS :=
  kSeq (kSet 3 (kLst (kCons (kVar 1) (kNil)))) (rd_law_due_1 K)
/-- look_at_way(way); slots 0 way -/
def rd_look_at_way (K : PySem.W.Frag) : KS :=
  kSeq (kIf (kOr (kNot (kT (kCB (kIsi K) (kCons (kVar 0) (kCons (kC (.ty "str")) (kNil)))))) (kT (kBin (kIn true K) (kVar 0) (kConT K "WAYS" con_WAYS)))) (kSeq (kRaise K "NoWay") (kNext)) (kNext)) (kNext)
/-- is_whole(thing); slots 0 thing -/
def rd_is_whole (K : PySem.W.Frag) : KS :=
  kSeq (kRet (kAndV (kCB (kIsi K) (kCons (kVar 0) (kCons (kC (.ty "int")) (kNil)))) (kNotV (kCB (kIsi K) (kCons (kVar 0) (kCons (kC (.ty "bool")) (kNil))))))) (kNext)
/-- is_within(thing, least, most); slots 0 thing, 1 least, 2 most -/
def rd_is_within (K : PySem.W.Frag) : KS :=
  kSeq (kRet (kAndV (kCall (S_is_whole K) (kCons (kVar 0) (kNil))) (kChain (kI0 fun i j => .bl (decide (i ≤ j))) (kI0 fun i j => .bl (decide (i ≤ j))) (kVar 1) (kVar 0) (kVar 2)))) (kNext)
/-- look_at_many(many); slots 0 many -/
def rd_look_at_many (K : PySem.W.Frag) : KS :=
  kSeq (kIf (kNot (kT (kCall (S_is_within K) (kCons (kVar 0) (kCons (kC (.int 1)) (kCons (kC (.int 32)) (kNil))))))) (kSeq (kRaise K "NoSize") (kNext)) (kNext)) (kNext)
/-- look_at_sizes(many, most); slots 0 many, 1 most -/
def rd_look_at_sizes_1 (K : PySem.W.Frag) : KS :=
  kSeq (kIf (kNot (kT (kCall (S_is_within K) (kCons (kVar 1) (kCons (kC (.int 0)) (kCons (kC (.int 60)) (kNil))))))) (kSeq (kRaise K "NoSize") (kNext)) (kNext)) (kNext)
def rd_look_at_sizes (K : PySem.W.Frag) : KS :=
  kSeq (kExpr (kCall (S_look_at_many K) (kCons (kVar 0) (kNil)))) (rd_look_at_sizes_1 K)
/-- side_of(many); slots 0 many, 1 side -/
def rd_side_of_b0 (K : PySem.W.Frag) : KS :=
  kSeq (kSet 1 (kBin (kAdd) (kVar 1) (kC (.int 1)))) (kNext)
def rd_side_of_2 (K : PySem.W.Frag) : KS :=
  kSeq (kRet (kVar 1)) (kNext)
def rd_side_of_1 (K : PySem.W.Frag) : KS :=
  kSeq (kWhile (kT (kBin (kI0 fun i j => .bl (decide (i < j))) (kBin (kMul) (kVar 1) (kVar 1)) (kVar 0))) (rd_side_of_b0 K)) (rd_side_of_2 K)
def rd_side_of (K : PySem.W.Frag) : KS :=
  kSeq (kSet 1 (kC (.int 1))) (rd_side_of_1 K)
/-- spare_needs(many, most); slots 0 many, 1 most, 2 side, 3 start -/
def rd_spare_needs_1 (K : PySem.W.Frag) : KS :=
  kSeq (kRet (kComp (kiR3 (kCons (kC (.int 0)) (kCons (kVar 1) (kCons (kVar 2) (kNil))))) (kgName 3) (kYes) (kTup (kCons (kC (.str "shuffle")) (kCons (kBin (kAdd) (kVar 0) (kVar 2)) (kNil)))) [3])) (kNext)
def rd_spare_needs (K : PySem.W.Frag) : KS :=
  kSeq (kSet 2 (kCall (S_side_of K) (kCons (kVar 0) (kNil)))) (rd_spare_needs_1 K)
/-- high_of(many); slots 0 many, 1 high -/
def rd_high_of_b0 (K : PySem.W.Frag) : KS :=
  kSeq (kSet 1 (kBin (kAdd) (kVar 1) (kC (.int 1)))) (kNext)
def rd_high_of_2 (K : PySem.W.Frag) : KS :=
  kSeq (kRet (kVar 1)) (kNext)
def rd_high_of_1 (K : PySem.W.Frag) : KS :=
  kSeq (kWhile (kT (kBin (kI0 fun i j => .bl (decide (i < j))) (kBin (kI CPow fun i j => .int (i * 2 ^ j.toNat)) (kC (.int 1)) (kVar 1)) (kVar 0))) (rd_high_of_b0 K)) (rd_high_of_2 K)
def rd_high_of (K : PySem.W.Frag) : KS :=
  kSeq (kSet 1 (kC (.int 0))) (rd_high_of_1 K)
/-- last_of(many); slots 0 many -/
def rd_last_of (K : PySem.W.Frag) : KS :=
  kSeq (kRet (kCB (kMax2) (kCons (kC (.int 0)) (kCons (kBin (kI0 fun i j => .int (i - j)) (kCall (S_high_of K) (kCons (kVar 0) (kNil))) (kC (.int 1))) (kNil))))) (kNext)
/-- stair_of(many, pour); slots 0 many, 1 pour, 2 stair -/
def rd_stair_of_b0 (K : PySem.W.Frag) : KS :=
  kSeq (kSet 2 (kBin (kAdd) (kVar 2) (kC (.int 1)))) (kNext)
def rd_stair_of_2 (K : PySem.W.Frag) : KS :=
  kSeq (kRet (kVar 2)) (kNext)
def rd_stair_of_1 (K : PySem.W.Frag) : KS :=
  kSeq (kWhile (kAnd (kT (kBin (kI0 fun i j => .bl (decide (i < j))) (kVar 2) (kCall (S_last_of K) (kCons (kVar 0) (kNil))))) (kT (kBin (kEqv false K) (kBin (kI (fun _ j => 0 < j) fun i j => .int (i % j)) (kVar 1) (kBin (kI CPow fun i j => .int (i * 2 ^ j.toNat)) (kC (.int 2)) (kVar 2))) (kC (.int 0))))) (rd_stair_of_b0 K)) (rd_stair_of_2 K)
def rd_stair_of (K : PySem.W.Frag) : KS :=
  kSeq (kSet 2 (kC (.int 0))) (rd_stair_of_1 K)
/-- slots_of(many, stair); slots 0 many, 1 stair, 2 spare -/
def rd_slots_of_2 (K : PySem.W.Frag) : KS :=
  kSeq (kRet (kTup (kCons (kVar 2) (kCons (kVar 2) (kNil))))) (kNext)
def rd_slots_of_1 (K : PySem.W.Frag) : KS :=
  kSeq (kIf (kT (kBin (kEqv false K) (kVar 1) (kCall (S_last_of K) (kCons (kVar 0) (kNil))))) (kSeq (kRet (kTup (kCons (kVar 0) (kCons (kVar 2) (kNil))))) (kNext)) (kNext)) (rd_slots_of_2 K)
def rd_slots_of (K : PySem.W.Frag) : KS :=
  kSeq (kSet 2 (kBin (kI CPow fun i j => .int (i * 2 ^ j.toNat)) (kC (.int 2)) (kVar 1))) (rd_slots_of_1 K)
/-- stairs_needs(many, most); slots 0 many, 1 most, 2 stairs, 3 pour, 4 stair -/
def rd_stairs_needs_2 (K : PySem.W.Frag) : KS :=
  kSeq (kRet (kComp (kiSeq K (kVar 2)) (kgName 4) (kYes) (kTup (kCons (kC (.str "shuffle")) (kCons (kCB (kSumS K) (kCons (kCall (S_slots_of K) (kCons (kVar 0) (kCons (kVar 4) (kNil)))) (kNil))) (kNil)))) [4])) (kNext)
def rd_stairs_needs_1 (K : PySem.W.Frag) : KS :=
  kSeq (kSet 2 (kBin (kAdd) (kLst (kCons (kCall (S_last_of K) (kCons (kVar 0) (kNil))) (kNil))) (kComp (kiR2 (kCons (kC (.int 1)) (kCons (kBin (kI CDivW fun i j => .int (i / j)) (kBin (kAdd) (kVar 1) (kC (.int 1))) (kC (.int 2))) (kNil)))) (kgName 3) (kYes) (kCall (S_stair_of K) (kCons (kVar 0) (kCons (kVar 3) (kNil)))) [3]))) (rd_stairs_needs_2 K)
def rd_stairs_needs (K : PySem.W.Frag) : KS :=
  kSeq (kIf (kT (kBin (kEqv false K) (kVar 1) (kC (.int 0)))) (kSeq (kRet (kLst (kNil))) (kNext)) (kNext)) (rd_stairs_needs_1 K)
/-- grove_needs(trees, most); slots 0 trees, 1 most, 2 kinds, 3 many -/
def rd_grove_needs_b0 (K : PySem.W.Frag) : KS :=
  kSeq (kSet 2 (kBin (kAdd) (kVar 2) (kBin (kMul) (kLst (kCons (kTup (kCons (kC (.str "leaf")) (kCons (kCall (S_high_of K) (kCons (kVar 3) (kNil))) (kNil)))) (kNil))) (kVar 3)))) (kNext)
def rd_grove_needs_2 (K : PySem.W.Frag) : KS :=
  kSeq (kRet (kBin (kAdd) (kVar 2) (kBin (kMul) (kComp (kiSeq K (kVar 0)) (kgName 3) (kYes) (kTup (kCons (kC (.str "leaf")) (kCons (kCall (S_high_of K) (kCons (kVar 3) (kNil))) (kNil)))) [3]) (kVar 1)))) (kNext)
def rd_grove_needs_1 (K : PySem.W.Frag) : KS :=
  kSeq (kFor (kiSeq K (kVar 0)) (kgName 3) (rd_grove_needs_b0 K)) (rd_grove_needs_2 K)
def rd_grove_needs (K : PySem.W.Frag) : KS :=
  kSeq (kSet 2 (kLst (kNil))) (rd_grove_needs_1 K)
/-- trees_of(many); slots 0 many, 1 found -/
def rd_trees_of_b0 (K : PySem.W.Frag) : KS :=
  kSeq (kExpr (kBM K "list" (kAppend) (kVar 1) (kCons (kBin (kI CDivW fun i j => .int (i / j)) (kBin (kI0 fun i j => .int (i - j)) (kBin (kAdd) (kBin (kIx K) (kVar 1) (kUn kNeg (kC (.int 1)))) (kC (.int 4))) (kC (.int 1))) (kC (.int 4))) (kNil)))) (kNext)
def rd_trees_of_2 (K : PySem.W.Frag) : KS :=
  kSeq (kRet (kVar 1)) (kNext)
def rd_trees_of_1 (K : PySem.W.Frag) : KS :=
  kSeq (kWhile (kT (kBin (kI0 fun i j => .bl (decide (j < i))) (kBin (kIx K) (kVar 1) (kUn kNeg (kC (.int 1)))) (kC (.int 4)))) (rd_trees_of_b0 K)) (rd_trees_of_2 K)
def rd_trees_of (K : PySem.W.Frag) : KS :=
  kSeq (kSet 1 (kLst (kCons (kVar 0) (kNil)))) (rd_trees_of_1 K)
/-- kinds_of(way, many, most); slots 0 way, 1 many, 2 most -/
def rd_kinds_of_4 (K : PySem.W.Frag) : KS :=
  kSeq (kRet (kLst (kNil))) (kNext)
def rd_kinds_of_3 (K : PySem.W.Frag) : KS :=
  kSeq (kIf (kT (kBin (kEqv false K) (kVar 0) (kC (.str "grove")))) (kSeq (kRet (kCall (S_grove_needs K) (kCons (kCall (S_trees_of K) (kCons (kVar 1) (kNil))) (kCons (kVar 2) (kNil))))) (kNext)) (kNext)) (rd_kinds_of_4 K)
def rd_kinds_of_2 (K : PySem.W.Frag) : KS :=
  kSeq (kIf (kT (kBin (kEqv false K) (kVar 0) (kC (.str "tree")))) (kSeq (kRet (kCall (S_grove_needs K) (kCons (kLst (kCons (kVar 1) (kNil))) (kCons (kVar 2) (kNil))))) (kNext)) (kNext)) (rd_kinds_of_3 K)
def rd_kinds_of_1 (K : PySem.W.Frag) : KS :=
  kSeq (kIf (kT (kBin (kEqv false K) (kVar 0) (kC (.str "stairs")))) (kSeq (kRet (kCall (S_stairs_needs K) (kCons (kVar 1) (kCons (kVar 2) (kNil))))) (kNext)) (kNext)) (rd_kinds_of_2 K)
def rd_kinds_of (K : PySem.W.Frag) : KS :=
  kSeq (kIf (kT (kBin (kEqv false K) (kVar 0) (kC (.str "spare")))) (kSeq (kRet (kCall (S_spare_needs K) (kCons (kVar 1) (kCons (kVar 2) (kNil))))) (kNext)) (kNext)) (rd_kinds_of_1 K)
/-- needs(way, many, most); slots 0 way, 1 many, 2 most -/
def rd_needs_2 (K : PySem.W.Frag) : KS :=
  kSeq (kRet (kCall (S_kinds_of K) (kCons (kVar 0) (kCons (kVar 1) (kCons (kVar 2) (kNil)))))) (kNext)
def rd_needs_1 (K : PySem.W.Frag) : KS :=
  kSeq (kExpr (kCall (S_look_at_sizes K) (kCons (kVar 1) (kCons (kVar 2) (kNil))))) (rd_needs_2 K)
def rd_needs (K : PySem.W.Frag) : KS :=
  kSeq (kExpr (kCall (S_look_at_way K) (kCons (kVar 0) (kNil)))) (rd_needs_1 K)
/-- law_whole(_law_found); slots 0 _law_found -/
def rd_law_whole (K : PySem.W.Frag) : KS :=
  kSeq (kRet (kAndV (kCB (kIsi K) (kCons (kVar 0) (kCons (kC (.ty "int")) (kNil)))) (kNotV (kCB (kIsi K) (kCons (kVar 0) (kCons (kC (.ty "bool")) (kNil))))))) (kNext)
/-- law_is(_law_found, _law_due_here); slots 0 _law_found, 1 _law_due_here, 2 _law_kind -/
def rd_law_is_1 (K : PySem.W.Frag) : KS :=
  kSeq (kRet (kBin (kEqv false K) (kComp (kiSeq K (kVar 0)) (kgName 2) (kOr (kNot (kT (kCB (kIsi K) (kCons (kVar 2) (kCons (kC (.ty "tuple")) (kNil)))))) (kNot (kT (kCall (S_law_whole K) (kCons (kBin (kIx K) (kVar 2) (kC (.int 1))) (kNil)))))) (kVar 2) [2]) (kLst (kNil)))) (kNext)
def rd_law_is (K : PySem.W.Frag) : KS :=
  kSeq (kIf (kOr (kNot (kT (kCB (kIsi K) (kCons (kVar 0) (kCons (kC (.ty "list")) (kNil)))))) (kT (kBin (kEqv true K) (kVar 0) (kVar 1)))) (kSeq (kRet (kC (.bl false))) (kNext)) (kNext)) (rd_law_is_1 K)
/-- law_refused(_law_way, _law_many, _law_most); slots 0 _law_way, 1 _law_many, 2 _law_most, 3 _law_found, 4 e -/
def rd_law_refused_2 (K : PySem.W.Frag) : KS :=
  kSeq (kRet (kLst (kCons (kCB (kIsX K (.ref (cl K "NoWay")) tab_is_NoWay) (kCons (kVar 3) (kCons (kC (.ref (cl K "NoWay"))) (kNil)))) (kCons (kCB (kIsX K (.ref (cl K "NoSize")) tab_is_NoSize) (kCons (kVar 3) (kCons (kC (.ref (cl K "NoSize"))) (kNil)))) (kCons (kCB (kIsX K (.ty "ValueError") tab_is_ValueError) (kCons (kVar 3) (kCons (kC (.ty "ValueError")) (kNil)))) (kCons (kCB (kIsX K (.ref (cl K "Over")) tab_is_Over) (kCons (kVar 3) (kCons (kC (.ref (cl K "Over"))) (kNil)))) (kNil))))))) (kNext)
def rd_law_refused_1 (K : PySem.W.Frag) : KS :=
  kSeq (kTry K tab_tr_TouchError 4 3 (kSeq (kExpr (kCall (S_needs K) (kCons (kVar 0) (kCons (kVar 1) (kCons (kVar 2) (kNil)))))) (kNext))) (rd_law_refused_2 K)
def rd_law_refused (K : PySem.W.Frag) : KS :=
  kSeq (kSet 3 (kC .non)) (rd_law_refused_1 K)
/-- law_odd_right(_law_pool_here, _law_way, _law_many, _law_most); slots 0 _law_pool_here, 1 _law_way, 2 _law_many, 3 _law_most, 4 _law_wrong -/
def rd_law_odd_right_4 (K : PySem.W.Frag) : KS :=
  kSeq (kRet (kBin (kEqv false K) (kCall (S_law_refused K) (kCons (kVar 1) (kCons (kVar 2) (kCons (kVar 3) (kNil))))) (kLst (kCons (kBin (kEqv false K) (kBin (kI (fun _ j => 0 < j) fun i j => .int (i % j)) (kVar 4) (kC (.int 2))) (kC (.int 1))) (kCons (kBin (kEqv false K) (kBin (kI (fun _ j => 0 < j) fun i j => .int (i % j)) (kVar 4) (kC (.int 2))) (kC (.int 0))) (kCons (kC (.bl true)) (kCons (kC (.bl false)) (kNil)))))))) (kNext)
def rd_law_odd_right_3 (K : PySem.W.Frag) : KS :=
  kSeq (kIf (kT (kBin (kEqv false K) (kBin (kI CDivW fun i j => .int (i / j)) (kVar 4) (kC (.int 4))) (kC (.int 1)))) (kSeq (kSet 3 (kBin (kIx K) (kLst (kCons (kC (.int 61)) (kCons (kUn kNeg (kC (.int 1))) (kCons (kC (.bl true)) (kCons (kC .non) (kCons (kC (.str "3")) (kCons (kTup (kCons (kC (.int 3)) (kNil))) (kCons (kBin (kI CPow fun i j => .int (i ^ j.toNat)) (kC (.int 10)) (kC (.int 30))) (kNil))))))))) (kCall (S_law_take K) (kCons (kVar 0) (kCons (kC (.int 7)) (kNil)))))) (kNext)) (kNext)) (rd_law_odd_right_4 K)
def rd_law_odd_right_2 (K : PySem.W.Frag) : KS :=
  kSeq (kIf (kT (kBin (kEqv false K) (kBin (kI (fun _ j => 0 < j) fun i j => .int (i % j)) (kBin (kI CDivW fun i j => .int (i / j)) (kVar 4) (kC (.int 2))) (kC (.int 2))) (kC (.int 1)))) (kSeq (kSet 2 (kBin (kIx K) (kLst (kCons (kC (.int 0)) (kCons (kC (.int 33)) (kCons (kUn kNeg (kC (.int 1))) (kCons (kC (.bl true)) (kCons (kC .non) (kCons (kC (.str "3")) (kCons (kBin (kI CPow fun i j => .int (i ^ j.toNat)) (kC (.int 10)) (kC (.int 30))) (kNil))))))))) (kCall (S_law_take K) (kCons (kVar 0) (kCons (kC (.int 7)) (kNil)))))) (kNext)) (kNext)) (rd_law_odd_right_3 K)
def rd_law_odd_right_1 (K : PySem.W.Frag) : KS :=
  kSeq (kIf (kT (kBin (kEqv false K) (kBin (kI (fun _ j => 0 < j) fun i j => .int (i % j)) (kVar 4) (kC (.int 2))) (kC (.int 1)))) (kSeq (kSet 1 (kBin (kIx K) (kLst (kCons (kC (.str "")) (kCons (kC (.str "Scan")) (kCons (kC (.str "scans")) (kCons (kC .non) (kCons (kC (.int 0)) (kCons (kTup (kCons (kC (.str "scan")) (kNil))) (kCons (kC (.str "tree ")) (kCons (kLst (kCons (kC (.str "scan")) (kNil))) (kCons (kDNew) (kNil))))))))))) (kCall (S_law_take K) (kCons (kVar 0) (kCons (kC (.int 9)) (kNil)))))) (kNext)) (kNext)) (rd_law_odd_right_2 K)
def rd_law_odd_right (K : PySem.W.Frag) : KS :=
  kSeq (kSet 4 (kBin (kAdd) (kC (.int 1)) (kCall (S_law_take K) (kCons (kVar 0) (kCons (kC (.int 7)) (kNil)))))) (rd_law_odd_right_1 K)
/-- law_right(_law_pool_here); slots 0 _law_pool_here, 1 _law_way, 2 _law_many, 3 _law_most, 4 _law_due_here, 5 _law_found -/
def rd_law_right_7 (K : PySem.W.Frag) : KS :=
  kSeq (kRet (kAndV (kCall (S_law_is K) (kCons (kCall (S_needs K) (kCons (kVar 1) (kCons (kVar 2) (kCons (kVar 3) (kNil))))) (kCons (kVar 4) (kNil)))) (kCall (S_law_odd_right K) (kCons (kVar 0) (kCons (kVar 1) (kCons (kVar 2) (kCons (kVar 3) (kNil)))))))) (kNext)
def rd_law_right_6 (K : PySem.W.Frag) : KS :=
  kSeq (kExpr (kBM K "list" (kAppend) (kVar 5) (kCons (kTup (kCons (kC (.str "leaf")) (kCons (kC (.int 0)) (kNil)))) (kNil)))) (rd_law_right_7 K)
def rd_law_right_5 (K : PySem.W.Frag) : KS :=
  kSeq (kIf (kNot (kT (kCall (S_law_is K) (kCons (kVar 5) (kCons (kVar 4) (kNil)))))) (kSeq (kRet (kC (.bl false))) (kNext)) (kNext)) (rd_law_right_6 K)
def rd_law_right_4 (K : PySem.W.Frag) : KS :=
  kSeq (kSet 5 (kCall (S_needs K) (kCons (kVar 1) (kCons (kVar 2) (kCons (kVar 3) (kNil)))))) (rd_law_right_5 K)
def rd_law_right_3 (K : PySem.W.Frag) : KS :=
  kSeq (kSet 4 (kCall (S_law_due K) (kCons (kVar 1) (kCons (kVar 2) (kCons (kVar 3) (kNil)))))) (rd_law_right_4 K)
def rd_law_right_2 (K : PySem.W.Frag) : KS :=
  kSeq (kSet 3 (kCall (S_law_take K) (kCons (kVar 0) (kCons (kBin (kIx K) (kLst (kCons (kC (.int 5)) (kCons (kC (.int 61)) (kNil)))) (kCall (S_law_take K) (kCons (kVar 0) (kCons (kC (.int 2)) (kNil))))) (kNil))))) (rd_law_right_3 K)
def rd_law_right_1 (K : PySem.W.Frag) : KS :=
  kSeq (kSet 2 (kBin (kAdd) (kC (.int 1)) (kCall (S_law_take K) (kCons (kVar 0) (kCons (kBin (kIx K) (kLst (kCons (kC (.int 4)) (kCons (kC (.int 9)) (kCons (kC (.int 32)) (kNil))))) (kCall (S_law_take K) (kCons (kVar 0) (kCons (kC (.int 3)) (kNil))))) (kNil)))))) (rd_law_right_2 K)
def rd_law_right (K : PySem.W.Frag) : KS :=
  kSeq (kSet 1 (kBin (kIx K) (kLst (kCons (kC (.str "scan")) (kCons (kC (.str "spare")) (kCons (kC (.str "stairs")) (kCons (kC (.str "tree")) (kCons (kC (.str "grove")) (kNil))))))) (kCall (S_law_take K) (kCons (kVar 0) (kCons (kC (.int 5)) (kNil)))))) (rd_law_right_1 K)
/-- law(_law_script); slots 0 _law_script, 1 _law_k -/
def rd_law_b0 (K : PySem.W.Frag) : KS :=
  kSeq (kIf (kNot (kT (kCall (S_law_right K) (kCons (kCall (S_law_pool K) (kCons (kVar 0) (kCons (kVar 1) (kNil)))) (kNil))))) (kSeq (kRet (kC (.bl false))) (kNext)) (kNext)) (kNext)
def rd_law_2 (K : PySem.W.Frag) : KS :=
  kSeq (kRet (kC (.bl true))) (kNext)
def rd_law_1 (K : PySem.W.Frag) : KS :=
  kSeq (kFor (kiR1 (kCons (kCB (kMax2) (kCons (kC (.int 1)) (kCons (kCB (kMin2) (kCons (kCB (kLen K) (kCons (kVar 0) (kNil))) (kCons (kC (.int 63)) (kNil)))) (kNil)))) (kNil))) (kgName 1) (rd_law_b0 K)) (rd_law_2 K)
def rd_law (K : PySem.W.Frag) : KS :=
  kSeq (kIf (kT (kBin (kEqv true K) (kConT K "WAYS" con_WAYS) (kTup (kCons (kC (.str "scan")) (kCons (kC (.str "spare")) (kCons (kC (.str "stairs")) (kCons (kC (.str "tree")) (kCons (kC (.str "grove")) (kNil))))))))) (kSeq (kRet (kC (.bl false))) (kNext)) (kNext)) (rd_law_1 K)
section
variable {K : PySem.W.Frag} {vs : List V} {G : Hp} {M : Mem} {R : KR} {Z : KX}
theorem pf_law_take (h : S_law_take K vs G M R Z) : rd_law_take K (ends R Z) (sta 3 vs) G M := by
  obtain ⟨_, _, rfl, p, m, n, c, s, rfl, rfl, hn, hs, hm0, hm1, q⟩ := sp2_of h
  have hS : SeqAt' K G M p [.int c, .int s] := lst_n hn
  refine ⟨G, M, Wk.refl, _, _, hS, rfl, ite2' (fun e => ?_) (fun e => ?_)⟩
  · refine ⟨G, M, Wk.refl, _, _, hS, rfl, hm0, ?_⟩
    refine ⟨G, M, Wk.refl, _, _, hS, rfl, divW hm0 hm1 c, n, _, 0, hn, rfl, ?_⟩
    refine ⟨G, _, Wk.refl, ?_⟩
    exact ret0 (q _ _ _ (Int.emod_nonneg _ (by omega)) (Int.emod_lt_of_pos _ hm0) hs)
  · obtain ⟨s0, s1⟩ := hs
    have hs' : PoolOk ((s * 48271 + 11) % 2147483647) := ⟨Int.emod_nonneg _ (by decide), Int.emod_lt_of_pos _ (by decide)⟩
    refine ⟨G, M, Wk.refl, _, _, hS, rfl, mul_r (by decide) (by decide), (by show (0 : Int) < _; decide), n, _, 1, hn, rfl, ?_⟩
    have hn' : (M.set n (p, pool c ((s * 48271 + 11) % 2147483647)))[n]? = some (p, pool c ((s * 48271 + 11) % 2147483647)) := set_n hn
    have hS' : SeqAt' K G (M.set n (p, pool c ((s * 48271 + 11) % 2147483647))) p [.int c, .int ((s * 48271 + 11) % 2147483647)] := lst_n hn'
    refine ⟨G, _, Wk.refl, _, _, hS', rfl, _, _, hS', rfl, mul_l (by have := hs'.1; omega) (by have := hs'.2; omega), (by show (0 : Int) < _; decide), divW (by decide) (by decide) _, hm0, ?_⟩
    exact ret0 (q _ _ _ (Int.emod_nonneg _ (by omega)) (Int.emod_lt_of_pos _ hm0) hs')
theorem b01 (b : Bool) : -(2 ^ 64) < (if b then (1 : Int) else 0) ∧ (if b then (1 : Int) else 0) < 2 ^ 64 := by cases b <;> decide
end
section
variable {K : PySem.W.Frag} {vs : List V} {G : Hp} {M : Mem} {R : KR} {Z : KX}
theorem pf_law_pool (h : S_law_pool K vs G M R Z) : rd_law_pool K (ends R Z) (sta 4 vs) G M := by
  obtain ⟨_, _, rfl, a, ns, k, rfl, rfl, hS, k0, k1, hl, q⟩ := sp2_of h
  have rest : ∀ cell : Int, rd_law_pool_2 K (ends R Z) [some (.ref a), some (.int k), some (.int cell), none] G M := fun cell => by
    refine ⟨G, M, Wk.refl, (by show (0 : Int) < _; decide), mul_l (by decide) (by decide), mul_r (by omega) (by omega), mul_r (by decide) (by decide), (by show (0 : Int) < _; decide), ?_⟩
    refine ⟨G, M, Wk.refl, pow10_18, ite2' (fun e => ?_) (fun e => ?_)⟩
    · exact ⟨G, M, Wk.refl, G, M, Wk.refl, sz2, fun p fp => ret0 (q p _ _ fp ⟨Int.emod_nonneg _ (by decide), Int.emod_lt_of_pos _ (by decide)⟩)⟩
    · exact ⟨G, M, Wk.refl, sz2, fun p fp => ret0 (q p _ _ fp ⟨Int.emod_nonneg _ (by decide), Int.emod_lt_of_pos _ (by decide)⟩)⟩
  refine ⟨G, M, Wk.refl, ?_⟩
  refine ⟨G, M, Wk.refl, _, lst_g hS, ite2' (fun e => ?_) (fun e => rest _)⟩
  have e1 : k < ((ns.map V.int).length : Int) := of_decide_eq_true e
  rw [List.length_map] at e1
  exact ⟨G, M, Wk.refl, _, _, lst_g hS, atI_int k0 e1, rest _⟩
end
section
variable {K : PySem.W.Frag} {vs : List V} {G : Hp} {M : Mem} {R : KR} {Z : KX}
theorem at_two {x y : V} {r : Int} (h0 : 0 ≤ r) (h1 : r < 2) : ∃ v, atI [x, y] r = some v ∧ (v = x ∨ v = y) := by
  have e : r = 0 ∨ r = 1 := by omega
  rcases e with rfl | rfl
  · exact ⟨x, rfl, .inl rfl⟩
  · exact ⟨y, rfl, .inr rfl⟩
theorem fr_set {n : Nat} {p : Addr} {o : HO} {x : Addr × HO} {t : Addr} (hn : M[n]? = some (p, o)) (h : Fr G M t) (e : x.1 = p := by rfl) : Fr G (M.set n x) t := by
  refine ⟨h.1, fun y hy => ?_⟩
  rcases List.mem_or_eq_of_mem_set hy with hy | rfl
  · exact h.2 y hy
  · rw [e]; exact h.2 _ (List.mem_of_getElem? hn)
theorem fr_unset {n : Nat} {p : Addr} {o : HO} {x : Addr × HO} {t : Addr} (hn : M[n]? = some (p, o)) (h : Fr G (M.set n x) t) (e : x.1 = p := by rfl) : Fr G M t := by
  have hl : n < M.length := (List.getElem?_eq_some_iff.mp hn).1
  refine ⟨h.1, fun y hy => ?_⟩
  obtain ⟨m, hm⟩ := List.getElem?_of_mem hy
  by_cases z : n = m
  · subst z
    rw [hn] at hm; cases hm
    have := h.2 x (List.mem_of_getElem? (List.getElem?_set_self hl))
    rw [e] at this; exact this
  · exact h.2 y (List.mem_of_getElem? (by rw [List.getElem?_set_ne z]; exact hm))
end
section
variable {K : PySem.W.Frag} {vs : List V} {G : Hp} {M : Mem} {R : KR} {Z : KX}
theorem pf_is_whole (h : S_is_whole K vs G M R Z) : rd_is_whole K (ends R Z) (sta 1 vs) G M := by
  obtain ⟨x, rfl, T, hT, q⟩ := sp1_of h
  refine ⟨G, M, Wk.refl, .type T.name, .type "int", _, .ty "int", hT, kit_pt T .int, ite2' (fun e => ?_) (fun e => ?_)⟩
  · refine ⟨.type T.name, .type "bool", _, .ty "bool", hT, kit_pt T .bool, ret0 ?_⟩
    have e2 : (!isaB T .bool) = (T == .int) := by revert e; cases T <;> decide
    rw [e2]; exact q
  · have e2 : false = (T == .int) := by revert e; cases T <;> decide
    refine ret0 ?_
    rw [e2]; exact q
theorem pf_is_within (h : S_is_within K vs G M R Z) : rd_is_within K (ends R Z) (sta 3 vs) G M := by
  obtain ⟨x, _, _, rfl, T, lo, hi, rfl, rfl, hT, hx, q⟩ := sp3_of h
  refine ⟨G, M, Wk.refl, T, hT, ite2' (fun e => ?_) (fun e => ?_)⟩
  · rw [e] at hx
    cases x with
    | int i =>
      have q : R (.bl (decide (lo ≤ i) && decide (i ≤ hi))) G M := q
      refine ite2' (fun e1 => ?_) (fun e1 => ?_)
      · rw [e1, Bool.true_and] at q; exact ret0 q
      · rw [e1, Bool.false_and] at q; exact ret0 q
    | _ => cases hx
  · rw [e] at hx
    have e2 : withinV x lo hi = false := by cases x <;> first | rfl | cases hx
    rw [e2] at q
    exact ret0 q
end
section
variable {K : PySem.W.Frag} {vs : List V} {G : Hp} {M : Mem} {R : KR} {Z : KX}
section
variable {α β : Type} {r : α → β → Prop}
theorem A2.len {as : List α} {bs : List β} (h : A2 r as bs) : as.length = bs.length := by
  induction h with
  | nil => rfl
  | cons _ _ ih => simp [ih]
theorem A2.app {as as' : List α} {bs bs' : List β} (h : A2 r as bs) (h' : A2 r as' bs') : A2 r (as ++ as') (bs ++ bs') := by
  induction h with
  | nil => exact h'
  | cons a _ ih => exact .cons a ih
theorem A2.rev {as : List α} {bs : List β} (h : A2 r as bs) : A2 r as.reverse bs.reverse := by
  induction h with
  | nil => exact .nil
  | cons a _ ih => rw [List.reverse_cons, List.reverse_cons]; exact ih.app (.cons a .nil)
theorem A2.get {as : List α} {bs : List β} (h : A2 r as bs) : ∀ {i : Nat} {b : β}, bs[i]? = some b → ∃ a, as[i]? = some a ∧ r a b := by
  induction h with
  | nil => intro i b e; simp at e
  | cons a _ ih =>
    intro i b e
    cases i with
    | zero => cases e; exact ⟨_, rfl, a⟩
    | succ i => exact ih e
theorem A2.get' {as : List α} {bs : List β} (h : A2 r as bs) : ∀ {i : Nat} {a : α}, as[i]? = some a → ∃ b, bs[i]? = some b ∧ r a b := by
  induction h with
  | nil => intro i b e; simp at e
  | cons a _ ih =>
    intro i b e
    cases i with
    | zero => cases e; exact ⟨_, rfl, a⟩
    | succ i => exact ih e
theorem A2.mono {r' : α → β → Prop} (m : ∀ a b, r a b → r' a b) {as : List α} {bs : List β} (h : A2 r as bs) : A2 r' as bs := by
  induction h with
  | nil => exact .nil
  | cons a _ ih => exact .cons (m _ _ a) ih
end
theorem drM_v {Mn : Mem} (hs : ∀ x, x ∈ Mn → x ∈ M) {v : V} {d : Dr} (h : DrM Mn v d) : DrV K G M v d := by
  cases d with
  | leaf n => exact h
  | row l => obtain ⟨b, rfl, h⟩ := h; exact ⟨b, rfl, .inl (hs _ h)⟩
theorem drM_sub {Mn Mm : Mem} (hs : ∀ x, x ∈ Mn → x ∈ Mm) {v : V} {d : Dr} (h : DrM Mn v d) : DrM Mm v d := by
  cases d with
  | leaf n => exact h
  | row l => obtain ⟨b, rfl, h⟩ := h; exact ⟨b, rfl, hs _ h⟩
theorem dp_kn_inv {v : V} {k : Kn} (h : Dp K G v (knD k)) : ∃ t, v = .ref t ∧ SqT K G t [.str k.txt, .int k.n] := by
  obtain ⟨t, xs, rfl, s, a⟩ := dp_tup_inv h
  refine ⟨t, rfl, ?_⟩
  cases a with
  | cons a b =>
    cases b with
    | cons b c =>
      cases c
      cases a
      cases b
      exact s
theorem dp_kn {t : Addr} {k : Kn} (h : SqT K G t [.str k.txt, .int k.n]) : Dp K G (.ref t) (knD k) := .tup h (.cons (.str _) (.cons (.int _) .nil))
theorem shp_kns {n : Nat} (ks : List Kn) : Shp (n + 2) (.list (ks.map knD)) := .list fun d hd => by
  obtain ⟨p, _, rfl⟩ := List.mem_map.mp hd
  refine .tuple fun d hd => ?_
  rcases List.mem_cons.mp hd with rfl | hd
  · exact .str (by obtain ⟨b, n⟩ := p; cases b <;> (show PyData.strOk _ = true; first | exact (by decide +kernel : PyData.strOk ("leaf" : Str) = true) | exact (by decide +kernel : PyData.strOk ("shuffle" : Str) = true)))
  · rcases List.mem_cons.mp hd with rfl | hd
    · exact .int
    · cases hd
theorem txt_leaf (k : Kn) : decide ((V.str k.txt) = (.str "leaf")) = k.leaf := by
  obtain ⟨b, n⟩ := k
  cases b
  · exact decide_eq_false (by intro h; injection h with h; exact absurd (show ("shuffle" : Str) = "leaf" from h) (by decide))
  · exact decide_eq_true rfl
/-! sizes -/
theorem fac_pos : ∀ n, 0 < fac n
  | 0 => by decide
  | n + 1 => Nat.mul_pos (by omega) (fac_pos n)
theorem fac_mono : ∀ {m n : Nat}, m ≤ n → fac m ≤ fac n := by
  intro m n h
  induction n with
  | zero => have : m = 0 := by omega
            subst this; exact Nat.le_refl _
  | succ n ih =>
    by_cases e : m = n + 1
    · subst e; exact Nat.le_refl _
    · have h1 := ih (by omega)
      show fac m ≤ (n + 1) * fac n
      have : 1 * fac n ≤ (n + 1) * fac n := Nat.mul_le_mul_right _ (by omega)
      omega
theorem fac_64 : fac 64 < 2 ^ 300 := by decide +kernel
theorem manyK_pos (k : Kn) : 0 < manyK k := by
  unfold manyK; split
  · exact Nat.pow_pos (by decide)
  · exact fac_pos _
theorem manyK_lt {k : Kn} (h : KnOk k) : manyK k < 2 ^ 300 := by
  unfold manyK; split
  · exact Nat.pow_lt_pow_right (by decide) (by have := h.1; omega)
  · exact Nat.lt_of_le_of_lt (fac_mono h.1) fac_64
theorem prK_pos : ∀ ks, 0 < prK ks
  | [] => by decide
  | k :: ks => Nat.mul_pos (manyK_pos k) (prK_pos ks)
theorem prK_lt : ∀ ks : List Kn, (∀ k, k ∈ ks → KnOk k) → prK ks < 2 ^ (300 * ks.length + 1)
  | [], _ => by decide
  | k :: ks, h => by
    have h1 := manyK_lt (h k List.mem_cons_self)
    have h2 := prK_lt ks fun q hq => h q (List.mem_cons_of_mem _ hq)
    show manyK k * prK ks < _
    rw [List.length_cons, show 300 * (ks.length + 1) + 1 = 300 + (300 * ks.length + 1) by omega, Nat.pow_add]
    exact Nat.mul_lt_mul'' h1 h2
theorem prK_snoc (ks : List Kn) (k : Kn) : prK (ks ++ [k]) = prK ks * manyK k := by
  induction ks with
  | nil => simp [prK]
  | cons a ks ih => show manyK a * prK (ks ++ [k]) = manyK a * prK ks * manyK k; rw [ih, Nat.mul_assoc]
theorem prK_take_le (ks : List Kn) (i : Nat) (h : ∀ k, k ∈ ks → KnOk k) : ∀ k, k ∈ ks.take i → KnOk k := fun k hk => h k (List.mem_of_mem_take hk)
theorem take_succ' {α : Type} {l : List α} {i : Nat} {x : α} (h : l[i]? = some x) : l.take (i + 1) = l.take i ++ [x] := by
  rw [List.take_succ, h]; rfl
end
section
variable {K : PySem.W.Frag} {vs : List V} {G : Hp} {M : Mem} {R : KR} {Z : KX}
theorem natsV_get {l : List Nat} {i v : Nat} (h : l[i]? = some v) : (natsV l)[i]? = some (.int (v : Int)) := by
  unfold natsV; rw [List.getElem?_map, h]; rfl
theorem natsV_len (l : List Nat) : (natsV l).length = l.length := by unfold natsV; rw [List.length_map]
theorem atI_nats {l : List Nat} {i v : Nat} (h : l[i]? = some v) : atI (natsV l) (i : Int) = some (.int (v : Int)) := atI_nat (natsV_get h)
theorem at_mem {l : List V} {r : Int} (h0 : 0 ≤ r) (h1 : r < l.length) : ∃ v, atI l r = some v ∧ v ∈ l := by
  obtain ⟨j, rfl⟩ := Int.eq_ofNat_of_zero_le h0
  have hj : l[j]? = some l[j] := List.getElem?_eq_getElem (by omega)
  exact ⟨_, atI_nat hj, List.mem_of_getElem? hj⟩
theorem dpall_rep {v : V} {d : PyData} (h : Dp K G v d) : ∀ n, DpAll K G (List.replicate n v) (List.replicate n d)
  | 0 => .nil
  | n + 1 => .cons h (dpall_rep h n)
theorem dpall_app2 : ∀ {vs ws : List V} {ds es : List PyData}, DpAll K G vs ds → DpAll K G ws es → DpAll K G (vs ++ ws) (ds ++ es)
  | _, _, _, _, .nil, h => h
  | _, _, _, _, .cons a b, h => .cons a (dpall_app2 b h)
theorem dpall_flat {us : List V} {ds : List PyData} (h : DpAll K G us ds) : ∀ n, DpAll K G (List.replicate n us).flatten (List.replicate n ds).flatten
  | 0 => .nil
  | n + 1 => dpall_app2 h (dpall_flat h n)
theorem ex_lat {G' : Hp} {M' : Mem} {a : Addr} {us : List V} (x : Ex G G') (hm : ∀ x, x ∈ M → x ∈ M') (h : LstAt K G M a us) : LstAt K G' M' a us := by
  rcases h with h | h
  · exact .inl (hm _ h)
  · exact .inr (ex_l x h)
theorem wi_hi {i lo hi : Int} (h : hi < i) : withinV (.int i) lo hi = false := by
  show (decide (lo ≤ i) && decide (i ≤ hi)) = false
  rw [decide_eq_false (p := i ≤ hi) (by omega), Bool.and_false]
theorem wi_lo {i lo hi : Int} (h : i < lo) : withinV (.int i) lo hi = false := by
  show (decide (lo ≤ i) && decide (i ≤ hi)) = false
  rw [decide_eq_false (p := lo ≤ i) (by omega), Bool.false_and]
theorem wi_in {i lo hi : Int} (h : lo ≤ i) (h2 : i ≤ hi) : withinV (.int i) lo hi = true := by
  show (decide (lo ≤ i) && decide (i ≤ hi)) = true
  rw [decide_eq_true h, decide_eq_true h2]; rfl
theorem Wk.sub' {G : Hp} {M M' : Mem} (h : List.Sublist M' M) : Wk G M G M' := fun H hv => ⟨hv.ex, fun x hx => hv.mu x (h.subset hx), hv.nd.sublist (h.map _), fun x hx => hv.dj x (h.subset hx)⟩
end
section
variable {K : PySem.W.Frag} {vs : List V} {G : Hp} {M : Mem} {R : KR} {Z : KX}
theorem p2 (n : Nat) (a : Int) : a * 2 ^ (n : Int).toNat = a * ((2 ^ n : Nat) : Int) := by simp
theorem high_uniq : ∀ m, m < 33 → ∀ h, h < 7 → (∀ j, j < h → 2 ^ j < m) → ¬ 2 ^ h < m → highN m = h := by decide +kernel
theorem pow_lt6 : ∀ m, m < 33 → ∀ h, h < 7 → 2 ^ h < m → h < 6 := by decide +kernel
theorem high_le : ∀ m, m < 33 → highN m ≤ 5 := by decide +kernel
theorem side_uniq : ∀ m, m < 33 → ∀ h, h < 8 → (1 ≤ h ∧ ∀ j, j < h → j * j < m) → ¬ h * h < m → 1 ≤ m → sideN m = h := by decide +kernel
theorem sq_lt7 : ∀ m, m < 33 → ∀ h, h < 8 → h * h < m → h < 6 := by decide +kernel
theorem side_ok : ∀ m, m < 33 → 1 ≤ m → 1 ≤ sideN m ∧ sideN m ≤ 6 := by decide +kernel
theorem stair_all : ((List.range 33).all fun m => (List.range 31).all fun p => (List.range 6).all fun h => !(decide (h ≤ lastN m) && (List.range h).all (fun j => decide (j < lastN m) && decide (p % (2 * 2 ^ j) = 0)) && !(decide (h < lastN m) && decide (p % (2 * 2 ^ h) = 0))) || decide (stairN m p = h)) = true := by decide +kernel
theorem stair_uniq (m : Nat) (hm : m < 33) (p : Nat) (hp : p < 31) (h : Nat) (hh : h < 6) (h1 : h ≤ lastN m) (h2 : ∀ j, j < h → j < lastN m ∧ p % (2 * 2 ^ j) = 0) (h3 : ¬ (h < lastN m ∧ p % (2 * 2 ^ h) = 0)) : stairN m p = h := by
  have a := List.all_eq_true.mp (List.all_eq_true.mp (List.all_eq_true.mp stair_all m (List.mem_range.mpr hm)) p (List.mem_range.mpr hp)) h (List.mem_range.mpr hh)
  have b : (List.range h).all (fun j => decide (j < lastN m) && decide (p % (2 * 2 ^ j) = 0)) = true := List.all_eq_true.mpr fun j hj => by
    obtain ⟨x, y⟩ := h2 j (List.mem_range.mp hj)
    rw [decide_eq_true x, decide_eq_true y]; rfl
  have c : (decide (h < lastN m) && decide (p % (2 * 2 ^ h) = 0)) = false := by
    rw [← Bool.decide_and]; exact decide_eq_false h3
  rw [decide_eq_true h1, b, c] at a
  exact of_decide_eq_true a
theorem last_le : ∀ m, m < 33 → lastN m ≤ 4 := by decide +kernel
theorem sq0 {m j : Nat} (h : 1 ≤ m) (z : j < 1) : j * j < m := by
  have e : j = 0 := by omega
  rw [e]; omega
theorem pf_high_of (h : S_high_of K vs G M R Z) : rd_high_of K (ends R Z) (sta 2 vs) G M := by
  obtain ⟨_, rfl, m, ⟨rfl, m0, m1⟩, q⟩ := sp1_of h
  refine ⟨G, M, Wk.refl, G, M, Wk.refl, fun k σ G' M' => ∃ h : Nat, k = 7 - h ∧ h ≤ 6 ∧ σ = [some (.int m), some (.int (h : Nat))] ∧ G' = G ∧ M' = M ∧ ∀ j, j < h → 2 ^ j < m, ⟨7, 0, rfl, by decide, rfl, rfl, rfl, fun _ z => absurd z (Nat.not_lt_zero _)⟩, ?_⟩
  clear h
  rintro k σ G' M' ⟨h, rfl, h6, rfl, rfl, rfl, hj⟩
  refine ⟨⟨by omega, by omega, by decide⟩, ?_⟩
  refine ite2' (c := decide ((1 : Int) * 2 ^ (h : Int).toNat < (m : Int))) (fun e => ?_) (fun e => ?_)
  · have e := of_decide_eq_true e
    rw [p2, Int.one_mul] at e
    have e : 2 ^ h < m := by omega
    have := pow_lt6 m (by omega) h (by omega) e
    refine ⟨_, _, Wk.refl, 7 - (h + 1), by omega, _, _, Wk.refl, h + 1, rfl, by omega, rfl, rfl, rfl, fun j hj2 => ?_⟩
    by_cases z : j = h
    · rw [z]; exact e
    · exact hj j (by omega)
  · have e := of_decide_eq_false e
    rw [p2, Int.one_mul] at e
    have e : ¬ 2 ^ h < m := by omega
    refine ⟨_, _, Wk.refl, ret0 ?_⟩
    rw [high_uniq m (by omega) h (by omega) hj e] at q
    exact q
theorem pf_last_of (h : S_last_of K vs G M R Z) : rd_last_of K (ends R Z) (sta 1 vs) G M := by
  obtain ⟨_, rfl, m, ⟨rfl, m0, m1⟩, q⟩ := sp1_of h
  refine ⟨G, M, Wk.refl, m, ⟨rfl, m0, m1⟩, ret0 ?_⟩
  have e : max (0 : Int) ((highN m : Int) - 1) = (lastN m : Int) := by unfold lastN; omega
  show R (.int (max (0 : Int) ((highN m : Int) - 1))) G M
  rw [e]; exact q
theorem pf_side_of (h : S_side_of K vs G M R Z) : rd_side_of K (ends R Z) (sta 2 vs) G M := by
  obtain ⟨_, rfl, m, ⟨rfl, m0, m1⟩, q⟩ := sp1_of h
  refine ⟨G, M, Wk.refl, G, M, Wk.refl, fun k σ G' M' => ∃ h : Nat, k = 8 - h ∧ 1 ≤ h ∧ h ≤ 7 ∧ σ = [some (.int m), some (.int (h : Nat))] ∧ G' = G ∧ M' = M ∧ ∀ j, j < h → j * j < m, ⟨7, 1, rfl, by decide, by decide, rfl, rfl, rfl, fun j z => sq0 m0 z⟩, ?_⟩
  clear h
  rintro k σ G' M' ⟨h, rfl, h1, h7, rfl, rfl, rfl, hj⟩
  refine ⟨mul_l (by omega) (by omega), ?_⟩
  refine ite2' (c := decide ((h : Int) * (h : Int) < (m : Int))) (fun e => ?_) (fun e => ?_)
  · have e := of_decide_eq_true e
    have e : h * h < m := by rw [← Int.natCast_mul] at e; omega
    have := sq_lt7 m (by omega) h (by omega) e
    refine ⟨_, _, Wk.refl, 8 - (h + 1), by omega, _, _, Wk.refl, h + 1, rfl, by omega, by omega, rfl, rfl, rfl, fun j hj2 => ?_⟩
    by_cases z : j = h
    · rw [z]; exact e
    · exact hj j (by omega)
  · have e := of_decide_eq_false e
    have e : ¬ h * h < m := by rw [← Int.natCast_mul] at e; omega
    refine ⟨_, _, Wk.refl, ret0 ?_⟩
    rw [side_uniq m (by omega) h (by omega) ⟨h1, hj⟩ e m0] at q
    exact q
theorem pf_stair_of (h : S_stair_of K vs G M R Z) : rd_stair_of K (ends R Z) (sta 3 vs) G M := by
  obtain ⟨_, _, rfl, m, p, ⟨rfl, m0, m1⟩, ⟨rfl, p0, p1⟩, q⟩ := sp2_of h
  have hL := last_le m (by omega)
  refine ⟨G, M, Wk.refl, G, M, Wk.refl, fun k σ G' M' => ∃ h : Nat, k = 7 - h ∧ h ≤ lastN m ∧ σ = [some (.int m), some (.int p), some (.int (h : Nat))] ∧ G' = G ∧ M' = M ∧ ∀ j, j < h → j < lastN m ∧ p % (2 * 2 ^ j) = 0, ⟨7, 0, rfl, by omega, rfl, rfl, rfl, fun _ z => absurd z (Nat.not_lt_zero _)⟩, ?_⟩
  clear h
  rintro k σ G' M' ⟨h, rfl, h6, rfl, rfl, rfl, hj⟩
  have stop : ¬ (h < lastN m ∧ p % (2 * 2 ^ h) = 0) → rd_stair_of_2 K (ends R Z) [some (.int m), some (.int p), some (.int (h : Nat))] G' M' := fun e => by
    refine ⟨_, _, Wk.refl, ret0 ?_⟩
    rw [stair_uniq m (by omega) p (by omega) h (by omega) h6 hj e] at q
    exact q
  refine ⟨m, ⟨rfl, m0, m1⟩, ?_⟩
  refine ite2' (c := decide ((h : Int) < (lastN m : Int))) (fun e => ?_) (fun e => ?_)
  · have e := of_decide_eq_true e
    have pp : 0 < 2 ^ h := Nat.pow_pos (by decide)
    refine ⟨⟨by omega, by omega, by decide⟩, (by show (0 : Int) < 2 * 2 ^ (h : Int).toNat; rw [p2]; omega), ?_⟩
    have em : (p : Int) % (2 * 2 ^ (h : Int).toNat) = ((p % (2 * 2 ^ h) : Nat) : Int) := by rw [p2]; simp
    refine ite2' (c := decide (V.int ((p : Int) % (2 * 2 ^ (h : Int).toNat)) = .int 0)) (fun e2 => ?_) (fun e2 => ?_)
    · have e2 := V.int.inj (of_decide_eq_true e2)
      rw [em] at e2
      have e2 : p % (2 * 2 ^ h) = 0 := by omega
      refine ⟨_, _, Wk.refl, 7 - (h + 1), by omega, _, _, Wk.refl, h + 1, rfl, by omega, rfl, rfl, rfl, fun j hj2 => ?_⟩
      by_cases z : j = h
      · rw [z]; exact ⟨by omega, e2⟩
      · exact hj j (by omega)
    · have e2 := of_decide_eq_false e2
      rw [em] at e2
      exact stop fun ⟨_, z⟩ => e2 (by rw [z]; rfl)
  · have e := of_decide_eq_false e
    exact stop fun ⟨z, _⟩ => by omega
theorem pf_slots_of (h : S_slots_of K vs G M R Z) : rd_slots_of K (ends R Z) (sta 3 vs) G M := by
  obtain ⟨_, _, rfl, m, st, ⟨rfl, m0, m1⟩, ⟨rfl, s0, s1⟩, q⟩ := sp2_of h
  refine ⟨G, M, Wk.refl, ⟨by omega, by omega, by decide⟩, ?_⟩
  have es : (2 : Int) * 2 ^ (st : Int).toNat = ((2 * 2 ^ st : Nat) : Int) := by rw [p2]; simp
  show rd_slots_of_1 K (ends R Z) [some (.int m), some (.int st), some (.int ((2 : Int) * 2 ^ (st : Int).toNat))] G M
  rw [es]
  refine ⟨G, M, Wk.refl, m, ⟨rfl, m0, m1⟩, ?_⟩
  refine ite2' (c := decide (V.int (st : Int) = .int (lastN m : Int))) (fun e => ?_) (fun e => ?_)
  · have e := V.int.inj (of_decide_eq_true e)
    have e : st = lastN m := by omega
    refine ⟨G, M, Wk.refl, sz2, fun t ft => ret0 ?_⟩
    refine q t _ (Ex.new ft) ?_
    unfold slotA; rw [if_pos e]; exact sqt_new
  · have e := of_decide_eq_false e
    have e : ¬ st = lastN m := fun z => e (by rw [z])
    refine ⟨G, M, Wk.refl, sz2, fun t ft => ret0 ?_⟩
    refine q t _ (Ex.new ft) ?_
    unfold slotA; rw [if_neg e]; exact sqt_new
theorem pf_look_at_many (h : S_look_at_many K vs G M R Z) : rd_look_at_many K (ends R Z) (sta 1 vs) G M := by
  obtain ⟨x, rfl, T, hT, hi, q, z⟩ := sp1_of h
  refine ⟨G, M, Wk.refl, T, 1, 32, rfl, rfl, hT, hi, ?_⟩
  refine ite2' (c := !withinV x 1 32) (fun e => ?_) (fun e => ?_)
  · exact ⟨G, M, Wk.refl, G, M, Wk.refl, z (by simpa using e)⟩
  · exact ret0 (q (by simpa using e))
theorem pf_look_at_sizes (h : S_look_at_sizes K vs G M R Z) : rd_look_at_sizes K (ends R Z) (sta 2 vs) G M := by
  obtain ⟨x, y, rfl, T, U, hT, hi, hU, hu, q, z⟩ := sp2_of h
  refine ⟨G, M, Wk.refl, T, hT, hi, fun e => ?_, fun e => ?_⟩
  · rw [e] at q z
    refine ⟨G, M, Wk.refl, U, 0, 60, rfl, rfl, hU, hu, ?_⟩
    refine ite2' (c := !withinV y 0 60) (fun e => ?_) (fun e => ?_)
    · exact ⟨G, M, Wk.refl, G, M, Wk.refl, z (by simpa using e)⟩
    · exact ret0 (q (by simpa using e))
  · rw [e] at z
    exact ⟨G, M, Wk.refl, z rfl⟩
end
section
variable {K : PySem.W.Frag} {vs : List V} {G : Hp} {M : Mem} {R : KR} {Z : KX}
theorem in_ways (s : Str) : inV (.str s) con_WAYS = waysL.contains s := by
  unfold inV con_WAYS waysL
  simp only [List.any_cons, List.any_nil, Bool.or_false, List.contains_cons, List.contains_nil, eqV]
  have c : ∀ a : Str, (a == s) = (s == a) := fun a => by rw [BEq.comm]
  simp [c]
theorem pf_look_at_way (h : S_look_at_way K vs G M R Z) : rd_look_at_way K (ends R Z) (sta 1 vs) G M := by
  obtain ⟨x, rfl, T, hT, hs, q, z⟩ := sp1_of h
  refine ⟨G, M, Wk.refl, .type T.name, .type "str", _, .ty "str", hT, kit_pt T .str, ite2' (c := !isaB T .str) (fun e => ?_) (fun e => ?_)⟩
  · refine ⟨G, M, Wk.refl, G, M, Wk.refl, z ?_⟩
    have e2 : (T == .str) = false := by revert e; cases T <;> decide
    rw [e2] at hs
    cases x <;> first | rfl | cases hs
  · have e2 : (T == .str) = true := by revert e; cases T <;> decide
    rw [e2] at hs
    cases x with
    | str s =>
      intro hW
      refine ⟨con_WAYS, .inr (hW G), rfl, rfl, ite2' (c := !inV (.str s) con_WAYS) (fun e => ?_) (fun e => ?_)⟩
      · rw [in_ways] at e
        exact ⟨G, M, Wk.refl, G, M, Wk.refl, z (by show waysL.contains s = false; simpa using e)⟩
      · rw [in_ways] at e
        exact ret0 (q (by show waysL.contains s = true; simpa using e))
    | _ => cases hs
theorem rep_snoc {α : Type} (n : Nat) (a : α) : List.replicate (n + 1) a = List.replicate n a ++ [a] := List.replicate_succ'
theorem map_rep {α β : Type} (f : α → β) (n : Nat) (a : α) : (List.replicate n a).map f = List.replicate n (f a) := List.map_replicate
theorem pf_spare_needs (h : S_spare_needs K vs G M R Z) : rd_spare_needs K (ends R Z) (sta 4 vs) G M := by
  obtain ⟨_, _, rfl, m, n, ⟨rfl, m0, m1⟩, ⟨rfl, n0, n1⟩, q⟩ := sp2_of h
  obtain ⟨s0, s1⟩ := side_ok m (by omega) m0
  refine ⟨G, M, Wk.refl, m, ⟨rfl, m0, m1⟩, ?_⟩
  have hr := rg_up (i := 0) (j := (n : Int)) (c := (sideN m : Int)) (by omega) (by omega) (by omega) (by omega) (by omega) (by omega)
  have en : (if (0 : Int) < (n : Int) then (((n : Int) - 0 - 1) / (sideN m : Int) + 1).toNat else 0) = (n + sideN m - 1) / sideN m := by
    by_cases z : 0 < n
    · rw [if_pos (by omega)]
      have e1 : n + sideN m - 1 = (n - 1) + sideN m := by omega
      rw [e1, Nat.add_div_right _ (by omega)]
      have e2 : (n : Int) - 0 - 1 = ((n - 1 : Nat) : Int) := by omega
      rw [e2, ← Int.natCast_ediv]
      generalize (n - 1) / sideN m = z
      omega
    · rw [if_neg (by omega)]
      have : n = 0 := by omega
      subst this
      rw [Nat.zero_add, Nat.div_eq_of_lt (by omega)]
  rw [en] at hr
  have hb : (n + sideN m - 1) / sideN m ≤ n + sideN m := Nat.le_trans (Nat.div_le_self _ _) (by omega)
  refine ⟨G, M, Wk.refl, _, hr, sz (by show (n + sideN m - 1) / sideN m ≤ _; omega), fun i acc G' M' => Ex G G' ∧ M' = M ∧ DpAll K G' acc (List.replicate i (knD ⟨false, m + sideN m⟩)), ⟨Ex.refl, rfl, .nil⟩, fun _ _ _ _ _ _ => trivial, ?_, ?_⟩
  · rintro i acc G' M' D hi hacc ⟨ex, rfl, hd⟩ fD
    refine ⟨rfl, sz2, fun t ft => ⟨_, _, Wk.refl, ex.trans (Ex.new ft), rfl, ?_⟩⟩
    rw [rep_snoc]
    exact dpall_snoc (ex_ds (Ex.new ft) _ hd) (dp_kn (k := ⟨false, m + sideN m⟩) sqt_new)
  · rintro acc G' M' w ⟨ex, rfl, hd⟩ hacc fw
    refine ret0 (q w acc G' ex ?_)
    unfold spareK; rw [map_rep]; exact hd
theorem stairN_le : ((List.range 33).all fun m => (List.range 31).all fun p => decide (stairN m p ≤ 5)) = true := by decide +kernel
theorem stair_le {m p : Nat} (hm : m < 33) (hp : p < 31) : stairN m p ≤ 5 := of_decide_eq_true (List.all_eq_true.mp (List.all_eq_true.mp stairN_le m (List.mem_range.mpr hm)) p (List.mem_range.mpr hp))
theorem range_map_snoc {α : Type} (f : Nat → α) (i : Nat) : (List.range (i + 1)).map f = (List.range i).map f ++ [f i] := by rw [List.range_succ, List.map_append]; rfl
theorem pf_stairs_needs (h : S_stairs_needs K vs G M R Z) : rd_stairs_needs K (ends R Z) (sta 5 vs) G M := by
  obtain ⟨_, _, rfl, m, n, ⟨rfl, m0, m1⟩, ⟨rfl, n0, n1⟩, q⟩ := sp2_of h
  have hL := last_le m (by omega)
  refine ⟨G, M, Wk.refl, ite2' (c := decide (V.int (n : Int) = .int 0)) (fun e => ?_) (fun e => ?_)⟩
  · have e := V.int.inj (of_decide_eq_true e)
    have e : n = 0 := by omega
    refine ⟨G, M, Wk.refl, sz0, fun t ft => ret0 (q t [] G Ex.refl ?_)⟩
    unfold stairsK; rw [if_pos e]; exact .nil
  have e := of_decide_eq_false e
  have hn : ¬ n = 0 := fun z => e (by rw [z]; rfl)
  refine ⟨G, M, Wk.refl, m, ⟨rfl, m0, m1⟩, sz1, fun a fa => ⟨divW (by decide) (by decide) _, ⟨by omega, by omega⟩, ?_⟩⟩
  have ed : ((n : Int) + 1) / 2 = (((n + 1) / 2 : Nat) : Int) := by omega
  have er : (((n : Int) + 1) / 2 - 1).toNat = (n + 1) / 2 - 1 := by omega
  refine ⟨sz (by show (((n : Int) + 1) / 2 - 1).toNat ≤ _; omega), fun i acc G' M' => G' = G ∧ M' = (a, .lst [.int (lastN m)]) :: M ∧ acc = natsV ((List.range i).map fun i => stairN m (i + 1)), ⟨rfl, rfl, rfl⟩, fun _ _ _ _ _ _ => trivial, ?_, ?_⟩
  · rintro i acc G' M' D hi hacc ⟨rfl, rfl, rfl⟩ fD
    have hi : i < (((n : Int) + 1) / 2 - 1).toNat := hi
    refine ⟨rfl, m, i + 1, ⟨rfl, m0, m1⟩, ⟨by show V.int (1 + (i : Int)) = .int ((i + 1 : Nat) : Int); congr 1; omega, by omega, by omega⟩, _, _, Wk.refl, rfl, rfl, ?_⟩
    rw [range_map_snoc]; unfold natsV; rw [List.map_append]; rfl
  rintro acc G' M' b ⟨rfl, rfl, rfl⟩ hacc fb
  refine ⟨_, _, .inl (List.mem_cons_of_mem _ List.mem_cons_self), .inl List.mem_cons_self, sz (by rw [natsV_len, List.length_map, List.length_range]; show 1 + (((n : Int) + 1) / 2 - 1).toNat ≤ _; omega), fun c fc => ?_⟩
  have el : [V.int (lastN m : Int)] ++ natsV ((List.range (((n : Int) + 1) / 2 - 1).toNat).map fun i => stairN m (i + 1)) = natsV (stairL m n) := by
    rw [er]; rfl
  have hst : ∀ s, s ∈ stairL m n → s ≤ 5 := fun s hs => by
    rcases List.mem_cons.mp hs with rfl | hs
    · omega
    · obtain ⟨j, hj, rfl⟩ := List.mem_map.mp hs
      have := List.mem_range.mp hj
      exact stair_le (by omega) (by omega)
  have hlen : (stairL m n).length ≤ 40 := by unfold stairL; simp; omega
  refine ⟨G', (c, .lst (natsV (stairL m n))) :: M, ?_, natsV (stairL m n), lat_0, sz (by show (natsV (stairL m n)).length ≤ _; rw [natsV_len]; omega), fun i acc G2 M2 => Ex G' G2 ∧ M2 = (c, .lst (natsV (stairL m n))) :: M ∧ DpAll K G2 acc ((((stairL m n).take i).map fun st => (⟨false, slotA m st + 2 * 2 ^ st⟩ : Kn)).map knD), ⟨Ex.refl, rfl, .nil⟩, ?_, ?_, ?_⟩
  · rw [← el]
    exact Wk.drop1.trans Wk.drop1
  · rintro i acc G2 M2 hi ⟨ex, rfl, hd⟩; exact lat_0
  · rintro i acc G2 M2 D hi hacc ⟨ex, rfl, hd⟩ fD
    have hi : i < (natsV (stairL m n)).length := hi
    rw [natsV_len] at hi
    obtain ⟨s, hs⟩ : ∃ s, (stairL m n)[i]? = some s := ⟨_, List.getElem?_eq_getElem hi⟩
    have hs5 := hst s (List.mem_of_getElem? hs)
    refine asg_L (natsV_get hs) ⟨rfl, m, s, ⟨rfl, m0, m1⟩, ⟨rfl, by omega, by omega⟩, fun t G3 x3 ht => ?_⟩
    refine ⟨[(slotA m s : Int), ((2 * 2 ^ s : Nat) : Int)], .inr ht, sz2, fun t2 ft2 => ⟨_, _, Wk.refl, (ex.trans x3).trans (Ex.new ft2), rfl, ?_⟩⟩
    rw [take_succ' hs, List.map_append, List.map_append]
    refine dpall_snoc (ex_ds (x3.trans (Ex.new ft2)) _ hd) (dp_kn (k := ⟨false, slotA m s + 2 * 2 ^ s⟩) ?_)
    have es : [(slotA m s : Int), ((2 * 2 ^ s : Nat) : Int)].sum = ((slotA m s + 2 * 2 ^ s : Nat) : Int) := by simp
    rw [es]; exact sqt_new
  · rintro acc G2 M2 w ⟨ex, rfl, hd⟩ hacc fw
    refine retW Wk.drop1 (q w acc G2 ex ?_)
    unfold stairsK; rw [if_neg hn]
    have hd : DpAll K G2 acc ((((stairL m n).take (natsV (stairL m n)).length).map fun st => (⟨false, slotA m st + 2 * 2 ^ st⟩ : Kn)).map knD) := hd
    rw [natsV_len, List.take_length] at hd
    exact hd
theorem pf_grove_needs (h : S_grove_needs K vs G M R Z) : rd_grove_needs K (ends R Z) (sta 4 vs) G M := by
  obtain ⟨_, _, rfl, a, ts, n, rfl, ha, hts, hl, ⟨rfl, n0, n1⟩, q⟩ := sp2_of h
  have id_ : ∀ x, x ∈ M → x ∈ M := fun _ h => h
  refine ⟨G, M, Wk.refl, sz0, fun t ft => ?_⟩
  refine ⟨G, _, Wk.refl, natsV ts, lat_cons ha, fun i σ G' M' => ∃ (t : Addr) (us : List V) (y3 : Option V), σ = [some (.ref a), some (.int n), some (.ref t), y3] ∧ Ex G G' ∧ M' = (t, .lst us) :: M ∧ DpAll K G' us (((ts.take i).flatMap fun m => List.replicate m (⟨true, highN m⟩ : Kn)).map knD) ∧ us.length ≤ 32 * i, ⟨t, [], none, rfl, Ex.refl, rfl, .nil, by simp⟩, ?_, ?_, ?_⟩
  · rintro i σ G' M' hi ⟨t, us, y3, rfl, ex, rfl, hd, hul⟩
    exact lat_cons (ex_lat ex id_ ha)
  · rintro i σ G' M' hi ⟨t, us, y3, rfl, ex, rfl, hd, hul⟩
    have hi : i < (natsV ts).length := hi
    rw [natsV_len] at hi
    obtain ⟨m, hm⟩ : ∃ m, ts[i]? = some m := ⟨_, List.getElem?_eq_getElem hi⟩
    obtain ⟨m0, m1⟩ := hts m (List.mem_of_getElem? hm)
    refine asg_L (natsV_get hm) ⟨_, _, Wk.refl, m, ⟨rfl, m0, m1⟩, sz2, fun T fT => ⟨sz1, fun b fb => ⟨_, .inl List.mem_cons_self, by omega, by omega, sz (by show 1 * (m : Int).toNat ≤ _; omega), fun c fc => ?_⟩⟩⟩
    have efl : (List.replicate (m : Int).toNat [V.ref T]).flatten = List.replicate m (V.ref T) := by
      rw [Int.toNat_natCast]
      clear fc fb hm m0 m1
      induction m with
      | zero => rfl
      | succ m ih => rw [List.replicate_succ, List.flatten_cons, ih, List.replicate_succ]; rfl
    rw [efl]
    refine ⟨us, _, .inl (List.mem_cons_of_mem _ (List.mem_cons_of_mem _ List.mem_cons_self)), .inl List.mem_cons_self, sz (by rw [List.length_replicate]; omega), fun d fd => ?_⟩
    refine ⟨_, (d, .lst (us ++ List.replicate m (V.ref T))) :: M, Wk.drop1.trans (Wk.drop1.trans Wk.drop1), d, _, _, rfl, ex.trans (Ex.new fT), rfl, ?_, ?_⟩
    · rw [take_succ' hm, List.flatMap_append, List.map_append]
      refine dpall_app2 (ex_ds (Ex.new fT) _ hd) ?_
      rw [List.flatMap_cons, List.flatMap_nil, List.append_nil, map_rep]
      exact dpall_rep (dp_kn (k := ⟨true, highN m⟩) sqt_new) m
    · rw [List.length_append, List.length_replicate]; omega
  rintro σ G' M' ⟨t, us, y3, rfl, ex, rfl, hd, hul⟩
  have hd : DpAll K G' us (((ts.take (natsV ts).length).flatMap fun m => List.replicate m (⟨true, highN m⟩ : Kn)).map knD) := hd
  have hul : us.length ≤ 32 * (natsV ts).length := hul
  rw [natsV_len] at hd hul
  rw [List.take_length] at hd
  refine ⟨G', _, Wk.refl, natsV ts, lat_cons (ex_lat ex id_ ha), sz (by show (natsV ts).length ≤ _; rw [natsV_len]; omega), fun i acc G2 M2 => Ex G' G2 ∧ M2 = (t, .lst us) :: M ∧ DpAll K G2 acc (((ts.take i).map fun m => (⟨true, highN m⟩ : Kn)).map knD), ⟨Ex.refl, rfl, .nil⟩, ?_, ?_, ?_⟩
  · rintro i acc G2 M2 hi ⟨ex2, rfl, hd2⟩
    exact lat_cons (ex_lat (ex.trans ex2) id_ ha)
  · rintro i acc G2 M2 D hi hacc ⟨ex2, rfl, hd2⟩ fD
    have hi : i < (natsV ts).length := hi
    rw [natsV_len] at hi
    obtain ⟨m, hm⟩ : ∃ m, ts[i]? = some m := ⟨_, List.getElem?_eq_getElem hi⟩
    obtain ⟨m0, m1⟩ := hts m (List.mem_of_getElem? hm)
    refine asg_L (natsV_get hm) ⟨rfl, m, ⟨rfl, m0, m1⟩, sz2, fun T fT => ⟨_, _, Wk.refl, ex2.trans (Ex.new fT), rfl, ?_⟩⟩
    rw [take_succ' hm, List.map_append, List.map_append]
    exact dpall_snoc (ex_ds (Ex.new fT) _ hd2) (dp_kn (k := ⟨true, highN m⟩) sqt_new)
  · rintro acc G2 M2 b ⟨ex2, rfl, hd2⟩ hacc fb
    have hd2 : DpAll K G2 acc (((ts.take (natsV ts).length).map fun m => (⟨true, highN m⟩ : Kn)).map knD) := hd2
    rw [natsV_len, List.take_length] at hd2
    have hal : acc.length = ts.length := by rw [dpall_len hd2]; simp
    have hmul : acc.length * n ≤ 3 * 60 := Nat.mul_le_mul (by omega) n1
    have hfl : ((List.replicate n acc).flatten).length = n * acc.length := by simp
    refine ⟨acc, .inl List.mem_cons_self, by omega, by omega, sz (by rw [Int.toNat_natCast]; omega), fun c fc => ?_⟩
    rw [Int.toNat_natCast]
    refine ⟨us, _, .inl (List.mem_cons_of_mem _ (List.mem_cons_of_mem _ List.mem_cons_self)), .inl List.mem_cons_self, sz (by rw [hfl, Nat.mul_comm n]; omega), fun d fd => ?_⟩
    refine retW (Wk.drop1.trans (Wk.drop1.trans Wk.drop1)) (q d _ G2 (ex.trans ex2) ?_)
    unfold groveK
    rw [List.map_append]
    refine dpall_app2 (ex_ds ex2 _ hd) ?_
    rw [List.map_flatten, map_rep]
    exact dpall_flat hd2 n
theorem trees_each : ((List.range 33).all fun m => decide (m = 0) || ((treesN m).all fun t => decide (1 ≤ t) && decide (t ≤ 32)) && decide ((treesN m).length ≤ 3)) = true := by decide +kernel
theorem trees_ok {m : Nat} (h0 : 1 ≤ m) (h1 : m ≤ 32) : (∀ t, t ∈ treesN m → 1 ≤ t ∧ t ≤ 32) ∧ (treesN m).length ≤ 3 := by
  have a := List.all_eq_true.mp trees_each m (List.mem_range.mpr (by omega))
  rw [decide_eq_false (show ¬ m = 0 by omega), Bool.false_or, Bool.and_eq_true] at a
  refine ⟨fun t ht => ?_, of_decide_eq_true a.2⟩
  have b := List.all_eq_true.mp a.1 t ht
  rw [Bool.and_eq_true] at b
  exact ⟨of_decide_eq_true b.1, of_decide_eq_true b.2⟩
theorem atI_last {l : List Nat} {v : Nat} : atI (natsV (l ++ [v])) (-1) = some (.int (v : Int)) := by
  have e : natsV (l ++ [v]) = natsV l ++ [V.int (v : Int)] := by unfold natsV; rw [List.map_append]; rfl
  rw [e]
  unfold atI ixN
  rw [List.length_append, if_neg (by decide), if_pos (by simp; omega)]
  have e2 : ((-1 : Int) + ((natsV l).length + [V.int (v : Int)].length : Nat)).toNat = (natsV l).length := by simp; omega
  rw [e2]
  simp
theorem trN_more : ∀ (f m : Nat), (trN f m).length ≤ f + 1
  | 0, m => by simp [trN]
  | f + 1, m => by
    unfold trN; split
    · have := trN_more f ((m + 3) / 4)
      rw [List.length_cons]; omega
    · simp
theorem pf_trees_of (h : S_trees_of K vs G M R Z) : rd_trees_of K (ends R Z) (sta 2 vs) G M := by
  obtain ⟨_, rfl, m, ⟨rfl, m0, m1⟩, q⟩ := sp1_of h
  refine ⟨G, M, Wk.refl, sz1, fun t ft => ?_⟩
  refine ⟨G, _, Wk.refl, fun k σ G' M' => ∃ (l : List Nat) (v : Nat), σ = [some (.int m), some (.ref t)] ∧ G' = G ∧ M' = (t, .lst (natsV (l ++ [v]))) :: M ∧ treesN m = l ++ trN k v ∧ v ≤ 4 * 4 ^ k ∧ l.length + k ≤ 3, ⟨3, [], m, rfl, rfl, rfl, rfl, by omega, by simp⟩, ?_⟩
  rintro k σ G' M' ⟨l, v, rfl, rfl, rfl, e, hv, hlk⟩
  refine ⟨natsV (l ++ [v]), _, seq_0, atI_last, ?_⟩
  refine ite2' (c := decide ((4 : Int) < (v : Int))) (fun e1 => ?_) (fun e1 => ?_)
  · have e1 := of_decide_eq_true e1
    cases k with
    | zero => exfalso; rw [Nat.pow_zero] at hv; omega
    | succ k =>
      have et : trN (k + 1) v = v :: trN k ((v + 3) / 4) := by rw [trN, if_pos (by omega)]
      refine ⟨_, _, Wk.refl, tyl_n (n := 0) rfl, natsV (l ++ [v]), _, seq_0, atI_last, divW (by decide) (by decide) _, 0, _, rfl, sz (by rw [natsV_len]; simp; omega), k, by omega, _, _, Wk.refl, l ++ [v], (v + 3) / 4, rfl, rfl, ?_, ?_, ?_, by simp; omega⟩
      · have ev : ((v : Int) + 4 - 1) / 4 = (((v + 3) / 4 : Nat) : Int) := by omega
        show (t, HO.lst (natsV (l ++ [v]) ++ [.int (((v : Int) + 4 - 1) / 4)])) :: M = _
        rw [ev]; unfold natsV; simp only [List.map_append]; rfl
      · rw [e, et, List.append_assoc]; rfl
      · rw [Nat.pow_succ] at hv; omega
  · have e1 := of_decide_eq_false e1
    refine ⟨_, _, Wk.refl, ret0 ?_⟩
    have et : trN k v = [v] := by
      cases k with
      | zero => rfl
      | succ k => rw [trN, if_neg (by omega)]
    rw [← et, ← e]
    exact q t ft
theorem pf_kinds_of (h : S_kinds_of K vs G M R Z) : rd_kinds_of K (ends R Z) (sta 3 vs) G M := by
  obtain ⟨_, _, _, rfl, s, m, n, rfl, hm, hn, q⟩ := sp3_of h
  have inj : ∀ {a b : Str}, decide (V.str a = .str b) = true → a = b := fun e => V.str.inj (of_decide_eq_true e)
  have ninj : ∀ {a b : Str}, decide (V.str a = .str b) = false → ¬ a = b := fun e z => of_decide_eq_false e (by rw [z])
  unfold kindsK at q
  refine ⟨G, M, Wk.refl, ite2' (c := decide (V.str s = .str "spare")) (fun e => ?_) (fun e => ?_)⟩
  · rw [if_pos (inj e)] at q
    exact ⟨G, M, Wk.refl, m, n, hm, hn, fun t us G' ex hd => ret0 (q t us G' ex hd)⟩
  rw [if_neg (ninj e)] at q
  refine ⟨G, M, Wk.refl, ite2' (c := decide (V.str s = .str "stairs")) (fun e => ?_) (fun e => ?_)⟩
  · rw [if_pos (inj e)] at q
    exact ⟨G, M, Wk.refl, m, n, hm, hn, fun t us G' ex hd => ret0 (q t us G' ex hd)⟩
  rw [if_neg (ninj e)] at q
  obtain ⟨rfl, m0, m1⟩ := id hm
  refine ⟨G, M, Wk.refl, ite2' (c := decide (V.str s = .str "tree")) (fun e => ?_) (fun e => ?_)⟩
  · rw [if_pos (inj e)] at q
    exact ⟨G, M, Wk.refl, sz1, fun a fa => ⟨a, [m], n, rfl, lat_0, fun t ht => by
      have : t = m := by simpa using ht
      omega, by simp, hn, fun t us G' ex hd => retW Wk.drop1 (q t us G' ex hd)⟩⟩
  rw [if_neg (ninj e)] at q
  refine ⟨G, M, Wk.refl, ite2' (c := decide (V.str s = .str "grove")) (fun e => ?_) (fun e => ?_)⟩
  · rw [if_pos (inj e)] at q
    obtain ⟨h1, h2⟩ := trees_ok m0 m1
    exact ⟨G, M, Wk.refl, m, hm, fun a fa => ⟨a, treesN m, n, rfl, lat_0, h1, h2, hn, fun t us G' ex hd => retW Wk.drop1 (q t us G' ex hd)⟩⟩
  rw [if_neg (ninj e)] at q
  exact ⟨G, M, Wk.refl, sz0, fun t ft => ret0 (q t [] G Ex.refl .nil)⟩
theorem nat_of_within {x : V} {lo hi : Nat} (h : withinV x lo hi = true) : ∃ m, natOk x m lo hi := by
  cases x with
  | int i =>
    have h : (decide ((lo : Int) ≤ i) && decide (i ≤ (hi : Int))) = true := h
    rw [Bool.and_eq_true] at h
    have h1 := of_decide_eq_true h.1
    have h2 := of_decide_eq_true h.2
    obtain ⟨m, rfl⟩ := Int.eq_ofNat_of_zero_le (show 0 ≤ i by omega)
    exact ⟨m, rfl, by omega, by omega⟩
  | _ => cases h
theorem pf_needs (h : S_needs K vs G M R Z) : rd_needs K (ends R Z) (sta 3 vs) G M := by
  obtain ⟨w, x, y, rfl, S, T, U, hS, hs, hT, ht, hU, hu, q, z1, z2⟩ := sp3_of h
  refine ⟨G, M, Wk.refl, S, hS, hs, fun e => ?_, fun e => ⟨G, M, Wk.refl, z1 e⟩⟩
  refine ⟨G, M, Wk.refl, T, U, hT, ht, hU, hu, fun e2 => ?_, fun e2 => ⟨G, M, Wk.refl, z2 e e2⟩⟩
  rw [Bool.and_eq_true] at e2
  obtain ⟨m, hm⟩ := nat_of_within (lo := 1) (hi := 32) e2.1
  obtain ⟨n, hn⟩ := nat_of_within (lo := 0) (hi := 60) e2.2
  cases w with
  | str s => exact ⟨G, M, Wk.refl, s, m, n, rfl, hm, hn, fun t us G' ex hd => ret0 (q s m n rfl e hm hn t us G' ex hd)⟩
  | _ => cases e
end
section
variable {K : PySem.W.Frag} {vs : List V} {G : Hp} {M : Mem} {R : KR} {Z : KX}
theorem pf_law_whole (h : S_law_whole K vs G M R Z) : rd_law_whole K (ends R Z) (sta 1 vs) G M := pf_is_whole h
theorem filt_snoc (p : Nat → Bool) (i : Nat) : (List.range (i + 1)).filter p = (List.range i).filter p ++ (if p i = true then [i] else []) := by
  rw [List.range_succ, List.filter_append]
  congr 1
  rw [List.filter_cons]
  split <;> rfl
theorem natsV_app (a b : List Nat) : natsV (a ++ b) = natsV a ++ natsV b := by unfold natsV; rw [List.map_append]
theorem filt_len (p : Nat → Bool) (i : Nat) : ((List.range i).filter p).length ≤ i := Nat.le_trans (List.length_filter_le _ _) (by rw [List.length_range]; exact Nat.le_refl _)
theorem pf_law_high (h : S_law_high K vs G M R Z) : rd_law_high K (ends R Z) (sta 2 vs) G M := by
  obtain ⟨_, rfl, m, ⟨rfl, m0, m1⟩, q⟩ := sp1_of h
  refine ⟨G, M, Wk.refl, ⟨by decide, by decide⟩, sz (by show 6 ≤ _; decide), fun i acc G' M' => G' = G ∧ M' = M ∧ acc = natsV ((List.range i).filter fun k => decide (2 ^ k < m)), ⟨rfl, rfl, rfl⟩, fun _ _ _ _ _ _ => trivial, ?_, ?_⟩
  · rintro i acc G' M' D hi hacc ⟨rfl, rfl, rfl⟩ fD
    have hi : i < 6 := hi
    have e0 : (0 : Int) + (i : Int) = (i : Int) := by omega
    refine ⟨rfl, ⟨by omega, by omega, by decide⟩, ?_⟩
    have ec : decide ((1 : Int) * 2 ^ ((0 : Int) + (i : Int)).toNat < (m : Int)) = decide (2 ^ i < m) := by
      rw [e0, p2, Int.one_mul]; exact decide_eq_decide.mpr (by omega)
    show if decide ((1 : Int) * 2 ^ ((0 : Int) + (i : Int)).toNat < (m : Int)) = true then _ else _
    rw [ec]
    refine ite2' (fun e => ?_) (fun e => ?_)
    · refine ⟨_, _, Wk.refl, rfl, rfl, ?_⟩
      rw [filt_snoc, if_pos e, natsV_app]
      show _ ++ [V.int ((0 : Int) + (i : Int))] = _
      rw [e0]; rfl
    · refine ⟨_, _, Wk.refl, rfl, rfl, ?_⟩
      rw [filt_snoc, if_neg (by rw [e]; decide), List.append_nil]
  · rintro acc G' M' w ⟨rfl, rfl, rfl⟩ hacc fw
    refine ⟨_, seq_0, retW Wk.drop0 ?_⟩
    show R (.int ((natsV ((List.range 6).filter fun k => decide (2 ^ k < m))).length : Int)) G' M'
    rw [natsV_len]; exact q
theorem side_filt : ((List.range 33).all fun m => decide (m = 0) || (((List.range 6).map (· + 1)).filter fun k => decide (m ≤ k * k)).head? == some (sideN m)) = true := by decide +kernel
theorem last_filt : ((List.range 33).all fun m => decide (m = 0) || ((List.range 6).filter fun k => decide (m ≤ 2 * 2 ^ k)).head? == some (lastN m)) = true := by decide +kernel
theorem stair_filt : ((List.range 33).all fun m => decide (m = 0) || (List.range 31).all fun p => ((List.range 6).filter fun k => decide (k = lastN m) || decide (p % (2 * 2 ^ k) ≠ 0)).head? == some (stairN m p)) = true := by decide +kernel
theorem at_head {l : List Nat} {v : Nat} (h : l.head? = some v) : atI (natsV l) 0 = some (.int (v : Int)) := by
  cases l with
  | nil => cases h
  | cons a l => cases h; exact atI_nats (i := 0) rfl
theorem side_head {m : Nat} (h0 : 1 ≤ m) (h1 : m ≤ 32) : (((List.range 6).map (· + 1)).filter fun k => decide (m ≤ k * k)).head? = some (sideN m) := by
  have a := List.all_eq_true.mp side_filt m (List.mem_range.mpr (by omega))
  rw [decide_eq_false (show ¬ m = 0 by omega), Bool.false_or] at a
  exact beq_iff_eq.mp a
theorem last_head {m : Nat} (h0 : 1 ≤ m) (h1 : m ≤ 32) : ((List.range 6).filter fun k => decide (m ≤ 2 * 2 ^ k)).head? = some (lastN m) := by
  have a := List.all_eq_true.mp last_filt m (List.mem_range.mpr (by omega))
  rw [decide_eq_false (show ¬ m = 0 by omega), Bool.false_or] at a
  exact beq_iff_eq.mp a
theorem stair_head {m p : Nat} (h0 : 1 ≤ m) (h1 : m ≤ 32) (hp : p ≤ 30) : ((List.range 6).filter fun k => decide (k = lastN m) || decide (p % (2 * 2 ^ k) ≠ 0)).head? = some (stairN m p) := by
  have a := List.all_eq_true.mp stair_filt m (List.mem_range.mpr (by omega))
  rw [decide_eq_false (show ¬ m = 0 by omega), Bool.false_or] at a
  exact beq_iff_eq.mp (List.all_eq_true.mp a p (List.mem_range.mpr (by omega)))
theorem rep_one {α : Type} (n : Nat) (a : α) : (List.replicate n [a]).flatten = List.replicate n a := by
  induction n with
  | zero => rfl
  | succ n ih => rw [List.replicate_succ, List.flatten_cons, ih, List.replicate_succ]; rfl
theorem pf_law_spare (h : S_law_spare K vs G M R Z) : rd_law_spare K (ends R Z) (sta 4 vs) G M := by
  obtain ⟨_, _, rfl, m, n, ⟨rfl, m0, m1⟩, ⟨rfl, n0, n1⟩, q⟩ := sp2_of h
  obtain ⟨s0, s1⟩ := side_ok m (by omega) m0
  refine ⟨G, M, Wk.refl, ⟨by decide, by decide⟩, sz (by show 6 ≤ _; decide), fun i acc G' M' => G' = G ∧ M' = M ∧ acc = natsV (((List.range i).map (· + 1)).filter fun k => decide (m ≤ k * k)), ⟨rfl, rfl, rfl⟩, fun _ _ _ _ _ _ => trivial, ?_, ?_⟩
  · rintro i acc G' M' D hi hacc ⟨rfl, rfl, rfl⟩ fD
    have hi : i < 6 := hi
    have e0 : (1 : Int) + (i : Int) = ((i + 1 : Nat) : Int) := by omega
    refine ⟨rfl, mul_l (by omega) (by omega), ?_⟩
    have ec : decide ((m : Int) ≤ ((1 : Int) + (i : Int)) * ((1 : Int) + (i : Int))) = decide (m ≤ (i + 1) * (i + 1)) := by
      rw [e0, ← Int.natCast_mul]; exact decide_eq_decide.mpr (by omega)
    show if decide ((m : Int) ≤ ((1 : Int) + (i : Int)) * ((1 : Int) + (i : Int))) = true then _ else _
    rw [ec]
    refine ite2' (fun e => ?_) (fun e => ?_)
    · refine ⟨_, _, Wk.refl, rfl, rfl, ?_⟩
      rw [List.range_succ, List.map_append, List.filter_append, natsV_app]
      show _ ++ [V.int ((1 : Int) + (i : Int))] = _
      rw [List.map_cons, List.map_nil, List.filter_cons, if_pos e, e0]; rfl
    · refine ⟨_, _, Wk.refl, rfl, rfl, ?_⟩
      rw [List.range_succ, List.map_append, List.filter_append, natsV_app, List.map_cons, List.map_nil, List.filter_cons, if_neg (by rw [e]; decide)]
      simp [natsV]
  · rintro acc G' M' w ⟨rfl, rfl, rfl⟩ hacc fw
    refine ⟨natsV (((List.range 6).map (· + 1)).filter fun k => decide (m ≤ k * k)), _, seq_0, at_head (side_head m0 m1), ?_⟩
    refine ⟨G', M', Wk.drop0, sz2, fun T fT => ⟨sz1, fun b fb => ⟨divW (by omega) (by omega) _, ?_⟩⟩⟩
    have en : ((n : Int) + (sideN m : Int) - 1) / (sideN m : Int) = (((n + sideN m - 1) / sideN m : Nat) : Int) := by
      rw [show (n : Int) + (sideN m : Int) - 1 = ((n + sideN m - 1 : Nat) : Int) by omega, ← Int.natCast_ediv]
    have hb : (n + sideN m - 1) / sideN m ≤ n + sideN m := Nat.le_trans (Nat.div_le_self _ _) (by omega)
    show kMul (.ref b) (.int (((n : Int) + (sideN m : Int) - 1) / (sideN m : Int))) _ _ _
    rw [en]
    generalize hk : (n + sideN m - 1) / sideN m = k at hb
    refine ⟨_, .inl List.mem_cons_self, by omega, by omega, sz (by show 1 * (k : Int).toNat ≤ _; omega), fun c fc => ?_⟩
    rw [Int.toNat_natCast, rep_one]
    refine retW Wk.drop1 (q c _ _ (Ex.new fT) ?_)
    unfold spareK; rw [hk, map_rep]
    exact dpall_rep (dp_kn (k := ⟨false, m + sideN m⟩) sqt_new) k
def poursK (m i : Nat) : List Kn := (List.range i).map fun j => ⟨false, slotA m (stairN m (j + 1)) + 2 * 2 ^ stairN m (j + 1)⟩
theorem pours_snoc (m i : Nat) : poursK m (i + 1) = poursK m i ++ [⟨false, slotA m (stairN m (i + 1)) + 2 * 2 ^ stairN m (i + 1)⟩] := by
  unfold poursK; rw [range_map_snoc]
theorem pf_law_stairs (h : S_law_stairs K vs G M R Z) : rd_law_stairs K (ends R Z) (sta 7 vs) G M := by
  obtain ⟨_, _, rfl, m, n, ⟨rfl, m0, m1⟩, ⟨rfl, n0, n1⟩, q⟩ := sp2_of h
  have hL := last_le m (by omega)
  refine ⟨G, M, Wk.refl, ⟨by decide, by decide⟩, sz (by show 6 ≤ _; decide), fun i acc G' M' => G' = G ∧ M' = M ∧ acc = natsV ((List.range i).filter fun k => decide (m ≤ 2 * 2 ^ k)), ⟨rfl, rfl, rfl⟩, fun _ _ _ _ _ _ => trivial, ?_, ?_⟩
  · rintro i acc G' M' D hi hacc ⟨rfl, rfl, rfl⟩ fD
    have hi : i < 6 := hi
    have e0 : (0 : Int) + (i : Int) = (i : Int) := by omega
    refine ⟨rfl, ⟨by omega, by omega, by decide⟩, ?_⟩
    have ec : decide ((m : Int) ≤ (2 : Int) * 2 ^ ((0 : Int) + (i : Int)).toNat) = decide (m ≤ 2 * 2 ^ i) := by
      rw [e0, p2]; exact decide_eq_decide.mpr (by omega)
    show if decide ((m : Int) ≤ (2 : Int) * 2 ^ ((0 : Int) + (i : Int)).toNat) = true then _ else _
    rw [ec]
    refine ite2' (fun e => ?_) (fun e => ?_)
    · refine ⟨_, _, Wk.refl, rfl, rfl, ?_⟩
      rw [filt_snoc, if_pos e, natsV_app]
      show _ ++ [V.int ((0 : Int) + (i : Int))] = _
      rw [e0]; rfl
    · refine ⟨_, _, Wk.refl, rfl, rfl, ?_⟩
      rw [filt_snoc, if_neg (by rw [e]; decide), List.append_nil]
  rintro acc G' M' w ⟨rfl, rfl, rfl⟩ hacc fw
  refine ⟨natsV ((List.range 6).filter fun k => decide (m ≤ 2 * 2 ^ k)), _, seq_0, at_head (last_head m0 m1), ?_⟩
  show rd_law_stairs_1 K (ends R Z) [some (.int m), some (.int n), some (.int (lastN m)), none, none, none, none] _ _
  have es : (2 : Int) * 2 ^ (lastN m : Int).toNat = ((2 * 2 ^ lastN m : Nat) : Int) := by rw [p2]; simp
  have ek : (m : Int) + (2 : Int) * 2 ^ (lastN m : Int).toNat = ((m + 2 * 2 ^ lastN m : Nat) : Int) := by rw [es]; simp
  refine ⟨G', M', Wk.drop0, ⟨by omega, by omega, by decide⟩, sz2, fun T fT => ⟨sz1, fun b fb => ⟨[.ref T], .inl List.mem_cons_self, by omega, by omega, sz (by show 1 * (min (n : Int) 1).toNat ≤ _; omega), fun c fc => ?_⟩⟩⟩
  have hT : Dp K (upd G' T (.tup [.str "shuffle", .int ((m : Int) + (2 : Int) * 2 ^ (lastN m : Int).toNat)])) (.ref T) (knD ⟨false, m + 2 * 2 ^ lastN m⟩) := by
    refine dp_kn ?_
    rw [ek]; exact sqt_new
  rw [rep_one]
  have hN : (n + 1) / 2 - 1 ≤ 30 := by omega
  refine ⟨_, (c, .lst (List.replicate (min (n : Int) 1).toNat (.ref T))) :: M', Wk.drop1, ⟨by decide, by decide⟩, fun i σ G2 M2 => ∃ (us : List V) (y3 y5 y6 : Option V), σ = [some (.int m), some (.int n), some (.int (lastN m)), y3, some (.ref c), y5, y6] ∧ Ex G' G2 ∧ M2 = (c, .lst us) :: M' ∧ DpAll K G2 us ((List.replicate (min n 1) (⟨false, m + 2 * 2 ^ lastN m⟩ : Kn) ++ poursK m (min i ((n + 1) / 2 - 1))).map knD) ∧ us.length ≤ 100, ⟨_, none, none, none, rfl, Ex.new fT, rfl, ?_, ?_⟩, fun _ _ _ _ _ _ => trivial, ?_, ?_⟩
  · rw [show min 0 ((n + 1) / 2 - 1) = 0 by omega]
    show DpAll K _ _ ((List.replicate (min n 1) (⟨false, m + 2 * 2 ^ lastN m⟩ : Kn) ++ []).map knD)
    rw [List.append_nil, map_rep, show (min (n : Int) 1).toNat = min n 1 by omega]
    exact dpall_rep hT _
  · rw [List.length_replicate]; omega
  · rintro i σ G2 M2 hi ⟨us, y3, y5, y6, rfl, ex, rfl, hd, hul⟩
    have hi : i < 30 := hi
    refine ⟨G2, _, Wk.refl, mul_l (by decide) (by decide), ite2' (c := decide ((2 : Int) * (1 + (i : Int)) < (n : Int))) (fun e => ?_) (fun e => ?_)⟩
    · have e := of_decide_eq_true e
      have h1 := stair_le (m := m) (p := i + 1) (by omega) (by omega)
      refine ⟨G2, _, Wk.refl, ⟨by decide, by decide⟩, sz (by show 6 ≤ _; decide), fun j acc G3 M3 => G3 = G2 ∧ M3 = (c, .lst us) :: M' ∧ acc = natsV ((List.range j).filter fun k => decide (k = lastN m) || decide ((i + 1) % (2 * 2 ^ k) ≠ 0)), ⟨rfl, rfl, rfl⟩, fun _ _ _ _ _ _ => trivial, ?_, ?_⟩
      · rintro j acc G3 M3 D hj hacc ⟨rfl, rfl, rfl⟩ fD
        have hj : j < 6 := hj
        have e0 : (0 : Int) + (j : Int) = (j : Int) := by omega
        have add : (decide (j = lastN m) || decide ((i + 1) % (2 * 2 ^ j) ≠ 0)) = true → ∃ G4 M4, Wk G3 ((D, HO.lst (natsV ((List.range j).filter fun k => decide (k = lastN m) || decide ((i + 1) % (2 * 2 ^ k) ≠ 0)))) :: (c, HO.lst us) :: M') G4 ((D, HO.lst (natsV ((List.range j).filter fun k => decide (k = lastN m) || decide ((i + 1) % (2 * 2 ^ k) ≠ 0)))) :: M4) ∧ G4 = G3 ∧ M4 = (c, HO.lst us) :: M' ∧ natsV ((List.range j).filter fun k => decide (k = lastN m) || decide ((i + 1) % (2 * 2 ^ k) ≠ 0)) ++ [V.int ((0 : Int) + (j : Int))] = natsV ((List.range (j + 1)).filter fun k => decide (k = lastN m) || decide ((i + 1) % (2 * 2 ^ k) ≠ 0)) := fun z => by
          refine ⟨_, _, Wk.refl, rfl, rfl, ?_⟩
          rw [filt_snoc, if_pos z, natsV_app, e0]; rfl
        refine ⟨rfl, ite2' (c := decide (V.int ((0 : Int) + (j : Int)) = .int (lastN m : Int))) (fun e1 => ?_) (fun e1 => ?_)⟩
        · have e1 := V.int.inj (of_decide_eq_true e1)
          exact add (by rw [decide_eq_true (show j = lastN m by omega)]; rfl)
        · have e1 := of_decide_eq_false e1
          have e1 : ¬ j = lastN m := fun z => e1 (by rw [e0, z])
          have pp : 0 < 2 ^ j := Nat.pow_pos (by decide)
          refine ⟨⟨by omega, by omega, by decide⟩, (by show (0 : Int) < 2 * 2 ^ ((0 : Int) + (j : Int)).toNat; rw [e0, p2]; omega), ?_⟩
          have em : (1 + (i : Int)) % (2 * 2 ^ ((0 : Int) + (j : Int)).toNat) = (((i + 1) % (2 * 2 ^ j) : Nat) : Int) := by
            rw [e0, p2, show (1 : Int) + (i : Int) = ((i + 1 : Nat) : Int) by omega]; simp
          refine ite2' (c := !decide (V.int ((1 + (i : Int)) % (2 * 2 ^ ((0 : Int) + (j : Int)).toNat)) = .int 0)) (fun e2 => ?_) (fun e2 => ?_)
          · rw [em] at e2
            refine add (by rw [decide_eq_true (p := (i + 1) % (2 * 2 ^ j) ≠ 0) (fun z => by rw [z] at e2; exact absurd e2 (by decide)), Bool.or_true])
          · rw [em] at e2
            have z : (i + 1) % (2 * 2 ^ j) = 0 := by
              have e3 : decide (V.int (((i + 1) % (2 * 2 ^ j) : Nat) : Int) = .int 0) = true := by simpa using e2
              have := V.int.inj (of_decide_eq_true e3)
              omega
            refine ⟨_, _, Wk.refl, rfl, rfl, ?_⟩
            rw [filt_snoc, if_neg (by rw [decide_eq_false e1, z]; decide), List.append_nil]
      · rintro acc G3 M3 w2 ⟨rfl, rfl, rfl⟩ hacc fw2
        refine ⟨natsV ((List.range 6).filter fun k => decide (k = lastN m) || decide ((i + 1) % (2 * 2 ^ k) ≠ 0)), _, seq_0, at_head (stair_head m0 m1 (by omega)), ?_⟩
        refine ⟨G3, (c, .lst us) :: M', Wk.drop0, tyl_n (n := 0) rfl, ⟨by omega, by omega, by decide⟩, ⟨by omega, by omega, by decide⟩, sz2, fun d fd => ?_⟩
        have e4 : (4 : Int) * 2 ^ (stairN m (i + 1) : Int).toNat = ((4 * 2 ^ stairN m (i + 1) : Nat) : Int) := by rw [p2]; simp
        have fin : ∀ v : Int, v = ((slotA m (stairN m (i + 1)) + 2 * 2 ^ stairN m (i + 1) : Nat) : Int) → ∀ Tt, Fr G3 ((d, HO.lst [.int ((4 : Int) * 2 ^ (stairN m (i + 1) : Int).toNat), .int ((m : Int) + (2 : Int) * 2 ^ (lastN m : Int).toNat)]) :: (c, HO.lst us) :: M') Tt → ∃ us2, us2 = us ++ [V.ref Tt] ∧ DpAll K (upd G3 Tt (.tup [.str "shuffle", .int v])) us2 ((List.replicate (min n 1) (⟨false, m + 2 * 2 ^ lastN m⟩ : Kn) ++ poursK m (min (i + 1) ((n + 1) / 2 - 1))).map knD) := fun v hv Tt fTt => by
          refine ⟨_, rfl, ?_⟩
          rw [show min (i + 1) ((n + 1) / 2 - 1) = i + 1 by omega, pours_snoc, ← List.append_assoc, List.map_append]
          rw [show min i ((n + 1) / 2 - 1) = i by omega] at hd
          refine dpall_snoc (ex_ds (Ex.new fTt) _ hd) (dp_kn (k := ⟨false, slotA m (stairN m (i + 1)) + 2 * 2 ^ stairN m (i + 1)⟩) ?_)
          rw [hv]; exact sqt_new
        have go : ∀ (b : Bool) (v : Int), atI [V.int ((4 : Int) * 2 ^ (stairN m (i + 1) : Int).toNat), .int ((m : Int) + (2 : Int) * 2 ^ (lastN m : Int).toNat)] (if b = true then 1 else 0) = some (.int v) → v = ((slotA m (stairN m (i + 1)) + 2 * 2 ^ stairN m (i + 1) : Nat) : Int) → b = decide (V.int (stairN m (i + 1) : Int) = .int (lastN m : Int)) → True := fun _ _ _ _ _ => trivial
        have hpick : ∃ v : Int, atI [V.int ((4 : Int) * 2 ^ (stairN m (i + 1) : Int).toNat), .int ((m : Int) + (2 : Int) * 2 ^ (lastN m : Int).toNat)] (if decide (V.int (stairN m (i + 1) : Int) = .int (lastN m : Int)) = true then 1 else 0) = some (.int v) ∧ v = ((slotA m (stairN m (i + 1)) + 2 * 2 ^ stairN m (i + 1) : Nat) : Int) := by
          unfold slotA
          by_cases z : stairN m (i + 1) = lastN m
          · rw [decide_eq_true (by rw [z]), if_pos rfl, if_pos z]
            refine ⟨_, rfl, ?_⟩
            rw [ek, z]
          · rw [decide_eq_false (fun y => z (by have := V.int.inj y; omega)), if_neg (by decide), if_neg z]
            refine ⟨_, rfl, ?_⟩
            rw [e4]; omega
        obtain ⟨v, hv1, hv2⟩ := hpick
        refine ⟨_, .int v, seq_0, hv1, sz2, fun Tt fTt => ?_⟩
        obtain ⟨us2, rfl, hd2⟩ := fin v hv2 Tt fTt
        refine ⟨1, us, rfl, sz (by show us.length + 1 ≤ _; omega), _, (c, .lst (us ++ [V.ref Tt])) :: M', Wk.drop0, us ++ [V.ref Tt], y3, _, _, rfl, ex.trans (Ex.new fTt), rfl, hd2, ?_⟩
        have := dpall_len hd2
        rw [this, List.length_map, List.length_append, List.length_replicate]
        unfold poursK; rw [List.length_map, List.length_range]; omega
    · have e := of_decide_eq_false e
      refine ⟨_, _, Wk.refl, us, _, _, _, rfl, ex, rfl, ?_, hul⟩
      rw [show min (i + 1) ((n + 1) / 2 - 1) = min i ((n + 1) / 2 - 1) by omega]; exact hd
  · rintro σ G2 M2 ⟨us, y3, y5, y6, rfl, ex, rfl, hd, hul⟩
    refine ⟨_, _, Wk.refl, ret0 (q c us G2 ex ?_)⟩
    have hd : DpAll K G2 us ((List.replicate (min n 1) (⟨false, m + 2 * 2 ^ lastN m⟩ : Kn) ++ poursK m (min 30 ((n + 1) / 2 - 1))).map knD) := hd
    rw [show min 30 ((n + 1) / 2 - 1) = (n + 1) / 2 - 1 by omega] at hd
    unfold stairsK
    by_cases z : n = 0
    · rw [if_pos z]
      subst z
      exact hd
    · rw [if_neg z]
      rw [show min n 1 = 1 by omega] at hd
      have e5 : (stairL m n).map (fun st => (⟨false, slotA m st + 2 * 2 ^ st⟩ : Kn)) = List.replicate 1 (⟨false, m + 2 * 2 ^ lastN m⟩ : Kn) ++ poursK m ((n + 1) / 2 - 1) := by
        unfold stairL poursK
        rw [List.map_cons, List.map_map]
        have : slotA m (lastN m) = m := by unfold slotA; rw [if_pos rfl]
        rw [this]; rfl
      rw [e5]; exact hd
theorem pf_law_trees (h : S_law_trees K vs G M R Z) : rd_law_trees K (ends R Z) (sta 5 vs) G M := by
  obtain ⟨_, _, rfl, a, ts, n, rfl, ha, hts, hl, ⟨rfl, n0, n1⟩, q⟩ := sp2_of h
  have id_ : ∀ x, x ∈ M → x ∈ M := fun _ h => h
  refine ⟨G, M, Wk.refl, sz0, fun t ft => ?_⟩
  refine ⟨G, _, Wk.refl, natsV ts, lat_cons ha, fun i σ G' M' => ∃ (us : List V) (y3 y4 : Option V), σ = [some (.ref a), some (.int n), some (.ref t), y3, y4] ∧ Ex G G' ∧ M' = (t, .lst us) :: M ∧ DpAll K G' us (((ts.take i).flatMap fun m => List.replicate m (⟨true, highN m⟩ : Kn)).map knD) ∧ us.length ≤ 32 * i, ⟨[], none, none, rfl, Ex.refl, rfl, .nil, by simp⟩, ?_, ?_, ?_⟩
  · rintro i σ G' M' hi ⟨us, y3, y4, rfl, ex, rfl, hd, hul⟩
    exact lat_cons (ex_lat ex id_ ha)
  · rintro i σ G' M' hi ⟨us, y3, y4, rfl, ex, rfl, hd, hul⟩
    have hi : i < (natsV ts).length := hi
    rw [natsV_len] at hi
    obtain ⟨m, hm⟩ : ∃ m, ts[i]? = some m := ⟨_, List.getElem?_eq_getElem hi⟩
    obtain ⟨m0, m1⟩ := hts m (List.mem_of_getElem? hm)
    refine asg_L (natsV_get hm) ⟨_, _, Wk.refl, tyl_n (n := 0) rfl, ⟨by omega, by omega⟩, sz (by show (m : Int).toNat ≤ _; omega), fun j acc G2 M2 => Ex G' G2 ∧ M2 = (t, .lst us) :: M ∧ DpAll K G2 acc (List.replicate j (knD ⟨true, highN m⟩)), ⟨Ex.refl, rfl, .nil⟩, fun _ _ _ _ _ _ => trivial, ?_, ?_⟩
    · rintro j acc G2 M2 D hj hacc ⟨ex2, rfl, hd2⟩ fD
      refine ⟨rfl, m, ⟨rfl, m0, m1⟩, sz2, fun T fT => ⟨_, _, Wk.refl, ex2.trans (Ex.new fT), rfl, ?_⟩⟩
      rw [rep_snoc]
      exact dpall_snoc (ex_ds (Ex.new fT) _ hd2) (dp_kn (k := ⟨true, highN m⟩) sqt_new)
    · rintro acc G2 M2 b ⟨ex2, rfl, hd2⟩ hacc fb
      have hd2 : DpAll K G2 acc (List.replicate (m : Int).toNat (knD ⟨true, highN m⟩)) := hd2
      rw [Int.toNat_natCast] at hd2
      have hal : acc.length = m := by rw [dpall_len hd2, List.length_replicate]
      refine ⟨1, us, acc, rfl, .inl List.mem_cons_self, sz (by omega), _, (t, .lst (us ++ acc)) :: M, Wk.drop0, us ++ acc, _, _, rfl, ex.trans ex2, rfl, ?_, by rw [List.length_append]; omega⟩
      rw [take_succ' hm, List.flatMap_append, List.map_append]
      refine dpall_app2 (ex_ds ex2 _ hd) ?_
      rw [List.flatMap_cons, List.flatMap_nil, List.append_nil, map_rep]
      exact hd2
  rintro σ G' M' ⟨us, y3, y4, rfl, ex, rfl, hd, hul⟩
  have hd : DpAll K G' us (((ts.take (natsV ts).length).flatMap fun m => List.replicate m (⟨true, highN m⟩ : Kn)).map knD) := hd
  have hul : us.length ≤ 32 * (natsV ts).length := hul
  rw [natsV_len] at hd hul
  rw [List.take_length] at hd
  refine ⟨G', _, Wk.refl, ⟨by omega, by omega⟩, fun i σ G2 M2 => ∃ (us2 : List V) (y3 y4 : Option V), σ = [some (.ref a), some (.int n), some (.ref t), y3, y4] ∧ Ex G' G2 ∧ M2 = (t, .lst us2) :: M ∧ DpAll K G2 us2 (((ts.flatMap fun m => List.replicate m (⟨true, highN m⟩ : Kn)) ++ (List.replicate i (ts.map fun m => (⟨true, highN m⟩ : Kn))).flatten).map knD) ∧ us2.length ≤ 96 + 3 * i, ⟨us, y3, y4, rfl, Ex.refl, rfl, ?_, by omega⟩, fun _ _ _ _ _ _ => trivial, ?_, ?_⟩
  · show DpAll K G' us (((ts.flatMap fun m => List.replicate m (⟨true, highN m⟩ : Kn)) ++ []).map knD)
    rw [List.append_nil]; exact hd
  · rintro i σ G2 M2 hi ⟨us2, y3, y4, rfl, ex2, rfl, hd2, hul2⟩
    have hi : i < (n : Int).toNat := hi
    refine ⟨_, _, Wk.refl, tyl_n (n := 0) rfl, natsV ts, lat_cons (ex_lat (ex.trans ex2) id_ ha), sz (by show (natsV ts).length ≤ _; rw [natsV_len]; omega), fun j acc G3 M3 => Ex G2 G3 ∧ M3 = (t, .lst us2) :: M ∧ DpAll K G3 acc (((ts.take j).map fun m => (⟨true, highN m⟩ : Kn)).map knD), ⟨Ex.refl, rfl, .nil⟩, ?_, ?_, ?_⟩
    · rintro j acc G3 M3 hj ⟨ex3, rfl, hd3⟩
      exact lat_cons (ex_lat ((ex.trans ex2).trans ex3) id_ ha)
    · rintro j acc G3 M3 D hj hacc ⟨ex3, rfl, hd3⟩ fD
      have hj : j < (natsV ts).length := hj
      rw [natsV_len] at hj
      obtain ⟨m, hm⟩ : ∃ m, ts[j]? = some m := ⟨_, List.getElem?_eq_getElem hj⟩
      obtain ⟨m0, m1⟩ := hts m (List.mem_of_getElem? hm)
      refine asg_L (natsV_get hm) ⟨rfl, m, ⟨rfl, m0, m1⟩, sz2, fun T fT => ⟨_, _, Wk.refl, ex3.trans (Ex.new fT), rfl, ?_⟩⟩
      rw [take_succ' hm, List.map_append, List.map_append]
      exact dpall_snoc (ex_ds (Ex.new fT) _ hd3) (dp_kn (k := ⟨true, highN m⟩) sqt_new)
    · rintro acc G3 M3 b ⟨ex3, rfl, hd3⟩ hacc fb
      have hd3 : DpAll K G3 acc (((ts.take (natsV ts).length).map fun m => (⟨true, highN m⟩ : Kn)).map knD) := hd3
      rw [natsV_len, List.take_length] at hd3
      have hal : acc.length = ts.length := by rw [dpall_len hd3]; simp
      refine ⟨1, us2, acc, rfl, .inl List.mem_cons_self, sz (by omega), _, (t, .lst (us2 ++ acc)) :: M, Wk.drop0, us2 ++ acc, _, _, rfl, ex2.trans ex3, rfl, ?_, by rw [List.length_append]; omega⟩
      rw [rep_snoc, List.flatten_append, ← List.append_assoc, List.map_append]
      refine dpall_app2 (ex_ds ex3 _ hd2) ?_
      rw [List.flatten_cons, List.flatten_nil, List.append_nil]
      exact hd3
  · rintro σ G2 M2 ⟨us2, y3, y4, rfl, ex2, rfl, hd2, hul2⟩
    refine ⟨_, _, Wk.refl, ret0 (q t us2 G2 (ex.trans ex2) ?_)⟩
    have hd2 : DpAll K G2 us2 (((ts.flatMap fun m => List.replicate m (⟨true, highN m⟩ : Kn)) ++ (List.replicate (n : Int).toNat (ts.map fun m => (⟨true, highN m⟩ : Kn))).flatten).map knD) := hd2
    rw [Int.toNat_natCast] at hd2
    exact hd2
theorem pf_law_due (h : S_law_due K vs G M R Z) : rd_law_due K (ends R Z) (sta 4 vs) G M := by
  obtain ⟨_, _, _, rfl, s, m, n, rfl, hm, hn, q⟩ := sp3_of h
  have inj : ∀ {a b : Str}, decide (V.str a = .str b) = true → a = b := fun e => V.str.inj (of_decide_eq_true e)
  have ninj : ∀ {a b : Str}, decide (V.str a = .str b) = false → ¬ a = b := fun e z => of_decide_eq_false e (by rw [z])
  obtain ⟨rfl, m0, m1⟩ := id hm
  obtain ⟨rfl, n0, n1⟩ := id hn
  refine ⟨G, M, Wk.refl, sz1, fun t ft => ?_⟩
  refine ⟨G, _, Wk.refl, fun k σ G' M' => ∃ (t : Addr) (l : List Nat) (v : Nat), σ = [some (.str s), some (.int m), some (.int n), some (.ref t)] ∧ G' = G ∧ M' = (t, .lst (natsV (l ++ [v]))) :: M ∧ treesN m = l ++ trN k v ∧ v ≤ 4 * 4 ^ k ∧ l.length + k ≤ 3, ⟨3, t, [], m, rfl, rfl, rfl, rfl, by omega, by simp⟩, ?_⟩
  rintro k σ G' M' ⟨t, l, v, rfl, rfl, rfl, e, hv, hlk⟩
  refine ⟨natsV (l ++ [v]), _, seq_0, atI_last, ?_⟩
  refine ite2' (c := decide ((4 : Int) < (v : Int))) (fun e1 => ?_) (fun e1 => ?_)
  · have e1 := of_decide_eq_true e1
    cases k with
    | zero => exfalso; rw [Nat.pow_zero] at hv; omega
    | succ k =>
      have et : trN (k + 1) v = v :: trN k ((v + 3) / 4) := by rw [trN, if_pos (by omega)]
      have ev : ((v : Int) + 3) / 4 = (((v + 3) / 4 : Nat) : Int) := by omega
      refine ⟨_, _, Wk.refl, natsV (l ++ [v]), _, seq_0, atI_last, divW (by decide) (by decide) _, sz1, fun b fb => ⟨_, _, .inl (List.mem_cons_of_mem _ List.mem_cons_self), .inl List.mem_cons_self, sz (by rw [natsV_len]; simp; omega), fun c fc => ⟨k, by omega, _, (c, .lst (natsV (l ++ [v]) ++ [.int (((v : Int) + 3) / 4)])) :: M, Wk.drop1.trans Wk.drop1, c, l ++ [v], (v + 3) / 4, rfl, rfl, ?_, ?_, ?_, by simp; omega⟩⟩⟩
      · rw [ev]; unfold natsV; simp only [List.map_append]; rfl
      · rw [e, et, List.append_assoc]; rfl
      · rw [Nat.pow_succ] at hv; omega
  have e1 := of_decide_eq_false e1
  have et : trN k v = [v] := by
    cases k with
    | zero => rfl
    | succ k => rw [trN, if_neg (by omega)]
  rw [← et, ← e]
  unfold kindsK at q
  refine ⟨G', _, Wk.refl, ite2' (c := decide (V.str s = .str "spare")) (fun e => ?_) (fun e => ?_)⟩
  · rw [if_pos (inj e)] at q
    exact ⟨G', _, Wk.refl, m, n, hm, hn, fun t us G2 ex hd => retW Wk.drop1 (q t us G2 ex hd)⟩
  rw [if_neg (ninj e)] at q
  refine ⟨G', _, Wk.refl, ite2' (c := decide (V.str s = .str "stairs")) (fun e => ?_) (fun e => ?_)⟩
  · rw [if_pos (inj e)] at q
    exact ⟨G', _, Wk.refl, m, n, hm, hn, fun t us G2 ex hd => retW Wk.drop1 (q t us G2 ex hd)⟩
  rw [if_neg (ninj e)] at q
  refine ⟨G', _, Wk.refl, ite2' (c := decide (V.str s = .str "tree")) (fun e => ?_) (fun e => ?_)⟩
  · rw [if_pos (inj e)] at q
    exact ⟨G', _, Wk.refl, sz1, fun a fa => ⟨a, [m], n, rfl, lat_0, fun t ht => by
      have : t = m := by simpa using ht
      omega, by simp, hn, fun t us G2 ex hd => retW (Wk.drop1.trans Wk.drop1) (q t us G2 ex hd)⟩⟩
  rw [if_neg (ninj e)] at q
  obtain ⟨h1, h2⟩ := trees_ok m0 m1
  refine ⟨G', _, Wk.refl, sz0, fun a fa => ⟨t, treesN m, n, rfl, lat_cons lat_0, h1, h2, hn, fun b us G2 ex hd => ⟨sz2, fun d fd => ?_⟩⟩⟩
  have hsub1 : List.Sublist ((a, HO.lst []) :: M) ((d, HO.lst [V.ref a, V.ref b]) :: (b, HO.lst us) :: (a, HO.lst []) :: (t, HO.lst (natsV (treesN m))) :: M) := ((((List.Sublist.refl M).cons _).cons_cons _).cons _).cons _
  have hsub2 : List.Sublist ((b, HO.lst us) :: M) ((d, HO.lst [V.ref a, V.ref b]) :: (b, HO.lst us) :: (a, HO.lst []) :: (t, HO.lst (natsV (treesN m))) :: M) := ((((List.Sublist.refl M).cons _).cons _).cons_cons _).cons _
  by_cases z : s = "grove"
  · rw [if_pos z] at q
    refine ⟨_, .ref b, seq_0, ?_, retW (Wk.sub' hsub2) (q b us G2 ex hd)⟩
    show atI [V.ref a, V.ref b] (if decide (V.str s = .str "grove") then 1 else 0) = _
    rw [decide_eq_true (by rw [z])]; rfl
  · rw [if_neg z] at q
    refine ⟨_, .ref a, seq_0, ?_, retW (Wk.sub' hsub1) (q a [] G2 ex .nil)⟩
    show atI [V.ref a, V.ref b] (if decide (V.str s = .str "grove") then 1 else 0) = _
    rw [decide_eq_false (fun y => z (V.str.inj y))]; rfl
theorem pf_law_is (h : S_law_is K vs G M R Z) : rd_law_is K (ends R Z) (sta 3 vs) G M := by
  obtain ⟨_, _, rfl, a, b, us, ws, ks, rfl, rfl, ha, hd, hb, hd2, hl, q⟩ := sp2_of h
  have hul : us.length = ks.length := by rw [dpall_len hd, List.length_map]
  obtain ⟨D, hD⟩ : ∃ D, D = PyData.list (ks.map knD) := ⟨_, rfl⟩
  have sh : Shp 2 D := by rw [hD]; exact shp_kns (n := 0) ks
  refine ⟨G, M, Wk.refl, .type PT.list.name, .type "list", _, .ty "list", ty_lst ha, kit_pt .list .list, ?_⟩
  refine ⟨D, D, by rw [hD]; exact dat_list ha (dats_g hd), by rw [hD]; exact dat_list hb (dats_g hd2), sh.shaped (by decide), sh.shaped (by decide), ?_⟩
  refine ite2' (c := !PyData.eqv D D) (fun e => by rw [sh.refl] at e; cases e) (fun _ => ?_)
  refine ⟨G, M, Wk.refl, us, ha, sz (by show us.length ≤ _; omega), fun i acc G' M' => acc = [] ∧ G' = G ∧ M' = M, ⟨rfl, rfl, rfl⟩, ?_, ?_, ?_⟩
  · rintro i acc G' M' hi ⟨rfl, rfl, rfl⟩; exact ha
  · rintro i acc G' M' D hi hacc ⟨rfl, rfl, rfl⟩ fD
    have hi : i < us.length := hi
    obtain ⟨k, hk⟩ : ∃ k, ks[i]? = some k := ⟨_, List.getElem?_eq_getElem (by omega)⟩
    obtain ⟨v, hv, hd1⟩ := dpall_get (d := knD k) hd (by rw [List.getElem?_map, hk]; rfl)
    obtain ⟨t, rfl, ht⟩ := dp_kn_inv hd1
    exact asg_L hv ⟨rfl, .type PT.tuple.name, .type "tuple", _, .ty "tuple", ty_tup ht, kit_pt .tuple .tuple, _, .int k.n, tup_g ht, rfl, .int, ty_int, _, _, Wk.refl, rfl, rfl, rfl⟩
  · rintro acc G' M' p ⟨rfl, rfl, rfl⟩ hacc fp
    obtain ⟨dd, hdd⟩ : ∃ d, d = PyData.list [] := ⟨_, rfl⟩
    have sh2 : Shp 1 dd := by rw [hdd]; exact shp_ints (n := 0) []
    refine ⟨sz0, fun p2 fp2 => ⟨dd, dd, by rw [hdd]; exact dat_ints (ns := []) (lat_cons lat_0), by rw [hdd]; exact dat_ints (ns := []) lat_0, sh2.shaped (by decide), sh2.shaped (by decide), retW (Wk.drop0.trans Wk.drop0) ?_⟩⟩
    show R (.bl (PyData.eqv dd dd)) G' M'
    rw [sh2.refl]; exact q
theorem pf_law_refused (h : S_law_refused K vs G M R Z) : rd_law_refused K (ends R Z) (sta 5 vs) G M := by
  obtain ⟨w, x, y, rfl, S, T, U, hS, hs, hT, ht, hU, hu, hw, q⟩ := sp3_of h
  refine ⟨G, M, Wk.refl, G, M, Wk.refl, G, M, Wk.refl, S, T, U, hS, hs, hT, ht, hU, hu, fun s m n e1 e2 hm hn => ?_, fun e => ?_, fun e e2 => ?_⟩
  · obtain ⟨rfl, m0, m1⟩ := hm
    obtain ⟨rfl, n0, n1⟩ := hn
    rw [e2, wi_in (by omega) (by omega), wi_in (by omega) (by omega)] at hw
    cases hw
  · rw [e] at q
    refine ⟨("NoWay", true), List.mem_cons_of_mem _ List.mem_cons_self, rfl, ite2' (fun _ a fa => ?_) (fun z => by cases z)⟩
    refine ⟨_, M, Wk.refl, rfl, ("NoWay", true), List.mem_cons_of_mem _ List.mem_cons_self, .inr upd_same, rfl, ("NoWay", false), List.mem_cons_of_mem _ List.mem_cons_self, .inr upd_same, rfl, ("NoWay", true), List.mem_cons_of_mem _ List.mem_cons_self, .inr upd_same, rfl, ("NoWay", false), List.mem_cons_of_mem _ List.mem_cons_self, .inr upd_same, sz4, fun t ft => ret0 ?_⟩
    exact q t _ (Ex.new fa)
  · rw [e] at q
    refine ⟨("NoSize", true), List.mem_cons_self, rfl, ite2' (fun _ a fa => ?_) (fun z => by cases z)⟩
    refine ⟨_, M, Wk.refl, rfl, ("NoSize", false), List.mem_cons_self, .inr upd_same, rfl, ("NoSize", true), List.mem_cons_self, .inr upd_same, rfl, ("NoSize", true), List.mem_cons_self, .inr upd_same, rfl, ("NoSize", false), List.mem_cons_self, .inr upd_same, sz4, fun t ft => ret0 ?_⟩
    exact q t _ (Ex.new fa)
theorem sz9 : (9 : Nat) ≤ sizeLine := by decide
theorem kseq_wk {t u : KS} {D : Kd} {σ : St} {G G' : Hp} {M M' : Mem} (w : Wk G M G' M') (h : kSeq t u D σ G' M') : kSeq t u D σ G M := by
  obtain ⟨a, b, c, d⟩ := h
  exact ⟨a, b, w.trans c, d⟩
def WOk (K : PySem.W.Frag) (G : Hp) (w : V) : Prop := ∃ S : PT, (∀ M, TyK K G M w S) ∧ (S == .str) = isStrV w
def IOk (K : PySem.W.Frag) (G : Hp) (x : V) : Prop := ∃ T : PT, (∀ M, TyK K G M x T) ∧ (T == .int) = isIntV x
theorem ty_ex {G' : Hp} {x : V} {T : PT} (e : Ex G G') (h : ∀ M, TyK K G M x T) : ∀ M, TyK K G' M x T := fun M H hv => h M H (Wk.less e H hv)
theorem WOk.ex {G' : Hp} {w : V} (e : Ex G G') (h : WOk K G w) : WOk K G' w := by
  obtain ⟨S, h1, h2⟩ := h
  exact ⟨S, ty_ex e h1, h2⟩
theorem IOk.ex {G' : Hp} {w : V} (e : Ex G G') (h : IOk K G w) : IOk K G' w := by
  obtain ⟨S, h1, h2⟩ := h
  exact ⟨S, ty_ex e h1, h2⟩
theorem iok_int {i : Int} : IOk K G (.int i) := ⟨.int, fun _ => ty_int, rfl⟩
theorem iok_non : IOk K G .non := ⟨.non, fun _ => ty_non, rfl⟩
theorem iok_bl {b : Bool} : IOk K G (.bl b) := ⟨.bool, fun _ => ty_bl, rfl⟩
theorem iok_str {b : Str} : IOk K G (.str b) := ⟨.str, fun _ => ty_str, rfl⟩
theorem iok_tup {a : Addr} {xs : List V} (h : SqT K G a xs) : IOk K G (.ref a) := ⟨.tuple, fun _ => ty_tup h, rfl⟩
theorem wok_str {b : Str} : WOk K G (.str b) := ⟨.str, fun _ => ty_str, rfl⟩
def boolsD (l : List Bool) : PyData := .list (l.map .bool)
theorem dp_bools : ∀ l : List Bool, DpAll K G (l.map V.bl) (l.map PyData.bool)
  | [] => .nil
  | b :: l => .cons (.bl b) (dp_bools l)
theorem shp_bools (l : List Bool) : Shp 1 (boolsD l) := .list fun d hd => by
  obtain ⟨b, _, rfl⟩ := List.mem_map.mp hd
  exact .bl
theorem pf_law_odd_right (h : S_law_odd_right K vs G M R Z) : rd_law_odd_right K (ends R Z) (sta 5 vs) G M := by
  obtain ⟨_, _, _, _, rfl, p, n, c, s, g, m, k, rfl, hn, hs, rfl, hg, ⟨rfl, m0, m1⟩, ⟨rfl, k0, k1⟩, q⟩ := sp4_of h
  refine ⟨G, M, Wk.refl, p, 7, n, c, s, rfl, rfl, hn, hs, by decide, by decide, fun r c1 s1 r0 r1 hs1 => ?_⟩
  obtain ⟨W, hW⟩ : ∃ W, W = 1 + r := ⟨_, rfl⟩
  show rd_law_odd_right_1 K (ends R Z) [some (.ref p), some (.str g), some (.int m), some (.int k), some (.int (1 + r))] G (M.set n (p, pool c1 s1))
  rw [← hW]
  have hin : ∀ (Gx : Hp), IOk K Gx (.int (m : Int)) ∧ IOk K Gx (.int (k : Int)) := fun _ => ⟨iok_int, iok_int⟩
  -- at the end
  have fin : ∀ (G' : Hp) (M' : Mem) (w x y : V), Ex G G' → WOk K G' w → IOk K G' x → IOk K G' y → wayV w = decide (W % 2 = 0) → (wayV w && (withinV x 1 32 && withinV y 0 60)) = false →
      rd_law_odd_right_4 K (ends R Z) [some (.ref p), some w, some x, some y, some (.int W)] G' M' := by
    rintro G' M' w x y ex ⟨S, hS, hs⟩ ⟨T, hT, ht⟩ ⟨U, hU, hu⟩ hw hf
    refine ⟨G', M', Wk.refl, S, T, U, hS M', hs, hT M', ht, hU M', hu, hf, fun t G2 ex2 => ⟨(by show (0 : Int) < _; decide), (by show (0 : Int) < _; decide), sz4, fun t2 ft2 => ?_⟩⟩
    have e1 : decide (V.int (W % 2) = .int 1) = !wayV w := by
      rw [hw]
      by_cases z : W % 2 = 0
      · rw [decide_eq_true z, decide_eq_false (fun y => by have := V.int.inj y; omega)]; rfl
      · rw [decide_eq_false z, decide_eq_true (by congr 1; omega)]; rfl
    have e2 : decide (V.int (W % 2) = .int 0) = wayV w := by
      rw [hw]
      by_cases z : W % 2 = 0
      · rw [decide_eq_true z, decide_eq_true (by rw [z])]
      · rw [decide_eq_false z, decide_eq_false (fun y => z (V.int.inj y))]
    have hl : LstAt K G2 ((t2, HO.lst [.bl (decide (V.int (W % 2) = .int 1)), .bl (decide (V.int (W % 2) = .int 0)), .bl true, .bl false]) :: (t, HO.lst [.bl (!wayV w), .bl (wayV w), .bl true, .bl false]) :: M') t2 ([!wayV w, wayV w, true, false].map V.bl) := by
      rw [e1, e2]; exact lat_0
    refine ⟨boolsD [!wayV w, wayV w, true, false], boolsD [!wayV w, wayV w, true, false], dat_list (lat_cons (xs := [!wayV w, wayV w, true, false].map V.bl) lat_0) (dats_g (dp_bools _)), dat_list hl (dats_g (dp_bools _)), (shp_bools _).shaped (by decide), (shp_bools _).shaped (by decide), ret0 ?_⟩
    show R (.bl (PyData.eqv (boolsD [!wayV w, wayV w, true, false]) (boolsD [!wayV w, wayV w, true, false]))) _ _
    rw [(shp_bools _).refl]
    exact q _ _ (ex.trans ex2)
  have s3 : ∀ (G' : Hp) (M' : Mem) (n' : Nat) (c' s' : Int) (w x : V), Ex G G' → M'[n']? = some (p, pool c' s') → PoolOk s' → WOk K G' w → IOk K G' x → wayV w = decide (W % 2 = 0) → (W / 4 = 1 ∨ (wayV w && withinV x 1 32) = false) →
      rd_law_odd_right_3 K (ends R Z) [some (.ref p), some w, some x, some (.int k), some (.int W)] G' M' := by
    intro G' M' n' c' s' w x ex hn' hs' hw hx hv hf
    refine ⟨G', M', Wk.refl, divW (by decide) (by decide) _, ite2' (c := decide (V.int (W / 4) = .int 1)) (fun e => ?_) (fun e => ?_)⟩
    · refine ⟨G', M', Wk.refl, sz1, fun T fT => ⟨⟨by decide, by decide, by decide⟩, sz7, fun d fd => ⟨p, 7, n' + 1, c', s', rfl, rfl, hn', hs', by decide, by decide, fun r2 c2 s2 r20 r21 hs2 => ?_⟩⟩⟩
      obtain ⟨y, hy, hym⟩ := at_mem (l := [V.int 61, .int (-1), .bl true, .non, .str "3", .ref T, .int (10 ^ (30 : Int).toNat)]) (r := r2) r20 r21
      refine ⟨_, y, lst_n (n := 0) rfl, hy, ?_⟩
      have hyo : IOk K (upd G' T (.tup [.int 3])) y ∧ withinV y 0 60 = false := by
        simp only [List.mem_cons, List.not_mem_nil, or_false] at hym
        rcases hym with rfl | rfl | rfl | rfl | rfl | rfl | rfl
        · exact ⟨iok_int, wi_hi (by decide)⟩
        · exact ⟨iok_int, wi_lo (by decide)⟩
        · exact ⟨iok_bl, rfl⟩
        · exact ⟨iok_non, rfl⟩
        · exact ⟨iok_str, rfl⟩
        · exact ⟨iok_tup sqt_new, rfl⟩
        · exact ⟨iok_int, wi_hi (by decide)⟩
      exact fin _ _ w x y (ex.trans (Ex.new fT)) (hw.ex (Ex.new fT)) (hx.ex (Ex.new fT)) hyo.1 hv (by rw [hyo.2, Bool.and_false, Bool.and_false])
    · have e := of_decide_eq_false e
      have e : ¬ W / 4 = 1 := fun z => e (by rw [z])
      refine fin _ _ w x _ ex hw hx iok_int hv ?_
      rcases hf with hf | hf
      · exact absurd hf e
      · rw [← Bool.and_assoc, hf, Bool.false_and]
  have s2 : ∀ (G' : Hp) (M' : Mem) (n' : Nat) (c' s' : Int) (w : V), Ex G G' → M'[n']? = some (p, pool c' s') → PoolOk s' → WOk K G' w → wayV w = decide (W % 2 = 0) →
      rd_law_odd_right_2 K (ends R Z) [some (.ref p), some w, some (.int m), some (.int k), some (.int W)] G' M' := by
    intro G' M' n' c' s' w ex hn' hs' hw hv
    refine ⟨G', M', Wk.refl, divW (by decide) (by decide) _, (by show (0 : Int) < _; decide), ite2' (c := decide (V.int (W / 2 % 2) = .int 1)) (fun e => ?_) (fun e => ?_)⟩
    · refine ⟨G', M', Wk.refl, ⟨by decide, by decide, by decide⟩, sz7, fun d fd => ⟨p, 7, n' + 1, c', s', rfl, rfl, hn', hs', by decide, by decide, fun r2 c2 s2 r20 r21 hs2 => ?_⟩⟩
      obtain ⟨y, hy, hym⟩ := at_mem (l := [V.int 0, .int 33, .int (-1), .bl true, .non, .str "3", .int (10 ^ (30 : Int).toNat)]) (r := r2) r20 r21
      refine ⟨_, y, lst_n (n := 0) rfl, hy, ?_⟩
      have hyo : IOk K G' y ∧ withinV y 1 32 = false := by
        simp only [List.mem_cons, List.not_mem_nil, or_false] at hym
        rcases hym with rfl | rfl | rfl | rfl | rfl | rfl | rfl
        · exact ⟨iok_int, wi_lo (by decide)⟩
        · exact ⟨iok_int, wi_hi (by decide)⟩
        · exact ⟨iok_int, wi_lo (by decide)⟩
        · exact ⟨iok_bl, rfl⟩
        · exact ⟨iok_non, rfl⟩
        · exact ⟨iok_str, rfl⟩
        · exact ⟨iok_int, wi_hi (by decide)⟩
      exact s3 _ _ (n' + 1) c2 s2 w y ex (set_n (n := n' + 1) (by exact hn')) hs2 hw hyo.1 hv (.inr (by rw [hyo.2, Bool.and_false]))
    · have e := of_decide_eq_false e
      have e : ¬ W / 2 % 2 = 1 := fun z => e (by rw [z])
      refine s3 _ _ n' c' s' w _ ex hn' hs' hw iok_int hv ?_
      by_cases z : W % 2 = 0
      · exact .inl (by omega)
      · exact .inr (by rw [hv, decide_eq_false z, Bool.false_and])
  refine ⟨G, _, Wk.refl, (by show (0 : Int) < _; decide), ite2' (c := decide (V.int (W % 2) = .int 1)) (fun e => ?_) (fun e => ?_)⟩
  · have e := V.int.inj (of_decide_eq_true e)
    refine ⟨G, _, Wk.refl, sz1, fun T fT => ⟨sz1, fun L fL => fun D fD => ⟨sz9, fun d fd => ⟨p, 9, n + 3, c1, s1, rfl, rfl, set_n hn, hs1, by decide, by decide, fun r2 c2 s2' r20 r21 hs2 => ?_⟩⟩⟩⟩
    obtain ⟨y, hy, hym⟩ := at_mem (l := [V.str "", .str "Scan", .str "scans", .non, .int 0, .ref T, .str "tree ", .ref L, .ref D]) (r := r2) r20 r21
    refine ⟨_, y, lst_n (n := 0) rfl, hy, ?_⟩
    have hyo : WOk K (upd (upd (upd G T (.tup [.str "scan"])) D (.dK [])) L (.lst [.str "scan"])) y ∧ wayV y = false := by
      have hDL : D ≠ L := fun z => fD.2 _ List.mem_cons_self z.symm
      have hTD : T ≠ D := fun z => by have := fD.1; rw [← z, upd_same] at this; cases this
      have hTL : T ≠ L := fun z => by have := fL.1; rw [← z, upd_same] at this; cases this
      simp only [List.mem_cons, List.not_mem_nil, or_false] at hym
      rcases hym with rfl | rfl | rfl | rfl | rfl | rfl | rfl | rfl | rfl
      · exact ⟨wok_str, by decide⟩
      · exact ⟨wok_str, by decide⟩
      · exact ⟨wok_str, by decide⟩
      · exact ⟨⟨.non, fun _ => ty_non, rfl⟩, rfl⟩
      · exact ⟨⟨.int, fun _ => ty_int, rfl⟩, rfl⟩
      · exact ⟨⟨.tuple, fun _ => ty_tup (xs := [.str "scan"]) (.inl (.inl (by rw [upd_ne hTL, upd_ne hTD, upd_same]))), rfl⟩, rfl⟩
      · exact ⟨wok_str, by decide⟩
      · exact ⟨⟨.list, fun _ => ty_lst (.inr sql_new), rfl⟩, rfl⟩
      · exact ⟨⟨.dict, fun _ => ty_dict (.inr (by rw [upd_ne hDL, upd_same])), rfl⟩, rfl⟩
    have hfr : ∀ {G' : Hp} {M' : Mem} {a : Addr} {o : HO}, Fr G' M' a → Ex G' (upd G' a o) := fun f => Ex.new f
    have hLn : (upd (upd G T (.tup [.str "scan"])) D (.dK [])) L = none := by
      rw [upd_ne (fun z => fD.2 _ List.mem_cons_self z)]; exact fL.1
    have exA : Ex G (upd (upd (upd G T (.tup [.str "scan"])) D (.dK [])) L (.lst [.str "scan"])) := ((Ex.new fT).trans (Ex.new fD)).trans (Ex.new' hLn)
    refine kseq_wk (G' := upd (upd (upd G T (.tup [.str "scan"])) D (.dK [])) L (.lst [.str "scan"])) (M' := M.set n (p, pool c2 s2')) ?_ (s2 _ _ n c2 s2' y exA (set_n hn) hs2 hyo.1 (by rw [hyo.2, decide_eq_false (by omega)]))
    simp only [List.set_cons_succ, List.set_set]
    exact Wk.drop0.trans (Wk.frz0.trans Wk.frz0)
  · have e := of_decide_eq_false e
    have e : ¬ W % 2 = 1 := fun z => e (by rw [z])
    exact s2 _ _ n c1 s1 _ Ex.refl (set_n hn) hs1 wok_str (by rw [hg, decide_eq_true (by omega)])
theorem nat_inj {m m' lo hi : Nat} (h : natOk (.int (m : Int)) m' lo hi) : m' = m := by
  have := V.int.inj h.1
  omega
theorem kinds_len_all : (waysL.all fun w => (List.range 33).all fun m => decide (m = 0) || (List.range 61).all fun q => decide ((kindsK w m q).length ≤ 1000)) = true := by decide +kernel
theorem kinds_len {w : Str} {m q : Nat} (hw : waysL.contains w = true) (m0 : 1 ≤ m) (m1 : m ≤ 32) (q1 : q ≤ 60) : (kindsK w m q).length ≤ 1000 := by
  have a := List.all_eq_true.mp (List.all_eq_true.mp kinds_len_all w (List.contains_iff_mem.mp hw)) m (List.mem_range.mpr (by omega))
  rw [decide_eq_false (show ¬ m = 0 by omega), Bool.false_or] at a
  exact of_decide_eq_true (List.all_eq_true.mp a q (List.mem_range.mpr (by omega)))
theorem pf_law_right (h : S_law_right K vs G M R Z) : rd_law_right K (ends R Z) (sta 6 vs) G M := by
  obtain ⟨_, rfl, p, n, c, s, rfl, hn, hs, q⟩ := sp1_of h
  refine ⟨G, M, Wk.refl, sz5, fun d fd => ⟨p, 5, n + 1, c, s, rfl, rfl, hn, hs, by decide, by decide, fun r c1 s1 r0 r1 hs1 => ?_⟩⟩
  obtain ⟨y, hy, hym⟩ := at_mem (l := [V.str "scan", .str "spare", .str "stairs", .str "tree", .str "grove"]) (r := r) r0 r1
  obtain ⟨g, rfl, hg⟩ : ∃ g, y = .str g ∧ waysL.contains g = true := by
    simp only [List.mem_cons, List.not_mem_nil, or_false] at hym
    rcases hym with rfl | rfl | rfl | rfl | rfl <;> exact ⟨_, rfl, by decide⟩
  refine ⟨_, .str g, lst_n (n := 0) rfl, hy, ?_⟩
  refine ⟨G, M.set n (p, pool c1 s1), Wk.drop0, sz3, fun d2 fd2 => ⟨p, 3, n + 1, c1, s1, rfl, rfl, set_n hn, hs1, by decide, by decide, fun r2 c2 s2 r20 r21 hs2 => ?_⟩⟩
  obtain ⟨y2, hy2, hym2⟩ := at_mem (l := [V.int 4, .int 9, .int 32]) (r := r2) r20 r21
  obtain ⟨z2, rfl, z20, z21⟩ : ∃ z : Int, y2 = .int z ∧ 1 ≤ z ∧ z ≤ 32 := by
    simp only [List.mem_cons, List.not_mem_nil, or_false] at hym2
    rcases hym2 with rfl | rfl | rfl <;> exact ⟨_, rfl, by decide, by decide⟩
  refine ⟨_, .int z2, lst_n (n := 0) rfl, hy2, p, z2, n + 1, c2, s2, rfl, rfl, set_n (n := n + 1) (set_n hn), hs2, by omega, by omega, fun r3 c3 s3 r30 r31 hs3 => ?_⟩
  obtain ⟨m, hm⟩ := Int.eq_ofNat_of_zero_le (show 0 ≤ 1 + r3 by omega)
  show rd_law_right_2 K (ends R Z) [some (.ref p), some (.str g), some (.int (1 + r3)), none, none, none] G _
  rw [hm]
  have m0 : 1 ≤ m := by omega
  have m1 : m ≤ 32 := by omega
  refine ⟨G, M.set n (p, pool c3 s3), ?_, sz2, fun d3 fd3 => ⟨p, 2, n + 1, c3, s3, rfl, rfl, set_n hn, hs3, by decide, by decide, fun r4 c4 s4 r40 r41 hs4 => ?_⟩⟩
  · simp only [List.set_cons_succ, List.set_set]
    exact Wk.drop0
  obtain ⟨y3, hy3, hym3⟩ := at_mem (l := [V.int 5, .int 61]) (r := r4) r40 r41
  obtain ⟨z3, rfl, z30, z31⟩ : ∃ z : Int, y3 = .int z ∧ 1 ≤ z ∧ z ≤ 61 := by
    simp only [List.mem_cons, List.not_mem_nil, or_false] at hym3
    rcases hym3 with rfl | rfl <;> exact ⟨_, rfl, by decide, by decide⟩
  refine ⟨_, .int z3, lst_n (n := 0) rfl, hy3, p, z3, n + 1, c4, s4, rfl, rfl, set_n (n := n + 1) (set_n hn), hs4, by omega, by omega, fun r5 c5 s5 r50 r51 hs5 => ?_⟩
  obtain ⟨k, rfl⟩ := Int.eq_ofNat_of_zero_le r50
  have k1 : k ≤ 60 := by omega
  have hln := kinds_len hg m0 m1 k1
  refine ⟨G, M.set n (p, pool c5 s5), ?_, g, m, k, rfl, ⟨rfl, m0, m1⟩, ⟨rfl, by omega, k1⟩, fun t us G1 x1 hd1 => ?_⟩
  · simp only [List.set_cons_succ, List.set_set]
    exact Wk.drop0
  have needs : ∀ {G' : Hp} {M' : Mem} {R' : KR} {Z' : KX}, KndsR K G' M' (kindsK g m k) R' → S_needs K [.str g, .int (m : Int), .int (k : Int)] G' M' R' Z' := fun {G' M' R' Z'} hR => by
    refine ⟨.str, .int, .int, ty_str, rfl, ty_int, rfl, ty_int, rfl, fun s m' k' e1 _ hm hk => ?_, fun z => ?_, fun _ z => ?_⟩
    · rw [nat_inj hm, nat_inj hk, ← V.str.inj e1]; exact hR
    · have z : waysL.contains g = false := z
      rw [hg] at z; cases z
    · rw [wi_in (by omega) (by omega), wi_in (by omega) (by omega)] at z; cases z
  refine ⟨G1, _, Wk.refl, needs fun t2 us2 G2 x2 hd2 => ?_⟩
  refine ⟨G2, _, Wk.refl, t2, t, us2, us, kindsK g m k, rfl, rfl, lat_0, hd2, lat_cons lat_0, ex_ds x2 _ hd1, hln, ?_⟩
  have hu2 : us2.length ≤ 1000 := by rw [dpall_len hd2, List.length_map]; exact hln
  refine ⟨G2, _, Wk.refl, tyl_n (n := 0) rfl, sz2, fun T fT => ⟨0, us2, rfl, sz (by show us2.length + 1 ≤ _; omega), ?_⟩⟩
  refine ⟨_, (t, .lst us) :: M.set n (p, pool c5 s5), Wk.drop0, needs fun t3 us3 G3 x3 hd3 => ?_⟩
  refine ⟨t3, t, us3, us, kindsK g m k, rfl, rfl, lat_0, hd3, lat_cons lat_0, ex_ds ((x2.trans (Ex.new fT)).trans x3) _ hd1, hln, ?_⟩
  refine ⟨p, n + 2, c5, s5, g, m, k, rfl, set_n hn, hs5, rfl, hg, ⟨rfl, m0, m1⟩, ⟨rfl, by omega, k1⟩, fun G4 M4 x4 => ret0 ?_⟩
  exact q G4 M4 ((((x1.trans x2).trans (Ex.new fT)).trans x3).trans x4)
theorem pf_law (h : S_law K vs G M R Z) : rd_law K (ends R Z) (sta 2 vs) G M := by
  obtain ⟨_, rfl, a, ns, rfl, hS, hl, q⟩ := sp1_of h
  refine ⟨G, M, Wk.refl, fun hW => ⟨sz5, fun t ft => ?_⟩⟩
  obtain ⟨D, hD⟩ : ∃ D, D = PyData.tuple [.str "scan", .str "spare", .str "stairs", .str "tree", .str "grove"] := ⟨_, rfl⟩
  have hdp : ∀ Gx : Hp, DpAll K Gx con_WAYS [.str "scan", .str "spare", .str "stairs", .str "tree", .str "grove"] := fun _ => .cons (.str _) (.cons (.str _) (.cons (.str _) (.cons (.str _) (.cons (.str _) .nil))))
  have sh : Shp 1 D := by
    rw [hD]
    refine .tuple fun d hd => ?_
    simp only [List.mem_cons, List.not_mem_nil, or_false] at hd
    rcases hd with rfl | rfl | rfl | rfl | rfl <;> exact .str (by decide +kernel)
  refine ⟨D, D, by rw [hD]; exact dat_tup (hW _) (dats_g (hdp _)), by rw [hD]; exact dat_tup sqt_new (dats_g (hdp _)), sh.shaped (by decide), sh.shaped (by decide), ?_⟩
  refine ite2' (c := !PyData.eqv D D) (fun e => by rw [sh.refl] at e; cases e) (fun _ => ?_)
  have x0 : Ex G (upd G t (.tup con_WAYS)) := Ex.new ft
  refine ⟨_, M, Wk.refl, _, lst_g (ex_l x0 hS), ?_⟩
  have hlen : ((ns.map V.int).length : Int) ≤ 63 := by rw [List.length_map]; omega
  refine ⟨⟨by omega, by omega⟩, fun i σ G' M' => ∃ y1, σ = [some (.ref a), y1] ∧ Ex G G', ⟨none, rfl, x0⟩, fun _ _ _ _ _ _ => trivial, ?_, ?_⟩
  · rintro i σ G' M' hi ⟨y1, rfl, ex⟩
    have hi : i < (max 1 (min ((ns.map V.int).length : Int) 63)).toNat := hi
    refine ⟨G', M', Wk.refl, a, ns, 0 + i, rfl, rfl, ex_l ex hS, by omega, by omega, hl, fun p c s fp hs => ⟨p, 0, c, s, rfl, rfl, hs, fun G2 M2 ex2 => ?_⟩⟩
    exact ⟨G2, M2, Wk.refl, _, rfl, ex.trans ex2⟩
  · rintro σ G' M' ⟨y1, rfl, ex⟩
    exact ⟨_, _, Wk.refl, ret0 (q _ _)⟩
end
def topS (i : Nat) : Stmt := PySem.Challenge.pw_blindtouch_k08_needs_told.main.body.getD i (.Pass ⟨0, 0, 0, 0⟩)
structure Bs (mg : Str → Option Value) : Prop where
  ValueError : mg "ValueError" = none
  bool : mg "bool" = none
  int : mg "int" = none
  isinstance : mg "isinstance" = none
  len : mg "len" = none
  list : mg "list" = none
  max : mg "max" = none
  min : mg "min" = none
  range : mg "range" = none
  str : mg "str" = none
  sum : mg "sum" = none
  tuple : mg "tuple" = none
structure Cs (K : PySem.W.Frag) (mg : Str → Option Value) : Prop where
  g_TouchError : XG K mg "TouchError"
  g_NoSize : XG K mg "NoSize"
  g_NoWay : XG K mg "NoWay"
  g_Over : XG K mg "Over"
  r_NoSize : XR K "NoSize"
  r_NoWay : XR K "NoWay"
  t_TouchError : ∀ p ∈ tab_tr_TouchError, PySem.W.exmOne K (.ref (cl K p.1)) (.ref (cl K "TouchError")) = some p.2
  n_NoSize : PySem.W.kitOne K (.type "NoneType") (.ref (cl K "NoSize")) = some false
  j_NoSize : ∀ p ∈ tab_is_NoSize, ExcC K (cl K p.1) ∧ PySem.W.kitOne K (.ref (cl K p.1)) (.ref (cl K "NoSize")) = some p.2
  n_NoWay : PySem.W.kitOne K (.type "NoneType") (.ref (cl K "NoWay")) = some false
  j_NoWay : ∀ p ∈ tab_is_NoWay, ExcC K (cl K p.1) ∧ PySem.W.kitOne K (.ref (cl K p.1)) (.ref (cl K "NoWay")) = some p.2
  n_Over : PySem.W.kitOne K (.type "NoneType") (.ref (cl K "Over")) = some false
  j_Over : ∀ p ∈ tab_is_Over, ExcC K (cl K p.1) ∧ PySem.W.kitOne K (.ref (cl K p.1)) (.ref (cl K "Over")) = some p.2
  n_ValueError : PySem.W.kitOne K (.type "NoneType") (.type "ValueError") = some false
  j_ValueError : ∀ p ∈ tab_is_ValueError, ExcC K (cl K p.1) ∧ PySem.W.kitOne K (.ref (cl K p.1)) (.type "ValueError") = some p.2
  k_MOST_CELLS : ∃ u, mg "MOST_CELLS" = some u ∧ RelV (.int 32) u
  k_MOST_ASKS : ∃ u, mg "MOST_ASKS" = some u ∧ RelV (.int 60) u
  k_TABLE : ∃ u, mg "TABLE" = some u ∧ RelV (.int 4) u
  k_WAYS : XT K mg "WAYS" con_WAYS
abbrev s_law_pool : Stmt := topS 29
abbrev N_law_pool : List Str := ["_law_script", "_law_k", "_law_cell", "_law_seed"]
theorem sc_law_pool : FnScope N_law_pool ["_law_script", "_law_k"] (defScope s_law_pool) := ⟨rfl, rfl, rfl, by decide +kernel, rfl, by decide +kernel, by decide +kernel⟩
theorem fo_law_pool {P : Program} {w : World} {K : PySem.W.Frag} {mg : Str → Option Value} {base : Heap} {f : Addr} {fd : FuncData} (B : Bs mg) (C : Cs K mg) (F : Fun K "_law_pool" "_law_pool" s_law_pool f fd)  :
    FnOk P w K mg base (L2.CX P w) 1 f fd ["_law_script", "_law_k"] (lift (S_law_pool K)) := by
  refine fn_ok F sc_law_pool (fun vs G M R Z h => sp_len2 h) (fun cdv A outer s H E hr => ?_)
  have nd : N_law_pool.Nodup := sc_law_pool.nd
  have hu : _ + 64 < cLine := hr.units
  have tk : Takes (cxOf (L2.CX P w) P w K mg base N_law_pool "_law_pool" (defScope s_law_pool) f cdv A outer s H E) (fun c d _ H => E c d H) := takes_of rfl rfl rfl rfl
  have po : PassesOwn (model P w) _ _ _ := passes_of (X := cxOf (L2.CX P w) P w K mg base N_law_pool "_law_pool" (defScope s_law_pool) f cdv A outer s H E) rfl
  exact ⟨rd_law_pool K, jss_cons (js_set (i := 2) (je_int) nd) (jss_cons (js_if (jt_cmp (kop_lt) (je_var 1) (je_callB kc_len B.len (ja_cons (je_var 0) (ja_nil))) (nomark _)) (jss_cons (js_set (i := 2) (je_ix (je_var 0) (je_var 1)) nd) (jss_nil)) (jss_nil)) (jss_cons (js_set (i := 3) (je_op kop_mod (je_op kop_mul (je_op kop_add (je_op kop_add (je_op kop_mod (je_var 2) (je_int)) (je_op kop_mul (je_op kop_mul (je_int) (je_var 1)) (je_var 1))) (je_int)) (je_int)) (je_int)) nd) (jss_cons (js_if (jt_cmp (kop_lt) (je_var 2) (je_op kop_pow (je_int) (je_int)) (nomark _)) (jss_cons (js_set (i := 2) (je_int) nd) (jss_nil)) (jss_nil)) (jss_cons (js_ret (je_lst (ja_cons (je_var 2) (ja_cons (je_var 3) (ja_nil))))) (jss_nil))))), fun vs G M R Z h => pf_law_pool h⟩
theorem df_law_pool {P : Program} {w : World} {K : PySem.W.Frag} {mg : Str → Option Value} {base : Heap} {f : Addr} {fd : FuncData} (B : Bs mg) (C : Cs K mg) (F : Fun K "_law_pool" "_law_pool" s_law_pool f fd) (b : Binds K fd ["_law_script", "_law_k"] []) (gm : mg "_law_pool" = some (.ref f))  :
    Def P w K mg base 1 "_law_pool" ["_law_script", "_law_k"] (S_law_pool K) := ⟨f, fd, fo_law_pool B C F , gm, F.kp, b⟩
abbrev s_law_take : Stmt := topS 30
abbrev N_law_take : List Str := ["_law_pool_here", "_law_many", "_law_found"]
theorem sc_law_take : FnScope N_law_take ["_law_pool_here", "_law_many"] (defScope s_law_take) := ⟨rfl, rfl, rfl, by decide +kernel, rfl, by decide +kernel, by decide +kernel⟩
theorem fo_law_take {P : Program} {w : World} {K : PySem.W.Frag} {mg : Str → Option Value} {base : Heap} {f : Addr} {fd : FuncData} (B : Bs mg) (C : Cs K mg) (F : Fun K "_law_take" "_law_take" s_law_take f fd)  :
    FnOk P w K mg base (L2.CX P w) 1 f fd ["_law_pool_here", "_law_many"] (lift (S_law_take K)) := by
  refine fn_ok F sc_law_take (fun vs G M R Z h => sp_len2 h) (fun cdv A outer s H E hr => ?_)
  have nd : N_law_take.Nodup := sc_law_take.nd
  have hu : _ + 64 < cLine := hr.units
  have tk : Takes (cxOf (L2.CX P w) P w K mg base N_law_take "_law_take" (defScope s_law_take) f cdv A outer s H E) (fun c d _ H => E c d H) := takes_of rfl rfl rfl rfl
  have po : PassesOwn (model P w) _ _ _ := passes_of (X := cxOf (L2.CX P w) P w K mg base N_law_take "_law_take" (defScope s_law_take) f cdv A outer s H E) rfl
  exact ⟨rd_law_take K, jss_cons (js_if (jt_cmp (kop_gt) (je_ix (je_var 0) (je_int)) (je_int) (nomark _)) (jss_cons (js_set (i := 2) (je_op kop_mod (je_ix (je_var 0) (je_int)) (je_var 1)) nd) (jss_cons (js_asg (je_op kop_fdiv (je_ix (je_var 0) (je_int)) (je_var 1)) (jg_ix (je_var 0) (je_int))) (jss_cons (js_ret (je_var 2)) (jss_nil)))) (jss_nil)) (jss_cons (js_asg (je_op kop_mod (je_op kop_add (je_op kop_mul (je_ix (je_var 0) (je_int)) (je_int)) (je_int)) (je_int)) (jg_ix (je_var 0) (je_int))) (jss_cons (js_ret (je_op kop_mod (je_op kop_fdiv (je_op kop_mod (je_op kop_mul (je_ix (je_var 0) (je_int)) (je_ix (je_var 0) (je_int))) (je_int)) (je_int)) (je_var 1))) (jss_nil))), fun vs G M R Z h => pf_law_take h⟩
theorem df_law_take {P : Program} {w : World} {K : PySem.W.Frag} {mg : Str → Option Value} {base : Heap} {f : Addr} {fd : FuncData} (B : Bs mg) (C : Cs K mg) (F : Fun K "_law_take" "_law_take" s_law_take f fd) (b : Binds K fd ["_law_pool_here", "_law_many"] []) (gm : mg "_law_take" = some (.ref f))  :
    Def P w K mg base 1 "_law_take" ["_law_pool_here", "_law_many"] (S_law_take K) := ⟨f, fd, fo_law_take B C F , gm, F.kp, b⟩
abbrev s_law_spare : Stmt := topS 33
abbrev N_law_spare : List Str := ["_law_many", "_law_most", "_law_side", "_law_k"]
theorem sc_law_spare : FnScope N_law_spare ["_law_many", "_law_most"] (defScope s_law_spare) := ⟨rfl, rfl, rfl, by decide +kernel, rfl, by decide +kernel, by decide +kernel⟩
theorem fo_law_spare {P : Program} {w : World} {K : PySem.W.Frag} {mg : Str → Option Value} {base : Heap} {f : Addr} {fd : FuncData} (B : Bs mg) (C : Cs K mg) (F : Fun K "_law_spare" "_law_spare" s_law_spare f fd)  :
    FnOk P w K mg base (L2.CX P w) 1 f fd ["_law_many", "_law_most"] (lift (S_law_spare K)) := by
  refine fn_ok F sc_law_spare (fun vs G M R Z h => sp_len2 h) (fun cdv A outer s H E hr => ?_)
  have nd : N_law_spare.Nodup := sc_law_spare.nd
  have hu : _ + 64 < cLine := hr.units
  have tk : Takes (cxOf (L2.CX P w) P w K mg base N_law_spare "_law_spare" (defScope s_law_spare) f cdv A outer s H E) (fun c d _ H => E c d H) := takes_of rfl rfl rfl rfl
  have po : PassesOwn (model P w) _ _ _ := passes_of (X := cxOf (L2.CX P w) P w K mg base N_law_spare "_law_spare" (defScope s_law_spare) f cdv A outer s H E) rfl
  exact ⟨rd_law_spare K, jss_cons (js_set (i := 2) (je_ix (je_comp (own := [("_law_k", 3)]) rfl nd (ji_range2 B.range (ja_cons (je_int) (ja_cons (je_int) (ja_nil)))) (blkOk_by (own := [("_law_k", 3)]) (N := N_law_spare) (sc := defScope s_law_spare) (by decide +kernel)) (fun _ _ _ _ _ => by exact jg_name (i := 3) nd) (fun _ _ _ _ _ => by exact jts_one (jt_cmp (kop_ge) (je_op kop_mul (je_var 3) (je_var 3)) (je_var 0) (nomark _))) (fun _ _ _ _ _ => by exact je_var 3)) (je_int)) nd) (jss_cons (js_ret (je_op kop_mul (je_lst (ja_cons (je_tup (ja_cons (je_str) (ja_cons (je_op kop_add (je_var 0) (je_var 2)) (ja_nil)))) (ja_nil))) (je_op kop_fdiv (je_op kop_sub (je_op kop_add (je_var 1) (je_var 2)) (je_int)) (je_var 2)))) (jss_nil)), fun vs G M R Z h => pf_law_spare h⟩
theorem df_law_spare {P : Program} {w : World} {K : PySem.W.Frag} {mg : Str → Option Value} {base : Heap} {f : Addr} {fd : FuncData} (B : Bs mg) (C : Cs K mg) (F : Fun K "_law_spare" "_law_spare" s_law_spare f fd) (b : Binds K fd ["_law_many", "_law_most"] []) (gm : mg "_law_spare" = some (.ref f))  :
    Def P w K mg base 1 "_law_spare" ["_law_many", "_law_most"] (S_law_spare K) := ⟨f, fd, fo_law_spare B C F , gm, F.kp, b⟩
abbrev s_law_stairs : Stmt := topS 34
abbrev N_law_stairs : List Str := ["_law_many", "_law_most", "_law_last", "_law_k", "_law_kinds", "_law_pour", "_law_stair"]
theorem sc_law_stairs : FnScope N_law_stairs ["_law_many", "_law_most"] (defScope s_law_stairs) := ⟨rfl, rfl, rfl, by decide +kernel, rfl, by decide +kernel, by decide +kernel⟩
theorem fo_law_stairs {P : Program} {w : World} {K : PySem.W.Frag} {mg : Str → Option Value} {base : Heap} {f : Addr} {fd : FuncData} (B : Bs mg) (C : Cs K mg) (F : Fun K "_law_stairs" "_law_stairs" s_law_stairs f fd)  :
    FnOk P w K mg base (L2.CX P w) 1 f fd ["_law_many", "_law_most"] (lift (S_law_stairs K)) := by
  refine fn_ok F sc_law_stairs (fun vs G M R Z h => sp_len2 h) (fun cdv A outer s H E hr => ?_)
  have nd : N_law_stairs.Nodup := sc_law_stairs.nd
  have hu : _ + 64 < cLine := hr.units
  have tk : Takes (cxOf (L2.CX P w) P w K mg base N_law_stairs "_law_stairs" (defScope s_law_stairs) f cdv A outer s H E) (fun c d _ H => E c d H) := takes_of rfl rfl rfl rfl
  have po : PassesOwn (model P w) _ _ _ := passes_of (X := cxOf (L2.CX P w) P w K mg base N_law_stairs "_law_stairs" (defScope s_law_stairs) f cdv A outer s H E) rfl
  exact ⟨rd_law_stairs K, jss_cons (js_set (i := 2) (je_ix (je_comp (own := [("_law_k", 3)]) rfl nd (ji_range1 B.range (ja_cons (je_int) (ja_nil))) (blkOk_by (own := [("_law_k", 3)]) (N := N_law_stairs) (sc := defScope s_law_stairs) (by decide +kernel)) (fun _ _ _ _ _ => by exact jg_name (i := 3) nd) (fun _ _ _ _ _ => by exact jts_one (jt_cmp (kop_ge) (je_op kop_shl (je_int) (je_var 3)) (je_var 0) (nomark _))) (fun _ _ _ _ _ => by exact je_var 3)) (je_int)) nd) (jss_cons (js_set (i := 4) (je_op kop_mul (je_lst (ja_cons (je_tup (ja_cons (je_str) (ja_cons (je_op kop_add (je_var 0) (je_op kop_shl (je_int) (je_var 2))) (ja_nil)))) (ja_nil))) (je_callB kc_min2 B.min (ja_cons (je_var 1) (ja_cons (je_int) (ja_nil))))) nd) (jss_cons (js_for po rfl (ji_range2 B.range (ja_cons (je_int) (ja_cons (je_int) (ja_nil)))) (jg_name (i := 5) nd) (jss_cons (js_if (jt_cmp (kop_lt) (je_op kop_mul (je_int) (je_var 5)) (je_var 1) (nomark _)) (jss_cons (js_set (i := 6) (je_ix (je_comp (own := [("_law_k", 3)]) rfl nd (ji_range1 B.range (ja_cons (je_int) (ja_nil))) (blkOk_by (own := [("_law_k", 3)]) (N := N_law_stairs) (sc := defScope s_law_stairs) (by decide +kernel)) (fun _ _ _ _ _ => by exact jg_name (i := 3) nd) (fun _ _ _ _ _ => by exact jts_one ((jw_or (jt_cmp (kop_eq hu) (je_var 3) (je_var 2) (nomark _)) (jw_or1 (jt_cmp (kop_ne hu) (je_op kop_mod (je_var 5) (je_op kop_shl (je_int) (je_var 3))) (je_int) (nomark _)))).jt)) (fun _ _ _ _ _ => by exact je_var 3)) (je_int)) nd) (jss_cons (js_expr (je_bm PySem.F.plainAttrs_list PySem.F.slot_list_append PySem.F.type_list_append km_append (je_var 4) (ja_cons (je_tup (ja_cons (je_str) (ja_cons (je_ix (je_lst (ja_cons (je_op kop_shl (je_int) (je_var 6)) (ja_cons (je_op kop_add (je_var 0) (je_op kop_shl (je_int) (je_var 2))) (ja_nil)))) (je_callTy kc_int B.int (ja_cons (je_cmp (kop_eq hu) (je_var 6) (je_var 2) (nomark _)) (ja_nil)))) (ja_nil)))) (ja_nil)))) (jss_nil))) (jss_nil)) (jss_nil))) (jss_cons (js_ret (je_var 4)) (jss_nil)))), fun vs G M R Z h => pf_law_stairs h⟩
theorem df_law_stairs {P : Program} {w : World} {K : PySem.W.Frag} {mg : Str → Option Value} {base : Heap} {f : Addr} {fd : FuncData} (B : Bs mg) (C : Cs K mg) (F : Fun K "_law_stairs" "_law_stairs" s_law_stairs f fd) (b : Binds K fd ["_law_many", "_law_most"] []) (gm : mg "_law_stairs" = some (.ref f))  :
    Def P w K mg base 1 "_law_stairs" ["_law_many", "_law_most"] (S_law_stairs K) := ⟨f, fd, fo_law_stairs B C F , gm, F.kp, b⟩
abbrev s_law_high : Stmt := topS 32
abbrev N_law_high : List Str := ["_law_many", "_law_k"]
theorem sc_law_high : FnScope N_law_high ["_law_many"] (defScope s_law_high) := ⟨rfl, rfl, rfl, by decide +kernel, rfl, by decide +kernel, by decide +kernel⟩
theorem fo_law_high {P : Program} {w : World} {K : PySem.W.Frag} {mg : Str → Option Value} {base : Heap} {f : Addr} {fd : FuncData} (B : Bs mg) (C : Cs K mg) (F : Fun K "_law_high" "_law_high" s_law_high f fd)  :
    FnOk P w K mg base (L2.CX P w) 1 f fd ["_law_many"] (lift (S_law_high K)) := by
  refine fn_ok F sc_law_high (fun vs G M R Z h => sp_len1 h) (fun cdv A outer s H E hr => ?_)
  have nd : N_law_high.Nodup := sc_law_high.nd
  have hu : _ + 64 < cLine := hr.units
  have tk : Takes (cxOf (L2.CX P w) P w K mg base N_law_high "_law_high" (defScope s_law_high) f cdv A outer s H E) (fun c d _ H => E c d H) := takes_of rfl rfl rfl rfl
  have po : PassesOwn (model P w) _ _ _ := passes_of (X := cxOf (L2.CX P w) P w K mg base N_law_high "_law_high" (defScope s_law_high) f cdv A outer s H E) rfl
  exact ⟨rd_law_high K, jss_cons (js_ret (je_callB kc_len B.len (ja_cons (je_comp (own := [("_law_k", 1)]) rfl nd (ji_range1 B.range (ja_cons (je_int) (ja_nil))) (blkOk_by (own := [("_law_k", 1)]) (N := N_law_high) (sc := defScope s_law_high) (by decide +kernel)) (fun _ _ _ _ _ => by exact jg_name (i := 1) nd) (fun _ _ _ _ _ => by exact jts_one (jt_cmp (kop_lt) (je_op kop_shl (je_int) (je_var 1)) (je_var 0) (nomark _))) (fun _ _ _ _ _ => by exact je_var 1)) (ja_nil)))) (jss_nil), fun vs G M R Z h => pf_law_high h⟩
theorem df_law_high {P : Program} {w : World} {K : PySem.W.Frag} {mg : Str → Option Value} {base : Heap} {f : Addr} {fd : FuncData} (B : Bs mg) (C : Cs K mg) (F : Fun K "_law_high" "_law_high" s_law_high f fd) (b : Binds K fd ["_law_many"] []) (gm : mg "_law_high" = some (.ref f))  :
    Def P w K mg base 1 "_law_high" ["_law_many"] (S_law_high K) := ⟨f, fd, fo_law_high B C F , gm, F.kp, b⟩
abbrev s_law_trees : Stmt := topS 35
abbrev N_law_trees : List Str := ["_law_trees_here", "_law_most", "_law_kinds", "_law_many", "_law_k"]
theorem sc_law_trees : FnScope N_law_trees ["_law_trees_here", "_law_most"] (defScope s_law_trees) := ⟨rfl, rfl, rfl, by decide +kernel, rfl, by decide +kernel, by decide +kernel⟩
theorem fo_law_trees {P : Program} {w : World} {K : PySem.W.Frag} {mg : Str → Option Value} {base : Heap} {f : Addr} {fd : FuncData} (B : Bs mg) (C : Cs K mg) (F : Fun K "_law_trees" "_law_trees" s_law_trees f fd) (D_law_high : Def P w K mg base 1 "_law_high" ["_law_many"] (S_law_high K)) :
    FnOk P w K mg base (L2.CX P w) 2 f fd ["_law_trees_here", "_law_most"] (lift (S_law_trees K)) := by
  refine fn_ok F sc_law_trees (fun vs G M R Z h => sp_len2 h) (fun cdv A outer s H E hr => ?_)
  have nd : N_law_trees.Nodup := sc_law_trees.nd
  have hu : _ + 64 < cLine := hr.units
  have tk : Takes (cxOf (L2.CX P w) P w K mg base N_law_trees "_law_trees" (defScope s_law_trees) f cdv A outer s H E) (fun c d _ H => E c d H) := takes_of rfl rfl rfl rfl
  have po : PassesOwn (model P w) _ _ _ := passes_of (X := cxOf (L2.CX P w) P w K mg base N_law_trees "_law_trees" (defScope s_law_trees) f cdv A outer s H E) rfl
  exact ⟨rd_law_trees K, jss_cons (js_set (i := 2) (je_lst (ja_nil)) nd) (jss_cons (js_for po rfl (ji_list (je_var 0)) (jg_name (i := 3) nd) (jss_cons (js_expr (je_bm PySem.F.plainAttrs_list PySem.F.slot_list_extend PySem.F.type_list_extend km_extend (je_var 2) (ja_cons (je_comp (own := [("_law_k", 4)]) rfl nd (ji_range1 B.range (ja_cons (je_var 3) (ja_nil))) (blkOk_by (own := [("_law_k", 4)]) (N := N_law_trees) (sc := defScope s_law_trees) (by decide +kernel)) (fun _ _ _ _ _ => by exact jg_name (i := 4) nd) (fun _ _ _ _ _ => by exact jts_nil) (fun _ _ _ _ _ => by exact je_tup (ja_cons (je_str) (ja_cons (je_callD D_law_high hr takes0 (ja_cons (je_var 3) (ja_nil))) (ja_nil))))) (ja_nil)))) (jss_nil))) (jss_cons (js_for po rfl (ji_range1 B.range (ja_cons (je_var 1) (ja_nil))) (jg_name (i := 4) nd) (jss_cons (js_expr (je_bm PySem.F.plainAttrs_list PySem.F.slot_list_extend PySem.F.type_list_extend km_extend (je_var 2) (ja_cons (je_comp (own := [("_law_many", 3)]) rfl nd (ji_list (je_var 0)) (blkOk_by (own := [("_law_many", 3)]) (N := N_law_trees) (sc := defScope s_law_trees) (by decide +kernel)) (fun _ _ _ _ _ => by exact jg_name (i := 3) nd) (fun _ _ _ _ _ => by exact jts_nil) (fun _ _ _ _ _ => by exact je_tup (ja_cons (je_str) (ja_cons (je_callD D_law_high hr takes0 (ja_cons (je_var 3) (ja_nil))) (ja_nil))))) (ja_nil)))) (jss_nil))) (jss_cons (js_ret (je_var 2)) (jss_nil)))), fun vs G M R Z h => pf_law_trees h⟩
theorem df_law_trees {P : Program} {w : World} {K : PySem.W.Frag} {mg : Str → Option Value} {base : Heap} {f : Addr} {fd : FuncData} (B : Bs mg) (C : Cs K mg) (F : Fun K "_law_trees" "_law_trees" s_law_trees f fd) (b : Binds K fd ["_law_trees_here", "_law_most"] []) (gm : mg "_law_trees" = some (.ref f)) (D_law_high : Def P w K mg base 1 "_law_high" ["_law_many"] (S_law_high K)) :
    Def P w K mg base 2 "_law_trees" ["_law_trees_here", "_law_most"] (S_law_trees K) := ⟨f, fd, fo_law_trees B C F D_law_high, gm, F.kp, b⟩
abbrev s_law_due : Stmt := topS 36
abbrev N_law_due : List Str := ["_law_way", "_law_many", "_law_most", "_law_trees_here"]
theorem sc_law_due : FnScope N_law_due ["_law_way", "_law_many", "_law_most"] (defScope s_law_due) := ⟨rfl, rfl, rfl, by decide +kernel, rfl, by decide +kernel, by decide +kernel⟩
theorem fo_law_due {P : Program} {w : World} {K : PySem.W.Frag} {mg : Str → Option Value} {base : Heap} {f : Addr} {fd : FuncData} (B : Bs mg) (C : Cs K mg) (F : Fun K "_law_due" "_law_due" s_law_due f fd) (D_law_spare : Def P w K mg base 1 "_law_spare" ["_law_many", "_law_most"] (S_law_spare K)) (D_law_stairs : Def P w K mg base 1 "_law_stairs" ["_law_many", "_law_most"] (S_law_stairs K)) (D_law_trees : Def P w K mg base 2 "_law_trees" ["_law_trees_here", "_law_most"] (S_law_trees K)) :
    FnOk P w K mg base (L2.CX P w) 3 f fd ["_law_way", "_law_many", "_law_most"] (lift (S_law_due K)) := by
  refine fn_ok F sc_law_due (fun vs G M R Z h => sp_len3 h) (fun cdv A outer s H E hr => ?_)
  have nd : N_law_due.Nodup := sc_law_due.nd
  have hu : _ + 64 < cLine := hr.units
  have tk : Takes (cxOf (L2.CX P w) P w K mg base N_law_due "_law_due" (defScope s_law_due) f cdv A outer s H E) (fun c d _ H => E c d H) := takes_of rfl rfl rfl rfl
  have po : PassesOwn (model P w) _ _ _ := passes_of (X := cxOf (L2.CX P w) P w K mg base N_law_due "_law_due" (defScope s_law_due) f cdv A outer s H E) rfl
  exact ⟨rd_law_due K, jss_cons (js_set (i := 3) (je_lst (ja_cons (je_var 1) (ja_nil))) nd) (jss_cons (js_while po (jt_cmp (kop_gt) (je_ix (je_var 3) (je_neg (je_int))) (je_int) (nomark _)) (jss_cons (js_set (i := 3) (je_op kop_add (je_var 3) (je_lst (ja_cons (je_op kop_fdiv (je_op kop_add (je_ix (je_var 3) (je_neg (je_int))) (je_int)) (je_int)) (ja_nil)))) nd) (jss_nil))) (jss_cons (js_if (jt_cmp (kop_eq hu) (je_var 0) (je_str) (nomark _)) (jss_cons (js_ret (je_callD D_law_spare hr tk (ja_cons (je_var 1) (ja_cons (je_var 2) (ja_nil))))) (jss_nil)) (jss_nil)) (jss_cons (js_if (jt_cmp (kop_eq hu) (je_var 0) (je_str) (nomark _)) (jss_cons (js_ret (je_callD D_law_stairs hr tk (ja_cons (je_var 1) (ja_cons (je_var 2) (ja_nil))))) (jss_nil)) (jss_nil)) (jss_cons (js_if (jt_cmp (kop_eq hu) (je_var 0) (je_str) (nomark _)) (jss_cons (js_ret (je_callD D_law_trees hr tk (ja_cons (je_lst (ja_cons (je_var 1) (ja_nil))) (ja_cons (je_var 2) (ja_nil))))) (jss_nil)) (jss_nil)) (jss_cons (js_ret (je_ix (je_lst (ja_cons (je_lst (ja_nil)) (ja_cons (je_callD D_law_trees hr tk (ja_cons (je_var 3) (ja_cons (je_var 2) (ja_nil)))) (ja_nil)))) (je_callTy kc_int B.int (ja_cons (je_cmp (kop_eq hu) (je_var 0) (je_str) (nomark _)) (ja_nil))))) (jss_nil)))))), fun vs G M R Z h => pf_law_due h⟩
theorem df_law_due {P : Program} {w : World} {K : PySem.W.Frag} {mg : Str → Option Value} {base : Heap} {f : Addr} {fd : FuncData} (B : Bs mg) (C : Cs K mg) (F : Fun K "_law_due" "_law_due" s_law_due f fd) (b : Binds K fd ["_law_way", "_law_many", "_law_most"] []) (gm : mg "_law_due" = some (.ref f)) (D_law_spare : Def P w K mg base 1 "_law_spare" ["_law_many", "_law_most"] (S_law_spare K)) (D_law_stairs : Def P w K mg base 1 "_law_stairs" ["_law_many", "_law_most"] (S_law_stairs K)) (D_law_trees : Def P w K mg base 2 "_law_trees" ["_law_trees_here", "_law_most"] (S_law_trees K)) :
    Def P w K mg base 3 "_law_due" ["_law_way", "_law_many", "_law_most"] (S_law_due K) := ⟨f, fd, fo_law_due B C F D_law_spare D_law_stairs D_law_trees, gm, F.kp, b⟩
abbrev s_look_at_way : Stmt := topS 22
abbrev N_look_at_way : List Str := ["way"]
theorem sc_look_at_way : FnScope N_look_at_way ["way"] (defScope s_look_at_way) := ⟨rfl, rfl, rfl, by decide +kernel, rfl, by decide +kernel, by decide +kernel⟩
theorem fo_look_at_way {P : Program} {w : World} {K : PySem.W.Frag} {mg : Str → Option Value} {base : Heap} {f : Addr} {fd : FuncData} (B : Bs mg) (C : Cs K mg) (F : Fun K "look_at_way" "look_at_way" s_look_at_way f fd)  :
    FnOk P w K mg base (L2.CX P w) 1 f fd ["way"] (lift (S_look_at_way K)) := by
  refine fn_ok F sc_look_at_way (fun vs G M R Z h => sp_len1 h) (fun cdv A outer s H E hr => ?_)
  have nd : N_look_at_way.Nodup := sc_look_at_way.nd
  have hu : _ + 64 < cLine := hr.units
  have tk : Takes (cxOf (L2.CX P w) P w K mg base N_look_at_way "look_at_way" (defScope s_look_at_way) f cdv A outer s H E) (fun c d _ H => E c d H) := takes_of rfl rfl rfl rfl
  have po : PassesOwn (model P w) _ _ _ := passes_of (X := cxOf (L2.CX P w) P w K mg base N_look_at_way "look_at_way" (defScope s_look_at_way) f cdv A outer s H E) rfl
  exact ⟨rd_look_at_way K, jss_cons (js_if ((jw_or (jt_not (jt_val (je_callB kc_isi B.isinstance (ja_cons (je_var 0) (ja_cons (je_ty B.str) (ja_nil)))))) (jw_or1 (jt_cmp (kop_notin) (je_var 0) (je_conT C.k_WAYS) (by with_unfolding_all rfl)))).jt) (jss_cons (js_raise C.g_NoWay C.r_NoWay tk) (jss_nil)) (jss_nil)) (jss_nil), fun vs G M R Z h => pf_look_at_way h⟩
theorem df_look_at_way {P : Program} {w : World} {K : PySem.W.Frag} {mg : Str → Option Value} {base : Heap} {f : Addr} {fd : FuncData} (B : Bs mg) (C : Cs K mg) (F : Fun K "look_at_way" "look_at_way" s_look_at_way f fd) (b : Binds K fd ["way"] []) (gm : mg "look_at_way" = some (.ref f))  :
    Def P w K mg base 1 "look_at_way" ["way"] (S_look_at_way K) := ⟨f, fd, fo_look_at_way B C F , gm, F.kp, b⟩
abbrev s_is_whole : Stmt := topS 6
abbrev N_is_whole : List Str := ["thing"]
theorem sc_is_whole : FnScope N_is_whole ["thing"] (defScope s_is_whole) := ⟨rfl, rfl, rfl, by decide +kernel, rfl, by decide +kernel, by decide +kernel⟩
theorem fo_is_whole {P : Program} {w : World} {K : PySem.W.Frag} {mg : Str → Option Value} {base : Heap} {f : Addr} {fd : FuncData} (B : Bs mg) (C : Cs K mg) (F : Fun K "is_whole" "is_whole" s_is_whole f fd)  :
    FnOk P w K mg base (L2.CX P w) 1 f fd ["thing"] (lift (S_is_whole K)) := by
  refine fn_ok F sc_is_whole (fun vs G M R Z h => sp_len1 h) (fun cdv A outer s H E hr => ?_)
  have nd : N_is_whole.Nodup := sc_is_whole.nd
  have hu : _ + 64 < cLine := hr.units
  have tk : Takes (cxOf (L2.CX P w) P w K mg base N_is_whole "is_whole" (defScope s_is_whole) f cdv A outer s H E) (fun c d _ H => E c d H) := takes_of rfl rfl rfl rfl
  have po : PassesOwn (model P w) _ _ _ := passes_of (X := cxOf (L2.CX P w) P w K mg base N_is_whole "is_whole" (defScope s_is_whole) f cdv A outer s H E) rfl
  exact ⟨rd_is_whole K, jss_cons (js_ret (je_and (je_callB kc_isi B.isinstance (ja_cons (je_var 0) (ja_cons (je_ty B.int) (ja_nil)))) (je_one (je_not (je_callB kc_isi B.isinstance (ja_cons (je_var 0) (ja_cons (je_ty B.bool) (ja_nil)))))))) (jss_nil), fun vs G M R Z h => pf_is_whole h⟩
theorem df_is_whole {P : Program} {w : World} {K : PySem.W.Frag} {mg : Str → Option Value} {base : Heap} {f : Addr} {fd : FuncData} (B : Bs mg) (C : Cs K mg) (F : Fun K "is_whole" "is_whole" s_is_whole f fd) (b : Binds K fd ["thing"] []) (gm : mg "is_whole" = some (.ref f))  :
    Def P w K mg base 1 "is_whole" ["thing"] (S_is_whole K) := ⟨f, fd, fo_is_whole B C F , gm, F.kp, b⟩
abbrev s_is_within : Stmt := topS 7
abbrev N_is_within : List Str := ["thing", "least", "most"]
theorem sc_is_within : FnScope N_is_within ["thing", "least", "most"] (defScope s_is_within) := ⟨rfl, rfl, rfl, by decide +kernel, rfl, by decide +kernel, by decide +kernel⟩
theorem fo_is_within {P : Program} {w : World} {K : PySem.W.Frag} {mg : Str → Option Value} {base : Heap} {f : Addr} {fd : FuncData} (B : Bs mg) (C : Cs K mg) (F : Fun K "is_within" "is_within" s_is_within f fd) (D_is_whole : Def P w K mg base 1 "is_whole" ["thing"] (S_is_whole K)) :
    FnOk P w K mg base (L2.CX P w) 2 f fd ["thing", "least", "most"] (lift (S_is_within K)) := by
  refine fn_ok F sc_is_within (fun vs G M R Z h => sp_len3 h) (fun cdv A outer s H E hr => ?_)
  have nd : N_is_within.Nodup := sc_is_within.nd
  have hu : _ + 64 < cLine := hr.units
  have tk : Takes (cxOf (L2.CX P w) P w K mg base N_is_within "is_within" (defScope s_is_within) f cdv A outer s H E) (fun c d _ H => E c d H) := takes_of rfl rfl rfl rfl
  have po : PassesOwn (model P w) _ _ _ := passes_of (X := cxOf (L2.CX P w) P w K mg base N_is_within "is_within" (defScope s_is_within) f cdv A outer s H E) rfl
  exact ⟨rd_is_within K, jss_cons (js_ret (je_and (je_callD D_is_whole hr tk (ja_cons (je_var 0) (ja_nil))) (je_one (je_chain (kop_le) (kop_le) (je_var 1) (je_var 0) (je_var 2))))) (jss_nil), fun vs G M R Z h => pf_is_within h⟩
theorem df_is_within {P : Program} {w : World} {K : PySem.W.Frag} {mg : Str → Option Value} {base : Heap} {f : Addr} {fd : FuncData} (B : Bs mg) (C : Cs K mg) (F : Fun K "is_within" "is_within" s_is_within f fd) (b : Binds K fd ["thing", "least", "most"] []) (gm : mg "is_within" = some (.ref f)) (D_is_whole : Def P w K mg base 1 "is_whole" ["thing"] (S_is_whole K)) :
    Def P w K mg base 2 "is_within" ["thing", "least", "most"] (S_is_within K) := ⟨f, fd, fo_is_within B C F D_is_whole, gm, F.kp, b⟩
abbrev s_look_at_many : Stmt := topS 12
abbrev N_look_at_many : List Str := ["many"]
theorem sc_look_at_many : FnScope N_look_at_many ["many"] (defScope s_look_at_many) := ⟨rfl, rfl, rfl, by decide +kernel, rfl, by decide +kernel, by decide +kernel⟩
theorem fo_look_at_many {P : Program} {w : World} {K : PySem.W.Frag} {mg : Str → Option Value} {base : Heap} {f : Addr} {fd : FuncData} (B : Bs mg) (C : Cs K mg) (F : Fun K "look_at_many" "look_at_many" s_look_at_many f fd) (D_is_within : Def P w K mg base 2 "is_within" ["thing", "least", "most"] (S_is_within K)) :
    FnOk P w K mg base (L2.CX P w) 3 f fd ["many"] (lift (S_look_at_many K)) := by
  refine fn_ok F sc_look_at_many (fun vs G M R Z h => sp_len1 h) (fun cdv A outer s H E hr => ?_)
  have nd : N_look_at_many.Nodup := sc_look_at_many.nd
  have hu : _ + 64 < cLine := hr.units
  have tk : Takes (cxOf (L2.CX P w) P w K mg base N_look_at_many "look_at_many" (defScope s_look_at_many) f cdv A outer s H E) (fun c d _ H => E c d H) := takes_of rfl rfl rfl rfl
  have po : PassesOwn (model P w) _ _ _ := passes_of (X := cxOf (L2.CX P w) P w K mg base N_look_at_many "look_at_many" (defScope s_look_at_many) f cdv A outer s H E) rfl
  exact ⟨rd_look_at_many K, jss_cons (js_if (jt_not (jt_val (je_callD D_is_within hr tk (ja_cons (je_var 0) (ja_cons (je_int) (ja_cons (je_const C.k_MOST_CELLS) (ja_nil))))))) (jss_cons (js_raise C.g_NoSize C.r_NoSize tk) (jss_nil)) (jss_nil)) (jss_nil), fun vs G M R Z h => pf_look_at_many h⟩
theorem df_look_at_many {P : Program} {w : World} {K : PySem.W.Frag} {mg : Str → Option Value} {base : Heap} {f : Addr} {fd : FuncData} (B : Bs mg) (C : Cs K mg) (F : Fun K "look_at_many" "look_at_many" s_look_at_many f fd) (b : Binds K fd ["many"] []) (gm : mg "look_at_many" = some (.ref f)) (D_is_within : Def P w K mg base 2 "is_within" ["thing", "least", "most"] (S_is_within K)) :
    Def P w K mg base 3 "look_at_many" ["many"] (S_look_at_many K) := ⟨f, fd, fo_look_at_many B C F D_is_within, gm, F.kp, b⟩
abbrev s_look_at_sizes : Stmt := topS 13
abbrev N_look_at_sizes : List Str := ["many", "most"]
theorem sc_look_at_sizes : FnScope N_look_at_sizes ["many", "most"] (defScope s_look_at_sizes) := ⟨rfl, rfl, rfl, by decide +kernel, rfl, by decide +kernel, by decide +kernel⟩
theorem fo_look_at_sizes {P : Program} {w : World} {K : PySem.W.Frag} {mg : Str → Option Value} {base : Heap} {f : Addr} {fd : FuncData} (B : Bs mg) (C : Cs K mg) (F : Fun K "look_at_sizes" "look_at_sizes" s_look_at_sizes f fd) (D_look_at_many : Def P w K mg base 3 "look_at_many" ["many"] (S_look_at_many K)) (D_is_within : Def P w K mg base 2 "is_within" ["thing", "least", "most"] (S_is_within K)) :
    FnOk P w K mg base (L2.CX P w) 4 f fd ["many", "most"] (lift (S_look_at_sizes K)) := by
  refine fn_ok F sc_look_at_sizes (fun vs G M R Z h => sp_len2 h) (fun cdv A outer s H E hr => ?_)
  have nd : N_look_at_sizes.Nodup := sc_look_at_sizes.nd
  have hu : _ + 64 < cLine := hr.units
  have tk : Takes (cxOf (L2.CX P w) P w K mg base N_look_at_sizes "look_at_sizes" (defScope s_look_at_sizes) f cdv A outer s H E) (fun c d _ H => E c d H) := takes_of rfl rfl rfl rfl
  have po : PassesOwn (model P w) _ _ _ := passes_of (X := cxOf (L2.CX P w) P w K mg base N_look_at_sizes "look_at_sizes" (defScope s_look_at_sizes) f cdv A outer s H E) rfl
  exact ⟨rd_look_at_sizes K, jss_cons (js_expr (je_callD D_look_at_many hr tk (ja_cons (je_var 0) (ja_nil)))) (jss_cons (js_if (jt_not (jt_val (je_callD D_is_within hr tk (ja_cons (je_var 1) (ja_cons (je_int) (ja_cons (je_const C.k_MOST_ASKS) (ja_nil))))))) (jss_cons (js_raise C.g_NoSize C.r_NoSize tk) (jss_nil)) (jss_nil)) (jss_nil)), fun vs G M R Z h => pf_look_at_sizes h⟩
theorem df_look_at_sizes {P : Program} {w : World} {K : PySem.W.Frag} {mg : Str → Option Value} {base : Heap} {f : Addr} {fd : FuncData} (B : Bs mg) (C : Cs K mg) (F : Fun K "look_at_sizes" "look_at_sizes" s_look_at_sizes f fd) (b : Binds K fd ["many", "most"] []) (gm : mg "look_at_sizes" = some (.ref f)) (D_look_at_many : Def P w K mg base 3 "look_at_many" ["many"] (S_look_at_many K)) (D_is_within : Def P w K mg base 2 "is_within" ["thing", "least", "most"] (S_is_within K)) :
    Def P w K mg base 4 "look_at_sizes" ["many", "most"] (S_look_at_sizes K) := ⟨f, fd, fo_look_at_sizes B C F D_look_at_many D_is_within, gm, F.kp, b⟩
abbrev s_side_of : Stmt := topS 14
abbrev N_side_of : List Str := ["many", "side"]
theorem sc_side_of : FnScope N_side_of ["many"] (defScope s_side_of) := ⟨rfl, rfl, rfl, by decide +kernel, rfl, by decide +kernel, by decide +kernel⟩
theorem fo_side_of {P : Program} {w : World} {K : PySem.W.Frag} {mg : Str → Option Value} {base : Heap} {f : Addr} {fd : FuncData} (B : Bs mg) (C : Cs K mg) (F : Fun K "side_of" "side_of" s_side_of f fd)  :
    FnOk P w K mg base (L2.CX P w) 1 f fd ["many"] (lift (S_side_of K)) := by
  refine fn_ok F sc_side_of (fun vs G M R Z h => sp_len1 h) (fun cdv A outer s H E hr => ?_)
  have nd : N_side_of.Nodup := sc_side_of.nd
  have hu : _ + 64 < cLine := hr.units
  have tk : Takes (cxOf (L2.CX P w) P w K mg base N_side_of "side_of" (defScope s_side_of) f cdv A outer s H E) (fun c d _ H => E c d H) := takes_of rfl rfl rfl rfl
  have po : PassesOwn (model P w) _ _ _ := passes_of (X := cxOf (L2.CX P w) P w K mg base N_side_of "side_of" (defScope s_side_of) f cdv A outer s H E) rfl
  exact ⟨rd_side_of K, jss_cons (js_set (i := 1) (je_int) nd) (jss_cons (js_while po (jt_cmp (kop_lt) (je_op kop_mul (je_var 1) (je_var 1)) (je_var 0) (nomark _)) (jss_cons (js_set (i := 1) (je_op kop_add (je_var 1) (je_int)) nd) (jss_nil))) (jss_cons (js_ret (je_var 1)) (jss_nil))), fun vs G M R Z h => pf_side_of h⟩
theorem df_side_of {P : Program} {w : World} {K : PySem.W.Frag} {mg : Str → Option Value} {base : Heap} {f : Addr} {fd : FuncData} (B : Bs mg) (C : Cs K mg) (F : Fun K "side_of" "side_of" s_side_of f fd) (b : Binds K fd ["many"] []) (gm : mg "side_of" = some (.ref f))  :
    Def P w K mg base 1 "side_of" ["many"] (S_side_of K) := ⟨f, fd, fo_side_of B C F , gm, F.kp, b⟩
abbrev s_spare_needs : Stmt := topS 23
abbrev N_spare_needs : List Str := ["many", "most", "side", "start"]
theorem sc_spare_needs : FnScope N_spare_needs ["many", "most"] (defScope s_spare_needs) := ⟨rfl, rfl, rfl, by decide +kernel, rfl, by decide +kernel, by decide +kernel⟩
theorem fo_spare_needs {P : Program} {w : World} {K : PySem.W.Frag} {mg : Str → Option Value} {base : Heap} {f : Addr} {fd : FuncData} (B : Bs mg) (C : Cs K mg) (F : Fun K "spare_needs" "spare_needs" s_spare_needs f fd) (D_side_of : Def P w K mg base 1 "side_of" ["many"] (S_side_of K)) :
    FnOk P w K mg base (L2.CX P w) 2 f fd ["many", "most"] (lift (S_spare_needs K)) := by
  refine fn_ok F sc_spare_needs (fun vs G M R Z h => sp_len2 h) (fun cdv A outer s H E hr => ?_)
  have nd : N_spare_needs.Nodup := sc_spare_needs.nd
  have hu : _ + 64 < cLine := hr.units
  have tk : Takes (cxOf (L2.CX P w) P w K mg base N_spare_needs "spare_needs" (defScope s_spare_needs) f cdv A outer s H E) (fun c d _ H => E c d H) := takes_of rfl rfl rfl rfl
  have po : PassesOwn (model P w) _ _ _ := passes_of (X := cxOf (L2.CX P w) P w K mg base N_spare_needs "spare_needs" (defScope s_spare_needs) f cdv A outer s H E) rfl
  exact ⟨rd_spare_needs K, jss_cons (js_set (i := 2) (je_callD D_side_of hr tk (ja_cons (je_var 0) (ja_nil))) nd) (jss_cons (js_ret (je_comp (own := [("start", 3)]) rfl nd (ji_range3 B.range (ja_cons (je_int) (ja_cons (je_var 1) (ja_cons (je_var 2) (ja_nil))))) (blkOk_by (own := [("start", 3)]) (N := N_spare_needs) (sc := defScope s_spare_needs) (by decide +kernel)) (fun _ _ _ _ _ => by exact jg_name (i := 3) nd) (fun _ _ _ _ _ => by exact jts_nil) (fun _ _ _ _ _ => by exact je_tup (ja_cons (je_str) (ja_cons (je_op kop_add (je_var 0) (je_var 2)) (ja_nil)))))) (jss_nil)), fun vs G M R Z h => pf_spare_needs h⟩
theorem df_spare_needs {P : Program} {w : World} {K : PySem.W.Frag} {mg : Str → Option Value} {base : Heap} {f : Addr} {fd : FuncData} (B : Bs mg) (C : Cs K mg) (F : Fun K "spare_needs" "spare_needs" s_spare_needs f fd) (b : Binds K fd ["many", "most"] []) (gm : mg "spare_needs" = some (.ref f)) (D_side_of : Def P w K mg base 1 "side_of" ["many"] (S_side_of K)) :
    Def P w K mg base 2 "spare_needs" ["many", "most"] (S_spare_needs K) := ⟨f, fd, fo_spare_needs B C F D_side_of, gm, F.kp, b⟩
abbrev s_high_of : Stmt := topS 15
abbrev N_high_of : List Str := ["many", "high"]
theorem sc_high_of : FnScope N_high_of ["many"] (defScope s_high_of) := ⟨rfl, rfl, rfl, by decide +kernel, rfl, by decide +kernel, by decide +kernel⟩
theorem fo_high_of {P : Program} {w : World} {K : PySem.W.Frag} {mg : Str → Option Value} {base : Heap} {f : Addr} {fd : FuncData} (B : Bs mg) (C : Cs K mg) (F : Fun K "high_of" "high_of" s_high_of f fd)  :
    FnOk P w K mg base (L2.CX P w) 1 f fd ["many"] (lift (S_high_of K)) := by
  refine fn_ok F sc_high_of (fun vs G M R Z h => sp_len1 h) (fun cdv A outer s H E hr => ?_)
  have nd : N_high_of.Nodup := sc_high_of.nd
  have hu : _ + 64 < cLine := hr.units
  have tk : Takes (cxOf (L2.CX P w) P w K mg base N_high_of "high_of" (defScope s_high_of) f cdv A outer s H E) (fun c d _ H => E c d H) := takes_of rfl rfl rfl rfl
  have po : PassesOwn (model P w) _ _ _ := passes_of (X := cxOf (L2.CX P w) P w K mg base N_high_of "high_of" (defScope s_high_of) f cdv A outer s H E) rfl
  exact ⟨rd_high_of K, jss_cons (js_set (i := 1) (je_int) nd) (jss_cons (js_while po (jt_cmp (kop_lt) (je_op kop_shl (je_int) (je_var 1)) (je_var 0) (nomark _)) (jss_cons (js_set (i := 1) (je_op kop_add (je_var 1) (je_int)) nd) (jss_nil))) (jss_cons (js_ret (je_var 1)) (jss_nil))), fun vs G M R Z h => pf_high_of h⟩
theorem df_high_of {P : Program} {w : World} {K : PySem.W.Frag} {mg : Str → Option Value} {base : Heap} {f : Addr} {fd : FuncData} (B : Bs mg) (C : Cs K mg) (F : Fun K "high_of" "high_of" s_high_of f fd) (b : Binds K fd ["many"] []) (gm : mg "high_of" = some (.ref f))  :
    Def P w K mg base 1 "high_of" ["many"] (S_high_of K) := ⟨f, fd, fo_high_of B C F , gm, F.kp, b⟩
abbrev s_last_of : Stmt := topS 16
abbrev N_last_of : List Str := ["many"]
theorem sc_last_of : FnScope N_last_of ["many"] (defScope s_last_of) := ⟨rfl, rfl, rfl, by decide +kernel, rfl, by decide +kernel, by decide +kernel⟩
theorem fo_last_of {P : Program} {w : World} {K : PySem.W.Frag} {mg : Str → Option Value} {base : Heap} {f : Addr} {fd : FuncData} (B : Bs mg) (C : Cs K mg) (F : Fun K "last_of" "last_of" s_last_of f fd) (D_high_of : Def P w K mg base 1 "high_of" ["many"] (S_high_of K)) :
    FnOk P w K mg base (L2.CX P w) 2 f fd ["many"] (lift (S_last_of K)) := by
  refine fn_ok F sc_last_of (fun vs G M R Z h => sp_len1 h) (fun cdv A outer s H E hr => ?_)
  have nd : N_last_of.Nodup := sc_last_of.nd
  have hu : _ + 64 < cLine := hr.units
  have tk : Takes (cxOf (L2.CX P w) P w K mg base N_last_of "last_of" (defScope s_last_of) f cdv A outer s H E) (fun c d _ H => E c d H) := takes_of rfl rfl rfl rfl
  have po : PassesOwn (model P w) _ _ _ := passes_of (X := cxOf (L2.CX P w) P w K mg base N_last_of "last_of" (defScope s_last_of) f cdv A outer s H E) rfl
  exact ⟨rd_last_of K, jss_cons (js_ret (je_callB kc_max2 B.max (ja_cons (je_int) (ja_cons (je_op kop_sub (je_callD D_high_of hr tk (ja_cons (je_var 0) (ja_nil))) (je_int)) (ja_nil))))) (jss_nil), fun vs G M R Z h => pf_last_of h⟩
theorem df_last_of {P : Program} {w : World} {K : PySem.W.Frag} {mg : Str → Option Value} {base : Heap} {f : Addr} {fd : FuncData} (B : Bs mg) (C : Cs K mg) (F : Fun K "last_of" "last_of" s_last_of f fd) (b : Binds K fd ["many"] []) (gm : mg "last_of" = some (.ref f)) (D_high_of : Def P w K mg base 1 "high_of" ["many"] (S_high_of K)) :
    Def P w K mg base 2 "last_of" ["many"] (S_last_of K) := ⟨f, fd, fo_last_of B C F D_high_of, gm, F.kp, b⟩
abbrev s_stair_of : Stmt := topS 18
abbrev N_stair_of : List Str := ["many", "pour", "stair"]
theorem sc_stair_of : FnScope N_stair_of ["many", "pour"] (defScope s_stair_of) := ⟨rfl, rfl, rfl, by decide +kernel, rfl, by decide +kernel, by decide +kernel⟩
theorem fo_stair_of {P : Program} {w : World} {K : PySem.W.Frag} {mg : Str → Option Value} {base : Heap} {f : Addr} {fd : FuncData} (B : Bs mg) (C : Cs K mg) (F : Fun K "stair_of" "stair_of" s_stair_of f fd) (D_last_of : Def P w K mg base 2 "last_of" ["many"] (S_last_of K)) :
    FnOk P w K mg base (L2.CX P w) 3 f fd ["many", "pour"] (lift (S_stair_of K)) := by
  refine fn_ok F sc_stair_of (fun vs G M R Z h => sp_len2 h) (fun cdv A outer s H E hr => ?_)
  have nd : N_stair_of.Nodup := sc_stair_of.nd
  have hu : _ + 64 < cLine := hr.units
  have tk : Takes (cxOf (L2.CX P w) P w K mg base N_stair_of "stair_of" (defScope s_stair_of) f cdv A outer s H E) (fun c d _ H => E c d H) := takes_of rfl rfl rfl rfl
  have po : PassesOwn (model P w) _ _ _ := passes_of (X := cxOf (L2.CX P w) P w K mg base N_stair_of "stair_of" (defScope s_stair_of) f cdv A outer s H E) rfl
  exact ⟨rd_stair_of K, jss_cons (js_set (i := 2) (je_int) nd) (jss_cons (js_while po ((jw_and (jt_cmp (kop_lt) (je_var 2) (je_callD D_last_of hr tk (ja_cons (je_var 0) (ja_nil))) (nomark _)) (jw_and1 (jt_cmp (kop_eq hu) (je_op kop_mod (je_var 1) (je_op kop_shl (je_int) (je_var 2))) (je_int) (nomark _)))).jt) (jss_cons (js_set (i := 2) (je_op kop_add (je_var 2) (je_int)) nd) (jss_nil))) (jss_cons (js_ret (je_var 2)) (jss_nil))), fun vs G M R Z h => pf_stair_of h⟩
theorem df_stair_of {P : Program} {w : World} {K : PySem.W.Frag} {mg : Str → Option Value} {base : Heap} {f : Addr} {fd : FuncData} (B : Bs mg) (C : Cs K mg) (F : Fun K "stair_of" "stair_of" s_stair_of f fd) (b : Binds K fd ["many", "pour"] []) (gm : mg "stair_of" = some (.ref f)) (D_last_of : Def P w K mg base 2 "last_of" ["many"] (S_last_of K)) :
    Def P w K mg base 3 "stair_of" ["many", "pour"] (S_stair_of K) := ⟨f, fd, fo_stair_of B C F D_last_of, gm, F.kp, b⟩
abbrev s_slots_of : Stmt := topS 17
abbrev N_slots_of : List Str := ["many", "stair", "spare"]
theorem sc_slots_of : FnScope N_slots_of ["many", "stair"] (defScope s_slots_of) := ⟨rfl, rfl, rfl, by decide +kernel, rfl, by decide +kernel, by decide +kernel⟩
theorem fo_slots_of {P : Program} {w : World} {K : PySem.W.Frag} {mg : Str → Option Value} {base : Heap} {f : Addr} {fd : FuncData} (B : Bs mg) (C : Cs K mg) (F : Fun K "slots_of" "slots_of" s_slots_of f fd) (D_last_of : Def P w K mg base 2 "last_of" ["many"] (S_last_of K)) :
    FnOk P w K mg base (L2.CX P w) 3 f fd ["many", "stair"] (lift (S_slots_of K)) := by
  refine fn_ok F sc_slots_of (fun vs G M R Z h => sp_len2 h) (fun cdv A outer s H E hr => ?_)
  have nd : N_slots_of.Nodup := sc_slots_of.nd
  have hu : _ + 64 < cLine := hr.units
  have tk : Takes (cxOf (L2.CX P w) P w K mg base N_slots_of "slots_of" (defScope s_slots_of) f cdv A outer s H E) (fun c d _ H => E c d H) := takes_of rfl rfl rfl rfl
  have po : PassesOwn (model P w) _ _ _ := passes_of (X := cxOf (L2.CX P w) P w K mg base N_slots_of "slots_of" (defScope s_slots_of) f cdv A outer s H E) rfl
  exact ⟨rd_slots_of K, jss_cons (js_set (i := 2) (je_op kop_shl (je_int) (je_var 1)) nd) (jss_cons (js_if (jt_cmp (kop_eq hu) (je_var 1) (je_callD D_last_of hr tk (ja_cons (je_var 0) (ja_nil))) (nomark _)) (jss_cons (js_ret (je_tup (ja_cons (je_var 0) (ja_cons (je_var 2) (ja_nil))))) (jss_nil)) (jss_nil)) (jss_cons (js_ret (je_tup (ja_cons (je_var 2) (ja_cons (je_var 2) (ja_nil))))) (jss_nil))), fun vs G M R Z h => pf_slots_of h⟩
theorem df_slots_of {P : Program} {w : World} {K : PySem.W.Frag} {mg : Str → Option Value} {base : Heap} {f : Addr} {fd : FuncData} (B : Bs mg) (C : Cs K mg) (F : Fun K "slots_of" "slots_of" s_slots_of f fd) (b : Binds K fd ["many", "stair"] []) (gm : mg "slots_of" = some (.ref f)) (D_last_of : Def P w K mg base 2 "last_of" ["many"] (S_last_of K)) :
    Def P w K mg base 3 "slots_of" ["many", "stair"] (S_slots_of K) := ⟨f, fd, fo_slots_of B C F D_last_of, gm, F.kp, b⟩
abbrev s_stairs_needs : Stmt := topS 24
abbrev N_stairs_needs : List Str := ["many", "most", "stairs", "pour", "stair"]
theorem sc_stairs_needs : FnScope N_stairs_needs ["many", "most"] (defScope s_stairs_needs) := ⟨rfl, rfl, rfl, by decide +kernel, rfl, by decide +kernel, by decide +kernel⟩
theorem fo_stairs_needs {P : Program} {w : World} {K : PySem.W.Frag} {mg : Str → Option Value} {base : Heap} {f : Addr} {fd : FuncData} (B : Bs mg) (C : Cs K mg) (F : Fun K "stairs_needs" "stairs_needs" s_stairs_needs f fd) (D_last_of : Def P w K mg base 2 "last_of" ["many"] (S_last_of K)) (D_stair_of : Def P w K mg base 3 "stair_of" ["many", "pour"] (S_stair_of K)) (D_slots_of : Def P w K mg base 3 "slots_of" ["many", "stair"] (S_slots_of K)) :
    FnOk P w K mg base (L2.CX P w) 4 f fd ["many", "most"] (lift (S_stairs_needs K)) := by
  refine fn_ok F sc_stairs_needs (fun vs G M R Z h => sp_len2 h) (fun cdv A outer s H E hr => ?_)
  have nd : N_stairs_needs.Nodup := sc_stairs_needs.nd
  have hu : _ + 64 < cLine := hr.units
  have tk : Takes (cxOf (L2.CX P w) P w K mg base N_stairs_needs "stairs_needs" (defScope s_stairs_needs) f cdv A outer s H E) (fun c d _ H => E c d H) := takes_of rfl rfl rfl rfl
  have po : PassesOwn (model P w) _ _ _ := passes_of (X := cxOf (L2.CX P w) P w K mg base N_stairs_needs "stairs_needs" (defScope s_stairs_needs) f cdv A outer s H E) rfl
  exact ⟨rd_stairs_needs K, jss_cons (js_if (jt_cmp (kop_eq hu) (je_var 1) (je_int) (nomark _)) (jss_cons (js_ret (je_lst (ja_nil))) (jss_nil)) (jss_nil)) (jss_cons (js_set (i := 2) (je_op kop_add (je_lst (ja_cons (je_callD D_last_of hr tk (ja_cons (je_var 0) (ja_nil))) (ja_nil))) (je_comp (own := [("pour", 3)]) rfl nd (ji_range2 B.range (ja_cons (je_int) (ja_cons (je_op kop_fdiv (je_op kop_add (je_var 1) (je_int)) (je_int)) (ja_nil)))) (blkOk_by (own := [("pour", 3)]) (N := N_stairs_needs) (sc := defScope s_stairs_needs) (by decide +kernel)) (fun _ _ _ _ _ => by exact jg_name (i := 3) nd) (fun _ _ _ _ _ => by exact jts_nil) (fun _ _ _ _ _ => by exact je_callD D_stair_of hr takes0 (ja_cons (je_var 0) (ja_cons (je_var 3) (ja_nil)))))) nd) (jss_cons (js_ret (je_comp (own := [("stair", 4)]) rfl nd (ji_list (je_var 2)) (blkOk_by (own := [("stair", 4)]) (N := N_stairs_needs) (sc := defScope s_stairs_needs) (by decide +kernel)) (fun _ _ _ _ _ => by exact jg_name (i := 4) nd) (fun _ _ _ _ _ => by exact jts_nil) (fun _ _ _ _ _ => by exact je_tup (ja_cons (je_str) (ja_cons (je_callB kc_sumS B.sum (ja_cons (je_callD D_slots_of hr takes0 (ja_cons (je_var 0) (ja_cons (je_var 4) (ja_nil)))) (ja_nil))) (ja_nil)))))) (jss_nil))), fun vs G M R Z h => pf_stairs_needs h⟩
theorem df_stairs_needs {P : Program} {w : World} {K : PySem.W.Frag} {mg : Str → Option Value} {base : Heap} {f : Addr} {fd : FuncData} (B : Bs mg) (C : Cs K mg) (F : Fun K "stairs_needs" "stairs_needs" s_stairs_needs f fd) (b : Binds K fd ["many", "most"] []) (gm : mg "stairs_needs" = some (.ref f)) (D_last_of : Def P w K mg base 2 "last_of" ["many"] (S_last_of K)) (D_stair_of : Def P w K mg base 3 "stair_of" ["many", "pour"] (S_stair_of K)) (D_slots_of : Def P w K mg base 3 "slots_of" ["many", "stair"] (S_slots_of K)) :
    Def P w K mg base 4 "stairs_needs" ["many", "most"] (S_stairs_needs K) := ⟨f, fd, fo_stairs_needs B C F D_last_of D_stair_of D_slots_of, gm, F.kp, b⟩
abbrev s_grove_needs : Stmt := topS 25
abbrev N_grove_needs : List Str := ["trees", "most", "kinds", "many"]
theorem sc_grove_needs : FnScope N_grove_needs ["trees", "most"] (defScope s_grove_needs) := ⟨rfl, rfl, rfl, by decide +kernel, rfl, by decide +kernel, by decide +kernel⟩
theorem fo_grove_needs {P : Program} {w : World} {K : PySem.W.Frag} {mg : Str → Option Value} {base : Heap} {f : Addr} {fd : FuncData} (B : Bs mg) (C : Cs K mg) (F : Fun K "grove_needs" "grove_needs" s_grove_needs f fd) (D_high_of : Def P w K mg base 1 "high_of" ["many"] (S_high_of K)) :
    FnOk P w K mg base (L2.CX P w) 2 f fd ["trees", "most"] (lift (S_grove_needs K)) := by
  refine fn_ok F sc_grove_needs (fun vs G M R Z h => sp_len2 h) (fun cdv A outer s H E hr => ?_)
  have nd : N_grove_needs.Nodup := sc_grove_needs.nd
  have hu : _ + 64 < cLine := hr.units
  have tk : Takes (cxOf (L2.CX P w) P w K mg base N_grove_needs "grove_needs" (defScope s_grove_needs) f cdv A outer s H E) (fun c d _ H => E c d H) := takes_of rfl rfl rfl rfl
  have po : PassesOwn (model P w) _ _ _ := passes_of (X := cxOf (L2.CX P w) P w K mg base N_grove_needs "grove_needs" (defScope s_grove_needs) f cdv A outer s H E) rfl
  exact ⟨rd_grove_needs K, jss_cons (js_set (i := 2) (je_lst (ja_nil)) nd) (jss_cons (js_for po rfl (ji_list (je_var 0)) (jg_name (i := 3) nd) (jss_cons (js_set (i := 2) (je_op kop_add (je_var 2) (je_op kop_mul (je_lst (ja_cons (je_tup (ja_cons (je_str) (ja_cons (je_callD D_high_of hr tk (ja_cons (je_var 3) (ja_nil))) (ja_nil)))) (ja_nil))) (je_var 3))) nd) (jss_nil))) (jss_cons (js_ret (je_op kop_add (je_var 2) (je_op kop_mul (je_comp (own := [("many", 3)]) rfl nd (ji_list (je_var 0)) (blkOk_by (own := [("many", 3)]) (N := N_grove_needs) (sc := defScope s_grove_needs) (by decide +kernel)) (fun _ _ _ _ _ => by exact jg_name (i := 3) nd) (fun _ _ _ _ _ => by exact jts_nil) (fun _ _ _ _ _ => by exact je_tup (ja_cons (je_str) (ja_cons (je_callD D_high_of hr takes0 (ja_cons (je_var 3) (ja_nil))) (ja_nil))))) (je_var 1)))) (jss_nil))), fun vs G M R Z h => pf_grove_needs h⟩
theorem df_grove_needs {P : Program} {w : World} {K : PySem.W.Frag} {mg : Str → Option Value} {base : Heap} {f : Addr} {fd : FuncData} (B : Bs mg) (C : Cs K mg) (F : Fun K "grove_needs" "grove_needs" s_grove_needs f fd) (b : Binds K fd ["trees", "most"] []) (gm : mg "grove_needs" = some (.ref f)) (D_high_of : Def P w K mg base 1 "high_of" ["many"] (S_high_of K)) :
    Def P w K mg base 2 "grove_needs" ["trees", "most"] (S_grove_needs K) := ⟨f, fd, fo_grove_needs B C F D_high_of, gm, F.kp, b⟩
abbrev s_trees_of : Stmt := topS 19
abbrev N_trees_of : List Str := ["many", "found"]
theorem sc_trees_of : FnScope N_trees_of ["many"] (defScope s_trees_of) := ⟨rfl, rfl, rfl, by decide +kernel, rfl, by decide +kernel, by decide +kernel⟩
theorem fo_trees_of {P : Program} {w : World} {K : PySem.W.Frag} {mg : Str → Option Value} {base : Heap} {f : Addr} {fd : FuncData} (B : Bs mg) (C : Cs K mg) (F : Fun K "trees_of" "trees_of" s_trees_of f fd)  :
    FnOk P w K mg base (L2.CX P w) 1 f fd ["many"] (lift (S_trees_of K)) := by
  refine fn_ok F sc_trees_of (fun vs G M R Z h => sp_len1 h) (fun cdv A outer s H E hr => ?_)
  have nd : N_trees_of.Nodup := sc_trees_of.nd
  have hu : _ + 64 < cLine := hr.units
  have tk : Takes (cxOf (L2.CX P w) P w K mg base N_trees_of "trees_of" (defScope s_trees_of) f cdv A outer s H E) (fun c d _ H => E c d H) := takes_of rfl rfl rfl rfl
  have po : PassesOwn (model P w) _ _ _ := passes_of (X := cxOf (L2.CX P w) P w K mg base N_trees_of "trees_of" (defScope s_trees_of) f cdv A outer s H E) rfl
  exact ⟨rd_trees_of K, jss_cons (js_set (i := 1) (je_lst (ja_cons (je_var 0) (ja_nil))) nd) (jss_cons (js_while po (jt_cmp (kop_gt) (je_ix (je_var 1) (je_neg (je_int))) (je_const C.k_TABLE) (nomark _)) (jss_cons (js_expr (je_bm PySem.F.plainAttrs_list PySem.F.slot_list_append PySem.F.type_list_append km_append (je_var 1) (ja_cons (je_op kop_fdiv (je_op kop_sub (je_op kop_add (je_ix (je_var 1) (je_neg (je_int))) (je_const C.k_TABLE)) (je_int)) (je_const C.k_TABLE)) (ja_nil)))) (jss_nil))) (jss_cons (js_ret (je_var 1)) (jss_nil))), fun vs G M R Z h => pf_trees_of h⟩
theorem df_trees_of {P : Program} {w : World} {K : PySem.W.Frag} {mg : Str → Option Value} {base : Heap} {f : Addr} {fd : FuncData} (B : Bs mg) (C : Cs K mg) (F : Fun K "trees_of" "trees_of" s_trees_of f fd) (b : Binds K fd ["many"] []) (gm : mg "trees_of" = some (.ref f))  :
    Def P w K mg base 1 "trees_of" ["many"] (S_trees_of K) := ⟨f, fd, fo_trees_of B C F , gm, F.kp, b⟩
abbrev s_kinds_of : Stmt := topS 26
abbrev N_kinds_of : List Str := ["way", "many", "most"]
theorem sc_kinds_of : FnScope N_kinds_of ["way", "many", "most"] (defScope s_kinds_of) := ⟨rfl, rfl, rfl, by decide +kernel, rfl, by decide +kernel, by decide +kernel⟩
theorem fo_kinds_of {P : Program} {w : World} {K : PySem.W.Frag} {mg : Str → Option Value} {base : Heap} {f : Addr} {fd : FuncData} (B : Bs mg) (C : Cs K mg) (F : Fun K "kinds_of" "kinds_of" s_kinds_of f fd) (D_spare_needs : Def P w K mg base 2 "spare_needs" ["many", "most"] (S_spare_needs K)) (D_stairs_needs : Def P w K mg base 4 "stairs_needs" ["many", "most"] (S_stairs_needs K)) (D_grove_needs : Def P w K mg base 2 "grove_needs" ["trees", "most"] (S_grove_needs K)) (D_trees_of : Def P w K mg base 1 "trees_of" ["many"] (S_trees_of K)) :
    FnOk P w K mg base (L2.CX P w) 5 f fd ["way", "many", "most"] (lift (S_kinds_of K)) := by
  refine fn_ok F sc_kinds_of (fun vs G M R Z h => sp_len3 h) (fun cdv A outer s H E hr => ?_)
  have nd : N_kinds_of.Nodup := sc_kinds_of.nd
  have hu : _ + 64 < cLine := hr.units
  have tk : Takes (cxOf (L2.CX P w) P w K mg base N_kinds_of "kinds_of" (defScope s_kinds_of) f cdv A outer s H E) (fun c d _ H => E c d H) := takes_of rfl rfl rfl rfl
  have po : PassesOwn (model P w) _ _ _ := passes_of (X := cxOf (L2.CX P w) P w K mg base N_kinds_of "kinds_of" (defScope s_kinds_of) f cdv A outer s H E) rfl
  exact ⟨rd_kinds_of K, jss_cons (js_if (jt_cmp (kop_eq hu) (je_var 0) (je_str) (nomark _)) (jss_cons (js_ret (je_callD D_spare_needs hr tk (ja_cons (je_var 1) (ja_cons (je_var 2) (ja_nil))))) (jss_nil)) (jss_nil)) (jss_cons (js_if (jt_cmp (kop_eq hu) (je_var 0) (je_str) (nomark _)) (jss_cons (js_ret (je_callD D_stairs_needs hr tk (ja_cons (je_var 1) (ja_cons (je_var 2) (ja_nil))))) (jss_nil)) (jss_nil)) (jss_cons (js_if (jt_cmp (kop_eq hu) (je_var 0) (je_str) (nomark _)) (jss_cons (js_ret (je_callD D_grove_needs hr tk (ja_cons (je_lst (ja_cons (je_var 1) (ja_nil))) (ja_cons (je_var 2) (ja_nil))))) (jss_nil)) (jss_nil)) (jss_cons (js_if (jt_cmp (kop_eq hu) (je_var 0) (je_str) (nomark _)) (jss_cons (js_ret (je_callD D_grove_needs hr tk (ja_cons (je_callD D_trees_of hr tk (ja_cons (je_var 1) (ja_nil))) (ja_cons (je_var 2) (ja_nil))))) (jss_nil)) (jss_nil)) (jss_cons (js_ret (je_lst (ja_nil))) (jss_nil))))), fun vs G M R Z h => pf_kinds_of h⟩
theorem df_kinds_of {P : Program} {w : World} {K : PySem.W.Frag} {mg : Str → Option Value} {base : Heap} {f : Addr} {fd : FuncData} (B : Bs mg) (C : Cs K mg) (F : Fun K "kinds_of" "kinds_of" s_kinds_of f fd) (b : Binds K fd ["way", "many", "most"] []) (gm : mg "kinds_of" = some (.ref f)) (D_spare_needs : Def P w K mg base 2 "spare_needs" ["many", "most"] (S_spare_needs K)) (D_stairs_needs : Def P w K mg base 4 "stairs_needs" ["many", "most"] (S_stairs_needs K)) (D_grove_needs : Def P w K mg base 2 "grove_needs" ["trees", "most"] (S_grove_needs K)) (D_trees_of : Def P w K mg base 1 "trees_of" ["many"] (S_trees_of K)) :
    Def P w K mg base 5 "kinds_of" ["way", "many", "most"] (S_kinds_of K) := ⟨f, fd, fo_kinds_of B C F D_spare_needs D_stairs_needs D_grove_needs D_trees_of, gm, F.kp, b⟩
abbrev s_needs : Stmt := topS 27
abbrev N_needs : List Str := ["way", "many", "most"]
theorem sc_needs : FnScope N_needs ["way", "many", "most"] (defScope s_needs) := ⟨rfl, rfl, rfl, by decide +kernel, rfl, by decide +kernel, by decide +kernel⟩
theorem fo_needs {P : Program} {w : World} {K : PySem.W.Frag} {mg : Str → Option Value} {base : Heap} {f : Addr} {fd : FuncData} (B : Bs mg) (C : Cs K mg) (F : Fun K "needs" "needs" s_needs f fd) (D_look_at_way : Def P w K mg base 1 "look_at_way" ["way"] (S_look_at_way K)) (D_look_at_sizes : Def P w K mg base 4 "look_at_sizes" ["many", "most"] (S_look_at_sizes K)) (D_kinds_of : Def P w K mg base 5 "kinds_of" ["way", "many", "most"] (S_kinds_of K)) :
    FnOk P w K mg base (L2.CX P w) 6 f fd ["way", "many", "most"] (lift (S_needs K)) := by
  refine fn_ok F sc_needs (fun vs G M R Z h => sp_len3 h) (fun cdv A outer s H E hr => ?_)
  have nd : N_needs.Nodup := sc_needs.nd
  have hu : _ + 64 < cLine := hr.units
  have tk : Takes (cxOf (L2.CX P w) P w K mg base N_needs "needs" (defScope s_needs) f cdv A outer s H E) (fun c d _ H => E c d H) := takes_of rfl rfl rfl rfl
  have po : PassesOwn (model P w) _ _ _ := passes_of (X := cxOf (L2.CX P w) P w K mg base N_needs "needs" (defScope s_needs) f cdv A outer s H E) rfl
  exact ⟨rd_needs K, jss_cons (js_expr (je_callD D_look_at_way hr tk (ja_cons (je_var 0) (ja_nil)))) (jss_cons (js_expr (je_callD D_look_at_sizes hr tk (ja_cons (je_var 1) (ja_cons (je_var 2) (ja_nil))))) (jss_cons (js_ret (je_callD D_kinds_of hr tk (ja_cons (je_var 0) (ja_cons (je_var 1) (ja_cons (je_var 2) (ja_nil)))))) (jss_nil))), fun vs G M R Z h => pf_needs h⟩
theorem df_needs {P : Program} {w : World} {K : PySem.W.Frag} {mg : Str → Option Value} {base : Heap} {f : Addr} {fd : FuncData} (B : Bs mg) (C : Cs K mg) (F : Fun K "needs" "needs" s_needs f fd) (b : Binds K fd ["way", "many", "most"] []) (gm : mg "needs" = some (.ref f)) (D_look_at_way : Def P w K mg base 1 "look_at_way" ["way"] (S_look_at_way K)) (D_look_at_sizes : Def P w K mg base 4 "look_at_sizes" ["many", "most"] (S_look_at_sizes K)) (D_kinds_of : Def P w K mg base 5 "kinds_of" ["way", "many", "most"] (S_kinds_of K)) :
    Def P w K mg base 6 "needs" ["way", "many", "most"] (S_needs K) := ⟨f, fd, fo_needs B C F D_look_at_way D_look_at_sizes D_kinds_of, gm, F.kp, b⟩
abbrev s_law_whole : Stmt := topS 31
abbrev N_law_whole : List Str := ["_law_found"]
theorem sc_law_whole : FnScope N_law_whole ["_law_found"] (defScope s_law_whole) := ⟨rfl, rfl, rfl, by decide +kernel, rfl, by decide +kernel, by decide +kernel⟩
theorem fo_law_whole {P : Program} {w : World} {K : PySem.W.Frag} {mg : Str → Option Value} {base : Heap} {f : Addr} {fd : FuncData} (B : Bs mg) (C : Cs K mg) (F : Fun K "_law_whole" "_law_whole" s_law_whole f fd)  :
    FnOk P w K mg base (L2.CX P w) 1 f fd ["_law_found"] (lift (S_law_whole K)) := by
  refine fn_ok F sc_law_whole (fun vs G M R Z h => sp_len1 h) (fun cdv A outer s H E hr => ?_)
  have nd : N_law_whole.Nodup := sc_law_whole.nd
  have hu : _ + 64 < cLine := hr.units
  have tk : Takes (cxOf (L2.CX P w) P w K mg base N_law_whole "_law_whole" (defScope s_law_whole) f cdv A outer s H E) (fun c d _ H => E c d H) := takes_of rfl rfl rfl rfl
  have po : PassesOwn (model P w) _ _ _ := passes_of (X := cxOf (L2.CX P w) P w K mg base N_law_whole "_law_whole" (defScope s_law_whole) f cdv A outer s H E) rfl
  exact ⟨rd_law_whole K, jss_cons (js_ret (je_and (je_callB kc_isi B.isinstance (ja_cons (je_var 0) (ja_cons (je_ty B.int) (ja_nil)))) (je_one (je_not (je_callB kc_isi B.isinstance (ja_cons (je_var 0) (ja_cons (je_ty B.bool) (ja_nil)))))))) (jss_nil), fun vs G M R Z h => pf_law_whole h⟩
theorem df_law_whole {P : Program} {w : World} {K : PySem.W.Frag} {mg : Str → Option Value} {base : Heap} {f : Addr} {fd : FuncData} (B : Bs mg) (C : Cs K mg) (F : Fun K "_law_whole" "_law_whole" s_law_whole f fd) (b : Binds K fd ["_law_found"] []) (gm : mg "_law_whole" = some (.ref f))  :
    Def P w K mg base 1 "_law_whole" ["_law_found"] (S_law_whole K) := ⟨f, fd, fo_law_whole B C F , gm, F.kp, b⟩
abbrev s_law_is : Stmt := topS 39
abbrev N_law_is : List Str := ["_law_found", "_law_due_here", "_law_kind"]
theorem sc_law_is : FnScope N_law_is ["_law_found", "_law_due_here"] (defScope s_law_is) := ⟨rfl, rfl, rfl, by decide +kernel, rfl, by decide +kernel, by decide +kernel⟩
theorem fo_law_is {P : Program} {w : World} {K : PySem.W.Frag} {mg : Str → Option Value} {base : Heap} {f : Addr} {fd : FuncData} (B : Bs mg) (C : Cs K mg) (F : Fun K "_law_is" "_law_is" s_law_is f fd) (D_law_whole : Def P w K mg base 1 "_law_whole" ["_law_found"] (S_law_whole K)) :
    FnOk P w K mg base (L2.CX P w) 2 f fd ["_law_found", "_law_due_here"] (lift (S_law_is K)) := by
  refine fn_ok F sc_law_is (fun vs G M R Z h => sp_len2 h) (fun cdv A outer s H E hr => ?_)
  have nd : N_law_is.Nodup := sc_law_is.nd
  have hu : _ + 64 < cLine := hr.units
  have tk : Takes (cxOf (L2.CX P w) P w K mg base N_law_is "_law_is" (defScope s_law_is) f cdv A outer s H E) (fun c d _ H => E c d H) := takes_of rfl rfl rfl rfl
  have po : PassesOwn (model P w) _ _ _ := passes_of (X := cxOf (L2.CX P w) P w K mg base N_law_is "_law_is" (defScope s_law_is) f cdv A outer s H E) rfl
  exact ⟨rd_law_is K, jss_cons (js_if ((jw_or (jt_not (jt_val (je_callB kc_isi B.isinstance (ja_cons (je_var 0) (ja_cons (je_ty B.list) (ja_nil)))))) (jw_or1 (jt_cmp (kop_ne hu) (je_var 0) (je_var 1) (nomark _)))).jt) (jss_cons (js_ret (je_bl)) (jss_nil)) (jss_nil)) (jss_cons (js_ret (je_cmp (kop_eq hu) (je_comp (own := [("_law_kind", 2)]) rfl nd (ji_list (je_var 0)) (blkOk_by (own := [("_law_kind", 2)]) (N := N_law_is) (sc := defScope s_law_is) (by decide +kernel)) (fun _ _ _ _ _ => by exact jg_name (i := 2) nd) (fun _ _ _ _ _ => by exact jts_one ((jw_or (jt_not (jt_val (je_callB kc_isi B.isinstance (ja_cons (je_var 2) (ja_cons (je_ty B.tuple) (ja_nil)))))) (jw_or1 (jt_not (jt_val (je_callD D_law_whole hr takes0 (ja_cons (je_ix (je_var 2) (je_int)) (ja_nil))))))).jt)) (fun _ _ _ _ _ => by exact je_var 2)) (je_lst (ja_nil)) (nomark _))) (jss_nil)), fun vs G M R Z h => pf_law_is h⟩
theorem df_law_is {P : Program} {w : World} {K : PySem.W.Frag} {mg : Str → Option Value} {base : Heap} {f : Addr} {fd : FuncData} (B : Bs mg) (C : Cs K mg) (F : Fun K "_law_is" "_law_is" s_law_is f fd) (b : Binds K fd ["_law_found", "_law_due_here"] []) (gm : mg "_law_is" = some (.ref f)) (D_law_whole : Def P w K mg base 1 "_law_whole" ["_law_found"] (S_law_whole K)) :
    Def P w K mg base 2 "_law_is" ["_law_found", "_law_due_here"] (S_law_is K) := ⟨f, fd, fo_law_is B C F D_law_whole, gm, F.kp, b⟩
abbrev s_law_refused : Stmt := topS 37
abbrev N_law_refused : List Str := ["_law_way", "_law_many", "_law_most", "_law_found", "e"]
theorem sc_law_refused : FnScope N_law_refused ["_law_way", "_law_many", "_law_most"] (defScope s_law_refused) := ⟨rfl, rfl, rfl, by decide +kernel, rfl, by decide +kernel, by decide +kernel⟩
theorem fo_law_refused {P : Program} {w : World} {K : PySem.W.Frag} {mg : Str → Option Value} {base : Heap} {f : Addr} {fd : FuncData} (B : Bs mg) (C : Cs K mg) (F : Fun K "_law_refused" "_law_refused" s_law_refused f fd) (D_needs : Def P w K mg base 6 "needs" ["way", "many", "most"] (S_needs K)) :
    FnOk P w K mg base (L2.CX P w) 7 f fd ["_law_way", "_law_many", "_law_most"] (lift (S_law_refused K)) := by
  refine fn_ok F sc_law_refused (fun vs G M R Z h => sp_len3 h) (fun cdv A outer s H E hr => ?_)
  have nd : N_law_refused.Nodup := sc_law_refused.nd
  have hu : _ + 64 < cLine := hr.units
  have tk : Takes (cxOf (L2.CX P w) P w K mg base N_law_refused "_law_refused" (defScope s_law_refused) f cdv A outer s H E) (fun c d _ H => E c d H) := takes_of rfl rfl rfl rfl
  have po : PassesOwn (model P w) _ _ _ := passes_of (X := cxOf (L2.CX P w) P w K mg base N_law_refused "_law_refused" (defScope s_law_refused) f cdv A outer s H E) rfl
  exact ⟨rd_law_refused K, jss_cons (js_set (i := 3) (je_non) nd) (jss_cons (js_try (i := 4) (j := 3) C.g_TouchError C.t_TouchError nd tk (fun W pn xe tk po => by exact jss_cons (js_expr (je_callD D_needs hr tk (ja_cons (je_var 0) (ja_cons (je_var 1) (ja_cons (je_var 2) (ja_nil)))))) (jss_nil))) (jss_cons (js_ret (je_lst (ja_cons (je_callB (kc_isX (ClsV.own _) C.n_NoWay C.j_NoWay) B.isinstance (ja_cons (je_var 3) (ja_cons (je_cls C.g_NoWay) (ja_nil)))) (ja_cons (je_callB (kc_isX (ClsV.own _) C.n_NoSize C.j_NoSize) B.isinstance (ja_cons (je_var 3) (ja_cons (je_cls C.g_NoSize) (ja_nil)))) (ja_cons (je_callB (kc_isX (ClsV.ty _) C.n_ValueError C.j_ValueError) B.isinstance (ja_cons (je_var 3) (ja_cons (je_ty B.ValueError) (ja_nil)))) (ja_cons (je_callB (kc_isX (ClsV.own _) C.n_Over C.j_Over) B.isinstance (ja_cons (je_var 3) (ja_cons (je_cls C.g_Over) (ja_nil)))) (ja_nil))))))) (jss_nil))), fun vs G M R Z h => pf_law_refused h⟩
theorem df_law_refused {P : Program} {w : World} {K : PySem.W.Frag} {mg : Str → Option Value} {base : Heap} {f : Addr} {fd : FuncData} (B : Bs mg) (C : Cs K mg) (F : Fun K "_law_refused" "_law_refused" s_law_refused f fd) (b : Binds K fd ["_law_way", "_law_many", "_law_most"] []) (gm : mg "_law_refused" = some (.ref f)) (D_needs : Def P w K mg base 6 "needs" ["way", "many", "most"] (S_needs K)) :
    Def P w K mg base 7 "_law_refused" ["_law_way", "_law_many", "_law_most"] (S_law_refused K) := ⟨f, fd, fo_law_refused B C F D_needs, gm, F.kp, b⟩
abbrev s_law_odd_right : Stmt := topS 38
abbrev N_law_odd_right : List Str := ["_law_pool_here", "_law_way", "_law_many", "_law_most", "_law_wrong"]
theorem sc_law_odd_right : FnScope N_law_odd_right ["_law_pool_here", "_law_way", "_law_many", "_law_most"] (defScope s_law_odd_right) := ⟨rfl, rfl, rfl, by decide +kernel, rfl, by decide +kernel, by decide +kernel⟩
theorem fo_law_odd_right {P : Program} {w : World} {K : PySem.W.Frag} {mg : Str → Option Value} {base : Heap} {f : Addr} {fd : FuncData} (B : Bs mg) (C : Cs K mg) (F : Fun K "_law_odd_right" "_law_odd_right" s_law_odd_right f fd) (D_law_take : Def P w K mg base 1 "_law_take" ["_law_pool_here", "_law_many"] (S_law_take K)) (D_law_refused : Def P w K mg base 7 "_law_refused" ["_law_way", "_law_many", "_law_most"] (S_law_refused K)) :
    FnOk P w K mg base (L2.CX P w) 8 f fd ["_law_pool_here", "_law_way", "_law_many", "_law_most"] (lift (S_law_odd_right K)) := by
  refine fn_ok F sc_law_odd_right (fun vs G M R Z h => sp_len4 h) (fun cdv A outer s H E hr => ?_)
  have nd : N_law_odd_right.Nodup := sc_law_odd_right.nd
  have hu : _ + 64 < cLine := hr.units
  have tk : Takes (cxOf (L2.CX P w) P w K mg base N_law_odd_right "_law_odd_right" (defScope s_law_odd_right) f cdv A outer s H E) (fun c d _ H => E c d H) := takes_of rfl rfl rfl rfl
  have po : PassesOwn (model P w) _ _ _ := passes_of (X := cxOf (L2.CX P w) P w K mg base N_law_odd_right "_law_odd_right" (defScope s_law_odd_right) f cdv A outer s H E) rfl
  exact ⟨rd_law_odd_right K, jss_cons (js_set (i := 4) (je_op kop_add (je_int) (je_callD D_law_take hr tk (ja_cons (je_var 0) (ja_cons (je_int) (ja_nil))))) nd) (jss_cons (js_if (jt_cmp (kop_eq hu) (je_op kop_mod (je_var 4) (je_int)) (je_int) (nomark _)) (jss_cons (js_set (i := 1) (je_ix (je_lst (ja_cons (je_str) (ja_cons (je_str) (ja_cons (je_str) (ja_cons (je_non) (ja_cons (je_int) (ja_cons (je_tup (ja_cons (je_str) (ja_nil))) (ja_cons (je_str) (ja_cons (je_lst (ja_cons (je_str) (ja_nil))) (ja_cons (je_dnew) (ja_nil))))))))))) (je_callD D_law_take hr tk (ja_cons (je_var 0) (ja_cons (je_int) (ja_nil))))) nd) (jss_nil)) (jss_nil)) (jss_cons (js_if (jt_cmp (kop_eq hu) (je_op kop_mod (je_op kop_fdiv (je_var 4) (je_int)) (je_int)) (je_int) (nomark _)) (jss_cons (js_set (i := 2) (je_ix (je_lst (ja_cons (je_int) (ja_cons (je_int) (ja_cons (je_neg (je_int)) (ja_cons (je_bl) (ja_cons (je_non) (ja_cons (je_str) (ja_cons (je_op kop_pow (je_int) (je_int)) (ja_nil))))))))) (je_callD D_law_take hr tk (ja_cons (je_var 0) (ja_cons (je_int) (ja_nil))))) nd) (jss_nil)) (jss_nil)) (jss_cons (js_if (jt_cmp (kop_eq hu) (je_op kop_fdiv (je_var 4) (je_int)) (je_int) (nomark _)) (jss_cons (js_set (i := 3) (je_ix (je_lst (ja_cons (je_int) (ja_cons (je_neg (je_int)) (ja_cons (je_bl) (ja_cons (je_non) (ja_cons (je_str) (ja_cons (je_tup (ja_cons (je_int) (ja_nil))) (ja_cons (je_op kop_pow (je_int) (je_int)) (ja_nil))))))))) (je_callD D_law_take hr tk (ja_cons (je_var 0) (ja_cons (je_int) (ja_nil))))) nd) (jss_nil)) (jss_nil)) (jss_cons (js_ret (je_cmp (kop_eq hu) (je_callD D_law_refused hr tk (ja_cons (je_var 1) (ja_cons (je_var 2) (ja_cons (je_var 3) (ja_nil))))) (je_lst (ja_cons (je_cmp (kop_eq hu) (je_op kop_mod (je_var 4) (je_int)) (je_int) (nomark _)) (ja_cons (je_cmp (kop_eq hu) (je_op kop_mod (je_var 4) (je_int)) (je_int) (nomark _)) (ja_cons (je_bl) (ja_cons (je_bl) (ja_nil)))))) (nomark _))) (jss_nil))))), fun vs G M R Z h => pf_law_odd_right h⟩
theorem df_law_odd_right {P : Program} {w : World} {K : PySem.W.Frag} {mg : Str → Option Value} {base : Heap} {f : Addr} {fd : FuncData} (B : Bs mg) (C : Cs K mg) (F : Fun K "_law_odd_right" "_law_odd_right" s_law_odd_right f fd) (b : Binds K fd ["_law_pool_here", "_law_way", "_law_many", "_law_most"] []) (gm : mg "_law_odd_right" = some (.ref f)) (D_law_take : Def P w K mg base 1 "_law_take" ["_law_pool_here", "_law_many"] (S_law_take K)) (D_law_refused : Def P w K mg base 7 "_law_refused" ["_law_way", "_law_many", "_law_most"] (S_law_refused K)) :
    Def P w K mg base 8 "_law_odd_right" ["_law_pool_here", "_law_way", "_law_many", "_law_most"] (S_law_odd_right K) := ⟨f, fd, fo_law_odd_right B C F D_law_take D_law_refused, gm, F.kp, b⟩
abbrev s_law_right : Stmt := topS 40
abbrev N_law_right : List Str := ["_law_pool_here", "_law_way", "_law_many", "_law_most", "_law_due_here", "_law_found"]
theorem sc_law_right : FnScope N_law_right ["_law_pool_here"] (defScope s_law_right) := ⟨rfl, rfl, rfl, by decide +kernel, rfl, by decide +kernel, by decide +kernel⟩
theorem fo_law_right {P : Program} {w : World} {K : PySem.W.Frag} {mg : Str → Option Value} {base : Heap} {f : Addr} {fd : FuncData} (B : Bs mg) (C : Cs K mg) (F : Fun K "_law_right" "_law_right" s_law_right f fd) (D_law_take : Def P w K mg base 1 "_law_take" ["_law_pool_here", "_law_many"] (S_law_take K)) (D_law_due : Def P w K mg base 3 "_law_due" ["_law_way", "_law_many", "_law_most"] (S_law_due K)) (D_needs : Def P w K mg base 6 "needs" ["way", "many", "most"] (S_needs K)) (D_law_is : Def P w K mg base 2 "_law_is" ["_law_found", "_law_due_here"] (S_law_is K)) (D_law_odd_right : Def P w K mg base 8 "_law_odd_right" ["_law_pool_here", "_law_way", "_law_many", "_law_most"] (S_law_odd_right K)) :
    FnOk P w K mg base (L2.CX P w) 9 f fd ["_law_pool_here"] (lift (S_law_right K)) := by
  refine fn_ok F sc_law_right (fun vs G M R Z h => sp_len1 h) (fun cdv A outer s H E hr => ?_)
  have nd : N_law_right.Nodup := sc_law_right.nd
  have hu : _ + 64 < cLine := hr.units
  have tk : Takes (cxOf (L2.CX P w) P w K mg base N_law_right "_law_right" (defScope s_law_right) f cdv A outer s H E) (fun c d _ H => E c d H) := takes_of rfl rfl rfl rfl
  have po : PassesOwn (model P w) _ _ _ := passes_of (X := cxOf (L2.CX P w) P w K mg base N_law_right "_law_right" (defScope s_law_right) f cdv A outer s H E) rfl
  exact ⟨rd_law_right K, jss_cons (js_set (i := 1) (je_ix (je_lst (ja_cons (je_str) (ja_cons (je_str) (ja_cons (je_str) (ja_cons (je_str) (ja_cons (je_str) (ja_nil))))))) (je_callD D_law_take hr tk (ja_cons (je_var 0) (ja_cons (je_int) (ja_nil))))) nd) (jss_cons (js_set (i := 2) (je_op kop_add (je_int) (je_callD D_law_take hr tk (ja_cons (je_var 0) (ja_cons (je_ix (je_lst (ja_cons (je_int) (ja_cons (je_int) (ja_cons (je_int) (ja_nil))))) (je_callD D_law_take hr tk (ja_cons (je_var 0) (ja_cons (je_int) (ja_nil))))) (ja_nil))))) nd) (jss_cons (js_set (i := 3) (je_callD D_law_take hr tk (ja_cons (je_var 0) (ja_cons (je_ix (je_lst (ja_cons (je_int) (ja_cons (je_int) (ja_nil)))) (je_callD D_law_take hr tk (ja_cons (je_var 0) (ja_cons (je_int) (ja_nil))))) (ja_nil)))) nd) (jss_cons (js_set (i := 4) (je_callD D_law_due hr tk (ja_cons (je_var 1) (ja_cons (je_var 2) (ja_cons (je_var 3) (ja_nil))))) nd) (jss_cons (js_set (i := 5) (je_callD D_needs hr tk (ja_cons (je_var 1) (ja_cons (je_var 2) (ja_cons (je_var 3) (ja_nil))))) nd) (jss_cons (js_if (jt_not (jt_val (je_callD D_law_is hr tk (ja_cons (je_var 5) (ja_cons (je_var 4) (ja_nil)))))) (jss_cons (js_ret (je_bl)) (jss_nil)) (jss_nil)) (jss_cons (js_expr (je_bm PySem.F.plainAttrs_list PySem.F.slot_list_append PySem.F.type_list_append km_append (je_var 5) (ja_cons (je_tup (ja_cons (je_str) (ja_cons (je_int) (ja_nil)))) (ja_nil)))) (jss_cons (js_ret (je_and (je_callD D_law_is hr tk (ja_cons (je_callD D_needs hr tk (ja_cons (je_var 1) (ja_cons (je_var 2) (ja_cons (je_var 3) (ja_nil))))) (ja_cons (je_var 4) (ja_nil)))) (je_one (je_callD D_law_odd_right hr tk (ja_cons (je_var 0) (ja_cons (je_var 1) (ja_cons (je_var 2) (ja_cons (je_var 3) (ja_nil))))))))) (jss_nil)))))))), fun vs G M R Z h => pf_law_right h⟩
theorem df_law_right {P : Program} {w : World} {K : PySem.W.Frag} {mg : Str → Option Value} {base : Heap} {f : Addr} {fd : FuncData} (B : Bs mg) (C : Cs K mg) (F : Fun K "_law_right" "_law_right" s_law_right f fd) (b : Binds K fd ["_law_pool_here"] []) (gm : mg "_law_right" = some (.ref f)) (D_law_take : Def P w K mg base 1 "_law_take" ["_law_pool_here", "_law_many"] (S_law_take K)) (D_law_due : Def P w K mg base 3 "_law_due" ["_law_way", "_law_many", "_law_most"] (S_law_due K)) (D_needs : Def P w K mg base 6 "needs" ["way", "many", "most"] (S_needs K)) (D_law_is : Def P w K mg base 2 "_law_is" ["_law_found", "_law_due_here"] (S_law_is K)) (D_law_odd_right : Def P w K mg base 8 "_law_odd_right" ["_law_pool_here", "_law_way", "_law_many", "_law_most"] (S_law_odd_right K)) :
    Def P w K mg base 9 "_law_right" ["_law_pool_here"] (S_law_right K) := ⟨f, fd, fo_law_right B C F D_law_take D_law_due D_needs D_law_is D_law_odd_right, gm, F.kp, b⟩
abbrev s_law : Stmt := topS 41
abbrev N_law : List Str := ["_law_script", "_law_k"]
theorem sc_law : FnScope N_law ["_law_script"] (defScope s_law) := ⟨rfl, rfl, rfl, by decide +kernel, rfl, by decide +kernel, by decide +kernel⟩
theorem fo_law {P : Program} {w : World} {K : PySem.W.Frag} {mg : Str → Option Value} {base : Heap} {f : Addr} {fd : FuncData} (B : Bs mg) (C : Cs K mg) (F : Fun K "law" "law" s_law f fd) (D_law_pool : Def P w K mg base 1 "_law_pool" ["_law_script", "_law_k"] (S_law_pool K)) (D_law_right : Def P w K mg base 9 "_law_right" ["_law_pool_here"] (S_law_right K)) :
    FnOk P w K mg base (L2.CX P w) 10 f fd ["_law_script"] (lift (S_law K)) := by
  refine fn_ok F sc_law (fun vs G M R Z h => sp_len1 h) (fun cdv A outer s H E hr => ?_)
  have nd : N_law.Nodup := sc_law.nd
  have hu : _ + 64 < cLine := hr.units
  have tk : Takes (cxOf (L2.CX P w) P w K mg base N_law "law" (defScope s_law) f cdv A outer s H E) (fun c d _ H => E c d H) := takes_of rfl rfl rfl rfl
  have po : PassesOwn (model P w) _ _ _ := passes_of (X := cxOf (L2.CX P w) P w K mg base N_law "law" (defScope s_law) f cdv A outer s H E) rfl
  exact ⟨rd_law K, jss_cons (js_if (jt_cmp (kop_ne hu) (je_conT C.k_WAYS) (je_tup (ja_cons (je_str) (ja_cons (je_str) (ja_cons (je_str) (ja_cons (je_str) (ja_cons (je_str) (ja_nil))))))) (nomark _)) (jss_cons (js_ret (je_bl)) (jss_nil)) (jss_nil)) (jss_cons (js_for po rfl (ji_range1 B.range (ja_cons (je_callB kc_max2 B.max (ja_cons (je_int) (ja_cons (je_callB kc_min2 B.min (ja_cons (je_callB kc_len B.len (ja_cons (je_var 0) (ja_nil))) (ja_cons (je_int) (ja_nil)))) (ja_nil)))) (ja_nil))) (jg_name (i := 1) nd) (jss_cons (js_if (jt_not (jt_val (je_callD D_law_right hr tk (ja_cons (je_callD D_law_pool hr tk (ja_cons (je_var 0) (ja_cons (je_var 1) (ja_nil)))) (ja_nil))))) (jss_cons (js_ret (je_bl)) (jss_nil)) (jss_nil)) (jss_nil))) (jss_cons (js_ret (je_bl)) (jss_nil))), fun vs G M R Z h => pf_law h⟩
theorem df_law {P : Program} {w : World} {K : PySem.W.Frag} {mg : Str → Option Value} {base : Heap} {f : Addr} {fd : FuncData} (B : Bs mg) (C : Cs K mg) (F : Fun K "law" "law" s_law f fd) (b : Binds K fd ["_law_script"] []) (gm : mg "law" = some (.ref f)) (D_law_pool : Def P w K mg base 1 "_law_pool" ["_law_script", "_law_k"] (S_law_pool K)) (D_law_right : Def P w K mg base 9 "_law_right" ["_law_pool_here"] (S_law_right K)) :
    Def P w K mg base 10 "law" ["_law_script"] (S_law K) := ⟨f, fd, fo_law B C F D_law_pool D_law_right, gm, F.kp, b⟩
theorem all_mk {l : PySem.W.OpenLaw} {w : World} {K : PySem.W.Frag} {h : Heap} {mg : Str → Option Value} {fa f0 f1 f2 f3 f4 f5 f6 f7 f8 f9 f10 f11 f12 f13 f14 f15 f16 f17 f18 f19 f20 f21 f22 f23 f24 f25 f26 f27 f28 : Addr} (X : K.In h) (G : h.Ns mainGlobals mg) (hfa : mg "law" = some (.ref fa))
    {od0 an0 od1 an1 od2 an2 od3 an3 od4 an4 od5 an5 od6 an6 od7 an7 od8 an8 od9 an9 od10 an10 od11 an11 od12 an12 od13 an13 od14 an14 od15 an15 od16 an16 od17 an17 od18 an18 od19 an19 od20 an20 od21 an21 od22 an22 od23 an23 od24 an24 od25 an25 od26 an26 od27 an27 od28 an28 : Option Addr} {sl0 sl1 sl2 sl3 sl4 sl5 sl6 sl7 sl8 sl9 sl10 sl11 sl12 sl13 sl14 sl15 sl16 sl17 sl18 sl19 sl20 sl21 sl22 sl23 sl24 sl25 sl26 sl27 sl28 : Array (Option Value)} {oc0 kV0 dc0 pm0 cd0 ct0 oc1 kV1 dc1 pm1 cd1 ct1 oc2 kV2 dc2 pm2 cd2 ct2 oc3 kV3 dc3 pm3 cd3 ct3 oc4 kV4 dc4 pm4 cd4 ct4 oc5 kV5 dc5 pm5 cd5 ct5 oc6 kV6 dc6 pm6 cd6 ct6 oc7 kV7 dc7 pm7 cd7 ct7 oc8 kV8 dc8 pm8 cd8 ct8 oc9 kV9 dc9 pm9 cd9 ct9 oc10 kV10 dc10 pm10 cd10 ct10 oc11 kV11 dc11 pm11 cd11 ct11 oc12 kV12 dc12 pm12 cd12 ct12 oc13 kV13 dc13 pm13 cd13 ct13 oc14 kV14 dc14 pm14 cd14 ct14 oc15 kV15 dc15 pm15 cd15 ct15 oc16 kV16 dc16 pm16 cd16 ct16 oc17 kV17 dc17 pm17 cd17 ct17 oc18 kV18 dc18 pm18 cd18 ct18 oc19 kV19 dc19 pm19 cd19 ct19 oc20 kV20 dc20 pm20 cd20 ct20 oc21 kV21 dc21 pm21 cd21 ct21 oc22 kV22 dc22 pm22 cd22 ct22 oc23 kV23 dc23 pm23 cd23 ct23 oc24 kV24 dc24 pm24 cd24 ct24 oc25 kV25 dc25 pm25 cd25 ct25 oc26 kV26 dc26 pm26 cd26 ct26 oc27 kV27 dc27 pm27 cd27 ct27 oc28 kV28 dc28 pm28 cd28 ct28 : Value}
    (a0 : PySem.W.nsIn K mainGlobals "_law_pool" = some (some (.ref f0))) (l0 : K.lookup f0 = some ⟨oc0, od0, .func (PySem.W.fnOf "_law_pool" "_law_pool" (defArgs s_law_pool) (defBody s_law_pool) (defScope s_law_pool) .none kV0 dc0 pm0 an0 cd0 ct0), sl0⟩) (c0 : PySem.W.codeIn K cd0 "_law_pool" = true) (k0 : PySem.W.keepIn K (.ref f0) = true)
    (a1 : PySem.W.nsIn K mainGlobals "_law_take" = some (some (.ref f1))) (l1 : K.lookup f1 = some ⟨oc1, od1, .func (PySem.W.fnOf "_law_take" "_law_take" (defArgs s_law_take) (defBody s_law_take) (defScope s_law_take) .none kV1 dc1 pm1 an1 cd1 ct1), sl1⟩) (c1 : PySem.W.codeIn K cd1 "_law_take" = true) (k1 : PySem.W.keepIn K (.ref f1) = true)
    (a2 : PySem.W.nsIn K mainGlobals "_law_spare" = some (some (.ref f2))) (l2 : K.lookup f2 = some ⟨oc2, od2, .func (PySem.W.fnOf "_law_spare" "_law_spare" (defArgs s_law_spare) (defBody s_law_spare) (defScope s_law_spare) .none kV2 dc2 pm2 an2 cd2 ct2), sl2⟩) (c2 : PySem.W.codeIn K cd2 "_law_spare" = true) (k2 : PySem.W.keepIn K (.ref f2) = true)
    (a3 : PySem.W.nsIn K mainGlobals "_law_stairs" = some (some (.ref f3))) (l3 : K.lookup f3 = some ⟨oc3, od3, .func (PySem.W.fnOf "_law_stairs" "_law_stairs" (defArgs s_law_stairs) (defBody s_law_stairs) (defScope s_law_stairs) .none kV3 dc3 pm3 an3 cd3 ct3), sl3⟩) (c3 : PySem.W.codeIn K cd3 "_law_stairs" = true) (k3 : PySem.W.keepIn K (.ref f3) = true)
    (a4 : PySem.W.nsIn K mainGlobals "_law_high" = some (some (.ref f4))) (l4 : K.lookup f4 = some ⟨oc4, od4, .func (PySem.W.fnOf "_law_high" "_law_high" (defArgs s_law_high) (defBody s_law_high) (defScope s_law_high) .none kV4 dc4 pm4 an4 cd4 ct4), sl4⟩) (c4 : PySem.W.codeIn K cd4 "_law_high" = true) (k4 : PySem.W.keepIn K (.ref f4) = true)
    (a5 : PySem.W.nsIn K mainGlobals "_law_trees" = some (some (.ref f5))) (l5 : K.lookup f5 = some ⟨oc5, od5, .func (PySem.W.fnOf "_law_trees" "_law_trees" (defArgs s_law_trees) (defBody s_law_trees) (defScope s_law_trees) .none kV5 dc5 pm5 an5 cd5 ct5), sl5⟩) (c5 : PySem.W.codeIn K cd5 "_law_trees" = true) (k5 : PySem.W.keepIn K (.ref f5) = true)
    (a6 : PySem.W.nsIn K mainGlobals "_law_due" = some (some (.ref f6))) (l6 : K.lookup f6 = some ⟨oc6, od6, .func (PySem.W.fnOf "_law_due" "_law_due" (defArgs s_law_due) (defBody s_law_due) (defScope s_law_due) .none kV6 dc6 pm6 an6 cd6 ct6), sl6⟩) (c6 : PySem.W.codeIn K cd6 "_law_due" = true) (k6 : PySem.W.keepIn K (.ref f6) = true)
    (a7 : PySem.W.nsIn K mainGlobals "look_at_way" = some (some (.ref f7))) (l7 : K.lookup f7 = some ⟨oc7, od7, .func (PySem.W.fnOf "look_at_way" "look_at_way" (defArgs s_look_at_way) (defBody s_look_at_way) (defScope s_look_at_way) .none kV7 dc7 pm7 an7 cd7 ct7), sl7⟩) (c7 : PySem.W.codeIn K cd7 "look_at_way" = true) (k7 : PySem.W.keepIn K (.ref f7) = true)
    (a8 : PySem.W.nsIn K mainGlobals "is_whole" = some (some (.ref f8))) (l8 : K.lookup f8 = some ⟨oc8, od8, .func (PySem.W.fnOf "is_whole" "is_whole" (defArgs s_is_whole) (defBody s_is_whole) (defScope s_is_whole) .none kV8 dc8 pm8 an8 cd8 ct8), sl8⟩) (c8 : PySem.W.codeIn K cd8 "is_whole" = true) (k8 : PySem.W.keepIn K (.ref f8) = true)
    (a9 : PySem.W.nsIn K mainGlobals "is_within" = some (some (.ref f9))) (l9 : K.lookup f9 = some ⟨oc9, od9, .func (PySem.W.fnOf "is_within" "is_within" (defArgs s_is_within) (defBody s_is_within) (defScope s_is_within) .none kV9 dc9 pm9 an9 cd9 ct9), sl9⟩) (c9 : PySem.W.codeIn K cd9 "is_within" = true) (k9 : PySem.W.keepIn K (.ref f9) = true)
    (a10 : PySem.W.nsIn K mainGlobals "look_at_many" = some (some (.ref f10))) (l10 : K.lookup f10 = some ⟨oc10, od10, .func (PySem.W.fnOf "look_at_many" "look_at_many" (defArgs s_look_at_many) (defBody s_look_at_many) (defScope s_look_at_many) .none kV10 dc10 pm10 an10 cd10 ct10), sl10⟩) (c10 : PySem.W.codeIn K cd10 "look_at_many" = true) (k10 : PySem.W.keepIn K (.ref f10) = true)
    (a11 : PySem.W.nsIn K mainGlobals "look_at_sizes" = some (some (.ref f11))) (l11 : K.lookup f11 = some ⟨oc11, od11, .func (PySem.W.fnOf "look_at_sizes" "look_at_sizes" (defArgs s_look_at_sizes) (defBody s_look_at_sizes) (defScope s_look_at_sizes) .none kV11 dc11 pm11 an11 cd11 ct11), sl11⟩) (c11 : PySem.W.codeIn K cd11 "look_at_sizes" = true) (k11 : PySem.W.keepIn K (.ref f11) = true)
    (a12 : PySem.W.nsIn K mainGlobals "side_of" = some (some (.ref f12))) (l12 : K.lookup f12 = some ⟨oc12, od12, .func (PySem.W.fnOf "side_of" "side_of" (defArgs s_side_of) (defBody s_side_of) (defScope s_side_of) .none kV12 dc12 pm12 an12 cd12 ct12), sl12⟩) (c12 : PySem.W.codeIn K cd12 "side_of" = true) (k12 : PySem.W.keepIn K (.ref f12) = true)
    (a13 : PySem.W.nsIn K mainGlobals "spare_needs" = some (some (.ref f13))) (l13 : K.lookup f13 = some ⟨oc13, od13, .func (PySem.W.fnOf "spare_needs" "spare_needs" (defArgs s_spare_needs) (defBody s_spare_needs) (defScope s_spare_needs) .none kV13 dc13 pm13 an13 cd13 ct13), sl13⟩) (c13 : PySem.W.codeIn K cd13 "spare_needs" = true) (k13 : PySem.W.keepIn K (.ref f13) = true)
    (a14 : PySem.W.nsIn K mainGlobals "high_of" = some (some (.ref f14))) (l14 : K.lookup f14 = some ⟨oc14, od14, .func (PySem.W.fnOf "high_of" "high_of" (defArgs s_high_of) (defBody s_high_of) (defScope s_high_of) .none kV14 dc14 pm14 an14 cd14 ct14), sl14⟩) (c14 : PySem.W.codeIn K cd14 "high_of" = true) (k14 : PySem.W.keepIn K (.ref f14) = true)
    (a15 : PySem.W.nsIn K mainGlobals "last_of" = some (some (.ref f15))) (l15 : K.lookup f15 = some ⟨oc15, od15, .func (PySem.W.fnOf "last_of" "last_of" (defArgs s_last_of) (defBody s_last_of) (defScope s_last_of) .none kV15 dc15 pm15 an15 cd15 ct15), sl15⟩) (c15 : PySem.W.codeIn K cd15 "last_of" = true) (k15 : PySem.W.keepIn K (.ref f15) = true)
    (a16 : PySem.W.nsIn K mainGlobals "stair_of" = some (some (.ref f16))) (l16 : K.lookup f16 = some ⟨oc16, od16, .func (PySem.W.fnOf "stair_of" "stair_of" (defArgs s_stair_of) (defBody s_stair_of) (defScope s_stair_of) .none kV16 dc16 pm16 an16 cd16 ct16), sl16⟩) (c16 : PySem.W.codeIn K cd16 "stair_of" = true) (k16 : PySem.W.keepIn K (.ref f16) = true)
    (a17 : PySem.W.nsIn K mainGlobals "slots_of" = some (some (.ref f17))) (l17 : K.lookup f17 = some ⟨oc17, od17, .func (PySem.W.fnOf "slots_of" "slots_of" (defArgs s_slots_of) (defBody s_slots_of) (defScope s_slots_of) .none kV17 dc17 pm17 an17 cd17 ct17), sl17⟩) (c17 : PySem.W.codeIn K cd17 "slots_of" = true) (k17 : PySem.W.keepIn K (.ref f17) = true)
    (a18 : PySem.W.nsIn K mainGlobals "stairs_needs" = some (some (.ref f18))) (l18 : K.lookup f18 = some ⟨oc18, od18, .func (PySem.W.fnOf "stairs_needs" "stairs_needs" (defArgs s_stairs_needs) (defBody s_stairs_needs) (defScope s_stairs_needs) .none kV18 dc18 pm18 an18 cd18 ct18), sl18⟩) (c18 : PySem.W.codeIn K cd18 "stairs_needs" = true) (k18 : PySem.W.keepIn K (.ref f18) = true)
    (a19 : PySem.W.nsIn K mainGlobals "grove_needs" = some (some (.ref f19))) (l19 : K.lookup f19 = some ⟨oc19, od19, .func (PySem.W.fnOf "grove_needs" "grove_needs" (defArgs s_grove_needs) (defBody s_grove_needs) (defScope s_grove_needs) .none kV19 dc19 pm19 an19 cd19 ct19), sl19⟩) (c19 : PySem.W.codeIn K cd19 "grove_needs" = true) (k19 : PySem.W.keepIn K (.ref f19) = true)
    (a20 : PySem.W.nsIn K mainGlobals "trees_of" = some (some (.ref f20))) (l20 : K.lookup f20 = some ⟨oc20, od20, .func (PySem.W.fnOf "trees_of" "trees_of" (defArgs s_trees_of) (defBody s_trees_of) (defScope s_trees_of) .none kV20 dc20 pm20 an20 cd20 ct20), sl20⟩) (c20 : PySem.W.codeIn K cd20 "trees_of" = true) (k20 : PySem.W.keepIn K (.ref f20) = true)
    (a21 : PySem.W.nsIn K mainGlobals "kinds_of" = some (some (.ref f21))) (l21 : K.lookup f21 = some ⟨oc21, od21, .func (PySem.W.fnOf "kinds_of" "kinds_of" (defArgs s_kinds_of) (defBody s_kinds_of) (defScope s_kinds_of) .none kV21 dc21 pm21 an21 cd21 ct21), sl21⟩) (c21 : PySem.W.codeIn K cd21 "kinds_of" = true) (k21 : PySem.W.keepIn K (.ref f21) = true)
    (a22 : PySem.W.nsIn K mainGlobals "needs" = some (some (.ref f22))) (l22 : K.lookup f22 = some ⟨oc22, od22, .func (PySem.W.fnOf "needs" "needs" (defArgs s_needs) (defBody s_needs) (defScope s_needs) .none kV22 dc22 pm22 an22 cd22 ct22), sl22⟩) (c22 : PySem.W.codeIn K cd22 "needs" = true) (k22 : PySem.W.keepIn K (.ref f22) = true)
    (a23 : PySem.W.nsIn K mainGlobals "_law_whole" = some (some (.ref f23))) (l23 : K.lookup f23 = some ⟨oc23, od23, .func (PySem.W.fnOf "_law_whole" "_law_whole" (defArgs s_law_whole) (defBody s_law_whole) (defScope s_law_whole) .none kV23 dc23 pm23 an23 cd23 ct23), sl23⟩) (c23 : PySem.W.codeIn K cd23 "_law_whole" = true) (k23 : PySem.W.keepIn K (.ref f23) = true)
    (a24 : PySem.W.nsIn K mainGlobals "_law_is" = some (some (.ref f24))) (l24 : K.lookup f24 = some ⟨oc24, od24, .func (PySem.W.fnOf "_law_is" "_law_is" (defArgs s_law_is) (defBody s_law_is) (defScope s_law_is) .none kV24 dc24 pm24 an24 cd24 ct24), sl24⟩) (c24 : PySem.W.codeIn K cd24 "_law_is" = true) (k24 : PySem.W.keepIn K (.ref f24) = true)
    (a25 : PySem.W.nsIn K mainGlobals "_law_refused" = some (some (.ref f25))) (l25 : K.lookup f25 = some ⟨oc25, od25, .func (PySem.W.fnOf "_law_refused" "_law_refused" (defArgs s_law_refused) (defBody s_law_refused) (defScope s_law_refused) .none kV25 dc25 pm25 an25 cd25 ct25), sl25⟩) (c25 : PySem.W.codeIn K cd25 "_law_refused" = true) (k25 : PySem.W.keepIn K (.ref f25) = true)
    (a26 : PySem.W.nsIn K mainGlobals "_law_odd_right" = some (some (.ref f26))) (l26 : K.lookup f26 = some ⟨oc26, od26, .func (PySem.W.fnOf "_law_odd_right" "_law_odd_right" (defArgs s_law_odd_right) (defBody s_law_odd_right) (defScope s_law_odd_right) .none kV26 dc26 pm26 an26 cd26 ct26), sl26⟩) (c26 : PySem.W.codeIn K cd26 "_law_odd_right" = true) (k26 : PySem.W.keepIn K (.ref f26) = true)
    (a27 : PySem.W.nsIn K mainGlobals "_law_right" = some (some (.ref f27))) (l27 : K.lookup f27 = some ⟨oc27, od27, .func (PySem.W.fnOf "_law_right" "_law_right" (defArgs s_law_right) (defBody s_law_right) (defScope s_law_right) .none kV27 dc27 pm27 an27 cd27 ct27), sl27⟩) (c27 : PySem.W.codeIn K cd27 "_law_right" = true) (k27 : PySem.W.keepIn K (.ref f27) = true)
    (a28 : PySem.W.nsIn K mainGlobals "law" = some (some (.ref f28))) (l28 : K.lookup f28 = some ⟨oc28, od28, .func (PySem.W.fnOf "law" "law" (defArgs s_law) (defBody s_law) (defScope s_law) .none kV28 dc28 pm28 an28 cd28 ct28), sl28⟩) (c28 : PySem.W.codeIn K cd28 "law" = true) (k28 : PySem.W.keepIn K (.ref f28) = true)
    (z_ValueError : PySem.W.nsIn K mainGlobals "ValueError" = some none)
    (z_bool : PySem.W.nsIn K mainGlobals "bool" = some none)
    (z_int : PySem.W.nsIn K mainGlobals "int" = some none)
    (z_isinstance : PySem.W.nsIn K mainGlobals "isinstance" = some none)
    (z_len : PySem.W.nsIn K mainGlobals "len" = some none)
    (z_list : PySem.W.nsIn K mainGlobals "list" = some none)
    (z_max : PySem.W.nsIn K mainGlobals "max" = some none)
    (z_min : PySem.W.nsIn K mainGlobals "min" = some none)
    (z_range : PySem.W.nsIn K mainGlobals "range" = some none)
    (z_str : PySem.W.nsIn K mainGlobals "str" = some none)
    (z_sum : PySem.W.nsIn K mainGlobals "sum" = some none)
    (z_tuple : PySem.W.nsIn K mainGlobals "tuple" = some none)
    {X_TouchError X_NoSize X_NoWay X_Over : Addr}
    {tk_MOST_CELLS : Tok}
    {tk_MOST_ASKS : Tok}
    {tk_TABLE : Tok}
    {KA_WAYS : Addr} {ko_WAYS : Option Addr} {ki_WAYS : Array Value} {kn_WAYS : Nat} {ks_WAYS : Array (Option Value)}
    (xa_TouchError : PySem.W.nsIn K mainGlobals "TouchError" = some (some (.ref X_TouchError)))
    (xk_TouchError : PySem.W.keepIn K (.ref X_TouchError) = true)
    (xb_TouchError : PySem.W.subIn K (.ref X_TouchError) (.type "BaseException") = some true)
    (xt_TouchError : PySem.W.typeIn K (.ref X_TouchError) = some (.type "type"))
    (x4_TouchError : PySem.W.hasDictIn K X_TouchError = true)
    (xa_NoSize : PySem.W.nsIn K mainGlobals "NoSize" = some (some (.ref X_NoSize)))
    (xk_NoSize : PySem.W.keepIn K (.ref X_NoSize) = true)
    (xx_NoSize : PySem.W.excIn K X_NoSize [.type "ValueError", .type "Exception", .type "BaseException", .type "object"] "ValueError.__new__" = true)
    (xb_NoSize : PySem.W.subIn K (.ref X_NoSize) (.type "BaseException") = some true)
    (xt_NoSize : PySem.W.typeIn K (.ref X_NoSize) = some (.type "type"))
    (x4_NoSize : PySem.W.hasDictIn K X_NoSize = true)
    (xs_NoSize : PySem.W.subIn K (.ref X_NoSize) (.ref X_NoSize) = some true)
    (x1_NoSize : PySem.W.findIn K (.ref X_NoSize) "__getattribute__" = some (some (.builtin "BaseException.__getattribute__")))
    (x2_NoSize : PySem.W.findIn K (.ref X_NoSize) "__getattr__" = some none)
    (x5_NoSize : PySem.W.findIn K (.ref X_NoSize) "__class__" = some (some (.builtin "object.__class__")))
    (x8_NoSize : PySem.W.mroIn K X_NoSize (.type "object") = some true)
    (xa_NoWay : PySem.W.nsIn K mainGlobals "NoWay" = some (some (.ref X_NoWay)))
    (xk_NoWay : PySem.W.keepIn K (.ref X_NoWay) = true)
    (xx_NoWay : PySem.W.excIn K X_NoWay [.type "ValueError", .type "Exception", .type "BaseException", .type "object"] "ValueError.__new__" = true)
    (xb_NoWay : PySem.W.subIn K (.ref X_NoWay) (.type "BaseException") = some true)
    (xt_NoWay : PySem.W.typeIn K (.ref X_NoWay) = some (.type "type"))
    (x4_NoWay : PySem.W.hasDictIn K X_NoWay = true)
    (xs_NoWay : PySem.W.subIn K (.ref X_NoWay) (.ref X_NoWay) = some true)
    (x1_NoWay : PySem.W.findIn K (.ref X_NoWay) "__getattribute__" = some (some (.builtin "BaseException.__getattribute__")))
    (x2_NoWay : PySem.W.findIn K (.ref X_NoWay) "__getattr__" = some none)
    (x5_NoWay : PySem.W.findIn K (.ref X_NoWay) "__class__" = some (some (.builtin "object.__class__")))
    (x8_NoWay : PySem.W.mroIn K X_NoWay (.type "object") = some true)
    (xa_Over : PySem.W.nsIn K mainGlobals "Over" = some (some (.ref X_Over)))
    (xk_Over : PySem.W.keepIn K (.ref X_Over) = true)
    (xt_Over : PySem.W.typeIn K (.ref X_Over) = some (.type "type"))
    (x4_Over : PySem.W.hasDictIn K X_Over = true)
    (xs_Over : PySem.W.subIn K (.ref X_Over) (.ref X_Over) = some true)
    (x6 : PySem.W.specialIn K (.builtin "object.__class__") "__get__" = some (some (.builtin "getset_descriptor.__get__")))
    (x7 : PySem.W.takesIn K (.builtin "object.__class__") = some true)
    (ni_NoSize : PySem.W.subIn K (.type "NoneType") (.ref X_NoSize) = some false)
    (su_NoSize_NoSize : PySem.W.subIn K (.ref X_NoSize) (.ref X_NoSize) = some true)
    (su_NoWay_NoSize : PySem.W.subIn K (.ref X_NoWay) (.ref X_NoSize) = some false)
    (ni_NoWay : PySem.W.subIn K (.type "NoneType") (.ref X_NoWay) = some false)
    (su_NoSize_NoWay : PySem.W.subIn K (.ref X_NoSize) (.ref X_NoWay) = some false)
    (su_NoWay_NoWay : PySem.W.subIn K (.ref X_NoWay) (.ref X_NoWay) = some true)
    (ni_Over : PySem.W.subIn K (.type "NoneType") (.ref X_Over) = some false)
    (su_NoSize_Over : PySem.W.subIn K (.ref X_NoSize) (.ref X_Over) = some false)
    (su_NoWay_Over : PySem.W.subIn K (.ref X_NoWay) (.ref X_Over) = some false)
    (su_NoSize_TouchError : PySem.W.subIn K (.ref X_NoSize) (.ref X_TouchError) = some true)
    (su_NoWay_TouchError : PySem.W.subIn K (.ref X_NoWay) (.ref X_TouchError) = some true)
    (ni_ValueError : PySem.W.subIn K (.type "NoneType") (.type "ValueError") = some false)
    (su_NoSize_ValueError : PySem.W.subIn K (.ref X_NoSize) (.type "ValueError") = some true)
    (su_NoWay_ValueError : PySem.W.subIn K (.ref X_NoWay) (.type "ValueError") = some true)
    (ka_MOST_CELLS : PySem.W.nsIn K mainGlobals "MOST_CELLS" = some (some (.int 32 tk_MOST_CELLS)))
    (ka_MOST_ASKS : PySem.W.nsIn K mainGlobals "MOST_ASKS" = some (some (.int 60 tk_MOST_ASKS)))
    (ka_TABLE : PySem.W.nsIn K mainGlobals "TABLE" = some (some (.int 4 tk_TABLE)))
    (ka_WAYS : PySem.W.nsIn K mainGlobals "WAYS" = some (some (.ref KA_WAYS)))
    (kl_WAYS : K.lookup KA_WAYS = some ⟨.type "tuple", ko_WAYS, .seq ki_WAYS kn_WAYS, ks_WAYS⟩)
    (kv_WAYS : ki_WAYS.toList.map absV = con_WAYS.map some)
    (kz_WAYS : ki_WAYS.size ≤ 1000)
    : ∃ fd : FuncData, (∀ (s : Shared) (v : Value), BindsTo s fd ⟨[v], []⟩ [("_law_script", v)]) ∧ ∀ base : Heap, K.In base → base.Ns mainGlobals mg → FnOk l.prog w K mg base (L2.CX l.prog w) 10 fa fd ["_law_script"] (lift (S_law K)) := by
  have e := hfa.symm.trans (PySem.W.mg_of X G a28)
  cases e
  have B : Bs mg := ⟨PySem.W.mg_none_of X G z_ValueError, PySem.W.mg_none_of X G z_bool, PySem.W.mg_none_of X G z_int, PySem.W.mg_none_of X G z_isinstance, PySem.W.mg_none_of X G z_len, PySem.W.mg_none_of X G z_list, PySem.W.mg_none_of X G z_max, PySem.W.mg_none_of X G z_min, PySem.W.mg_none_of X G z_range, PySem.W.mg_none_of X G z_str, PySem.W.mg_none_of X G z_sum, PySem.W.mg_none_of X G z_tuple⟩
  have C : Cs K mg := ⟨xg_mk X G xa_TouchError xk_TouchError, xg_mk X G xa_NoSize xk_NoSize, xg_mk X G xa_NoWay xk_NoWay, xg_mk X G xa_Over xk_Over, xr_mk xa_NoSize xx_NoSize xb_NoSize xt_NoSize, xr_mk xa_NoWay xx_NoWay xb_NoWay xt_NoWay, List.forall_mem_cons.mpr ⟨by rw [cl_of xa_NoSize, cl_of xa_TouchError]; exact PySem.W.exm_ref xb_TouchError x4_TouchError xt_TouchError su_NoSize_TouchError, List.forall_mem_cons.mpr ⟨by rw [cl_of xa_NoWay, cl_of xa_TouchError]; exact PySem.W.exm_ref xb_TouchError x4_TouchError xt_TouchError su_NoWay_TouchError, (fun _ z => nomatch z)⟩⟩, (by rw [cl_of xa_NoSize]; exact kit_ref x4_NoSize xt_NoSize xs_NoSize ni_NoSize), List.forall_mem_cons.mpr ⟨⟨xe_mk xa_NoSize ⟨x1_NoSize, x2_NoSize, xb_NoSize, x4_NoSize, x5_NoSize, x6, x7, x8_NoSize⟩, by rw [cl_of xa_NoSize]; exact kit_ref x4_NoSize xt_NoSize xs_NoSize su_NoSize_NoSize⟩, List.forall_mem_cons.mpr ⟨⟨xe_mk xa_NoWay ⟨x1_NoWay, x2_NoWay, xb_NoWay, x4_NoWay, x5_NoWay, x6, x7, x8_NoWay⟩, by rw [cl_of xa_NoWay, cl_of xa_NoSize]; exact kit_ref x4_NoSize xt_NoSize xs_NoSize su_NoWay_NoSize⟩, (fun _ z => nomatch z)⟩⟩, (by rw [cl_of xa_NoWay]; exact kit_ref x4_NoWay xt_NoWay xs_NoWay ni_NoWay), List.forall_mem_cons.mpr ⟨⟨xe_mk xa_NoSize ⟨x1_NoSize, x2_NoSize, xb_NoSize, x4_NoSize, x5_NoSize, x6, x7, x8_NoSize⟩, by rw [cl_of xa_NoSize, cl_of xa_NoWay]; exact kit_ref x4_NoWay xt_NoWay xs_NoWay su_NoSize_NoWay⟩, List.forall_mem_cons.mpr ⟨⟨xe_mk xa_NoWay ⟨x1_NoWay, x2_NoWay, xb_NoWay, x4_NoWay, x5_NoWay, x6, x7, x8_NoWay⟩, by rw [cl_of xa_NoWay]; exact kit_ref x4_NoWay xt_NoWay xs_NoWay su_NoWay_NoWay⟩, (fun _ z => nomatch z)⟩⟩, (by rw [cl_of xa_Over]; exact kit_ref x4_Over xt_Over xs_Over ni_Over), List.forall_mem_cons.mpr ⟨⟨xe_mk xa_NoSize ⟨x1_NoSize, x2_NoSize, xb_NoSize, x4_NoSize, x5_NoSize, x6, x7, x8_NoSize⟩, by rw [cl_of xa_NoSize, cl_of xa_Over]; exact kit_ref x4_Over xt_Over xs_Over su_NoSize_Over⟩, List.forall_mem_cons.mpr ⟨⟨xe_mk xa_NoWay ⟨x1_NoWay, x2_NoWay, xb_NoWay, x4_NoWay, x5_NoWay, x6, x7, x8_NoWay⟩, by rw [cl_of xa_NoWay, cl_of xa_Over]; exact kit_ref x4_Over xt_Over xs_Over su_NoWay_Over⟩, (fun _ z => nomatch z)⟩⟩, (by exact kit_tyV (by decide +kernel) (by rfl) ni_ValueError), List.forall_mem_cons.mpr ⟨⟨xe_mk xa_NoSize ⟨x1_NoSize, x2_NoSize, xb_NoSize, x4_NoSize, x5_NoSize, x6, x7, x8_NoSize⟩, by rw [cl_of xa_NoSize]; exact kit_tyV (by decide +kernel) (by rfl) su_NoSize_ValueError⟩, List.forall_mem_cons.mpr ⟨⟨xe_mk xa_NoWay ⟨x1_NoWay, x2_NoWay, xb_NoWay, x4_NoWay, x5_NoWay, x6, x7, x8_NoWay⟩, by rw [cl_of xa_NoWay]; exact kit_tyV (by decide +kernel) (by rfl) su_NoWay_ValueError⟩, (fun _ z => nomatch z)⟩⟩, ⟨_, PySem.W.mg_of X G ka_MOST_CELLS, _, rfl⟩, ⟨_, PySem.W.mg_of X G ka_MOST_ASKS, _, rfl⟩, ⟨_, PySem.W.mg_of X G ka_TABLE, _, rfl⟩, xt_mk X G ka_WAYS kl_WAYS kv_WAYS (by intro y hy; simp only [con_WAYS, List.mem_cons, List.not_mem_nil, or_false] at hy; rcases hy with rfl | rfl | rfl | rfl | rfl <;> first | exact .inl ⟨_, rfl⟩ | exact .inr ⟨_, rfl⟩) kz_WAYS⟩
  have F0 := fun_mk (st := s_law_pool) l0 c0 k0
  have b0 := F0.binds (ps := ["_law_script", "_law_k"]) fun _ _ _ _ _ _ us hl => match us, hl with | [_, _], _ => rfl
  have F1 := fun_mk (st := s_law_take) l1 c1 k1
  have b1 := F1.binds (ps := ["_law_pool_here", "_law_many"]) fun _ _ _ _ _ _ us hl => match us, hl with | [_, _], _ => rfl
  have F2 := fun_mk (st := s_law_spare) l2 c2 k2
  have b2 := F2.binds (ps := ["_law_many", "_law_most"]) fun _ _ _ _ _ _ us hl => match us, hl with | [_, _], _ => rfl
  have F3 := fun_mk (st := s_law_stairs) l3 c3 k3
  have b3 := F3.binds (ps := ["_law_many", "_law_most"]) fun _ _ _ _ _ _ us hl => match us, hl with | [_, _], _ => rfl
  have F4 := fun_mk (st := s_law_high) l4 c4 k4
  have b4 := F4.binds (ps := ["_law_many"]) fun _ _ _ _ _ _ us hl => match us, hl with | [_], _ => rfl
  have F5 := fun_mk (st := s_law_trees) l5 c5 k5
  have b5 := F5.binds (ps := ["_law_trees_here", "_law_most"]) fun _ _ _ _ _ _ us hl => match us, hl with | [_, _], _ => rfl
  have F6 := fun_mk (st := s_law_due) l6 c6 k6
  have b6 := F6.binds (ps := ["_law_way", "_law_many", "_law_most"]) fun _ _ _ _ _ _ us hl => match us, hl with | [_, _, _], _ => rfl
  have F7 := fun_mk (st := s_look_at_way) l7 c7 k7
  have b7 := F7.binds (ps := ["way"]) fun _ _ _ _ _ _ us hl => match us, hl with | [_], _ => rfl
  have F8 := fun_mk (st := s_is_whole) l8 c8 k8
  have b8 := F8.binds (ps := ["thing"]) fun _ _ _ _ _ _ us hl => match us, hl with | [_], _ => rfl
  have F9 := fun_mk (st := s_is_within) l9 c9 k9
  have b9 := F9.binds (ps := ["thing", "least", "most"]) fun _ _ _ _ _ _ us hl => match us, hl with | [_, _, _], _ => rfl
  have F10 := fun_mk (st := s_look_at_many) l10 c10 k10
  have b10 := F10.binds (ps := ["many"]) fun _ _ _ _ _ _ us hl => match us, hl with | [_], _ => rfl
  have F11 := fun_mk (st := s_look_at_sizes) l11 c11 k11
  have b11 := F11.binds (ps := ["many", "most"]) fun _ _ _ _ _ _ us hl => match us, hl with | [_, _], _ => rfl
  have F12 := fun_mk (st := s_side_of) l12 c12 k12
  have b12 := F12.binds (ps := ["many"]) fun _ _ _ _ _ _ us hl => match us, hl with | [_], _ => rfl
  have F13 := fun_mk (st := s_spare_needs) l13 c13 k13
  have b13 := F13.binds (ps := ["many", "most"]) fun _ _ _ _ _ _ us hl => match us, hl with | [_, _], _ => rfl
  have F14 := fun_mk (st := s_high_of) l14 c14 k14
  have b14 := F14.binds (ps := ["many"]) fun _ _ _ _ _ _ us hl => match us, hl with | [_], _ => rfl
  have F15 := fun_mk (st := s_last_of) l15 c15 k15
  have b15 := F15.binds (ps := ["many"]) fun _ _ _ _ _ _ us hl => match us, hl with | [_], _ => rfl
  have F16 := fun_mk (st := s_stair_of) l16 c16 k16
  have b16 := F16.binds (ps := ["many", "pour"]) fun _ _ _ _ _ _ us hl => match us, hl with | [_, _], _ => rfl
  have F17 := fun_mk (st := s_slots_of) l17 c17 k17
  have b17 := F17.binds (ps := ["many", "stair"]) fun _ _ _ _ _ _ us hl => match us, hl with | [_, _], _ => rfl
  have F18 := fun_mk (st := s_stairs_needs) l18 c18 k18
  have b18 := F18.binds (ps := ["many", "most"]) fun _ _ _ _ _ _ us hl => match us, hl with | [_, _], _ => rfl
  have F19 := fun_mk (st := s_grove_needs) l19 c19 k19
  have b19 := F19.binds (ps := ["trees", "most"]) fun _ _ _ _ _ _ us hl => match us, hl with | [_, _], _ => rfl
  have F20 := fun_mk (st := s_trees_of) l20 c20 k20
  have b20 := F20.binds (ps := ["many"]) fun _ _ _ _ _ _ us hl => match us, hl with | [_], _ => rfl
  have F21 := fun_mk (st := s_kinds_of) l21 c21 k21
  have b21 := F21.binds (ps := ["way", "many", "most"]) fun _ _ _ _ _ _ us hl => match us, hl with | [_, _, _], _ => rfl
  have F22 := fun_mk (st := s_needs) l22 c22 k22
  have b22 := F22.binds (ps := ["way", "many", "most"]) fun _ _ _ _ _ _ us hl => match us, hl with | [_, _, _], _ => rfl
  have F23 := fun_mk (st := s_law_whole) l23 c23 k23
  have b23 := F23.binds (ps := ["_law_found"]) fun _ _ _ _ _ _ us hl => match us, hl with | [_], _ => rfl
  have F24 := fun_mk (st := s_law_is) l24 c24 k24
  have b24 := F24.binds (ps := ["_law_found", "_law_due_here"]) fun _ _ _ _ _ _ us hl => match us, hl with | [_, _], _ => rfl
  have F25 := fun_mk (st := s_law_refused) l25 c25 k25
  have b25 := F25.binds (ps := ["_law_way", "_law_many", "_law_most"]) fun _ _ _ _ _ _ us hl => match us, hl with | [_, _, _], _ => rfl
  have F26 := fun_mk (st := s_law_odd_right) l26 c26 k26
  have b26 := F26.binds (ps := ["_law_pool_here", "_law_way", "_law_many", "_law_most"]) fun _ _ _ _ _ _ us hl => match us, hl with | [_, _, _, _], _ => rfl
  have F27 := fun_mk (st := s_law_right) l27 c27 k27
  have b27 := F27.binds (ps := ["_law_pool_here"]) fun _ _ _ _ _ _ us hl => match us, hl with | [_], _ => rfl
  have F28 := fun_mk (st := s_law) l28 c28 k28
  have b28 := F28.binds (ps := ["_law_script"]) fun _ _ _ _ _ _ us hl => match us, hl with | [_], _ => rfl
  refine ⟨PySem.W.fnOf "law" "law" (defArgs s_law) (defBody s_law) (defScope s_law) .none kV28 dc28 pm28 an28 cd28 ct28, fun s v => .of_eq rfl, fun base _ _ => ?_⟩
  have D_law_pool := df_law_pool (P := l.prog) (w := w) (base := base) B C F0 b0 (PySem.W.mg_of X G a0) 
  have D_law_take := df_law_take (P := l.prog) (w := w) (base := base) B C F1 b1 (PySem.W.mg_of X G a1) 
  have D_law_spare := df_law_spare (P := l.prog) (w := w) (base := base) B C F2 b2 (PySem.W.mg_of X G a2) 
  have D_law_stairs := df_law_stairs (P := l.prog) (w := w) (base := base) B C F3 b3 (PySem.W.mg_of X G a3) 
  have D_law_high := df_law_high (P := l.prog) (w := w) (base := base) B C F4 b4 (PySem.W.mg_of X G a4) 
  have D_law_trees := df_law_trees (P := l.prog) (w := w) (base := base) B C F5 b5 (PySem.W.mg_of X G a5) D_law_high
  have D_law_due := df_law_due (P := l.prog) (w := w) (base := base) B C F6 b6 (PySem.W.mg_of X G a6) D_law_spare D_law_stairs D_law_trees
  have D_look_at_way := df_look_at_way (P := l.prog) (w := w) (base := base) B C F7 b7 (PySem.W.mg_of X G a7) 
  have D_is_whole := df_is_whole (P := l.prog) (w := w) (base := base) B C F8 b8 (PySem.W.mg_of X G a8) 
  have D_is_within := df_is_within (P := l.prog) (w := w) (base := base) B C F9 b9 (PySem.W.mg_of X G a9) D_is_whole
  have D_look_at_many := df_look_at_many (P := l.prog) (w := w) (base := base) B C F10 b10 (PySem.W.mg_of X G a10) D_is_within
  have D_look_at_sizes := df_look_at_sizes (P := l.prog) (w := w) (base := base) B C F11 b11 (PySem.W.mg_of X G a11) D_look_at_many D_is_within
  have D_side_of := df_side_of (P := l.prog) (w := w) (base := base) B C F12 b12 (PySem.W.mg_of X G a12) 
  have D_spare_needs := df_spare_needs (P := l.prog) (w := w) (base := base) B C F13 b13 (PySem.W.mg_of X G a13) D_side_of
  have D_high_of := df_high_of (P := l.prog) (w := w) (base := base) B C F14 b14 (PySem.W.mg_of X G a14) 
  have D_last_of := df_last_of (P := l.prog) (w := w) (base := base) B C F15 b15 (PySem.W.mg_of X G a15) D_high_of
  have D_stair_of := df_stair_of (P := l.prog) (w := w) (base := base) B C F16 b16 (PySem.W.mg_of X G a16) D_last_of
  have D_slots_of := df_slots_of (P := l.prog) (w := w) (base := base) B C F17 b17 (PySem.W.mg_of X G a17) D_last_of
  have D_stairs_needs := df_stairs_needs (P := l.prog) (w := w) (base := base) B C F18 b18 (PySem.W.mg_of X G a18) D_last_of D_stair_of D_slots_of
  have D_grove_needs := df_grove_needs (P := l.prog) (w := w) (base := base) B C F19 b19 (PySem.W.mg_of X G a19) D_high_of
  have D_trees_of := df_trees_of (P := l.prog) (w := w) (base := base) B C F20 b20 (PySem.W.mg_of X G a20) 
  have D_kinds_of := df_kinds_of (P := l.prog) (w := w) (base := base) B C F21 b21 (PySem.W.mg_of X G a21) D_spare_needs D_stairs_needs D_grove_needs D_trees_of
  have D_needs := df_needs (P := l.prog) (w := w) (base := base) B C F22 b22 (PySem.W.mg_of X G a22) D_look_at_way D_look_at_sizes D_kinds_of
  have D_law_whole := df_law_whole (P := l.prog) (w := w) (base := base) B C F23 b23 (PySem.W.mg_of X G a23) 
  have D_law_is := df_law_is (P := l.prog) (w := w) (base := base) B C F24 b24 (PySem.W.mg_of X G a24) D_law_whole
  have D_law_refused := df_law_refused (P := l.prog) (w := w) (base := base) B C F25 b25 (PySem.W.mg_of X G a25) D_needs
  have D_law_odd_right := df_law_odd_right (P := l.prog) (w := w) (base := base) B C F26 b26 (PySem.W.mg_of X G a26) D_law_take D_law_refused
  have D_law_right := df_law_right (P := l.prog) (w := w) (base := base) B C F27 b27 (PySem.W.mg_of X G a27) D_law_take D_law_due D_needs D_law_is D_law_odd_right
  exact fo_law (P := l.prog) (w := w) (base := base) B C F28 D_law_pool D_law_right
end BT
open PySem PySem.W PyProof.Rows
set_option maxHeartbeats 0 in
theorem PySem.Challenge.cw_blindtouch_k08_needs_told_holds : PySem.Challenge.rw_blindtouch_k08_needs_told.Holds := by
  w_on; o_law; k_head; (case hw => w_witness2)
  k_fill
  refine L2.walk_of (l := PySem.Challenge.rw_blindtouch_k08_needs_told) (n := 63) (k := 10) (x := "_law_script") (CX := fun w => L2.CX (PySem.Challenge.rw_blindtouch_k08_needs_told).prog w) (sp := fun w => BT.lift (BT.S_law _)) rfl (by decide) rfl ⟨rfl, by decide, by decide⟩ (fun w h Y => PySem.W.kIn_of Y) ?F (fun _ H a ns hl _ hS => BT.law_start hl hS) (fun _ _ _ _ _ h => BT.cx_none h)
  case F =>
    intro w mg fa h KX G hmg
    refine' BT.all_mk KX G hmg ?a0 ?l0 ?c0 ?k0 ?a1 ?l1 ?c1 ?k1 ?a2 ?l2 ?c2 ?k2 ?a3 ?l3 ?c3 ?k3 ?a4 ?l4 ?c4 ?k4 ?a5 ?l5 ?c5 ?k5 ?a6 ?l6 ?c6 ?k6 ?a7 ?l7 ?c7 ?k7 ?a8 ?l8 ?c8 ?k8 ?a9 ?l9 ?c9 ?k9 ?a10 ?l10 ?c10 ?k10 ?a11 ?l11 ?c11 ?k11 ?a12 ?l12 ?c12 ?k12 ?a13 ?l13 ?c13 ?k13 ?a14 ?l14 ?c14 ?k14 ?a15 ?l15 ?c15 ?k15 ?a16 ?l16 ?c16 ?k16 ?a17 ?l17 ?c17 ?k17 ?a18 ?l18 ?c18 ?k18 ?a19 ?l19 ?c19 ?k19 ?a20 ?l20 ?c20 ?k20 ?a21 ?l21 ?c21 ?k21 ?a22 ?l22 ?c22 ?k22 ?a23 ?l23 ?c23 ?k23 ?a24 ?l24 ?c24 ?k24 ?a25 ?l25 ?c25 ?k25 ?a26 ?l26 ?c26 ?k26 ?a27 ?l27 ?c27 ?k27 ?a28 ?l28 ?c28 ?k28 ?z_ValueError ?z_bool ?z_int ?z_isinstance ?z_len ?z_list ?z_max ?z_min ?z_range ?z_str ?z_sum ?z_tuple ?xa_TouchError ?xk_TouchError ?xb_TouchError ?xt_TouchError ?x4_TouchError ?xa_NoSize ?xk_NoSize ?xx_NoSize ?xb_NoSize ?xt_NoSize ?x4_NoSize ?xs_NoSize ?x1_NoSize ?x2_NoSize ?x5_NoSize ?x8_NoSize ?xa_NoWay ?xk_NoWay ?xx_NoWay ?xb_NoWay ?xt_NoWay ?x4_NoWay ?xs_NoWay ?x1_NoWay ?x2_NoWay ?x5_NoWay ?x8_NoWay ?xa_Over ?xk_Over ?xt_Over ?x4_Over ?xs_Over ?x6 ?x7 ?ni_NoSize ?su_NoSize_NoSize ?su_NoWay_NoSize ?ni_NoWay ?su_NoSize_NoWay ?su_NoWay_NoWay ?ni_Over ?su_NoSize_Over ?su_NoWay_Over ?su_NoSize_TouchError ?su_NoWay_TouchError ?ni_ValueError ?su_NoSize_ValueError ?su_NoWay_ValueError ?ka_MOST_CELLS ?ka_MOST_ASKS ?ka_TABLE ?ka_WAYS ?kl_WAYS ?kv_WAYS ?kz_WAYS
    (case a0 => k_is); (case l0 => k_is); (case c0 => k_is); (case k0 => k_is); (case a1 => k_is); (case l1 => k_is); (case c1 => k_is); (case k1 => k_is); (case a2 => k_is); (case l2 => k_is); (case c2 => k_is); (case k2 => k_is); (case a3 => k_is); (case l3 => k_is); (case c3 => k_is); (case k3 => k_is); (case a4 => k_is); (case l4 => k_is); (case c4 => k_is); (case k4 => k_is); (case a5 => k_is); (case l5 => k_is); (case c5 => k_is); (case k5 => k_is); (case a6 => k_is); (case l6 => k_is); (case c6 => k_is); (case k6 => k_is); (case a7 => k_is); (case l7 => k_is); (case c7 => k_is); (case k7 => k_is); (case a8 => k_is); (case l8 => k_is); (case c8 => k_is); (case k8 => k_is); (case a9 => k_is); (case l9 => k_is); (case c9 => k_is); (case k9 => k_is); (case a10 => k_is); (case l10 => k_is); (case c10 => k_is); (case k10 => k_is); (case a11 => k_is); (case l11 => k_is); (case c11 => k_is); (case k11 => k_is); (case a12 => k_is); (case l12 => k_is); (case c12 => k_is); (case k12 => k_is); (case a13 => k_is); (case l13 => k_is); (case c13 => k_is); (case k13 => k_is); (case a14 => k_is); (case l14 => k_is); (case c14 => k_is); (case k14 => k_is); (case a15 => k_is); (case l15 => k_is); (case c15 => k_is); (case k15 => k_is); (case a16 => k_is); (case l16 => k_is); (case c16 => k_is); (case k16 => k_is); (case a17 => k_is); (case l17 => k_is); (case c17 => k_is); (case k17 => k_is); (case a18 => k_is); (case l18 => k_is); (case c18 => k_is); (case k18 => k_is); (case a19 => k_is); (case l19 => k_is); (case c19 => k_is); (case k19 => k_is); (case a20 => k_is); (case l20 => k_is); (case c20 => k_is); (case k20 => k_is); (case a21 => k_is); (case l21 => k_is); (case c21 => k_is); (case k21 => k_is); (case a22 => k_is); (case l22 => k_is); (case c22 => k_is); (case k22 => k_is); (case a23 => k_is); (case l23 => k_is); (case c23 => k_is); (case k23 => k_is); (case a24 => k_is); (case l24 => k_is); (case c24 => k_is); (case k24 => k_is); (case a25 => k_is); (case l25 => k_is); (case c25 => k_is); (case k25 => k_is); (case a26 => k_is); (case l26 => k_is); (case c26 => k_is); (case k26 => k_is); (case a27 => k_is); (case l27 => k_is); (case c27 => k_is); (case k27 => k_is); (case a28 => k_is); (case l28 => k_is); (case c28 => k_is); (case k28 => k_is); (case z_ValueError => k_is); (case z_bool => k_is); (case z_int => k_is); (case z_isinstance => k_is); (case z_len => k_is); (case z_list => k_is); (case z_max => k_is); (case z_min => k_is); (case z_range => k_is); (case z_str => k_is); (case z_sum => k_is); (case z_tuple => k_is); (case xa_TouchError => k_is); (case xk_TouchError => k_is); (case xb_TouchError => k_is); (case xt_TouchError => k_is); (case x4_TouchError => k_is); (case xa_NoSize => k_is); (case xk_NoSize => k_is); (case xb_NoSize => k_is); (case xt_NoSize => k_is); (case x4_NoSize => k_is); (case xs_NoSize => k_is); (case x1_NoSize => k_is); (case x2_NoSize => k_is); (case x5_NoSize => k_is); (case x8_NoSize => k_is); (case xa_NoWay => k_is); (case xk_NoWay => k_is); (case xb_NoWay => k_is); (case xt_NoWay => k_is); (case x4_NoWay => k_is); (case xs_NoWay => k_is); (case x1_NoWay => k_is); (case x2_NoWay => k_is); (case x5_NoWay => k_is); (case x8_NoWay => k_is); (case xa_Over => k_is); (case xk_Over => k_is); (case xt_Over => k_is); (case x4_Over => k_is); (case xs_Over => k_is); (case x6 => k_is); (case x7 => k_is); (case ni_NoSize => k_is); (case su_NoSize_NoSize => k_is); (case su_NoWay_NoSize => k_is); (case ni_NoWay => k_is); (case su_NoSize_NoWay => k_is); (case su_NoWay_NoWay => k_is); (case ni_Over => k_is); (case su_NoSize_Over => k_is); (case su_NoWay_Over => k_is); (case su_NoSize_TouchError => k_is); (case su_NoWay_TouchError => k_is); (case ni_ValueError => k_is); (case su_NoSize_ValueError => k_is); (case su_NoWay_ValueError => k_is); (case ka_MOST_CELLS => k_is); (case ka_MOST_ASKS => k_is); (case ka_TABLE => k_is); (case ka_WAYS => k_is); (case kl_WAYS => k_is)
    (case xx_NoSize => k_exc)
    (case xx_NoWay => k_exc)
    (case kv_WAYS => rfl)
    (case kz_WAYS => decide)
