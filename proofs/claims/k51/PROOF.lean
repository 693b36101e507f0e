import PyProof.Rows.All
import Wide.All
import OpenK.AllK
import Wide.FinOn
import HandS.ForMost
import HandS.Walk
import HandS.Zip
import HandS.TupAny
import HandS.TupMul
import HandS.Wide
import HandS.SortInts
import HandS.Style
import HandS.IsInst
import HandS.Flow
import HandS.Conv
import HandS.NoneIn
import HandS.EndBits
import KE.IntBitsLaws
import PySem.Challenge.RW_reachedbyturns_k51_whole_rings_of_four_t
set_option Elab.async false
set_option linter.all false
set_option maxRecDepth 100000
set_option maxHeartbeats 4000000
set_option exponentiation.threshold 5000
namespace Rb
open PySem PySem.Spec PyProof.Rows L2

/-- between -(b + 1) and b; told by natural numbers, so that nothing counts down from b -/
def inR (b : Nat) : Int → Bool
  | .ofNat n => Nat.ble n b
  | .negSucc n => Nat.ble n b
theorem inR_iff {b : Nat} {i : Int} : inR b i = true ↔ -((b : Int) + 1) ≤ i ∧ i ≤ b := by
  cases i with
  | ofNat n => unfold inR; rw [Nat.ble_eq]; simp only [Int.ofNat_eq_natCast]; omega
  | negSucc n => unfold inR; rw [Nat.ble_eq]; omega
theorem inR_lt {b : Nat} {i : Int} (h : inR b i = true) : -((b : Int) + 1) ≤ i ∧ i < b + 1 := by
  have := inR_iff.1 h; omega
/-- plain data -/
inductive D where
  | non | bl (b : Bool) | int (i : Int) | str (x : Str)
  | tup (ds : List D) | lst (ds : List D) | dic (kvs : List (Key × D)) | pot
  | scr (ns : List Int)
  deriving Inhabited
/-- what the pot holds -/
abbrev Pt := Option (Int × Int × Int)
/-- a slot: nothing known, plain data, an object that this frame alone holds -/
inductive Bd where
  | no | val (d : D) | own (d : D)
structure S where
  r : List Bd
  p : Pt

/-- where the pot lies (if there is one), the heap and what is fixed at the entry -/
structure Wd where
  P : Option Addr
  H0 : Hp
  F0 : Hp

def Ex (H H' : Hp) : Prop := ∀ a o, H a = some o → H' a = some o
theorem Ex.refl (H : Hp) : Ex H H := fun _ _ h => h
theorem Ex.trans {H H1 H2 : Hp} (a : Ex H H1) (b : Ex H1 H2) : Ex H H2 := fun x o h => b x o (a x o h)
theorem Ex.new {H : Hp} {p : Addr} {o : HO} (h : H p = none) : Ex H (upd H p o) := fun a u e => by
  rw [upd_ne (ne_of_none e h)]
  exact e
theorem Ex.none {F H : Hp} {a : Addr} (e : Ex F H) (h : H a = none) : F a = none := by
  cases q : F a with
  | none => rfl
  | some o => rw [e a o q] at h; cases h
theorem Ex.both {F H : Hp} {p : Addr} {o : HO} (e : Ex F H) : Ex (upd F p o) (upd H p o) := fun a u h => by
  by_cases q : a = p
  · subst q; rw [upd_same] at h ⊢; exact h
  · rw [upd_ne q] at h ⊢; exact e a u h
theorem Ex.updR {F H : Hp} {p : Addr} {o : HO} (e : Ex F H) (h : F p = Option.none) : Ex F (upd H p o) := fun a u ha => by
  rw [upd_ne (ne_of_none ha h)]; exact e a u ha

section
variable (K : PySem.W.Frag) (P : Option Addr)
mutual
def Rp (F : Hp) : D → V → Prop
  | .non, v => v = .non
  | .bl b, v => v = .bl b
  | .int i, v => v = .int i
  | .str x, v => v = .str x
  | .tup ds, v => ∃ a xs, v = .ref a ∧ SqT K F a xs ∧ RpL F ds xs
  | .lst ds, v => ∃ a xs, v = .ref a ∧ F a = some (.lst xs) ∧ RpL F ds xs
  | .dic kvs, v => ∃ a ks, v = .ref a ∧ Rd F a (.dK ks) ∧ RpK F kvs ks
  | .pot, v => ∃ p, P = some p ∧ v = .ref p
  | .scr ns, v => ∃ a, v = .ref a ∧ SqL K F a (ns.map V.int)
def RpL (F : Hp) : List D → List V → Prop
  | [], xs => xs = []
  | d :: ds, xs => ∃ x r, xs = x :: r ∧ Rp F d x ∧ RpL F ds r
def RpK (F : Hp) : List (Key × D) → List (Key × V) → Prop
  | [], xs => xs = []
  | (k, d) :: ds, xs => ∃ x r, xs = (k, x) :: r ∧ Rp F d x ∧ RpK F ds r
end
end
section
variable {K : PySem.W.Frag} {P : Option Addr} {F F' : Hp}
theorem rd_mono {a : Addr} {u : HO} (e : Ex F F') (h : Rd F a u) : Rd F' a u := by
  rcases h with h | ⟨o, h⟩
  · exact Or.inl (e a _ h)
  · exact Or.inr ⟨o, e a _ h⟩
theorem sqt_mono {a : Addr} {xs : List V} (e : Ex F F') (h : SqT K F a xs) : SqT K F' a xs := by
  rcases h with h | h
  · exact Or.inl (rd_mono e h)
  · exact Or.inr h
theorem sql_mono {a : Addr} {xs : List V} (e : Ex F F') (h : SqL K F a xs) : SqL K F' a xs := by
  rcases h with h | h
  · exact Or.inl (rd_mono e h)
  · exact Or.inr h
/-- the facts of F stand in F': objects alike up to a dict's lock -/
structure Ok2 (F F' : Hp) : Prop where
  tup : ∀ a xs, Rd F a (.tup xs) → Rd F' a (.tup xs)
  lst : ∀ a xs, F a = some (.lst xs) → F' a = some (.lst xs)
  dK : ∀ a ks, Rd F a (.dK ks) → Rd F' a (.dK ks)
  lsR : ∀ a xs, Rd F a (.lst xs) → Rd F' a (.lst xs)
theorem Ex.ok2 (e : Ex F F') : Ok2 F F' := ⟨fun _ _ h => rd_mono e h, fun a _ h => e a _ h, fun _ _ h => rd_mono e h, fun _ _ h => rd_mono e h⟩
mutual
theorem Rp.mono2 (e : Ok2 F F') : ∀ (d : D) (v : V), Rp K P F d v → Rp K P F' d v
  | .non, v, h => by unfold Rp at h ⊢; exact h
  | .bl b, v, h => by unfold Rp at h ⊢; exact h
  | .int i, v, h => by unfold Rp at h ⊢; exact h
  | .str x, v, h => by unfold Rp at h ⊢; exact h
  | .pot, v, h => by unfold Rp at h ⊢; exact h
  | .scr ns, v, h => by
    unfold Rp at h ⊢
    obtain ⟨a, h1, h2⟩ := h
    exact ⟨a, h1, h2.elim (fun z => Or.inl (e.lsR a _ z)) Or.inr⟩
  | .tup ds, v, h => by
    unfold Rp at h ⊢
    obtain ⟨a, xs, h1, h2, h3⟩ := h
    exact ⟨a, xs, h1, h2.elim (fun z => Or.inl (e.tup a xs z)) Or.inr, RpL.mono2 e ds xs h3⟩
  | .lst ds, v, h => by
    unfold Rp at h ⊢
    obtain ⟨a, xs, h1, h2, h3⟩ := h
    exact ⟨a, xs, h1, e.lst a xs h2, RpL.mono2 e ds xs h3⟩
  | .dic ks, v, h => by
    unfold Rp at h ⊢
    obtain ⟨a, xs, h1, h2, h3⟩ := h
    exact ⟨a, xs, h1, e.dK a xs h2, RpK.mono2 e ks xs h3⟩
theorem RpL.mono2 (e : Ok2 F F') : ∀ (ds : List D) (xs : List V), RpL K P F ds xs → RpL K P F' ds xs
  | [], xs, h => by unfold RpL at h ⊢; exact h
  | d :: ds, xs, h => by
    unfold RpL at h ⊢
    obtain ⟨x, r, h1, h2, h3⟩ := h
    exact ⟨x, r, h1, Rp.mono2 e d x h2, RpL.mono2 e ds r h3⟩
theorem RpK.mono2 (e : Ok2 F F') : ∀ (ds : List (Key × D)) (xs : List (Key × V)), RpK K P F ds xs → RpK K P F' ds xs
  | [], xs, h => by unfold RpK at h ⊢; exact h
  | (k, d) :: ds, xs, h => by
    unfold RpK at h ⊢
    obtain ⟨x, r, h1, h2, h3⟩ := h
    exact ⟨x, r, h1, Rp.mono2 e d x h2, RpK.mono2 e ds r h3⟩
end
theorem Rp.mono (e : Ex F F') {d : D} {v : V} (h : Rp K P F d v) : Rp K P F' d v := Rp.mono2 e.ok2 d v h
theorem RpL.mono (e : Ex F F') {ds : List D} {xs : List V} (h : RpL K P F ds xs) : RpL K P F' ds xs := RpL.mono2 e.ok2 ds xs h
theorem RpK.mono (e : Ex F F') {ds : List (Key × D)} {xs : List (Key × V)} (h : RpK K P F ds xs) : RpK K P F' ds xs := RpK.mono2 e.ok2 ds xs h
theorem RpL.nil : RpL K P F [] [] := by unfold RpL; rfl
theorem RpL.cons {d : D} {ds : List D} {x : V} {xs : List V} (h : Rp K P F d x) (t : RpL K P F ds xs) : RpL K P F (d :: ds) (x :: xs) := by unfold RpL; exact ⟨x, xs, rfl, h, t⟩
theorem RpL.len : ∀ {ds : List D} {xs : List V}, RpL K P F ds xs → xs.length = ds.length
  | [], xs, h => by unfold RpL at h; subst h; rfl
  | d :: ds, xs, h => by
    unfold RpL at h
    obtain ⟨x, r, rfl, _, t⟩ := h
    rw [List.length_cons, List.length_cons, RpL.len t]
theorem RpL.app : ∀ {ds es : List D} {xs ys : List V}, RpL K P F ds xs → RpL K P F es ys → RpL K P F (ds ++ es) (xs ++ ys)
  | [], es, xs, ys, h, t => by unfold RpL at h; subst h; exact t
  | d :: ds, es, xs, ys, h, t => by
    unfold RpL at h
    obtain ⟨x, r, rfl, hx, hr⟩ := h
    exact .cons hx (RpL.app hr t)
theorem RpL.get : ∀ {ds : List D} {xs : List V} {i : Nat} {d : D}, RpL K P F ds xs → ds[i]? = some d → ∃ x, xs[i]? = some x ∧ Rp K P F d x
  | [], xs, i, d, _, e => by simp at e
  | d :: ds, xs, 0, e, h, q => by
    unfold RpL at h
    obtain ⟨x, r, rfl, hx, hr⟩ := h
    simp at q; subst q
    exact ⟨x, rfl, hx⟩
  | d :: ds, xs, i + 1, e, h, q => by
    unfold RpL at h
    obtain ⟨x, r, rfl, hx, hr⟩ := h
    obtain ⟨y, h1, h2⟩ := RpL.get (i := i) hr (by simpa using q)
    exact ⟨y, by simpa using h1, h2⟩
theorem RpL.getV : ∀ {ds : List D} {xs : List V} {i : Nat} {x : V}, RpL K P F ds xs → xs[i]? = some x → ∃ d, ds[i]? = some d ∧ Rp K P F d x
  | [], xs, i, d, h, e => by unfold RpL at h; subst h; simp at e
  | d :: ds, xs, 0, e, h, q => by
    unfold RpL at h
    obtain ⟨x, r, rfl, hx, hr⟩ := h
    simp at q; subst q
    exact ⟨d, rfl, hx⟩
  | d :: ds, xs, i + 1, e, h, q => by
    unfold RpL at h
    obtain ⟨x, r, rfl, hx, hr⟩ := h
    obtain ⟨y, h1, h2⟩ := RpL.getV (i := i) hr (by simpa using q)
    exact ⟨y, by simpa using h1, h2⟩
theorem RpL.of_get : ∀ {ds : List D} {xs : List V}, xs.length = ds.length → (∀ (i : Nat) d x, ds[i]? = some d → xs[i]? = some x → Rp K P F d x) → RpL K P F ds xs
  | [], [], _, _ => .nil
  | [], _ :: _, h, _ => by simp at h
  | _ :: _, [], h, _ => by simp at h
  | d :: ds, x :: xs, h, q => .cons (q 0 d x rfl rfl) (RpL.of_get (by simpa using h) fun i e y h1 h2 => q (i + 1) e y (by simpa using h1) (by simpa using h2))
theorem RpL.take {ds : List D} {xs : List V} (h : RpL K P F ds xs) (n : Nat) : RpL K P F (ds.take n) (xs.take n) := by
  refine .of_get (by simp [h.len]) fun i d x h1 h2 => ?_
  rw [List.getElem?_take] at h1 h2
  split at h1
  · rename_i hlt
    rw [if_pos hlt] at h2
    obtain ⟨y, e, r⟩ := h.get h1
    rw [h2] at e; cases e; exact r
  · cases h1
theorem RpL.drop {ds : List D} {xs : List V} (h : RpL K P F ds xs) (n : Nat) : RpL K P F (ds.drop n) (xs.drop n) := by
  refine .of_get (by simp [h.len]) fun i d x h1 h2 => ?_
  rw [List.getElem?_drop] at h1 h2
  obtain ⟨y, e, r⟩ := h.get h1
  rw [h2] at e; cases e; exact r
theorem RpL.rev : ∀ {ds : List D} {xs : List V}, RpL K P F ds xs → RpL K P F ds.reverse xs.reverse
  | [], xs, h => by unfold RpL at h; subst h; exact .nil
  | d :: ds, xs, h => by
    unfold RpL at h
    obtain ⟨x, r, rfl, hx, hr⟩ := h
    rw [List.reverse_cons, List.reverse_cons]
    exact (RpL.rev hr).app (.cons hx .nil)
theorem RpL.setL {ds : List D} {xs : List V} (h : RpL K P F ds xs) (j : Nat) {d : D} {x : V} (hx : Rp K P F d x) : RpL K P F (ds.set j d) (xs.set j x) := by
  refine .of_get (by simp [h.len]) fun i e y h1 h2 => ?_
  rw [List.getElem?_set] at h1 h2
  by_cases q : j = i
  · rw [if_pos q] at h1 h2
    split at h1
    · split at h2
      · cases h1; cases h2; exact hx
      · cases h2
    · cases h1
  · rw [if_neg q] at h1 h2
    obtain ⟨z, e1, r⟩ := h.get h1
    rw [h2] at e1; cases e1; exact r
theorem RpL.erase : ∀ {ds : List D} {xs : List V} (j : Nat), RpL K P F ds xs → RpL K P F (ds.eraseIdx j) (xs.eraseIdx j)
  | [], xs, j, h => by unfold RpL at h; subst h; exact .nil
  | d :: ds, xs, 0, h => by
    unfold RpL at h
    obtain ⟨x, r, rfl, hx, hr⟩ := h
    exact hr
  | d :: ds, xs, j + 1, h => by
    unfold RpL at h
    obtain ⟨x, r, rfl, hx, hr⟩ := h
    exact .cons hx (RpL.erase j hr)
theorem RpL.ints : ∀ {ns : List Int} {xs : List V}, RpL K P F (ns.map D.int) xs → xs = ns.map V.int
  | [], xs, h => by simpa [RpL] using h
  | n :: ns, xs, h => by
    rw [List.map_cons] at h
    unfold RpL at h
    obtain ⟨x, r, rfl, hx, hr⟩ := h
    unfold Rp at hx
    rw [hx, RpL.ints hr]; rfl
theorem RpL.ofInts : ∀ (ns : List Int), RpL K P F (ns.map D.int) (ns.map V.int)
  | [] => .nil
  | n :: ns => .cons (by unfold Rp; rfl) (RpL.ofInts ns)
end

/-! ### the state -/
def PtOk (P : Option Addr) (F H : Hp) : Pt → Prop
  | none => P = none
  | some t => ∃ p, P = some p ∧ H p = some (.lst [.int t.1, .int t.2.1, .int t.2.2]) ∧ F p = none
def Own (K : PySem.W.Frag) (ω : Wd) (F H : Hp) (v : V) : D → Prop
  | .lst ds => ∃ a xs, v = .ref a ∧ H a = some (.lst xs) ∧ F a = none ∧ ω.H0 a = none ∧ ω.P ≠ some a ∧ RpL K ω.P F ds xs
  | .dic kvs => ∃ a ks, v = .ref a ∧ H a = some (.dK ks) ∧ F a = none ∧ ω.H0 a = none ∧ ω.P ≠ some a ∧ RpK K ω.P F kvs ks
  | _ => False
def SlOk (K : PySem.W.Frag) (ω : Wd) (F H : Hp) (o : Option (Option V)) : Bd → Prop
  | .no => True
  | .val d => ∃ v, o = some (some v) ∧ Rp K ω.P F d v
  | .own d => ∃ v, o = some (some v) ∧ Own K ω F H v d
structure Sr (K : PySem.W.Frag) (ω : Wd) (F : Hp) (σ : L2.St) (H : Hp) (s : S) : Prop where
  len : σ.length = s.r.length
  sub : Ex F H
  frm : ∀ a o, ω.P ≠ some a → ω.H0 a = some o → H a = some o
  new : ∀ a o, F a = some o → ω.F0 a = some o ∨ ω.H0 a = none
  pt : PtOk ω.P F H s.p
  sl : ∀ (i : Nat) b, s.r[i]? = some b → SlOk K ω F H σ[i]? b
  dis : ∀ (i j : Nat) d e v, i ≠ j → s.r[i]? = some (.own d) → s.r[j]? = some (.own e) → σ[i]? = some (some v) → σ[j]? = some (some v) → False
/-- a new object that nobody else holds -/
def Fresh (K : PySem.W.Frag) (ω : Wd) (F : Hp) (σ : L2.St) (H : Hp) (s : S) (v : V) (d : D) : Prop := Own K ω F H v d ∧ ∀ (i : Nat) e, s.r[i]? = some (.own e) → σ[i]? = some (some v) → False
def RpR (K : PySem.W.Frag) (ω : Wd) (F : Hp) (σ : L2.St) (H : Hp) (s : S) (v : V) (d : D) : Bool → Prop
  | false => Rp K ω.P F d v
  | true => Fresh K ω F σ H s v d
section
variable {K : PySem.W.Frag} {ω : Wd} {F F' : Hp} {σ : L2.St} {H H' : Hp} {s : S} {v : V} {d : D} {a p : Addr} {o : HO}
theorem PtOk.ne (h : PtOk P F H t) (hp : H p = none) : P ≠ some p := by
  cases t with
  | none => rw [show P = none from h]; exact fun q => nomatch q
  | some t =>
    obtain ⟨q, e, h1, _⟩ := h
    rw [e]; intro z; cases z; rw [h1] at hp; cases hp
theorem PtOk.ext {P : Option Addr} {t : Pt} (h : PtOk P F H t) (hH : ∀ q, P = some q → H' q = H q) (hF : ∀ q, P = some q → F' q = F q) : PtOk P F' H' t := by
  cases t with
  | none => exact h
  | some t =>
    obtain ⟨q, e, h1, h2⟩ := h
    exact ⟨q, e, by rw [hH q e]; exact h1, by rw [hF q e]; exact h2⟩
theorem Sr.h0 (r : Sr K ω F σ H s) (hp : H p = none) : ω.H0 p = none := by
  cases q : ω.H0 p with
  | none => rfl
  | some o => rw [r.frm p o (r.pt.ne hp) q] at hp; cases hp
theorem Own.mono {F' H' : Hp} (h : Own K ω F H v d) (e : Ex F F') (k : ∀ a, v = .ref a → H a ≠ none → F a = none → H' a = H a ∧ F' a = none) : Own K ω F' H' v d := by
  cases d <;> first | exact h.elim | skip
  · obtain ⟨a, xs, h1, h2, h3, h4, h5, h6⟩ := h
    obtain ⟨k1, k2⟩ := k a h1 (by rw [h2]; exact fun z => nomatch z) h3
    exact ⟨a, xs, h1, by rw [k1]; exact h2, k2, h4, h5, h6.mono e⟩
  · obtain ⟨a, xs, h1, h2, h3, h4, h5, h6⟩ := h
    obtain ⟨k1, k2⟩ := k a h1 (by rw [h2]; exact fun z => nomatch z) h3
    exact ⟨a, xs, h1, by rw [k1]; exact h2, k2, h4, h5, h6.mono e⟩
/-- what an owned thing is -/
theorem Own.is (h : Own K ω F H v d) : ∃ a o, v = .ref a ∧ H a = some o ∧ F a = none ∧ ω.H0 a = none ∧ ω.P ≠ some a ∧ ((∃ ds xs, d = .lst ds ∧ o = .lst xs ∧ RpL K ω.P F ds xs) ∨ ∃ ds xs, d = .dic ds ∧ o = .dK xs ∧ RpK K ω.P F ds xs) := by
  cases d <;> first | exact h.elim | skip
  · obtain ⟨a, xs, h1, h2, h3, h4, h5, h6⟩ := h
    exact ⟨a, _, h1, h2, h3, h4, h5, .inl ⟨_, _, rfl, rfl, h6⟩⟩
  · obtain ⟨a, xs, h1, h2, h3, h4, h5, h6⟩ := h
    exact ⟨a, _, h1, h2, h3, h4, h5, .inr ⟨_, _, rfl, rfl, h6⟩⟩
theorem SlOk.mono {b : Bd} {x : Option (Option V)} (h : SlOk K ω F H x b) (e : Ex F F') (k : ∀ a, (∃ d, b = .own d) → x = some (some (.ref a)) → H a ≠ none → F a = none → H' a = H a ∧ F' a = none) : SlOk K ω F' H' x b := by
  cases b with
  | no => trivial
  | val d => obtain ⟨v, h1, h2⟩ := h; exact ⟨v, h1, h2.mono e⟩
  | own d => obtain ⟨v, h1, h2⟩ := h; exact ⟨v, h1, h2.mono e fun a ea => k a ⟨d, rfl⟩ (by rw [h1, ea])⟩
/-- a new object, known from now on -/
theorem Sr.alloc (r : Sr K ω F σ H s) (hp : H p = none) : Sr K ω (upd F p o) σ (upd H p o) s where
  len := r.len
  sub := r.sub.both
  frm a u hP h := by
    have := r.frm a u hP h
    rw [upd_ne (ne_of_none this hp)]; exact this
  new a u h := by
    by_cases q : a = p
    · subst q; exact .inr (r.h0 hp)
    · rw [upd_ne q] at h; exact r.new a u h
  pt := r.pt.ext (fun q e => upd_ne fun z => r.pt.ne hp (by rw [e, z])) (fun q e => upd_ne fun z => r.pt.ne hp (by rw [e, z]))
  sl i b h := (r.sl i b h).mono (Ex.new (r.sub.none hp)) fun a _ _ ha hF => by
    have : a ≠ p := fun z => ha (by rw [z]; exact hp)
    rw [upd_ne this, upd_ne this]; exact ⟨rfl, hF⟩
  dis := r.dis
/-- a new object, not known yet -/
theorem Sr.allocN (r : Sr K ω F σ H s) (hp : H p = none) : Sr K ω F σ (upd H p o) s where
  len := r.len
  sub := r.sub.updR (r.sub.none hp)
  frm a u hP h := by
    have := r.frm a u hP h
    rw [upd_ne (ne_of_none this hp)]; exact this
  new := r.new
  pt := r.pt.ext (fun q e => upd_ne fun z => r.pt.ne hp (by rw [e, z])) (fun q e => rfl)
  sl i b h := (r.sl i b h).mono (Ex.refl F) fun a _ _ ha hF => by
    have : a ≠ p := fun z => ha (by rw [z]; exact hp)
    rw [upd_ne this]; exact ⟨rfl, hF⟩
  dis := r.dis
theorem Sr.fresh_lst {ds : List D} {xs : List V} (r : Sr K ω F σ H s) (hp : H p = none) (h : RpL K ω.P F ds xs) : Fresh K ω F σ (upd H p (.lst xs)) s (.ref p) (.lst ds) := by
  refine ⟨⟨p, xs, rfl, upd_same, r.sub.none hp, r.h0 hp, r.pt.ne hp, h⟩, fun i e h1 h2 => ?_⟩
  obtain ⟨v, h3, h4⟩ := r.sl i _ h1
  obtain ⟨a, o, ea, ha, _⟩ := h4.is
  rw [h2] at h3; cases h3; cases ea
  rw [ha] at hp; cases hp
theorem Sr.fresh_dic {ds : List (Key × D)} {xs : List (Key × V)} (r : Sr K ω F σ H s) (hp : H p = none) (h : RpK K ω.P F ds xs) : Fresh K ω F σ (upd H p (.dK xs)) s (.ref p) (.dic ds) := by
  refine ⟨⟨p, xs, rfl, upd_same, r.sub.none hp, r.h0 hp, r.pt.ne hp, h⟩, fun i e h1 h2 => ?_⟩
  obtain ⟨v, h3, h4⟩ := r.sl i _ h1
  obtain ⟨a, o, ea, ha, _⟩ := h4.is
  rw [h2] at h3; cases h3; cases ea
  rw [ha] at hp; cases hp
/-- an object that nobody holds becomes known -/
theorem Sr.freeze (r : Sr K ω F σ H s) (h : Fresh K ω F σ H s v d) : ∃ F', Ex F F' ∧ Sr K ω F' σ H s ∧ Rp K ω.P F' d v := by
  obtain ⟨h, dis⟩ := h
  obtain ⟨a, o, ea, ha, hF, h0, hP, hd⟩ := h.is
  have e : Ex F (upd F a o) := Ex.new hF
  refine ⟨upd F a o, e, ⟨r.len, fun b u q => ?_, r.frm, fun b u q => ?_, r.pt.ext (fun _ _ => rfl) (fun q z => upd_ne fun y => hP (by rw [z, y])), fun i b q => (r.sl i b q).mono e fun c hc hx hH hFc => ?_, r.dis⟩, ?_⟩
  · by_cases z : b = a
    · subst z; rw [upd_same] at q; cases q; exact ha
    · rw [upd_ne z] at q; exact r.sub b u q
  · by_cases z : b = a
    · subst z; exact .inr h0
    · rw [upd_ne z] at q; exact r.new b u q
  · refine ⟨rfl, ?_⟩
    have : c ≠ a := fun z => by
      obtain ⟨d', rfl⟩ := hc
      exact dis i d' q (by rw [hx, ea, z])
    rw [upd_ne this]; exact hFc
  · rcases hd with ⟨ds, xs, rfl, rfl, h6⟩ | ⟨ds, xs, rfl, rfl, h6⟩
    · unfold Rp; exact ⟨a, xs, ea, upd_same, h6.mono e⟩
    · unfold Rp; exact ⟨a, xs, ea, Rd.of upd_same, h6.mono e⟩
theorem Sr.frz {b : Bool} (r : Sr K ω F σ H s) (h : RpR K ω F σ H s v d b) : ∃ F', Ex F F' ∧ Sr K ω F' σ H s ∧ Rp K ω.P F' d v := by
  cases b with
  | false => exact ⟨F, Ex.refl F, r, h⟩
  | true => exact r.freeze h
end

/-! ### readings of the combinators -/
abbrev SE := S → Option ((D × Bool) × S)
abbrev ST := S → Option (Bool × S)
abbrev SA := S → Option (List D × S)
inductive Fl where
  | nx | bk | ct | rt (d : D)
abbrev SS := S → Option (Fl × S)
abbrev SG := D → Bool → S → Option S
abbrev SI := S → Option (List D × S)
def Post (K : PySem.W.Frag) (ω : Wd) (F : Hp) (σ : L2.St) (s : S) (d : D) (b : Bool) (Q : VK) : Prop := ∀ v F' H', Ex F F' → Sr K ω F' σ H' s → RpR K ω F' σ H' s v d b → Q v H'
def rd (K : PySem.W.Frag) (e : SE) : TE := fun σ H Q => ∃ ω F s d b s', Sr K ω F σ H s ∧ e s = some ((d, b), s') ∧ Post K ω F σ s' d b Q
def rdT (K : PySem.W.Frag) (e : ST) : TT := fun σ H Q => ∃ ω F s b s', Sr K ω F σ H s ∧ e s = some (b, s') ∧ ∀ F' H', Ex F F' → Sr K ω F' σ H' s' → Q b H'
def rdA (K : PySem.W.Frag) (e : SA) : TA := fun σ H Q => ∃ ω F s ds s', Sr K ω F σ H s ∧ e s = some (ds, s') ∧ ∀ vs F' H', Ex F F' → Sr K ω F' σ H' s' → RpL K ω.P F' ds vs → Q vs H'
def EndOk (K : PySem.W.Frag) (ω : Wd) (F : Hp) (D : Ends) (s : S) : Fl → Prop
  | .nx => ∀ σ F' H', Ex F F' → Sr K ω F' σ H' s → D.nx σ H'
  | .bk => ∀ σ F' H', Ex F F' → Sr K ω F' σ H' s → D.bk σ H'
  | .ct => ∀ σ F' H', Ex F F' → Sr K ω F' σ H' s → D.ct σ H'
  | .rt d => ∀ v σ F' H', Ex F F' → Sr K ω F' σ H' s → Rp K ω.P F' d v → D.rt v H'
def rdS (K : PySem.W.Frag) (c : SS) : TS := fun D σ H => ∃ ω F s fl s', Sr K ω F σ H s ∧ c s = some (fl, s') ∧ EndOk K ω F D s' fl
theorem _root_.L2.PE.imp {X : Cx} {e : Expr} {t t' : TE} (h : PE X e t) (q : ∀ σ H Q, t' σ H Q → t σ H Q) : PE X e t' := ⟨fun pins s σ H Q I hw => h.run pins s σ H Q I (q σ H Q hw)⟩
theorem _root_.L2.PT.imp {X : Cx} {e : Expr} {t t' : TT} (h : PT X e t) (q : ∀ σ H Q, t' σ H Q → t σ H Q) : PT X e t' := ⟨fun pins s σ H Q I hw => h.run pins s σ H Q I (q σ H Q hw)⟩
theorem _root_.L2.PA.imp {X : Cx} {e : List Expr} {t t' : TA} (h : PA X e t) (q : ∀ σ H Q, t' σ H Q → t σ H Q) : PA X e t' := ⟨fun pos pins s σ H Q I hw => h.run pos pins s σ H Q I (q σ H Q hw)⟩
theorem _root_.L2.PS.imp {X : Cx} {e : Stmt} {t t' : TS} (h : PS X e t) (q : ∀ D σ H, t' D σ H → t D σ H) : PS X e t' := ⟨fun pins s σ H D I hw => h.run pins s σ H D I (q D σ H hw)⟩
theorem _root_.L2.PSs.imp {X : Cx} {e : List Stmt} {t t' : TS} (h : PSs X e t) (q : ∀ D σ H, t' D σ H → t D σ H) : PSs X e t' := ⟨fun pins s σ H D I hw => h.run pins s σ H D I (q D σ H hw)⟩
section
variable {K : PySem.W.Frag} {ω : Wd} {F F' : Hp} {σ : L2.St} {H H' : Hp} {s s' : S} {v : V} {d : D} {b : Bool}
theorem Post.mono {Q : VK} (h : Post K ω F σ s d b Q) (e : Ex F F') : Post K ω F' σ s d b Q := fun v F2 H2 e2 => h v F2 H2 (e.trans e2)
/-- a part is run; what it gives is known from then on -/
theorem rd_use {e : SE} {R : VK} (r : Sr K ω F σ H s) (h : e s = some ((d, b), s')) (q : ∀ v F' H', Ex F F' → Sr K ω F' σ H' s' → Rp K ω.P F' d v → R v H') : rd K e σ H R :=
  ⟨ω, F, s, d, b, s', r, h, fun v F1 H1 e1 r1 x => by
    obtain ⟨F2, e2, r2, y⟩ := r1.frz x
    exact q v F2 H1 (e1.trans e2) r2 y⟩
end
end Rb

namespace Rb
open PySem PySem.Spec PyProof.Rows L2

section
variable {K : PySem.W.Frag} {ω : Wd} {F F' : Hp} {σ : L2.St} {H H' : Hp} {s s' : S} {v u : V} {d x y z : D} {b : Bool} {Q : VK}
theorem Sr.here (r : Sr K ω F σ H s) (h : RpR K ω F σ H s v d b) (q : Post K ω F σ s d b Q) : Q v H := q v F H (Ex.refl F) r h
theorem Sr.newT {ds : List D} {xs : List V} {p : Addr} (r : Sr K ω F σ H s) (hp : H p = none) (h : RpL K ω.P F ds xs) (q : Post K ω F σ s (.tup ds) false Q) : Q (.ref p) (upd H p (.tup xs)) :=
  q _ (upd F p (.tup xs)) _ (Ex.new (r.sub.none hp)) (r.alloc hp) (by
    show Rp _ _ _ _ _
    unfold Rp
    exact ⟨p, xs, rfl, SqT.of upd_same, h.mono (Ex.new (r.sub.none hp))⟩)
theorem Sr.newL {ds : List D} {xs : List V} {p : Addr} (r : Sr K ω F σ H s) (hp : H p = none) (h : RpL K ω.P F ds xs) (q : Post K ω F σ s (.lst ds) true Q) : Q (.ref p) (upd H p (.lst xs)) :=
  q _ F _ (Ex.refl F) (r.allocN hp) (r.fresh_lst hp h)
theorem Sr.newD {ds : List (Key × D)} {xs : List (Key × V)} {p : Addr} (r : Sr K ω F σ H s) (hp : H p = none) (h : RpK K ω.P F ds xs) (q : Post K ω F σ s (.dic ds) true Q) : Q (.ref p) (upd H p (.dK xs)) :=
  q _ F _ (Ex.refl F) (r.allocN hp) (r.fresh_dic hp h)
end

/-! ### constants, names -/
def cD (d : D) : SE := fun s => some ((d, false), s)
def cVar (i : Nat) : SE := fun s => match s.r[i]? with
  | some (.val d) => some ((d, false), s)
  | some (.own d) => some ((d, false), { s with r := s.r.set i (.val d) })
  | _ => none
section
variable {X : Cx}
theorem p_c {e : Expr} {v : V} {d : D} (h : PE X e (tC v)) (q : ∀ P F, Rp X.K P F d v) : PE X e (rd X.K (cD d)) :=
  h.imp fun σ H Q ⟨ω, F, s, d', b, s', r, e, p⟩ => by
    cases e
    exact r.here (b := false) (q _ F) p
theorem p_int {i : Int} {j pos} : PE X (.Constant (.int i) j pos) (rd X.K (cD (.int i))) := p_c pe_int fun _ _ => by unfold Rp; rfl
theorem p_bl {i : Bool} {j pos} : PE X (.Constant (.bool i) j pos) (rd X.K (cD (.bl i))) := p_c pe_bl fun _ _ => by unfold Rp; rfl
theorem p_non {j pos} : PE X (.Constant .none j pos) (rd X.K (cD .non)) := p_c pe_non fun _ _ => by unfold Rp; rfl
theorem p_str {x : Str} {j pos} : PE X (.Constant (.str x) j pos) (rd X.K (cD (.str x))) := p_c pe_str fun _ _ => by unfold Rp; rfl
/-- the slot i becomes known -/
theorem Sr.frzSlot {K : PySem.W.Frag} {ω : Wd} {F : Hp} {σ : L2.St} {H : Hp} {s : S} {i : Nat} {d : D} (r : Sr K ω F σ H s) (h : s.r[i]? = some (.own d)) :
    ∃ F' v, Ex F F' ∧ σ[i]? = some (some v) ∧ Sr K ω F' σ H { s with r := s.r.set i (.val d) } ∧ Rp K ω.P F' d v := by
  obtain ⟨v, hv, ho⟩ := r.sl i _ h
  have hi : i < s.r.length := by
    rcases Nat.lt_or_ge i s.r.length with q | q
    · exact q
    · rw [List.getElem?_eq_none q] at h; cases h
  -- the slot is first forgotten
  have r0 : Sr K ω F σ H { s with r := s.r.set i .no } := ⟨by rw [r.len]; simp, r.sub, r.frm, r.new, r.pt, fun j b e => by
      by_cases q : i = j
      · subst q
        have e : (s.r.set i .no)[i]? = some b := e
        rw [List.getElem?_set_self hi] at e; cases e; trivial
      · have e : (s.r.set i .no)[j]? = some b := e
        rw [List.getElem?_set_ne q] at e; exact r.sl j b e, fun j k d1 d2 w hjk h1 h2 => by
      have h1 : (s.r.set i .no)[j]? = some (.own d1) := h1
      have h2 : (s.r.set i .no)[k]? = some (.own d2) := h2
      rw [List.getElem?_set] at h1 h2
      split at h1
      · first | cases h1 | (split at h1 <;> cases h1)
      · split at h2
        · first | cases h2 | (split at h2 <;> cases h2)
        · exact r.dis j k d1 d2 w hjk h1 h2⟩
  have f : Fresh K ω F σ H { s with r := s.r.set i .no } v d := ⟨ho, fun j e h1 h2 => by
    have h1 : (s.r.set i .no)[j]? = some (.own e) := h1
    rw [List.getElem?_set] at h1
    split at h1
    · first | cases h1 | (split at h1 <;> cases h1)
    · rename_i hij
      exact r.dis i j d e v hij h h1 hv h2⟩
  obtain ⟨F', e, r1, hp⟩ := r0.freeze f
  refine ⟨F', v, e, hv, ⟨by rw [r1.len]; simp, r1.sub, r1.frm, r1.new, r1.pt, fun j b q => ?_, fun j k d1 d2 w hjk h1 h2 => ?_⟩, hp⟩
  · have q : (s.r.set i (.val d))[j]? = some b := q
    by_cases z : i = j
    · subst z
      rw [List.getElem?_set_self hi] at q; cases q
      exact ⟨v, hv, hp⟩
    · rw [List.getElem?_set_ne z] at q
      exact r1.sl j b (by show (s.r.set i .no)[j]? = some b; rw [List.getElem?_set_ne z]; exact q)
  · have h1 : (s.r.set i (.val d))[j]? = some (.own d1) := h1
    have h2 : (s.r.set i (.val d))[k]? = some (.own d2) := h2
    rw [List.getElem?_set] at h1 h2
    split at h1
    · first | cases h1 | (split at h1 <;> cases h1)
    · split at h2
      · first | cases h2 | (split at h2 <;> cases h2)
      · exact r.dis j k d1 d2 w hjk h1 h2
theorem p_var (i : Nat) {x : Str} {pos : Pos} (h : PE X (.Name x pos) (tVar i)) : PE X (.Name x pos) (rd X.K (cVar i)) :=
  h.imp fun σ H Q ⟨ω, F, s, d', b, s', r, e, p⟩ => by
    unfold cVar at e
    split at e
    · rename_i d hd
      cases e
      obtain ⟨v, hv, hr⟩ := r.sl i _ hd
      exact ⟨v, hv, r.here (b := false) hr p⟩
    · rename_i d hd
      cases e
      obtain ⟨F', v, e1, hv, r1, hr⟩ := r.frzSlot hd
      exact ⟨v, hv, p v F' H e1 r1 hr⟩
    · cases e
end

/-! ### operators -/
def cBin (op : D → D → Option (D × Bool)) (a b : SE) : SE := fun s => (a s).bind fun p => (b p.2).bind fun q => (op p.1.1 q.1.1).map fun z => (z, q.2)
def cUn (op : D → Option (D × Bool)) (a : SE) : SE := fun s => (a s).bind fun p => (op p.1.1).map fun z => (z, p.2)
def BinOk (K : PySem.W.Frag) (op : D → D → Option (D × Bool)) (r : R2) : Prop := ∀ (ω : Wd) (F : Hp) (σ : L2.St) (H : Hp) (s : S) (x y z : D) (b : Bool) (v u : V) (Q : VK), Sr K ω F σ H s → Rp K ω.P F x v → Rp K ω.P F y u → op x y = some (z, b) → Post K ω F σ s z b Q → r v u H Q
def UnOk (K : PySem.W.Frag) (op : D → Option (D × Bool)) (r : V → Hp → VK → Prop) : Prop := ∀ (ω : Wd) (F : Hp) (σ : L2.St) (H : Hp) (s : S) (x z : D) (b : Bool) (v : V) (Q : VK), Sr K ω F σ H s → Rp K ω.P F x v → op x = some (z, b) → Post K ω F σ s z b Q → r v H Q
theorem bin_use {K : PySem.W.Frag} {op : D → D → Option (D × Bool)} {r : R2} (h : BinOk K op r) {ea eb : SE} {σ : L2.St} {H : Hp} {Q : VK} (hw : rd K (cBin op ea eb) σ H Q) : tOp r (rd K ea) (rd K eb) σ H Q := by
  obtain ⟨ω, F, s, d, b, s', sr, e, p⟩ := hw
  unfold cBin at e
  cases e1 : ea s with
  | none => rw [e1] at e; cases e
  | some p1 =>
    obtain ⟨⟨d1, b1⟩, s1⟩ := p1
    rw [e1] at e
    simp only [Option.bind_some] at e
    cases e2 : eb s1 with
    | none => rw [e2] at e; cases e
    | some p2 =>
      obtain ⟨⟨d2, b2⟩, s2⟩ := p2
      rw [e2] at e
      simp only [Option.bind_some] at e
      cases e3 : op d1 d2 with
      | none => rw [e3] at e; cases e
      | some p3 =>
        obtain ⟨z, b3⟩ := p3
        rw [e3] at e
        cases e
        refine rd_use sr e1 fun v F1 H1 x1 r1 hv => ?_
        refine rd_use r1 e2 fun u F2 H2 x2 r2 hu => ?_
        exact h ω F2 σ H2 _ d1 d2 d b v u Q r2 (hv.mono x2) hu e3 (p.mono (x1.trans x2))
theorem un_use {K : PySem.W.Frag} {op : D → Option (D × Bool)} {r : V → Hp → VK → Prop} (h : UnOk K op r) {ea : SE} {σ : L2.St} {H : Hp} {Q : VK} (hw : rd K (cUn op ea) σ H Q) : tUn r (rd K ea) σ H Q := by
  obtain ⟨ω, F, s, d, b, s', sr, e, p⟩ := hw
  unfold cUn at e
  cases e1 : ea s with
  | none => rw [e1] at e; cases e
  | some p1 =>
    obtain ⟨⟨d1, b1⟩, s1⟩ := p1
    rw [e1] at e
    simp only [Option.bind_some] at e
    cases e3 : op d1 with
    | none => rw [e3] at e; cases e
    | some p3 =>
      obtain ⟨z, b3⟩ := p3
      rw [e3] at e
      cases e
      refine rd_use sr e1 fun v F1 H1 x1 r1 hv => ?_
      exact h ω F1 σ H1 _ d1 d b v Q r1 hv e3 (p.mono x1)
section
variable {X : Cx}
theorem p_bin {op : Operator} {f : D → D → Option (D × Bool)} {r : R2} {a b : Expr} {ea eb : SE} {pos : Pos} (ho : OpR X (binaryOp op) r) (h : BinOk X.K f r) (ha : PE X a (rd X.K ea)) (hb : PE X b (rd X.K eb)) : PE X (.BinOp a op b pos) (rd X.K (cBin f ea eb)) :=
  (pe_op ho ha hb).imp fun _ _ _ => bin_use h
theorem p_cmp {op : CmpOp} {f : D → D → Option (D × Bool)} {r : R2} {a b : Expr} {ea eb : SE} {pos : Pos} (ho : OpR X (compareOp op) r) (h : BinOk X.K f r) (ha : PE X a (rd X.K ea)) (hb : PE X b (rd X.K eb)) (hm : behindInMarks op b = false) : PE X (.Compare a [op] [b] pos) (rd X.K (cBin f ea eb)) :=
  (pe_cmpR ho ha hb hm).imp fun _ _ _ => bin_use h
theorem p_un {op : UnaryOp} {f : D → Option (D × Bool)} {r : V → Hp → VK → Prop} {a : Expr} {ea : SE} {pos : Pos} (ho : UnR X (unaryOp op) r) (h : UnOk X.K f r) (ha : PE X a (rd X.K ea)) : PE X (.UnaryOp op a pos) (rd X.K (cUn f ea)) :=
  (pe_un ho ha).imp fun _ _ _ => un_use h
end
theorem BinOk.or {K : PySem.W.Frag} {f g : D → D → Option (D × Bool)} {r r' : R2} (h : BinOk K f r) (h' : BinOk K g r') : BinOk K (fun x y => match f x y with | some z => some z | none => g x y) (fun x y H Q => r x y H Q ∨ r' x y H Q) :=
  fun ω F σ H s x y z b v u Q sr hx hy e p => by
    cases q : f x y with
    | some w => simp only [q] at e; cases e; exact .inl (h ω F σ H s x y z b v u Q sr hx hy q p)
    | none => simp only [q] at e; exact .inr (h' ω F σ H s x y z b v u Q sr hx hy e p)
def szOk (n : Nat) : Bool := decide (n ≤ 16777216)
theorem szOk_le {n : Nat} (h : szOk n = true) : n ≤ sizeLine := by rw [sizeLine_eq]; exact of_decide_eq_true h
/-! + -/
def dAdd : D → D → Option (D × Bool)
  | .int i, .int j => some (.int (i + j), false)
  | .str x, .str y => if szOk (x.length + y.length) then some (.str (x ++ y), false) else none
  | .lst x, .lst y => if szOk (x.length + y.length) then some (.lst (x ++ y), true) else none
  | .tup x, .tup y => if szOk (x.length + y.length) then some (.tup (x ++ y), false) else none
  | _, _ => none
def rAddAll (K : PySem.W.Frag) : R2 := fun x y H Q => rI0 (fun i j => .int (i + j)) x y H Q ∨ (∃ i j, x = .str i ∧ y = .str j ∧ i.length + j.length ≤ sizeLine ∧ Q (.str (i ++ j)) H) ∨ rCat x y H Q ∨ rCatA K x y H Q
theorem op_addAll {X : Cx} : OpR X (binaryOp .Add) (rAddAll X.K) := op_add.or (op_add_str.or (op_cat.or op_catA))
theorem ok_add {K : PySem.W.Frag} : BinOk K dAdd (rAddAll K) := fun ω F σ H s x y z b v u Q sr hx hy e p => by
  unfold dAdd at e
  split at e
  · cases e
    unfold Rp at hx hy; subst hx hy
    exact .inl ⟨_, _, rfl, rfl, sr.here (b := false) (by show Rp _ _ _ _ _; unfold Rp; rfl) p⟩
  · split at e
    · rename_i hz
      cases e
      unfold Rp at hx hy; subst hx hy
      exact .inr (.inl ⟨_, _, rfl, rfl, szOk_le hz, sr.here (b := false) (by show Rp _ _ _ _ _; unfold Rp; rfl) p⟩)
    · cases e
  · split at e
    · rename_i hz
      cases e
      unfold Rp at hx hy
      obtain ⟨a, xs, rfl, h1, h2⟩ := hx
      obtain ⟨c, ys, rfl, h3, h4⟩ := hy
      refine .inr (.inr (.inl ⟨a, c, xs, ys, rfl, rfl, sr.sub _ _ h1, sr.sub _ _ h3, by rw [h2.len, h4.len]; exact szOk_le hz, fun q hq => sr.newL hq (h2.app h4) p⟩))
    · cases e
  · split at e
    · rename_i hz
      cases e
      unfold Rp at hx hy
      obtain ⟨a, xs, rfl, h1, h2⟩ := hx
      obtain ⟨c, ys, rfl, h3, h4⟩ := hy
      refine .inr (.inr (.inr ⟨a, c, xs, ys, rfl, rfl, sqt_mono sr.sub h1, sqt_mono sr.sub h3, by rw [h2.len, h4.len]; exact szOk_le hz, fun q => ?_, fun _ q => ?_, fun _ _ q hq => sr.newT hq (h2.app h4) p⟩))
      · subst q
        have h2 := h2.app h4
        rw [List.nil_append] at h2
        exact sr.here (b := false) (by show Rp _ _ _ _ _; unfold Rp; exact ⟨c, ys, rfl, h3, h2⟩) p
      · subst q
        have h2 := h2.app h4
        rw [List.append_nil] at h2
        exact sr.here (b := false) (by show Rp _ _ _ _ _; unfold Rp; exact ⟨a, xs, rfl, h1, h2⟩) p
    · cases e
  · cases e
/-! ints -/
def dI2 (C : Int → Int → Bool) (g : Int → Int → Int) : D → D → Option (D × Bool)
  | .int i, .int j => if C i j then some (.int (g i j), false) else none
  | _, _ => none
theorem ok_I {K : PySem.W.Frag} {C : Int → Int → Bool} {C' : Int → Int → Prop} {g g' : Int → Int → Int} (hc : ∀ i j, C i j = true → C' i j) (hg : ∀ i j, C i j = true → g i j = g' i j) : BinOk K (dI2 C g) (rI C' fun i j => .int (g' i j)) := fun ω F σ H s x y z b v u Q sr hx hy e p => by
  unfold dI2 at e
  split at e
  · split at e
    · rename_i h
      cases e
      unfold Rp at hx hy; subst hx hy
      refine ⟨_, _, rfl, rfl, hc _ _ h, sr.here (b := false) (by show Rp _ _ _ _ _; unfold Rp; rw [hg _ _ h]) p⟩
    · cases e
  · cases e
theorem ok_I0 {K : PySem.W.Frag} {g : Int → Int → Int} : BinOk K (dI2 (fun _ _ => true) g) (rI0 fun i j => .int (g i j)) := fun ω F σ H s x y z b v u Q sr hx hy e p => by
  unfold dI2 at e
  split at e
  · split at e
    · cases e
      unfold Rp at hx hy; subst hx hy
      exact ⟨_, _, rfl, rfl, sr.here (b := false) (by show Rp _ _ _ _ _; unfold Rp; rfl) p⟩
    · cases e
  · cases e
def dB2 (g : Int → Int → Bool) : D → D → Option (D × Bool)
  | .int i, .int j => some (.bl (g i j), false)
  | _, _ => none
theorem ok_B0 {K : PySem.W.Frag} {g : Int → Int → Bool} : BinOk K (dB2 g) (rI0 fun i j => .bl (g i j)) := fun ω F σ H s x y z b v u Q sr hx hy e p => by
  unfold dB2 at e
  split at e
  · cases e
    unfold Rp at hx hy; subst hx hy
    exact ⟨_, _, rfl, rfl, sr.here (b := false) (by show Rp _ _ _ _ _; unfold Rp; rfl) p⟩
  · cases e
def mulC (i j : Int) : Bool := decide (i.natAbs.log2 + j.natAbs.log2 < 1000000)
def divC (_ j : Int) : Bool := decide (0 < j ∧ j.natAbs.log2 < 9000)
def modC (_ j : Int) : Bool := decide (0 < j)
def powC (i j : Int) : Bool := decide (0 ≤ j ∧ j ≤ 1000000 ∧ i.natAbs < 2 ^ 64)
def dSub := dI2 (fun _ _ => true) fun i j => i - j
def dDiv := dI2 divC fun i j => i / j
def dMod := dI2 modC fun i j => i % j
def dPow := dI2 powC fun i j => i ^ j.toNat
def dMulI := dI2 mulC fun i j => i * j
section
variable {X : Cx}
theorem ok_sub : BinOk X.K dSub (rI0 fun i j => .int (i - j)) := ok_I0
theorem ok_div : BinOk X.K dDiv (rI CDivW fun i j => .int (i / j)) := ok_I (fun _ _ h => by simpa [divC, modC, powC, mulC, CDivW, CPow, CMulW] using h) fun _ _ _ => rfl
theorem ok_mod : BinOk X.K dMod (rI (fun _ j => 0 < j) fun i j => .int (i % j)) := ok_I (fun _ _ h => by simpa [divC, modC, powC, mulC, CDivW, CPow, CMulW] using h) fun _ _ _ => rfl
theorem ok_pow : BinOk X.K dPow (rI CPow fun i j => .int (i ^ j.toNat)) := ok_I (fun _ _ h => by simpa [divC, modC, powC, mulC, CDivW, CPow, CMulW] using h) fun _ _ _ => rfl
theorem ok_mulI : BinOk X.K dMulI (rI CMulW fun i j => .int (i * j)) := ok_I (fun _ _ h => by simpa [divC, modC, powC, mulC, CDivW, CPow, CMulW] using h) fun _ _ _ => rfl
end
/-! * of lists and tuples by a number -/
def dRep : D → D → Option (D × Bool)
  | .lst x, .int k => if inR 9223372036854775807 k && szOk (x.length * k.toNat) then some (.lst (List.replicate k.toNat x).flatten, true) else none
  | .tup x, .int k => if decide (2 ≤ k ∧ k ≤ 1000 ∧ 1 ≤ x.length ∧ x.length ≤ 1000) then some (.tup (List.replicate k.toNat x).flatten, false) else if decide (k = 1 ∧ False) then some (.tup x, false) else none
  | _, _ => none
theorem RpL.rep {K : PySem.W.Frag} {P : Option Addr} {F : Hp} {ds : List D} {xs : List V} (h : RpL K P F ds xs) : ∀ k : Nat, RpL K P F (List.replicate k ds).flatten (List.replicate k xs).flatten
  | 0 => .nil
  | k + 1 => by
    rw [List.replicate_succ, List.flatten_cons, List.replicate_succ, List.flatten_cons]
    exact h.app (RpL.rep h k)
end Rb

namespace Rb
open PySem PySem.Spec PyProof.Rows L2

/-! ### equality of plain data -/
mutual
def D.py : D → PyData
  | .non => .none | .bl b => .bool b | .int i => .int i | .str x => .str x
  | .tup ds => .tuple (D.pyL ds) | .lst ds => .list (D.pyL ds) | .dic _ => .none | .pot => .none | .scr _ => .none
def D.pyL : List D → List PyData
  | [] => []
  | d :: ds => d.py :: D.pyL ds
end
mutual
/-- data that may be compared: n deep -/
def D.sh : Nat → D → Bool
  | _, .non => true | _, .bl _ => true | _, .int _ => true | _, .str x => PyData.canLay0 (.str x)
  | 0, .tup _ => false | 0, .lst _ => false
  | n + 1, .tup ds => D.shL n ds | n + 1, .lst ds => D.shL n ds | _, .dic _ => false | _, .pot => false | _, .scr _ => false
def D.shL : Nat → List D → Bool
  | _, [] => true
  | n, d :: ds => D.sh n d && D.shL n ds
end
mutual
theorem D.sh_lay : ∀ (n : Nat) (d : D), D.sh n d = true → d.py.canLay0 = true ∧ d.py.depth ≤ n
  | n, .non, _ => by simp [D.py, PyData.canLay0, PyData.depth]
  | n, .bl b, _ => by simp [D.py, PyData.canLay0, PyData.depth]
  | n, .int b, _ => by simp [D.py, PyData.canLay0, PyData.depth]
  | n, .str b, h => by simpa [D.py, PyData.canLay0, PyData.depth, D.sh] using h
  | 0, .tup ds, h => by simp [D.sh] at h
  | 0, .lst ds, h => by simp [D.sh] at h
  | n + 1, .tup ds, h => by
    have := D.shL_lay n ds (by simpa [D.sh] using h)
    simpa [D.py, PyData.canLay0, PyData.depth] using this
  | n + 1, .lst ds, h => by
    have := D.shL_lay n ds (by simpa [D.sh] using h)
    simpa [D.py, PyData.canLay0, PyData.depth] using this
  | n, .dic _, h => by cases n <;> simp [D.sh] at h
  | n, .pot, h => by cases n <;> simp [D.sh] at h
  | n, .scr _, h => by cases n <;> simp [D.sh] at h
theorem D.shL_lay : ∀ (n : Nat) (ds : List D), D.shL n ds = true → PyData.canLayAll0 (D.pyL ds) = true ∧ PyData.depthAll (D.pyL ds) ≤ n
  | n, [], _ => by simp [D.pyL, PyData.canLayAll0, PyData.depthAll]
  | n, d :: ds, h => by
    simp only [D.shL, Bool.and_eq_true] at h
    have h1 := D.sh_lay n d h.1
    have h2 := D.shL_lay n ds h.2
    simp only [D.pyL, PyData.canLayAll0, PyData.depthAll, Bool.and_eq_true]
    exact ⟨⟨h1.1, h2.1⟩, by omega⟩
end
section
variable {K : PySem.W.Frag} {P : Option Addr} {F H : Hp}
mutual
theorem Rp.dp (e : Ex F H) : ∀ (n : Nat) (d : D) (v : V), Rp K P F d v → D.sh n d = true → Dp K H v d.py
  | n, .non, v, h, _ => by unfold Rp at h; subst h; unfold D.py; exact .non
  | n, .bl b, v, h, _ => by unfold Rp at h; subst h; unfold D.py; exact .bl b
  | n, .int b, v, h, _ => by unfold Rp at h; subst h; unfold D.py; exact .int b
  | n, .str b, v, h, _ => by unfold Rp at h; subst h; unfold D.py; exact .str b
  | 0, .tup ds, v, h, q => by simp [D.sh] at q
  | 0, .lst ds, v, h, q => by simp [D.sh] at q
  | n + 1, .tup ds, v, h, q => by
    unfold Rp at h
    obtain ⟨a, xs, rfl, h1, h2⟩ := h
    unfold D.py
    exact .tup (sqt_mono e h1) (RpL.dp e n ds xs h2 (by simpa [D.sh] using q))
  | n + 1, .lst ds, v, h, q => by
    unfold Rp at h
    obtain ⟨a, xs, rfl, h1, h2⟩ := h
    unfold D.py
    exact .lst (SqL.of (e _ _ h1)) (RpL.dp e n ds xs h2 (by simpa [D.sh] using q))
  | n, .dic _, v, h, q => by cases n <;> simp [D.sh] at q
  | n, .pot, v, h, q => by cases n <;> simp [D.sh] at q
  | n, .scr _, v, h, q => by cases n <;> simp [D.sh] at q
theorem RpL.dp (e : Ex F H) : ∀ (n : Nat) (ds : List D) (xs : List V), RpL K P F ds xs → D.shL n ds = true → DpAll K H xs (D.pyL ds)
  | n, [], xs, h, _ => by unfold RpL at h; subst h; unfold D.pyL; exact .nil
  | n, d :: ds, xs, h, q => by
    unfold RpL at h
    obtain ⟨x, r, rfl, h1, h2⟩ := h
    simp only [D.shL, Bool.and_eq_true] at q
    unfold D.pyL
    exact .cons (Rp.dp e n d x h1 q.1) (RpL.dp e n ds r h2 q.2)
end
end
def eqB (x y : D) : Bool := PyData.eqv x.py y.py
def dEq (x y : D) : Option (D × Bool) := if D.sh 64 x && D.sh 64 y then some (.bl (eqB x y), false) else none
def dNe (x y : D) : Option (D × Bool) := if D.sh 64 x && D.sh 64 y then some (.bl (!eqB x y), false) else none
theorem ok_eq {K : PySem.W.Frag} : BinOk K dEq (rEqD K) := fun ω F σ H s x y z b v u Q sr hx hy e p => by
  unfold dEq at e
  split at e
  · rename_i h
    simp only [Bool.and_eq_true] at h
    cases e
    have h1 := D.sh_lay _ _ h.1
    have h2 := D.sh_lay _ _ h.2
    refine ⟨x.py, y.py, Rp.dp sr.sub _ _ _ hx h.1, Rp.dp sr.sub _ _ _ hy h.2, ?_, ?_, sr.here (b := false) (by show Rp _ _ _ _ _; unfold Rp; rfl) p⟩
    · unfold SeqAt.shaped; rw [h1.1, decide_eq_true h1.2]; rfl
    · unfold SeqAt.shaped; rw [h2.1, decide_eq_true h2.2]; rfl
  · cases e
theorem ok_ne {K : PySem.W.Frag} : BinOk K dNe (rNeD K) := fun ω F σ H s x y z b v u Q sr hx hy e p => by
  unfold dNe at e
  split at e
  · rename_i h
    simp only [Bool.and_eq_true] at h
    cases e
    have h1 := D.sh_lay _ _ h.1
    have h2 := D.sh_lay _ _ h.2
    refine ⟨x.py, y.py, Rp.dp sr.sub _ _ _ hx h.1, Rp.dp sr.sub _ _ _ hy h.2, ?_, ?_, sr.here (b := false) (by show Rp _ _ _ _ _; unfold Rp; rfl) p⟩
    · unfold SeqAt.shaped; rw [h1.1, decide_eq_true h1.2]; rfl
    · unfold SeqAt.shaped; rw [h2.1, decide_eq_true h2.2]; rfl
  · cases e
def dLt := dB2 fun i j => decide (i < j)
def dLe := dB2 fun i j => decide (i ≤ j)
def dGt := dB2 fun i j => decide (j < i)
def dGe := dB2 fun i j => decide (j ≤ i)
/-! is None, is True .. -/
def dIsN : D → D → Option (D × Bool)
  | x, .non => match x with
    | .pot => none
    | .non => some (.bl true, false)
    | _ => some (.bl false, false)
  | .bl a, .bl b => some (.bl (decide (a = b)), false)
  | _, _ => none
def dNotN : D → D → Option (D × Bool)
  | x, .non => match x with
    | .pot => none
    | .non => some (.bl false, false)
    | _ => some (.bl true, false)
  | .bl a, .bl b => some (.bl (!decide (a = b)), false)
  | _, _ => none
def rIsA : R2 := fun x y H Q => (y = .non ∧ Q (.bl (decide (x = .non))) H) ∨ rIsB x y H Q
def rNotA : R2 := fun x y H Q => (y = .non ∧ Q (.bl (!decide (x = .non))) H) ∨ rNotB x y H Q
theorem op_isA {X : Cx} : OpR X (compareOp .Is) rIsA := op_isN.or op_isBl
theorem op_notA {X : Cx} : OpR X (compareOp .IsNot) rNotA := op_notN.or op_notBl
theorem Rp.isNon {K : PySem.W.Frag} {P : Option Addr} {F : Hp} {d : D} {v : V} (h : Rp K P F d v) : v = .non ↔ d = .non := by
  cases d <;> unfold Rp at h
  case non => simp [h]
  case bl => simp [h]
  case int => simp [h]
  case str => simp [h]
  case tup => obtain ⟨a, xs, rfl, _⟩ := h; simp
  case lst => obtain ⟨a, xs, rfl, _⟩ := h; simp
  case dic => obtain ⟨a, xs, rfl, _⟩ := h; simp
  case pot => obtain ⟨a, _, rfl⟩ := h; simp
  case scr => obtain ⟨a, rfl, _⟩ := h; simp
theorem ok_is {K : PySem.W.Frag} : BinOk K dIsN rIsA := fun ω F σ H s x y z b v u Q sr hx hy e p => by
  cases y
  case non =>
    have hu : u = .non := hy.isNon.mpr rfl
    subst hu
    refine .inl ⟨rfl, ?_⟩
    cases x <;> simp only [dIsN] at e <;> cases e
    case non =>
      have hv : v = .non := hx.isNon.mpr rfl
      exact sr.here (b := false) (by show Rp _ _ _ _ _; unfold Rp; rw [hv]; rfl) p
    all_goals
      have hv : ¬ v = .non := fun q => nomatch hx.isNon.mp q
      exact sr.here (b := false) (by show Rp _ _ _ _ _; unfold Rp; rw [decide_eq_false hv]) p
  case bl =>
    cases x <;> simp only [dIsN] at e <;> cases e
    unfold Rp at hx hy
    subst hx hy
    exact .inr ⟨_, _, rfl, rfl, sr.here (b := false) (by show Rp _ _ _ _ _; unfold Rp; rfl) p⟩
  all_goals (cases x <;> simp only [dIsN] at e <;> cases e)
theorem ok_not {K : PySem.W.Frag} : BinOk K dNotN rNotA := fun ω F σ H s x y z b v u Q sr hx hy e p => by
  cases y
  case non =>
    have hu : u = .non := hy.isNon.mpr rfl
    subst hu
    refine .inl ⟨rfl, ?_⟩
    cases x <;> simp only [dNotN] at e <;> cases e
    case non =>
      have hv : v = .non := hx.isNon.mpr rfl
      exact sr.here (b := false) (by show Rp _ _ _ _ _; unfold Rp; rw [hv]; rfl) p
    all_goals
      have hv : ¬ v = .non := fun q => nomatch hx.isNon.mp q
      exact sr.here (b := false) (by show Rp _ _ _ _ _; unfold Rp; rw [decide_eq_false hv]; rfl) p
  case bl =>
    cases x <;> simp only [dNotN] at e <;> cases e
    unfold Rp at hx hy
    subst hx hy
    exact .inr ⟨_, _, rfl, rfl, sr.here (b := false) (by show Rp _ _ _ _ _; unfold Rp; rfl) p⟩
  all_goals (cases x <;> simp only [dNotN] at e <;> cases e)
/-! unary -/
def dNeg : D → Option (D × Bool)
  | .int i => some (.int (-i), false)
  | _ => none
theorem ok_neg {K : PySem.W.Frag} : UnOk K dNeg (rU fun i => .int (-i)) := fun ω F σ H s x z b v Q sr hx e p => by
  unfold dNeg at e
  split at e
  · cases e
    unfold Rp at hx; subst hx
    exact ⟨_, rfl, sr.here (b := false) (by show Rp _ _ _ _ _; unfold Rp; rfl) p⟩
  · cases e

/-! ### tests -/
def bT (e : SE) : ST := fun s => (e s).bind fun p => match p.1.1 with
  | .bl b => some (b, p.2)
  | _ => none
def bAnd (a b : ST) : ST := fun s => (a s).bind fun p => if p.1 then b p.2 else some (false, p.2)
def bOr (a b : ST) : ST := fun s => (a s).bind fun p => if p.1 then some (true, p.2) else b p.2
def bNot (a : ST) : ST := fun s => (a s).map fun p => (!p.1, p.2)
def cOfT (t : ST) : SE := fun s => (t s).map fun p => ((.bl p.1, false), p.2)
def cIte (t : ST) (a b : SE) : SE := fun s => (t s).bind fun p => if p.1 then a p.2 else b p.2
section
variable {K : PySem.W.Frag} {ω : Wd} {F F' : Hp} {σ : L2.St} {H H' : Hp} {s s' : S}
theorem rdT_use {e : ST} {b : Bool} {R : Bool → Hp → Prop} (r : Sr K ω F σ H s) (h : e s = some (b, s')) (q : ∀ F' H', Ex F F' → Sr K ω F' σ H' s' → R b H') : rdT K e σ H R := ⟨ω, F, s, b, s', r, h, q⟩
theorem bT_use {e : SE} {Q : Bool → Hp → Prop} (hw : rdT K (bT e) σ H Q) : rd K e σ H (fun x H1 => ∃ c, x = .bl c ∧ Q c H1) := by
  obtain ⟨ω, F, s, b, s', sr, h, p⟩ := hw
  unfold bT at h
  cases e1 : e s with
  | none => rw [e1] at h; cases h
  | some p1 =>
    obtain ⟨⟨d1, b1⟩, s1⟩ := p1
    rw [e1] at h
    simp only [Option.bind_some] at h
    cases d1 <;> cases h
    refine rd_use sr e1 fun v F1 H1 x1 r1 hv => ?_
    unfold Rp at hv
    exact ⟨_, hv, p F1 H1 x1 r1⟩
end
section
variable {X : Cx}
theorem t_val {e : Expr} {c : SE} (h : PE X e (rd X.K c)) (he : ∀ whole, isTrue e X.env whole = (do let v ← whole; standAt e.pos; holding [v] (truthy v)) := by intro _; rfl) : PT X e (rdT X.K (bT c)) :=
  (pt_val h he).imp fun _ _ _ => bT_use
theorem t_cmp {op : CmpOp} {f : D → D → Option (D × Bool)} {r : R2} {a b : Expr} {ea eb : SE} {pos : Pos} (ho : OpR X (compareOp op) r) (h : BinOk X.K f r) (ha : PE X a (rd X.K ea)) (hb : PE X b (rd X.K eb)) (hm : behindInMarks op b = false) : PT X (.Compare a [op] [b] pos) (rdT X.K (bT (cBin f ea eb))) :=
  (pt_cmpR ho ha hb hm).imp fun σ H Q hw => by
    have := bT_use hw
    exact bin_use h this
theorem t_and {a b : Expr} {rest : List Expr} {ta tb : ST} {pos : Pos} (ha : PT X a (rdT X.K ta)) (hb : PW X (.BoolOp .And (b :: rest) pos) (rdT X.K tb)) : PW X (.BoolOp .And (a :: b :: rest) pos) (rdT X.K (bAnd ta tb)) :=
  ⟨fun whole pins s σ H Q I hw => (pw_and ha hb).run whole pins s σ H Q I (by
    obtain ⟨ω, F, s, b, s', sr, h, p⟩ := hw
    unfold bAnd at h
    cases e1 : ta s with
    | none => rw [e1] at h; cases h
    | some p1 =>
      obtain ⟨b1, s1⟩ := p1
      rw [e1] at h
      simp only [Option.bind_some] at h
      refine rdT_use sr e1 fun F1 H1 x1 r1 => ?_
      cases b1
      · cases h; exact p F1 H1 x1 r1
      · exact rdT_use r1 h fun F2 H2 x2 r2 => p F2 H2 (x1.trans x2) r2)⟩
theorem t_or {a b : Expr} {rest : List Expr} {ta tb : ST} {pos : Pos} (ha : PT X a (rdT X.K ta)) (hb : PW X (.BoolOp .Or (b :: rest) pos) (rdT X.K tb)) : PW X (.BoolOp .Or (a :: b :: rest) pos) (rdT X.K (bOr ta tb)) :=
  ⟨fun whole pins s σ H Q I hw => (pw_or ha hb).run whole pins s σ H Q I (by
    obtain ⟨ω, F, s, b, s', sr, h, p⟩ := hw
    unfold bOr at h
    cases e1 : ta s with
    | none => rw [e1] at h; cases h
    | some p1 =>
      obtain ⟨b1, s1⟩ := p1
      rw [e1] at h
      simp only [Option.bind_some] at h
      refine rdT_use sr e1 fun F1 H1 x1 r1 => ?_
      cases b1
      · exact rdT_use r1 h fun F2 H2 x2 r2 => p F2 H2 (x1.trans x2) r2
      · cases h; exact p F1 H1 x1 r1)⟩
theorem t_not {a : Expr} {ta : ST} {pos : Pos} (ha : PT X a (rdT X.K ta)) : PT X (.UnaryOp .Not a pos) (rdT X.K (bNot ta)) :=
  (pt_not ha).imp fun σ H Q hw => by
    obtain ⟨ω, F, s, b, s', sr, h, p⟩ := hw
    unfold bNot at h
    cases e1 : ta s with
    | none => rw [e1] at h; cases h
    | some p1 =>
      obtain ⟨b1, s1⟩ := p1
      rw [e1] at h
      cases h
      exact rdT_use sr e1 p
/-! the same as values -/
def cAnd (a b : SE) : SE := fun s => (a s).bind fun p => match p.1.1 with
  | .bl true => b p.2
  | .bl false => some ((.bl false, false), p.2)
  | _ => none
def cOr (a b : SE) : SE := fun s => (a s).bind fun p => match p.1.1 with
  | .bl false => b p.2
  | .bl true => some ((.bl true, false), p.2)
  | _ => none
def cNot (a : SE) : SE := fun s => (a s).bind fun p => match p.1.1 with
  | .bl b => some ((.bl (!b), false), p.2)
  | _ => none
theorem p_one {op} {a : Expr} {c : SE} {pos : Pos} (h : PE X a (rd X.K c)) : PE X (.BoolOp op [a] pos) (rd X.K c) := pe_one h
theorem p_and {a b : Expr} {rest : List Expr} {ca cb : SE} {pos : Pos} (ha : PE X a (rd X.K ca)) (hb : PE X (.BoolOp .And (b :: rest) pos) (rd X.K cb)) : PE X (.BoolOp .And (a :: b :: rest) pos) (rd X.K (cAnd ca cb)) :=
  (pe_and ha hb).imp fun σ H Q hw => by
    obtain ⟨ω, F, s, d, b, s', sr, h, p⟩ := hw
    unfold cAnd at h
    cases e1 : ca s with
    | none => rw [e1] at h; cases h
    | some p1 =>
      obtain ⟨⟨d1, b1⟩, s1⟩ := p1
      rw [e1] at h
      simp only [Option.bind_some] at h
      refine rd_use sr e1 fun v F1 H1 x1 r1 hv => ?_
      split at h
      · skip
        unfold Rp at hv
        exact ⟨true, hv, ⟨ω, F1, s1, d, b, s', r1, h, p.mono x1⟩⟩
      · skip
        unfold Rp at hv
        cases h
        exact ⟨false, hv, r1.here (b := false) (by show Rp _ _ _ _ _; unfold Rp; rfl) (p.mono x1)⟩
      · cases h
theorem p_or {a b : Expr} {rest : List Expr} {ca cb : SE} {pos : Pos} (ha : PE X a (rd X.K ca)) (hb : PE X (.BoolOp .Or (b :: rest) pos) (rd X.K cb)) : PE X (.BoolOp .Or (a :: b :: rest) pos) (rd X.K (cOr ca cb)) :=
  (pe_or ha hb).imp fun σ H Q hw => by
    obtain ⟨ω, F, s, d, b, s', sr, h, p⟩ := hw
    unfold cOr at h
    cases e1 : ca s with
    | none => rw [e1] at h; cases h
    | some p1 =>
      obtain ⟨⟨d1, b1⟩, s1⟩ := p1
      rw [e1] at h
      simp only [Option.bind_some] at h
      refine rd_use sr e1 fun v F1 H1 x1 r1 hv => ?_
      split at h
      · skip
        unfold Rp at hv
        exact ⟨false, hv, ⟨ω, F1, s1, d, b, s', r1, h, p.mono x1⟩⟩
      · skip
        unfold Rp at hv
        cases h
        exact ⟨true, hv, r1.here (b := false) (by show Rp _ _ _ _ _; unfold Rp; rfl) (p.mono x1)⟩
      · cases h
theorem p_not {a : Expr} {ca : SE} {pos : Pos} (ha : PE X a (rd X.K ca)) : PE X (.UnaryOp .Not a pos) (rd X.K (cNot ca)) :=
  (pe_not ha).imp fun σ H Q hw => by
    obtain ⟨ω, F, s, d, b, s', sr, h, p⟩ := hw
    unfold cNot at h
    cases e1 : ca s with
    | none => rw [e1] at h; cases h
    | some p1 =>
      obtain ⟨⟨d1, b1⟩, s1⟩ := p1
      rw [e1] at h
      simp only [Option.bind_some] at h
      refine rd_use sr e1 fun v F1 H1 x1 r1 hv => ?_
      split at h
      · skip
        unfold Rp at hv
        cases h
        exact ⟨_, hv, r1.here (b := false) (by show Rp _ _ _ _ _; unfold Rp; rfl) (p.mono x1)⟩
      · cases h
theorem p_ite {c a b : Expr} {tc : ST} {ca cb : SE} {pos : Pos} (hc : PT X c (rdT X.K tc)) (ha : PE X a (rd X.K ca)) (hb : PE X b (rd X.K cb)) : PE X (.IfExp c a b pos) (rd X.K (cIte tc ca cb)) :=
  (pe_ifExp hc ha hb).imp fun σ H Q hw => by
    obtain ⟨ω, F, s, d, b, s', sr, h, p⟩ := hw
    unfold cIte at h
    cases e1 : tc s with
    | none => rw [e1] at h; cases h
    | some p1 =>
      obtain ⟨b1, s1⟩ := p1
      rw [e1] at h
      simp only [Option.bind_some] at h
      refine rdT_use sr e1 fun F1 H1 x1 r1 => ?_
      cases b1
      · exact ⟨ω, F1, s1, d, b, s', r1, h, p.mono x1⟩
      · exact ⟨ω, F1, s1, d, b, s', r1, h, p.mono x1⟩
end
/-- a op b op' c, b once -/
def cChain (f g : D → D → Option (D × Bool)) (a b c : SE) : SE := fun s => (a s).bind fun p => (b p.2).bind fun q => match f p.1.1 q.1.1 with
  | some (.bl true, _) => (c q.2).bind fun r => (g q.1.1 r.1.1).map fun z => (z, r.2)
  | some (.bl false, _) => some ((.bl false, false), q.2)
  | _ => none
section
variable {X : Cx}
theorem p_chain {op op' : CmpOp} {f g : D → D → Option (D × Bool)} {r r' : R2} {a b c : Expr} {ea eb ec : SE} {pos : Pos} (ho : OpR X (compareOp op) r) (ho' : OpR X (compareOp op') r') (h : BinOk X.K f r) (h' : BinOk X.K g r') (ha : PE X a (rd X.K ea)) (hb : PE X b (rd X.K eb)) (hc : PE X c (rd X.K ec))
    (hm : lastMarks [op, op'] [b, c] = false := by with_unfolding_all rfl) : PE X (.Compare a [op, op'] [b, c] pos) (rd X.K (cChain f g ea eb ec)) :=
  (pe_chain ho ho' ha hb hc hm).imp fun σ H Q hw => by
    obtain ⟨ω, F, s, d, b, s', sr, e, p⟩ := hw
    unfold cChain at e
    cases e1 : ea s with
    | none => rw [e1] at e; cases e
    | some p1 =>
      obtain ⟨⟨d1, b1⟩, s1⟩ := p1
      rw [e1] at e
      simp only [Option.bind_some] at e
      cases e2 : eb s1 with
      | none => rw [e2] at e; cases e
      | some p2 =>
        obtain ⟨⟨d2, b2⟩, s2⟩ := p2
        rw [e2] at e
        simp only [Option.bind_some] at e
        refine rd_use sr e1 fun v F1 H1 x1 r1 hv => ?_
        refine rd_use r1 e2 fun u F2 H2 x2 r2 hu => ?_
        cases e3 : f d1 d2 with
        | none => rw [e3] at e; cases e
        | some p3 =>
          obtain ⟨z, b3⟩ := p3
          rw [e3] at e
          refine h ω F2 σ H2 s2 d1 d2 z b3 v u _ r2 (hv.mono x2) hu e3 fun zv F3 H3 x3 r3 hz => ?_
          cases z with
          | bl c0 =>
            have hz' : zv = .bl c0 := by
              cases b3
              · have q : Rp X.K ω.P F3 (.bl c0) zv := hz
                unfold Rp at q; exact q
              · exact hz.1.elim
            cases c0
            · simp only at e; cases e
              exact ⟨false, hz', r3.here (b := false) (by show Rp _ _ _ _ _; unfold Rp; rfl) (p.mono ((x1.trans x2).trans x3))⟩
            · simp only at e
              cases e4 : ec s2 with
              | none => rw [e4] at e; cases e
              | some p4 =>
                obtain ⟨⟨d4, b4⟩, s4⟩ := p4
                rw [e4] at e
                simp only [Option.bind_some] at e
                cases e5 : g d2 d4 with
                | none => rw [e5] at e; cases e
                | some p5 =>
                  obtain ⟨z5, b5⟩ := p5
                  rw [e5] at e
                  cases e
                  refine ⟨true, hz', ?_⟩
                  refine rd_use r3 e4 fun w F4 H4 x4 r4 hw' => ?_
                  exact h' ω F4 σ H4 _ d2 d4 _ _ u w Q r4 (hu.mono (x3.trans x4)) hw' e5 (p.mono (((x1.trans x2).trans x3).trans x4))
          | _ => simp only at e; cases e
end
end Rb

namespace Rb
open PySem PySem.Spec PyProof.Rows L2

/-! ### arguments, displays -/
def aNil : SA := fun s => some ([], s)
def aCons (e : SE) (t : SA) : SA := fun s => (e s).bind fun p => (t p.2).map fun q => (p.1.1 :: q.1, q.2)
def cTup (t : SA) : SE := fun s => (t s).bind fun p => if szOk p.1.length then some ((.tup p.1, false), p.2) else none
def cLst (t : SA) : SE := fun s => (t s).bind fun p => if szOk p.1.length then some ((.lst p.1, true), p.2) else none
section
variable {K : PySem.W.Frag} {ω : Wd} {F F' : Hp} {σ : L2.St} {H H' : Hp} {s s' : S}
theorem rdA_use {e : SA} {ds : List D} {R : List V → Hp → Prop} (r : Sr K ω F σ H s) (h : e s = some (ds, s')) (q : ∀ vs F' H', Ex F F' → Sr K ω F' σ H' s' → RpL K ω.P F' ds vs → R vs H') : rdA K e σ H R := ⟨ω, F, s, ds, s', r, h, q⟩
end
section
variable {X : Cx}
theorem a_nil : PA X [] (rdA X.K aNil) := pa_nil.imp fun σ H Q ⟨ω, F, s, ds, s', sr, h, p⟩ => by
  cases h
  exact p [] F H (Ex.refl F) sr .nil
theorem a_cons {e : Expr} {es : List Expr} {c : SE} {t : SA} (h : PE X e (rd X.K c)) (ht : PA X es (rdA X.K t)) (hs : starEach (e :: es) X.env = (false, eval e X.env) :: starEach es X.env := by rfl) : PA X (e :: es) (rdA X.K (aCons c t)) :=
  (pa_cons h ht hs).imp fun σ H Q ⟨ω, F, s, ds, s', sr, h, p⟩ => by
    unfold aCons at h
    cases e1 : c s with
    | none => rw [e1] at h; cases h
    | some p1 =>
      obtain ⟨⟨d1, b1⟩, s1⟩ := p1
      rw [e1] at h
      simp only [Option.bind_some] at h
      cases e2 : t s1 with
      | none => rw [e2] at h; cases h
      | some p2 =>
        obtain ⟨ds2, s2⟩ := p2
        rw [e2] at h
        cases h
        exact rd_use sr e1 fun v F1 H1 x1 r1 hv => rdA_use r1 e2 fun vs F2 H2 x2 r2 hvs => p _ F2 H2 (x1.trans x2) r2 (.cons (hv.mono x2) hvs)
theorem p_tup {es : List Expr} {t : SA} {x1} {pos : Pos} (h : PA X es (rdA X.K t)) : PE X (.Tuple es x1 pos) (rd X.K (cTup t)) :=
  (pe_tup h).imp fun σ H Q ⟨ω, F, s, d, b, s', sr, h, p⟩ => by
    unfold cTup at h
    cases e1 : t s with
    | none => rw [e1] at h; cases h
    | some p1 =>
      obtain ⟨ds, s1⟩ := p1
      rw [e1] at h
      simp only [Option.bind_some] at h
      split at h
      · rename_i hz
        cases h
        exact rdA_use sr e1 fun vs F1 H1 x1 r1 hv => ⟨by rw [hv.len]; exact szOk_le hz, fun q hq => r1.newT hq hv (p.mono x1)⟩
      · cases h
theorem p_lst {es : List Expr} {t : SA} {pos : Pos} (h : PA X es (rdA X.K t)) : PE X (.List es pos) (rd X.K (cLst t)) :=
  (pe_lst h).imp fun σ H Q ⟨ω, F, s, d, b, s', sr, h, p⟩ => by
    unfold cLst at h
    cases e1 : t s with
    | none => rw [e1] at h; cases h
    | some p1 =>
      obtain ⟨ds, s1⟩ := p1
      rw [e1] at h
      simp only [Option.bind_some] at h
      split at h
      · rename_i hz
        cases h
        exact rdA_use sr e1 fun vs F1 H1 x1 r1 hv => ⟨by rw [hv.len]; exact szOk_le hz, fun q hq => r1.newL hq hv (p.mono x1)⟩
      · cases h
end

/-! ### built-ins by values -/
def cBi (f : List D → Option (D × Bool)) (t : SA) : SE := fun s => (t s).bind fun p => (f p.1).map fun z => (z, p.2)
def BiOk (K : PySem.W.Frag) (f : List D → Option (D × Bool)) (r : List V → Hp → VK → Prop) : Prop := ∀ (ω : Wd) (F : Hp) (σ : L2.St) (H : Hp) (s : S) (xs : List D) (z : D) (b : Bool) (vs : List V) (Q : VK), Sr K ω F σ H s → RpL K ω.P F xs vs → f xs = some (z, b) → Post K ω F σ s z b Q → r vs H Q
theorem bi_use {K : PySem.W.Frag} {f : List D → Option (D × Bool)} {r : List V → Hp → VK → Prop} (h : BiOk K f r) {t : SA} {σ : L2.St} {H : Hp} {Q : VK} (hw : rd K (cBi f t) σ H Q) : tCB r (rdA K t) σ H Q := by
  obtain ⟨ω, F, s, d, b, s', sr, e, p⟩ := hw
  unfold cBi at e
  cases e1 : t s with
  | none => rw [e1] at e; cases e
  | some p1 =>
    obtain ⟨ds, s1⟩ := p1
    rw [e1] at e
    simp only [Option.bind_some] at e
    cases e3 : f ds with
    | none => rw [e3] at e; cases e
    | some p3 =>
      rw [e3] at e
      cases e
      exact rdA_use sr e1 fun vs F1 H1 x1 r1 hv => h ω F1 σ H1 _ ds d b vs Q r1 hv e3 (p.mono x1)
theorem RpL.one {K : PySem.W.Frag} {P : Option Addr} {F : Hp} {d : D} {vs : List V} (h : RpL K P F [d] vs) : ∃ v, vs = [v] ∧ Rp K P F d v := by
  unfold RpL at h
  obtain ⟨x, r, rfl, hx, hr⟩ := h
  unfold RpL at hr; subst hr
  exact ⟨x, rfl, hx⟩
theorem RpL.two {K : PySem.W.Frag} {P : Option Addr} {F : Hp} {d e : D} {vs : List V} (h : RpL K P F [d, e] vs) : ∃ v w, vs = [v, w] ∧ Rp K P F d v ∧ Rp K P F e w := by
  unfold RpL at h
  obtain ⟨x, r, rfl, hx, hr⟩ := h
  obtain ⟨y, rfl, hy⟩ := RpL.one hr
  exact ⟨x, y, rfl, hx, hy⟩
section
variable {X : Cx} {x : Str} {id T : String}
theorem p_bi {f : List D → Option (D × Bool)} {r : List V → Hp → VK → Prop} {e : Expr} {es : List Expr} {t : SA} {p pos : Pos} (hc : CallR X (.builtin id) r) (h : BiOk X.K f r) (hg : Gl X x) (hm : X.mg x = none) (hv : bootBuiltins x = some (.builtin id)) (ha : PA X (e :: es) (rdA X.K t)) (hn : x ≠ "__name__" := by decide) (hdb : (x == ("__debug__" : Str)) = false := by decide)
    (he : starEach (e :: es) X.env = (false, eval e X.env) :: starEach es X.env := by rfl) (hpl : (backTo pos (starEach es X.env)).any (·.1) = false := by rfl) :
    PE X (.Call (.Name x p) (e :: es) [] pos) (rd X.K (cBi f t)) := (pe_callB hc hg hm hv ha hn hdb he hpl).imp fun _ _ _ => bi_use h
theorem p_ty {f : List D → Option (D × Bool)} {r : List V → Hp → VK → Prop} {e : Expr} {es : List Expr} {t : SA} {p pos : Pos} (hc : CallR X (.type T) r) (h : BiOk X.K f r) (hg : Gl X x) (hm : X.mg x = none) (hv : bootBuiltins x = some (.type T)) (ha : PA X (e :: es) (rdA X.K t)) (hn : x ≠ "__name__" := by decide) (hdb : (x == ("__debug__" : Str)) = false := by decide)
    (he : starEach (e :: es) X.env = (false, eval e X.env) :: starEach es X.env := by rfl) (hpl : (backTo pos (starEach es X.env)).any (·.1) = false := by rfl) :
    PE X (.Call (.Name x p) (e :: es) [] pos) (rd X.K (cBi f t)) := (pe_callTy hc hg hm hv ha hn hdb he hpl).imp fun _ _ _ => bi_use h
end
/-! int, abs -/
def fInt : List D → Option (D × Bool)
  | [.int i] => some (.int i, false)
  | [.bl b] => some (.int (if b then 1 else 0), false)
  | _ => none
def fAbs : List D → Option (D × Bool)
  | [.int i] => some (.int (if i < 0 then -i else i), false)
  | _ => none
theorem ok_int {K : PySem.W.Frag} : BiOk K fInt (fun xs H Q => (∃ i, xs = [.int i] ∧ Q (.int i) H) ∨ ∃ k, xs = [.bl k] ∧ Q (.int (if k then 1 else 0)) H) := fun ω F σ H s xs z b vs Q sr hx e p => by
  unfold fInt at e
  split at e
  · cases e
    obtain ⟨v, rfl, hv⟩ := hx.one
    unfold Rp at hv; subst hv
    exact .inl ⟨_, rfl, sr.here (b := false) (by show Rp _ _ _ _ _; unfold Rp; rfl) p⟩
  · cases e
    obtain ⟨v, rfl, hv⟩ := hx.one
    unfold Rp at hv; subst hv
    exact .inr ⟨_, rfl, sr.here (b := false) (by show Rp _ _ _ _ _; unfold Rp; rfl) p⟩
  · cases e
theorem ok_abs {K : PySem.W.Frag} : BiOk K fAbs (fun xs H Q => ∃ i, xs = [.int i] ∧ Q (.int (if i < 0 then -i else i)) H) := fun ω F σ H s xs z b vs Q sr hx e p => by
  unfold fAbs at e
  split at e
  · cases e
    obtain ⟨v, rfl, hv⟩ := hx.one
    unfold Rp at hv; subst hv
    exact ⟨_, rfl, sr.here (b := false) (by show Rp _ _ _ _ _; unfold Rp; rfl) p⟩
  · cases e
/-! len, tuple, list -/
def fLen : List D → Option (D × Bool)
  | [.lst ds] => some (.int ds.length, false)
  | [.tup ds] => some (.int ds.length, false)
  | [.scr ns] => some (.int ns.length, false)
  | [.str x] => if szOk x.length then some (.int x.length, false) else none
  | _ => none
def rLenA (K : PySem.W.Frag) : List V → Hp → VK → Prop := fun xs H Q => (∃ p ys, xs = [.ref p] ∧ (SqL K H p ys ∨ SqT K H p ys) ∧ Q (.int ys.length) H) ∨ ∃ z, xs = [.str z] ∧ z.length ≤ sizeLine ∧ Q (.int z.length) H
theorem call_lenA {X : Cx} : CallR X (.builtin "len") (rLenA X.K) := call_len_seq.or call_len_str
theorem ok_len {K : PySem.W.Frag} : BiOk K fLen (rLenA K) := fun ω F σ H s xs z b vs Q sr hx e p => by
  unfold fLen at e
  split at e
  · cases e
    obtain ⟨v, rfl, hv⟩ := hx.one
    unfold Rp at hv
    obtain ⟨a, ys, rfl, h1, h2⟩ := hv
    exact .inl ⟨a, ys, rfl, .inl (SqL.of (sr.sub _ _ h1)), sr.here (b := false) (by show Rp _ _ _ _ _; unfold Rp; rw [h2.len]) p⟩
  · cases e
    obtain ⟨v, rfl, hv⟩ := hx.one
    unfold Rp at hv
    obtain ⟨a, ys, rfl, h1, h2⟩ := hv
    exact .inl ⟨a, ys, rfl, .inr (sqt_mono sr.sub h1), sr.here (b := false) (by show Rp _ _ _ _ _; unfold Rp; rw [h2.len]) p⟩
  · cases e
    obtain ⟨v, rfl, hv⟩ := hx.one
    unfold Rp at hv
    obtain ⟨a, rfl, h1⟩ := hv
    exact .inl ⟨a, _, rfl, .inl (sql_mono sr.sub h1), sr.here (b := false) (by show Rp _ _ _ _ _; unfold Rp; rw [List.length_map]) p⟩
  · split at e
    · rename_i hz
      cases e
      obtain ⟨v, rfl, hv⟩ := hx.one
      unfold Rp at hv; subst hv
      exact .inr ⟨_, rfl, szOk_le hz, sr.here (b := false) (by show Rp _ _ _ _ _; unfold Rp; rfl) p⟩
    · cases e
  · cases e
def fTuple : List D → Option (D × Bool)
  | [.lst ds] => some (.tup ds, false)
  | [.tup ds] => some (.tup ds, false)
  | _ => none
def rTupA (K : PySem.W.Frag) : List V → Hp → VK → Prop := fun xs H Q => ∃ p ys, xs = [.ref p] ∧ ((SqL K H p ys ∧ ∀ l, H l = none → Q (.ref l) (upd H l (.tup ys))) ∨ (SqT K H p ys ∧ Q (.ref p) H))
theorem call_tupA {X : Cx} : CallR X (.type "tuple") (rTupA X.K) := call_tuple_of
theorem ok_tuple {K : PySem.W.Frag} : BiOk K fTuple (rTupA K) := fun ω F σ H s xs z b vs Q sr hx e p => by
  unfold fTuple at e
  split at e
  · cases e
    obtain ⟨v, rfl, hv⟩ := hx.one
    unfold Rp at hv
    obtain ⟨a, ys, rfl, h1, h2⟩ := hv
    exact ⟨a, ys, rfl, .inl ⟨SqL.of (sr.sub _ _ h1), fun l hl => sr.newT hl h2 p⟩⟩
  · cases e
    obtain ⟨v, rfl, hv⟩ := hx.one
    unfold Rp at hv
    obtain ⟨a, ys, rfl, h1, h2⟩ := hv
    exact ⟨a, ys, rfl, .inr ⟨sqt_mono sr.sub h1, sr.here (b := false) (by show Rp _ _ _ _ _; unfold Rp; exact ⟨a, ys, rfl, h1, h2⟩) p⟩⟩
  · cases e
def fList : List D → Option (D × Bool)
  | [.lst ds] => some (.lst ds, true)
  | [.tup ds] => some (.lst ds, true)
  | _ => none
def rListA (K : PySem.W.Frag) : List V → Hp → VK → Prop := fun xs H Q => ∃ p ys, xs = [.ref p] ∧ (SqL K H p ys ∨ SqT K H p ys) ∧ ∀ l, H l = none → Q (.ref l) (upd H l (.lst ys))
theorem call_listA {X : Cx} : CallR X (.type "list") (rListA X.K) := call_list_of
theorem ok_list {K : PySem.W.Frag} : BiOk K fList (rListA K) := fun ω F σ H s xs z b vs Q sr hx e p => by
  unfold fList at e
  split at e
  · cases e
    obtain ⟨v, rfl, hv⟩ := hx.one
    unfold Rp at hv
    obtain ⟨a, ys, rfl, h1, h2⟩ := hv
    exact ⟨a, ys, rfl, .inl (SqL.of (sr.sub _ _ h1)), fun l hl => sr.newL hl h2 p⟩
  · cases e
    obtain ⟨v, rfl, hv⟩ := hx.one
    unfold Rp at hv
    obtain ⟨a, ys, rfl, h1, h2⟩ := hv
    exact ⟨a, ys, rfl, .inr (sqt_mono sr.sub h1), fun l hl => sr.newL hl h2 p⟩
  · cases e
/-! what a list of ints, of bools is -/
def intsOf : List D → Option (List Int)
  | [] => some []
  | .int i :: ds => (intsOf ds).map (i :: ·)
  | _ => none
theorem intsOf_map : ∀ ns : List Int, intsOf (ns.map D.int) = some ns
  | [] => rfl
  | n :: ns => by rw [List.map_cons, intsOf, intsOf_map ns]; rfl
theorem intsOf_eq : ∀ {ds : List D} {ns : List Int}, intsOf ds = some ns → ds = ns.map D.int
  | [], ns, h => by cases h; rfl
  | .int i :: ds, ns, h => by
    rw [intsOf] at h
    cases q : intsOf ds with
    | none => rw [q] at h; cases h
    | some r => rw [q] at h; cases h; rw [intsOf_eq q]; rfl
  | .non :: _, _, h => by cases h
  | .bl _ :: _, _, h => by cases h
  | .str _ :: _, _, h => by cases h
  | .tup _ :: _, _, h => by cases h
  | .lst _ :: _, _, h => by cases h
  | .dic _ :: _, _, h => by cases h
  | .pot :: _, _, h => by cases h
  | .scr _ :: _, _, h => by cases h
def blsOf : List D → Option (List Bool)
  | [] => some []
  | .bl i :: ds => (blsOf ds).map (i :: ·)
  | _ => none
theorem blsOf_map : ∀ ns : List Bool, blsOf (ns.map D.bl) = some ns
  | [] => rfl
  | n :: ns => by rw [List.map_cons, blsOf, blsOf_map ns]; rfl
theorem blsOf_eq : ∀ {ds : List D} {ns : List Bool}, blsOf ds = some ns → ds = ns.map D.bl
  | [], ns, h => by cases h; rfl
  | .bl i :: ds, ns, h => by
    rw [blsOf] at h
    cases q : blsOf ds with
    | none => rw [q] at h; cases h
    | some r => rw [q] at h; cases h; rw [blsOf_eq q]; rfl
  | .non :: _, _, h => by cases h
  | .int _ :: _, _, h => by cases h
  | .str _ :: _, _, h => by cases h
  | .tup _ :: _, _, h => by cases h
  | .lst _ :: _, _, h => by cases h
  | .dic _ :: _, _, h => by cases h
  | .pot :: _, _, h => by cases h
  | .scr _ :: _, _, h => by cases h
theorem RpL.bls {K : PySem.W.Frag} {P : Option Addr} {F : Hp} : ∀ {ns : List Bool} {xs : List V}, RpL K P F (ns.map D.bl) xs → xs = ns.map V.bl
  | [], xs, h => by simpa [RpL] using h
  | n :: ns, xs, h => by
    rw [List.map_cons] at h
    unfold RpL at h
    obtain ⟨x, r, rfl, hx, hr⟩ := h
    unfold Rp at hx
    rw [hx, RpL.bls hr]; rfl
/-! all, any of a list of bools -/
def fAll : List D → Option (D × Bool)
  | [.lst ds] => (blsOf ds).map fun bs => (.bl (bs.all id), false)
  | _ => none
def fAny : List D → Option (D × Bool)
  | [.lst ds] => (blsOf ds).map fun bs => (.bl (bs.any id), false)
  | _ => none
theorem ok_all {K : PySem.W.Frag} : BiOk K fAll (rAll K) := fun ω F σ H s xs z b vs Q sr hx e p => by
  unfold fAll at e
  split at e
  · rename_i ds
    cases q : blsOf ds with
    | none => rw [q] at e; cases e
    | some bs =>
      rw [q] at e; cases e
      obtain ⟨v, rfl, hv⟩ := hx.one
      rw [blsOf_eq q] at hv
      unfold Rp at hv
      obtain ⟨a, ys, rfl, h1, h2⟩ := hv
      rw [h2.bls] at h1
      exact ⟨a, bs, rfl, SqL.of (sr.sub _ _ h1), sr.here (b := false) (by show Rp _ _ _ _ _; unfold Rp; rfl) p⟩
  · cases e
theorem ok_any {K : PySem.W.Frag} : BiOk K fAny (rAny K) := fun ω F σ H s xs z b vs Q sr hx e p => by
  unfold fAny at e
  split at e
  · rename_i ds
    cases q : blsOf ds with
    | none => rw [q] at e; cases e
    | some bs =>
      rw [q] at e; cases e
      obtain ⟨v, rfl, hv⟩ := hx.one
      rw [blsOf_eq q] at hv
      unfold Rp at hv
      obtain ⟨a, ys, rfl, h1, h2⟩ := hv
      rw [h2.bls] at h1
      exact ⟨a, bs, rfl, SqL.of (sr.sub _ _ h1), sr.here (b := false) (by show Rp _ _ _ _ _; unfold Rp; rfl) p⟩
  · cases e
/-! sum, max, min of ints: of a list, of a tuple; of two -/
section
variable {prog : Program} {w : World} {A : Around} {E : Value → Shared → Prop} {s : Shared} {l : Addr} {its : List Value} {ns : List Int} {Q : Value → Shared → Prop}
theorem iter_tupX {items : Array Value} {Q : Value → Shared → Prop} (hl : s.heap.IsTuple l items)
    (h : ∀ s₂ : Shared, s₂ = { s with heap := s.heap.push { cls := .type "tuple_iterator", data := .fields #[.ref l, .int 0 0] } } →
      (s₂.heap.IsTupleIter s.heap.objs.size l 0 ∧ s₂.heap.IsTuple l items) → (∀ b ∈ [s.heap.objs.size, l], b < s₂.heap.objs.size) → l ≠ s.heap.objs.size → Q (.ref s.heap.objs.size) s₂) :
    wpAny (model prog w) A (pyIter (.ref l)) Q E s := by
  have below : l < s.heap.objs.size := by obtain ⟨_, e, _⟩ := hl; exact Heap.lt_size e
  refine wpAny_pyIter_tuple hl (h _ rfl ⟨⟨_, Heap.get?_push_size _ rfl, rfl, rfl⟩, hl.push _⟩ (fun b hb => ?_) (Nat.ne_of_lt below))
  rw [Heap.size_push]
  simp only [List.mem_cons, List.not_mem_nil, or_false] at hb
  rcases hb with rfl | rfl
  · exact Nat.lt_succ_self _
  · exact Nat.lt_succ_of_lt below
theorem old_keptT {h' : Heap} (hk : ∀ b o, b ∉ [s.heap.objs.size] → (s.heap.push { cls := .type "tuple_iterator", data := .fields #[.ref l, .int 0 0] }).get? b = some o → h'.get? b = some o) :
    ∀ b o, s.heap.get? b = some o → h'.get? b = some o := fun b o e => by
  refine hk b o (fun hm => ?_) (Heap.get?_push_of_some _ e)
  simp only [List.mem_cons, List.not_mem_nil, or_false] at hm
  exact absurd (hm ▸ Heap.lt_size e) (Nat.lt_irrefl _)
theorem sum_tupX (hh : A.handled = none) (hl : s.heap.IsTuple l its.toArray) (hi : IntsAre its ns)
    (h : ∀ h' tk t', (∀ b o, s.heap.get? b = some o → h'.get? b = some o) → Q (.int ns.sum t') { s with heap := h', toks := tk }) : wpAny (model prog w) A (call (.builtin "sum") [.ref l]) Q E s := by
  obtain ⟨xs, e⟩ := hi.allInts.items
  have hn : numsOf (intItems xs).toList = ns := by rw [← e]; exact hi.numsOf
  rw [nums_intItems] at hn
  rw [e] at hl
  refine call_sum_walkG (iter_tupX hl fun s₂ e st hfp hlI => ?_)
  subst e
  refine ⟨_, _, _, _, _, _, numAt xs, rfl, Walks.tuple (A := A.in1) hh _ l hlI (intItems xs), st, hfp, (fun _ _ => intItems_at), fun h' tk t' hk => ?_⟩
  have q := h h' tk t' (old_keptT hk)
  have z : preSum (numAt xs) (intItems xs).size = ns.sum := by
    rw [preSum_eq, List.take_of_length_le (by simp [intItems]), hn]
  rw [z]; exact q
theorem max_tupX (hh : A.handled = none) (hl : s.heap.IsTuple l its.toArray) (hi : IntsAre its ns) (hne : 0 < ns.length)
    (h : ∀ h' tk M t', (∀ b o, s.heap.get? b = some o → h'.get? b = some o) → M ∈ ns → (∀ a, a ∈ ns → a ≤ M) → Q (.int M t') { s with heap := h', toks := tk }) : wpAny (model prog w) A (call (.builtin "max") [.ref l]) Q E s := by
  obtain ⟨xs, e⟩ := hi.allInts.items
  have hn : numsOf (intItems xs).toList = ns := by rw [← e]; exact hi.numsOf
  rw [nums_intItems] at hn
  subst hn
  rw [e] at hl
  have hsz : 0 < xs.size := by simpa using hne
  refine call_max_walk (iter_tupX hl fun s₂ e st hfp hlI => ?_)
  subst e
  refine ⟨_, _, _, _, _, _, _, rfl, Walks.tuple (A := A.in1) hh _ l hlI (intItems xs), st, hfp, by simpa [intItems] using hne, CmpOf.ints_gt (numAt xs) (fun _ _ => intItems_at), fun v h' tk hv hk => ?_⟩
  obtain ⟨t, rfl⟩ := intItems_at hv
  have hzz : (intItems xs).size = xs.size := by simp [intItems]
  rw [hzz]
  obtain ⟨h1, h2⟩ := argBest_gt (numAt xs) (xs.size - 1)
  refine h h' tk _ t (old_keptT hk) ?_ fun a ha => ?_
  · rw [numAt_eq]; exact PySem.getD_mem (by rw [List.length_map, Array.length_toList]; omega)
  · obtain ⟨j, hj, rfl⟩ := mem_getD ha
    rw [List.length_map, Array.length_toList] at hj
    rw [← numAt_eq]; exact h2 j (by omega)
theorem min_tupX (hh : A.handled = none) (hl : s.heap.IsTuple l its.toArray) (hi : IntsAre its ns) (hne : 0 < ns.length)
    (h : ∀ h' tk M t', (∀ b o, s.heap.get? b = some o → h'.get? b = some o) → M ∈ ns → (∀ a, a ∈ ns → M ≤ a) → Q (.int M t') { s with heap := h', toks := tk }) : wpAny (model prog w) A (call (.builtin "min") [.ref l]) Q E s := by
  obtain ⟨xs, e⟩ := hi.allInts.items
  have hn : numsOf (intItems xs).toList = ns := by rw [← e]; exact hi.numsOf
  rw [nums_intItems] at hn
  subst hn
  rw [e] at hl
  have hsz : 0 < xs.size := by simpa using hne
  refine call_min_walk (iter_tupX hl fun s₂ e st hfp hlI => ?_)
  subst e
  refine ⟨_, _, _, _, _, _, _, rfl, Walks.tuple (A := A.in1) hh _ l hlI (intItems xs), st, hfp, by simpa [intItems] using hne, CmpOf.ints_lt (numAt xs) (fun _ _ => intItems_at), fun v h' tk hv hk => ?_⟩
  obtain ⟨t, rfl⟩ := intItems_at hv
  have hzz : (intItems xs).size = xs.size := by simp [intItems]
  rw [hzz]
  obtain ⟨h1, h2⟩ := argBest_lt (numAt xs) (xs.size - 1)
  refine h h' tk _ t (old_keptT hk) ?_ fun a ha => ?_
  · rw [numAt_eq]; exact PySem.getD_mem (by rw [List.length_map, Array.length_toList]; omega)
  · obtain ⟨j, hj, rfl⟩ := mem_getD ha
    rw [List.length_map, Array.length_toList] at hj
    rw [← numAt_eq]; exact h2 j (by omega)
end
def rSumT (K : PySem.W.Frag) : List V → Hp → VK → Prop := fun vs H Q => ∃ (a : Addr) (ns : List Int), vs = [V.ref a] ∧ SqT K H a (ns.map V.int) ∧ Q (.int ns.sum) H
def rMaxT (K : PySem.W.Frag) : List V → Hp → VK → Prop := fun vs H Q => ∃ (a : Addr) (ns : List Int), vs = [V.ref a] ∧ SqT K H a (ns.map V.int) ∧ 0 < ns.length ∧ ∀ m, m ∈ ns → (∀ y, y ∈ ns → y ≤ m) → Q (.int m) H
def rMinT (K : PySem.W.Frag) : List V → Hp → VK → Prop := fun vs H Q => ∃ (a : Addr) (ns : List Int), vs = [V.ref a] ∧ SqT K H a (ns.map V.int) ∧ 0 < ns.length ∧ ∀ m, m ∈ ns → (∀ y, y ∈ ns → m ≤ y) → Q (.int m) H
theorem cr_sumT {X : Cx} (hc : X.calm = true) : CallR X (.builtin "sum") (rSumT X.K) := by
  intro pins s σ H vs us Q I r h
  obtain ⟨a, ns, rfl, hs, q⟩ := h
  obtain ⟨its, rv, hl, _⟩ := I.tuple hs
  rw [Vals.ref1 r]
  exact sum_tupX (I.ok.hd hc) hl rv.ints fun h' tk t' hk => ⟨.int _, H, I.kept hk, ⟨_, rfl⟩, q⟩
theorem cr_maxT {X : Cx} (hc : X.calm = true) : CallR X (.builtin "max") (rMaxT X.K) := by
  intro pins s σ H vs us Q I r h
  obtain ⟨a, ns, rfl, hs, hne, q⟩ := h
  obtain ⟨its, rv, hl, _⟩ := I.tuple hs
  rw [Vals.ref1 r]
  exact max_tupX (I.ok.hd hc) hl rv.ints hne fun h' tk m t' hk h1 h2 => ⟨.int _, H, I.kept hk, ⟨_, rfl⟩, q m h1 h2⟩
theorem cr_minT {X : Cx} (hc : X.calm = true) : CallR X (.builtin "min") (rMinT X.K) := by
  intro pins s σ H vs us Q I r h
  obtain ⟨a, ns, rfl, hs, hne, q⟩ := h
  obtain ⟨its, rv, hl, _⟩ := I.tuple hs
  rw [Vals.ref1 r]
  exact min_tupX (I.ok.hd hc) hl rv.ints hne fun h' tk m t' hk h1 h2 => ⟨.int _, H, I.kept hk, ⟨_, rfl⟩, q m h1 h2⟩
/-- the greatest, the least of some -/
def maxL : List Int → Int
  | [] => 0
  | n :: ns => ns.foldl max n
def minL : List Int → Int
  | [] => 0
  | n :: ns => ns.foldl min n
theorem foldl_max_le : ∀ (ns : List Int) (n : Int), n ≤ ns.foldl max n ∧ (∀ y ∈ ns, y ≤ ns.foldl max n) ∧ (ns.foldl max n = n ∨ ns.foldl max n ∈ ns)
  | [], n => ⟨Int.le_refl _, fun y h => by simp at h, .inl rfl⟩
  | m :: ns, n => by
    obtain ⟨h1, h2, h3⟩ := foldl_max_le ns (max n m)
    rw [List.foldl_cons]
    refine ⟨by omega, fun y hy => ?_, ?_⟩
    · rcases List.mem_cons.mp hy with rfl | hy
      · omega
      · exact h2 y hy
    · rcases h3 with h3 | h3
      · by_cases q : n ≤ m
        · right; rw [h3]; rw [show max n m = m by omega]; exact List.mem_cons_self
        · left; rw [h3]; omega
      · exact .inr (List.mem_cons_of_mem _ h3)
theorem foldl_min_le : ∀ (ns : List Int) (n : Int), ns.foldl min n ≤ n ∧ (∀ y ∈ ns, ns.foldl min n ≤ y) ∧ (ns.foldl min n = n ∨ ns.foldl min n ∈ ns)
  | [], n => ⟨Int.le_refl _, fun y h => by simp at h, .inl rfl⟩
  | m :: ns, n => by
    obtain ⟨h1, h2, h3⟩ := foldl_min_le ns (min n m)
    rw [List.foldl_cons]
    refine ⟨by omega, fun y hy => ?_, ?_⟩
    · rcases List.mem_cons.mp hy with rfl | hy
      · omega
      · exact h2 y hy
    · rcases h3 with h3 | h3
      · by_cases q : m ≤ n
        · right; rw [h3]; rw [show min n m = m by omega]; exact List.mem_cons_self
        · left; rw [h3]; omega
      · exact .inr (List.mem_cons_of_mem _ h3)
theorem maxL_mem {ns : List Int} (h : 0 < ns.length) : maxL ns ∈ ns := by
  cases ns with
  | nil => simp at h
  | cons n ns =>
    rcases (foldl_max_le ns n).2.2 with q | q
    · show ns.foldl max n ∈ _; rw [q]; exact List.mem_cons_self
    · exact List.mem_cons_of_mem _ q
theorem le_maxL {ns : List Int} {y : Int} (h : y ∈ ns) : y ≤ maxL ns := by
  cases ns with
  | nil => simp at h
  | cons n ns =>
    rcases List.mem_cons.mp h with rfl | h
    · exact (foldl_max_le ns _).1
    · exact (foldl_max_le ns n).2.1 y h
theorem minL_mem {ns : List Int} (h : 0 < ns.length) : minL ns ∈ ns := by
  cases ns with
  | nil => simp at h
  | cons n ns =>
    rcases (foldl_min_le ns n).2.2 with q | q
    · show ns.foldl min n ∈ _; rw [q]; exact List.mem_cons_self
    · exact List.mem_cons_of_mem _ q
theorem minL_le {ns : List Int} {y : Int} (h : y ∈ ns) : minL ns ≤ y := by
  cases ns with
  | nil => simp at h
  | cons n ns =>
    rcases List.mem_cons.mp h with rfl | h
    · exact (foldl_min_le ns _).1
    · exact (foldl_min_le ns n).2.1 y h
def fSum : List D → Option (D × Bool)
  | [.lst ds] => (intsOf ds).map fun ns => (.int ns.sum, false)
  | [.tup ds] => (intsOf ds).map fun ns => (.int ns.sum, false)
  | _ => none
def ofMost (g : List Int → Int) : List D → Option (D × Bool)
  | [] => none
  | d :: ds => (intsOf (d :: ds)).map fun ns => (.int (g ns), false)
def fMax : List D → Option (D × Bool)
  | [.lst ds] => ofMost maxL ds
  | [.tup ds] => ofMost maxL ds
  | [.int i, .int j] => some (.int (if j > i then j else i), false)
  | _ => none
def fMin : List D → Option (D × Bool)
  | [.lst ds] => ofMost minL ds
  | [.tup ds] => ofMost minL ds
  | [.int i, .int j] => some (.int (if j < i then j else i), false)
  | _ => none
theorem ofMost_is {g : List Int → Int} {ds : List D} {z : D} {b : Bool} (h : ofMost g ds = some (z, b)) : ∃ ns : List Int, ds = ns.map D.int ∧ 0 < ns.length ∧ z = .int (g ns) ∧ b = false := by
  cases ds with
  | nil => cases h
  | cons d ds =>
    unfold ofMost at h
    dsimp only at h
    cases q : intsOf (d :: ds) with
    | none => rw [q] at h; cases h
    | some ns =>
      rw [q] at h; cases h
      have e := intsOf_eq q
      refine ⟨ns, e, ?_, rfl, rfl⟩
      have := congrArg List.length e
      simp at this; omega
def rSumA (K : PySem.W.Frag) : List V → Hp → VK → Prop := fun xs H Q => rSum K xs H Q ∨ rSumT K xs H Q
def rMaxA (K : PySem.W.Frag) : List V → Hp → VK → Prop := fun xs H Q => (∃ i j, xs = [.int i, .int j] ∧ Q (.int (if j > i then j else i)) H) ∨ rMax K xs H Q ∨ rMaxT K xs H Q
def rMinA (K : PySem.W.Frag) : List V → Hp → VK → Prop := fun xs H Q => (∃ i j, xs = [.int i, .int j] ∧ Q (.int (if j < i then j else i)) H) ∨ rMin K xs H Q ∨ rMinT K xs H Q
theorem call_sumA {X : Cx} (hc : X.calm = true) : CallR X (.builtin "sum") (rSumA X.K) := (cr_sum hc).or (cr_sumT hc)
theorem call_maxA {X : Cx} (hc : X.calm = true) : CallR X (.builtin "max") (rMaxA X.K) := (call_max2 hc).or ((cr_max hc).or (cr_maxT hc))
theorem call_minA {X : Cx} (hc : X.calm = true) : CallR X (.builtin "min") (rMinA X.K) := (call_min2 hc).or ((cr_min hc).or (cr_minT hc))
theorem ok_sum {K : PySem.W.Frag} : BiOk K fSum (rSumA K) := fun ω F σ H s xs z b vs Q sr hx e p => by
  unfold fSum at e
  split at e
  · rename_i ds
    cases q : intsOf ds with
    | none => rw [q] at e; cases e
    | some ns =>
      rw [q] at e; cases e
      obtain ⟨v, rfl, hv⟩ := hx.one
      rw [intsOf_eq q] at hv
      unfold Rp at hv
      obtain ⟨a, ys, rfl, h1, h2⟩ := hv
      rw [h2.ints] at h1
      exact .inl ⟨a, ns, rfl, SqL.of (sr.sub _ _ h1), sr.here (b := false) (by show Rp _ _ _ _ _; unfold Rp; rfl) p⟩
  · rename_i ds
    cases q : intsOf ds with
    | none => rw [q] at e; cases e
    | some ns =>
      rw [q] at e; cases e
      obtain ⟨v, rfl, hv⟩ := hx.one
      rw [intsOf_eq q] at hv
      unfold Rp at hv
      obtain ⟨a, ys, rfl, h1, h2⟩ := hv
      rw [h2.ints] at h1
      exact .inr ⟨a, ns, rfl, sqt_mono sr.sub h1, sr.here (b := false) (by show Rp _ _ _ _ _; unfold Rp; rfl) p⟩
  · cases e
theorem ok_max {K : PySem.W.Frag} : BiOk K fMax (rMaxA K) := fun ω F σ H s xs z b vs Q sr hx e p => by
  unfold fMax at e
  split at e
  · obtain ⟨ns, rfl, hn, rfl, rfl⟩ := ofMost_is e
    obtain ⟨v, rfl, hv⟩ := hx.one
    unfold Rp at hv
    obtain ⟨a, ys, rfl, h1, h2⟩ := hv
    rw [h2.ints] at h1
    refine .inr (.inl ⟨a, ns, rfl, SqL.of (sr.sub _ _ h1), hn, fun m hm hle => ?_⟩)
    have : m = maxL ns := Int.le_antisymm (le_maxL hm) (hle _ (maxL_mem hn))
    subst this
    exact sr.here (b := false) (by show Rp _ _ _ _ _; unfold Rp; rfl) p
  · obtain ⟨ns, rfl, hn, rfl, rfl⟩ := ofMost_is e
    obtain ⟨v, rfl, hv⟩ := hx.one
    unfold Rp at hv
    obtain ⟨a, ys, rfl, h1, h2⟩ := hv
    rw [h2.ints] at h1
    refine .inr (.inr ⟨a, ns, rfl, sqt_mono sr.sub h1, hn, fun m hm hle => ?_⟩)
    have : m = maxL ns := Int.le_antisymm (le_maxL hm) (hle _ (maxL_mem hn))
    subst this
    exact sr.here (b := false) (by show Rp _ _ _ _ _; unfold Rp; rfl) p
  · cases e
    obtain ⟨v, u, rfl, hv, hu⟩ := hx.two
    unfold Rp at hv hu; subst hv hu
    exact .inl ⟨_, _, rfl, sr.here (b := false) (by show Rp _ _ _ _ _; unfold Rp; rfl) p⟩
  · cases e
theorem ok_min {K : PySem.W.Frag} : BiOk K fMin (rMinA K) := fun ω F σ H s xs z b vs Q sr hx e p => by
  unfold fMin at e
  split at e
  · obtain ⟨ns, rfl, hn, rfl, rfl⟩ := ofMost_is e
    obtain ⟨v, rfl, hv⟩ := hx.one
    unfold Rp at hv
    obtain ⟨a, ys, rfl, h1, h2⟩ := hv
    rw [h2.ints] at h1
    refine .inr (.inl ⟨a, ns, rfl, SqL.of (sr.sub _ _ h1), hn, fun m hm hle => ?_⟩)
    have : m = minL ns := Int.le_antisymm (hle _ (minL_mem hn)) (minL_le hm)
    subst this
    exact sr.here (b := false) (by show Rp _ _ _ _ _; unfold Rp; rfl) p
  · obtain ⟨ns, rfl, hn, rfl, rfl⟩ := ofMost_is e
    obtain ⟨v, rfl, hv⟩ := hx.one
    unfold Rp at hv
    obtain ⟨a, ys, rfl, h1, h2⟩ := hv
    rw [h2.ints] at h1
    refine .inr (.inr ⟨a, ns, rfl, sqt_mono sr.sub h1, hn, fun m hm hle => ?_⟩)
    have : m = minL ns := Int.le_antisymm (hle _ (minL_mem hn)) (minL_le hm)
    subst this
    exact sr.here (b := false) (by show Rp _ _ _ _ _; unfold Rp; rfl) p
  · cases e
    obtain ⟨v, u, rfl, hv, hu⟩ := hx.two
    unfold Rp at hv hu; subst hv hu
    exact .inl ⟨_, _, rfl, sr.here (b := false) (by show Rp _ _ _ _ _; unfold Rp; rfl) p⟩
  · cases e
/-! sorted, of ints -/
section
variable {prog : Program} {w : World} {A : Around} {E : Value → Shared → Prop} {s : Shared} {l : Addr} {vs : List Value}
theorem collect_tup {Q : List Value → Shared → Prop} (hl : IsTup s.heap l vs.toArray)
    (h : Q vs { s with heap := (s.heap.push (seqObj "list" #[] 0)).update s.heap.objs.size (Obj.mapSeq (· ++ vs.toArray)) }) (hsz : vs.length ≤ sizeLine) :
    wpAny (model prog w) A (collect (.ref l)) Q E s := by
  obtain ⟨o, ho, hc, n, hd⟩ := id hl
  unfold collect
  refine wpAny_bind (wpAny_runValue (codeAny_builtin entry_proto_collect' ?_))
  show wpAny _ _ (do again (.builtin "list.__iadd__" ⟨[← newList [], .ref l], []⟩)) _ _ s
  refine wpAny_bind (wpAny_newList (wpAny_pure ⟨Code.quiet_builtin _ (by decide +kernel), codeAny_builtin entry_list_iadd' ?_⟩))
  show wpAny _ _ (Builtin.List.listExtendWith (.ref s.heap.objs.size) (.ref l) (.ref s.heap.objs.size)) _ _ { s with heap := s.heap.push (seqObj "list" #[] 0) }
  unfold Builtin.List.listExtendWith
  have ho' : (s.heap.push (seqObj "list" #[] 0)).get? l = some o := Heap.get?_push_of_some _ ho
  refine wpAny_bind (wpAny_typeOf (T := "tuple") ⟨o, ho', hc⟩ ?_)
  have same : (Value.type "tuple" == Value.type "tuple") = true := by rfl
  rw [if_pos (by rw [same]; simp)]
  refine wpAny_bind (listItems_at ho' hd ?_)
  refine wpAny_bind (listItems_at (xs := #[]) (n := 0) (Heap.get?_push_size _ rfl) rfl ?_)
  rw [if_neg (by simp)]
  refine wpAny_bind (listUpdate_at (xs := #[]) (n := 0) (Heap.get?_push_size _ rfl) rfl ?_ (Nat.zero_le _) (by show (#[] ++ vs.toArray).size ≤ sizeLine + 1; simp only [Array.size_append, List.size_toArray, List.length_nil]; omega))
  refine wpAny_pure ?_
  show wpAny (model prog w) A (do
      let o ← load s.heap.objs.size
      match o.data with
      | .seq xs _ => pure xs.toList
      | _ => unsupported "internal:collect") Q E { s with heap := (s.heap.push (seqObj "list" #[] 0)).update s.heap.objs.size (Obj.mapSeq (· ++ vs.toArray)) }
  refine wpAny_bind (wpAny_load (get?_update_seq (Heap.get?_push_size _ rfl) _) ?_)
  show wpAny _ _ (pure ((#[] : Array Value) ++ vs.toArray).toList) Q E _
  rw [show ((#[] : Array Value) ++ vs.toArray).toList = vs by simp]
  exact wpAny_pure h
theorem sorted_ordT {ltv : Value → Value → Bool} {Q : Value → Shared → Prop} (O : SrtO.Swo ltv) (hl : IsTup s.heap l vs.toArray) (hz : vs.length ≤ sizeLine)
    (hS : 2 ≤ vs.length → ∀ (h₁ : Heap) (a : Addr), h₁.get? a = some (seqObj "list" vs.toArray 0) → (∀ b o, s.heap.get? b = some o → b ≠ a ∧ h₁.get? b = some o) → SrtO.SortableO prog w A.in1.in1 { s with heap := h₁ } a vs ltv)
    (h : ∀ out : List Value, SrtO.Srtd ltv out → SrtO.Stb ltv out vs → Q (.ref (s.heap.objs.size + 1)) { s with heap := sortedAll s.heap vs out.toArray }) :
    wpAny (model prog w) A (call (.builtin "sorted") [.ref l]) Q E s := by
  refine Calls.call_function_entry kind_sorted plain_sorted entry_sorted (args_sorted1 _) ?_
  unfold Builtin.«sorted»
  refine wpAny_bind (m := checkCount "sorted" 1 1 _) (wpAny_pure ?_)
  refine wpAny_bind (collect_tup hl ?_ hz)
  refine wpAny_bind (wpAny_newList ?_ hz)
  have hsz : ((s.heap.push (seqObj "list" #[] 0)).update s.heap.objs.size (Obj.mapSeq (· ++ vs.toArray))).objs.size = s.heap.objs.size + 1 := by
    rw [Heap.size_update, size_push']
  have hoL : (((s.heap.push (seqObj "list" #[] 0)).update s.heap.objs.size (Obj.mapSeq (· ++ vs.toArray))).push (seqObj "list" vs.toArray 0)).get? (s.heap.objs.size + 1) = some (seqObj "list" vs.toArray 0) := by
    rw [← hsz]; exact Heap.get?_push_size _ rfl
  have keep : ∀ b o, s.heap.get? b = some o → b ≠ s.heap.objs.size + 1 ∧ (((s.heap.push (seqObj "list" #[] 0)).update s.heap.objs.size (Obj.mapSeq (· ++ vs.toArray))).push (seqObj "list" vs.toArray 0)).get? b = some o := fun b o q => by
    have hlt : b < s.heap.objs.size := Heap.lt_size q
    refine ⟨Nat.ne_of_lt (Nat.lt_succ_of_lt hlt), Heap.get?_push_of_some _ ?_⟩
    rw [Heap.get?_update_ne _ _ _ _ (Nat.ne_of_lt hlt)]
    exact Heap.get?_push_of_some _ q
  show wpAny _ _ _ _ _ { s with heap := ((s.heap.push (seqObj "list" #[] 0)).update s.heap.objs.size (Obj.mapSeq (· ++ vs.toArray))).push (seqObj "list" vs.toArray 0) }
  rw [hsz]
  refine wpAny_bind (wpAny_holding (wpAny_call_entry slot_list_sort ⟨_, hoL, rfl⟩ entry_list_sort (SrtO.list_sort_ord O hoL hz (fun h2 => hS h2 _ _ hoL keep) fun out hs hb => ⟨_, rfl, ?_⟩) (args_list_sort _)))
  exact wpAny_pure ⟨_, rfl, h out hs hb⟩
end
def rSortedT (K : PySem.W.Frag) : List V → Hp → VK → Prop := fun vs H Q => ∃ (a : Addr) (ns : List Int), vs = [V.ref a] ∧ SqT K H a (ns.map V.int) ∧
  ∀ (ns' : List Int) (p : Addr), ns'.Perm ns → ns'.Pairwise (· ≤ ·) → H p = none → Q (.ref p) (upd H p (.lst (ns'.map V.int)))
theorem cr_sortedT {X : Cx} : CallR X (.builtin "sorted") (rSortedT X.K) := by
  intro pins s σ H vs us Q I r h
  obtain ⟨a, ns, rfl, hs, q⟩ := h
  obtain ⟨its, rv, hl, hz⟩ := I.tuple hs
  rw [Vals.ref1 r]
  have hi := rv.ints
  refine sorted_ordT SrtO.swo_int hl (by rw [← rv.length]; exact hz) (fun h2 h₁ a' _ _ => SrtO.ints_sortable hi h2) fun out h1 h2 => ?_
  obtain ⟨k1, k2, k3⟩ := SrtO.ints_out hi h1 h2
  obtain ⟨ep, he'⟩ := PyProof.Rows.sortedAll_at s.heap its out.toArray
  have hlen : ((out.map SrtO.iv).map V.int).length ≤ sizeLine := by
    rw [List.length_map, k2.length_eq]
    rw [List.length_map] at hz
    exact hz
  exact ⟨.ref _, upd H (s.heap.objs.size + 1) (.lst ((out.map SrtO.iv).map V.int)), I.laid (t' := s.toks) (fun _ _ => PyProof.Rows.sortedAll_old) (Nat.le_succ _) ⟨hlen, out, ep, vals_of_ints k1, he'⟩, rfl, q _ _ k2 k3 (I.hok.fresh (Nat.le_succ _))⟩
def srt (ns : List Int) : List Int := ns.mergeSort (fun a b => decide (a ≤ b))
theorem srt_perm (ns : List Int) : (srt ns).Perm ns := List.mergeSort_perm _ _
theorem srt_sorted (ns : List Int) : (srt ns).Pairwise (· ≤ ·) := by
  have := List.pairwise_mergeSort (le := fun a b : Int => decide (a ≤ b)) (fun a b c h1 h2 => by simp only [decide_eq_true_eq] at *; omega) (fun a b => by simp only [Bool.or_eq_true, decide_eq_true_eq]; omega) ns
  exact this.imp fun h => of_decide_eq_true h
theorem srt_uniq {ns ms : List Int} (h : ms.Perm ns) (hs : ms.Pairwise (· ≤ ·)) : ms = srt ns :=
  List.Perm.eq_of_pairwise (le := fun a b : Int => a ≤ b) (fun a b _ _ h1 h2 => Int.le_antisymm h1 h2) hs (srt_sorted ns) (h.trans (srt_perm ns).symm)
def fSorted : List D → Option (D × Bool)
  | [.lst ds] => (intsOf ds).map fun ns => (.lst ((srt ns).map D.int), true)
  | [.tup ds] => (intsOf ds).map fun ns => (.lst ((srt ns).map D.int), true)
  | _ => none
def rSortedA (K : PySem.W.Frag) : List V → Hp → VK → Prop := fun xs H Q => rSortedI K xs H Q ∨ rSortedT K xs H Q
theorem call_sortedA {X : Cx} : CallR X (.builtin "sorted") (rSortedA X.K) := cr_sortedI.or cr_sortedT
theorem ok_sorted {K : PySem.W.Frag} : BiOk K fSorted (rSortedA K) := fun ω F σ H s xs z b vs Q sr hx e p => by
  unfold fSorted at e
  split at e
  · rename_i ds
    cases q : intsOf ds with
    | none => rw [q] at e; cases e
    | some ns =>
      rw [q] at e; cases e
      obtain ⟨v, rfl, hv⟩ := hx.one
      rw [intsOf_eq q] at hv
      unfold Rp at hv
      obtain ⟨a, ys, rfl, h1, h2⟩ := hv
      rw [h2.ints] at h1
      refine .inl ⟨a, ns, rfl, SqL.of (sr.sub _ _ h1), fun ns' l hp hs hl => ?_⟩
      rw [srt_uniq hp hs]
      exact sr.newL hl (.ofInts _) p
  · rename_i ds
    cases q : intsOf ds with
    | none => rw [q] at e; cases e
    | some ns =>
      rw [q] at e; cases e
      obtain ⟨v, rfl, hv⟩ := hx.one
      rw [intsOf_eq q] at hv
      unfold Rp at hv
      obtain ⟨a, ys, rfl, h1, h2⟩ := hv
      rw [h2.ints] at h1
      refine .inr ⟨a, ns, rfl, sqt_mono sr.sub h1, fun ns' l hp hs hl => ?_⟩
      rw [srt_uniq hp hs]
      exact sr.newL hl (.ofInts _) p
  · cases e
end Rb

namespace HT
open PySem PySem.Spec PyProof.Rows
section
variable {prog : Program} {w : World} {A : Around} {E : Value → Shared → Prop} {s : Shared}
theorem sliceApplied_back {sl : Addr} {n : Nat} {vs : Value} {Q : Int × Int × Nat → Shared → Prop} (hs : s.heap.IsSliceOf sl .none .none vs) (pv : IsPart vs (some (-1)))
    (h : Q ((n : Int) - 1, -1, n) s) : wpAny (model prog w) A (Builtin.Slice.sliceApplied (.ref sl) (pure (n : Int))) Q E s := by
  obtain ⟨os, hos, hcs, hds⟩ := id hs
  unfold Builtin.Slice.sliceApplied Builtin.Slice.sliceFields
  refine wpAny_bind (wpAny_bind (wpAny_field hos hds (x := .none) rfl (wpAny_bind (wpAny_field hos hds (x := .none) rfl (wpAny_bind (wpAny_field hos hds (x := vs) rfl (wpAny_pure ?_)))))))
  refine wpAny_bind (slicePart_ pv ?_)
  show wpAny _ _ (if ((-1 : Int) == 0) = true then _ else _) _ _ s
  rw [if_neg (by decide)]
  refine wpAny_bind (slicePart_none (wpAny_bind (slicePart_none (wpAny_bind (wpAny_pure ?_)))))
  show wpAny _ _ (match Builtin.Slice.sliceAdjust none none (-1) (n : Int) with | (lo, hi) => pure (lo, (-1 : Int), Builtin.Slice.slicePlaces lo hi (-1))) _ _ s
  have e1 : Builtin.Slice.sliceAdjust none none (-1) (n : Int) = ((n : Int) - 1, -1) := by
    unfold Builtin.Slice.sliceAdjust
    rfl
  rw [e1]
  show wpAny _ _ (pure ((n : Int) - 1, (-1 : Int), Builtin.Slice.slicePlaces ((n : Int) - 1) (-1) (-1))) _ _ s
  have e2 : Builtin.Slice.slicePlaces ((n : Int) - 1) (-1) (-1) = n := by
    unfold Builtin.Slice.slicePlaces
    have h1 : (- -1 : Int) = 1 := rfl
    rw [if_neg (by decide), h1, Int.ediv_one]
    split <;> omega
  rw [e2]
  exact wpAny_pure h
theorem pick_back (xs : Array Value) : ((List.range xs.size).filterMap fun (m : Nat) => xs[(((xs.size : Nat) : Int) - 1 + (m : Int) * (-1)).toNat]?).toArray = xs.toList.reverse.toArray := by
  congr 1
  have e : ∀ m ∈ List.range xs.size, xs[(((xs.size : Nat) : Int) - 1 + (m : Int) * (-1)).toNat]? = some (xs.toList.reverse.getD m .none) := fun m hm => by
    have hlt : m < xs.size := List.mem_range.mp hm
    have : (((xs.size : Nat) : Int) - 1 + (m : Int) * (-1)).toNat = xs.size - 1 - m := by omega
    rw [this]
    have hl : m < xs.toList.length := by simpa using hlt
    rw [List.getD_eq_getElem?_getD, List.getElem?_reverse hl]
    have h2 : xs.toList.length - 1 - m < xs.toList.length := by omega
    rw [List.getElem?_eq_getElem h2]
    have h3 : xs.size - 1 - m < xs.size := by omega
    rw [Array.getElem?_eq_getElem h3]
    simp
  have e0 : ∀ (l : List Nat), (∀ m ∈ l, xs[(((xs.size : Nat) : Int) - 1 + (m : Int) * (-1)).toNat]? = some (xs.toList.reverse.getD m .none)) → l.filterMap (fun (m : Nat) => xs[(((xs.size : Nat) : Int) - 1 + (m : Int) * (-1)).toNat]?) = l.filterMap (fun m => some (xs.toList.reverse.getD m .none)) := fun l => by
    induction l with
    | nil => intro _; rfl
    | cons a l ih =>
      intro h
      rw [List.filterMap_cons, List.filterMap_cons, h a List.mem_cons_self, ih fun m hm => h m (List.mem_cons_of_mem _ hm)]
  rw [e0 _ e]
  have : (List.range xs.size).filterMap (fun m => some (xs.toList.reverse.getD m .none)) = (List.range xs.size).map fun m => xs.toList.reverse.getD m .none := by
    rw [List.filterMap_eq_map']
  rw [this]
  refine List.ext_getElem (by simp) fun i h1 h2 => ?_
  have hi : i < xs.size := by simpa using h1
  simp [List.getD_eq_getElem?_getD, hi]
theorem getItem_tuple_back {t sl : Addr} {items : Array Value} {vs : Value} {Q : Value → Shared → Prop} (ht : IsTup s.heap t items) (hs : s.heap.IsSliceOf sl .none .none vs) (pv : IsPart vs (some (-1)))
    (h : Q (.ref s.heap.objs.size) { s with heap := s.heap.push { cls := .type "tuple", data := .seq items.toList.reverse.toArray } })
    (hsz : items.size ≤ sizeLine) : wpAny (model prog w) A (getItem (.ref t) (.ref sl)) Q E s := by
  have htake : sizeOk (.seq items.toList.reverse.toArray) := by
    show items.toList.reverse.toArray.size ≤ sizeLine
    simpa using hsz
  obtain ⟨os, hos, hcs, hds⟩ := id hs
  have hTs : s.TypeIs (.ref sl) "slice" := ⟨os, hos, hcs⟩
  unfold getItem
  try with_reducible refine wpAny_holding ?_
  first | refine wpAny_bind (wpAny_pure ?_) | skip
  refine wpAny_bind (wpAny_sequenceKey ht.typeIs (by decide) ?_)
  refine wpAny_bind (wpAny_callSpecial?_slot (name := Str.ofString "__getitem__") ht.typeIs PyProof.Rows.slot_tuple_getitem
    (wpAny_call_entry PyProof.Rows.slot_tuple_getitem ht.typeIs entry_tuple_getitem ?_ (args_tuple_getitem _ _)))
  show wpAny _ _ (Builtin.Tuple.tupleItemsOf (.ref t) >>= _) _ _ s
  refine wpAny_bind (tupleItemsOf_ ht ?_)
  refine wpAny_bind (wpAny_typeOf hTs ?_)
  rw [if_pos (by decide)]
  refine wpAny_bind (sliceApplied_back hs pv ?_)
  have hno : ¬ ((((items.size : Nat) : Int) - 1 == 0 && (-1 : Int) == 1 && items.size == items.size) = true) := by
    intro q
    rw [Bool.and_eq_true, Bool.and_eq_true] at q
    exact absurd q.1.2 (by decide)
  show wpAny _ _ (if (((items.size : Nat) : Int) - 1 == 0 && (-1 : Int) == 1 && items.size == items.size) = true then _ else _) _ _ s
  rw [if_neg hno, pick_back]
  first
    | exact wpAny_bind (m := Builtin.Tuple.tupleExact _) (wpAny_newObj_type (wpAny_pure ⟨_, rfl, wpAny_pure h⟩) htake)
    | exact wpAny_bind (m := Builtin.Tuple.tupleExact _) (wpAny_newObj_type (wpAny_bind (wpAny_pure (wpAny_pure ⟨_, rfl, wpAny_pure h⟩))) htake)
    | exact wpAny_bind (wpAny_bind (m := Builtin.Tuple.tupleExact _) (wpAny_newObj_type (wpAny_pure (wpAny_pure ⟨_, rfl, wpAny_pure h⟩)) htake))
    | exact wpAny_bind (wpAny_bind (m := Builtin.Tuple.tupleExact _) (wpAny_newObj_type (wpAny_pure ⟨_, rfl, wpAny_pure h⟩) htake))
end
end HT

namespace Rb
open PySem PySem.Spec PyProof.Rows L2
/-! ### an item -/
theorem RpL.atI {K : PySem.W.Frag} {P : Option Addr} {F : Hp} {ds : List D} {xs : List V} {i : Int} {d : D} (h : RpL K P F ds xs) (e : atI ds i = some d) : ∃ x, L2.atI xs i = some x ∧ Rp K P F d x := by
  unfold L2.atI at e ⊢
  rw [h.len]
  cases q : ixN ds.length i with
  | none => rw [q] at e; cases e
  | some j =>
    rw [q] at e
    exact h.get (by simpa using e)
def dIx : D → D → Option (D × Bool)
  | .lst ds, .int i => (atI ds i).map fun d => (d, false)
  | .tup ds, .int i => (atI ds i).map fun d => (d, false)
  | .scr ns, .int i => (atI ns i).map fun n => (.int n, false)
  | _, _ => none
theorem ok_ix {K : PySem.W.Frag} : BinOk K dIx (rIx K) := fun ω F σ H s x y z b v u Q sr hx hy e p => by
  unfold dIx at e
  split at e
  · rename_i ds i
    cases q : atI ds i with
    | none => rw [q] at e; cases e
    | some d =>
      rw [q] at e; cases e
      unfold Rp at hx hy; subst hy
      obtain ⟨a, xs, rfl, h1, h2⟩ := hx
      obtain ⟨w, h3, h4⟩ := h2.atI q
      exact .inl ⟨a, xs, _, w, rfl, rfl, SqL.of (sr.sub _ _ h1), h3, sr.here (b := false) h4 p⟩
  · rename_i ds i
    cases q : atI ds i with
    | none => rw [q] at e; cases e
    | some d =>
      rw [q] at e; cases e
      unfold Rp at hx hy; subst hy
      obtain ⟨a, xs, rfl, h1, h2⟩ := hx
      obtain ⟨w, h3, h4⟩ := h2.atI q
      exact .inr (.inl ⟨a, xs, _, w, rfl, rfl, sqt_mono sr.sub h1, h3, sr.here (b := false) h4 p⟩)
  · rename_i ns i
    cases q : atI ns i with
    | none => rw [q] at e; cases e
    | some n =>
      rw [q] at e; cases e
      unfold Rp at hx hy; subst hy
      obtain ⟨a, rfl, h1⟩ := hx
      refine .inl ⟨a, _, _, .int n, rfl, rfl, sql_mono sr.sub h1, ?_, sr.here (b := false) (by show Rp _ _ _ _ _; unfold Rp; rfl) p⟩
      unfold L2.atI at q ⊢
      rw [List.length_map]
      cases z : ixN ns.length i with
      | none => rw [z] at q; cases q
      | some j =>
        rw [z] at q
        have q : ns[j]? = some n := q
        show (ns.map V.int)[j]? = some (.int n)
        rw [List.getElem?_map, q]; rfl
  · cases e
def keyOf : D → Option Key
  | .int i => some (.inl i)
  | .str x => some (.inr x)
  | _ => none
theorem keyOf_rp {K : PySem.W.Frag} {P : Option Addr} {F : Hp} {d : D} {v : V} {k : Key} (h : Rp K P F d v) (e : keyOf d = some k) : v = kV k := by
  cases d <;> cases e
  · unfold Rp at h; exact h
  · unfold Rp at h; exact h
def valD (kvs : List (Key × D)) (k : Key) : Option D := (kvs.find? fun kv => decide (kv.1 = k)).map (·.2)
theorem RpK.val {K : PySem.W.Frag} {P : Option Addr} {F : Hp} (k : Key) : ∀ {ds : List (Key × D)} {xs : List (Key × V)}, RpK K P F ds xs → (valD ds k = none ∧ valV xs k = none) ∨ ∃ d v, valD ds k = some d ∧ valV xs k = some v ∧ Rp K P F d v
  | [], xs, h => by unfold RpK at h; subst h; exact .inl ⟨rfl, rfl⟩
  | (j, d) :: ds, xs, h => by
    unfold RpK at h
    obtain ⟨x, r, rfl, hx, hr⟩ := h
    by_cases q : j = k
    · subst q
      exact .inr ⟨d, x, by simp [valD, List.find?_cons], by simp [valV, List.find?_cons], hx⟩
    · have e1 : valD ((j, d) :: ds) k = valD ds k := by simp [valD, List.find?_cons, q]
      have e2 : valV ((j, x) :: r) k = valV r k := by simp [valV, List.find?_cons, q]
      rw [e1, e2]
      exact RpK.val k hr
def dDGet : D → D → Option (D × Bool)
  | .dic kvs, y => (keyOf y).bind fun k => (valD kvs k).map fun d => (d, false)
  | _, _ => none
def rDGet : R2 := fun x y H Q => ∃ a v, x = .ref a ∧ DGet H a y (some v) ∧ Q v H
theorem ok_dget {K : PySem.W.Frag} : BinOk K dDGet rDGet := fun ω F σ H s x y z b v u Q sr hx hy e p => by
  unfold dDGet at e
  split at e
  · rename_i kvs
    cases q : keyOf y with
    | none => rw [q] at e; cases e
    | some k =>
      rw [q] at e
      simp only [Option.bind_some] at e
      cases q2 : valD kvs k with
      | none => rw [q2] at e; cases e
      | some d =>
        rw [q2] at e; cases e
        have hu := keyOf_rp hy q
        unfold Rp at hx
        obtain ⟨a, ks, rfl, h1, h2⟩ := hx
        rcases h2.val k with ⟨h3, _⟩ | ⟨d', w, h3, h4, h5⟩
        · rw [q2] at h3; cases h3
        · rw [q2] at h3; cases h3
          refine ⟨a, w, rfl, .inl ⟨ks, k, rd_mono sr.sub h1, hu, h4.symm⟩, sr.here (b := false) h5 p⟩
  · cases e
def dGetAny : D → D → Option (D × Bool)
  | .dic kvs, y => dDGet (.dic kvs) y
  | x, y => dIx x y
section
variable {X : Cx}
theorem p_ix {a b : Expr} {ea eb : SE} {pos : Pos} (hu : X.A.units + 1 < cLine) (ha : PE X a (rd X.K ea)) (hb : PE X b (rd X.K eb)) (hs : ∀ o i, subscripted b false o i = operate [o, i] (getItem o i)) : PE X (.Subscript a b pos) (rd X.K (cBin dGetAny ea eb)) :=
  ⟨fun pins s σ H Q I hw => by
    have split2 : rd X.K (cBin dIx ea eb) σ H Q ∨ rd X.K (cBin dDGet ea eb) σ H Q := by
      obtain ⟨ω, F, s0, d, b0, s', sr, e, p⟩ := hw
      unfold cBin at e
      cases e1 : ea s0 with
      | none => rw [e1] at e; cases e
      | some p1 =>
        obtain ⟨⟨d1, b1⟩, s1⟩ := p1
        rw [e1] at e
        simp only [Option.bind_some] at e
        by_cases hd : ∃ kvs, d1 = .dic kvs
        · obtain ⟨kvs, rfl⟩ := hd
          refine .inr ⟨ω, F, s0, d, b0, s', sr, ?_, p⟩
          unfold cBin
          rw [e1]
          exact e
        · refine .inl ⟨ω, F, s0, d, b0, s', sr, ?_, p⟩
          unfold cBin
          rw [e1]
          simp only [Option.bind_some]
          rw [← e]
          congr 1
          funext q
          congr 1
          cases d1 <;> first | rfl | exact absurd ⟨_, rfl⟩ hd
    rcases split2 with h | h
    · exact (pe_ix ix_seq ha hb hs).run pins s σ H Q I (bin_use ok_ix h)
    · exact (pe_dget hu ha hb hs).run pins s σ H Q I (bin_use ok_dget h)⟩
end
/-! ### slices -/
def cut {α : Type} (xs : List α) (lo hi : Option Int) : List α := (xs.drop (HT.sIx xs.length 0 lo)).take (HT.sIx xs.length xs.length hi - HT.sIx xs.length 0 lo)
abbrev SO := S → Option (Option Int × S)
def rdO (K : PySem.W.Frag) (o : SO) : TO := fun σ H Q => ∃ ω F s n s', Sr K ω F σ H s ∧ o s = some (n, s') ∧ ∀ F' H', Ex F F' → Sr K ω F' σ H' s' → Q n H'
def oNone : SO := fun s => some (none, s)
def oSome (e : SE) : SO := fun s => (e s).bind fun p => match p.1.1 with
  | .int i => some (some i, p.2)
  | _ => none
def dSl (x : D) (lo hi : Option Int) : Option (D × Bool) := match x with
  | .lst ds => some (.lst (cut ds lo hi), true)
  | .tup ds => some (.tup (cut ds lo hi), false)
  | .scr ns => some (.lst ((cut ns lo hi).map .int), true)
  | _ => none
def cSl (a : SE) (lo hi : SO) : SE := fun s => (a s).bind fun p => (lo p.2).bind fun q => (hi q.2).bind fun r => (dSl p.1.1 q.1 r.1).map fun z => (z, r.2)
def rSlAll (K : PySem.W.Frag) : V → Option Int → Option Int → Hp → VK → Prop := fun x lo hi H Q => rSlL K x lo hi H Q ∨ rSlA K x lo hi H Q
section
variable {X : Cx}
theorem o_none : PO X none (rdO X.K oNone) := by
  have h : PO X none tNoPart := po_none
  exact ⟨fun pins s σ H Q I hw => h.run pins s σ H Q I (by
    obtain ⟨ω, F, s, n, s', sr, e, p⟩ := hw
    cases e
    exact p F H (Ex.refl F) sr)⟩
theorem o_some {e : Expr} {c : SE} (he : PE X e (rd X.K c)) : PO X (some e) (rdO X.K (oSome c)) := by
  have h := po_some he
  exact ⟨fun pins s σ H Q I hw => h.run pins s σ H Q I (by
    obtain ⟨ω, F, s, n, s', sr, e, p⟩ := hw
    unfold oSome at e
    cases e1 : c s with
    | none => rw [e1] at e; cases e
    | some p1 =>
      obtain ⟨⟨d1, b1⟩, s1⟩ := p1
      rw [e1] at e
      simp only [Option.bind_some] at e
      cases d1 <;> cases e
      refine rd_use sr e1 fun v F1 H1 x1 r1 hv => ?_
      unfold Rp at hv
      exact ⟨_, hv, p F1 H1 x1 r1⟩)⟩
theorem p_sl {a : Expr} {lo hi : Option Expr} {ca : SE} {cl ch : SO} {p2 pos : Pos} (ha : PE X a (rd X.K ca)) (hl : PO X lo (rdO X.K cl)) (hh : PO X hi (rdO X.K ch)) : PE X (.Subscript a (.Slice lo hi none p2) pos) (rd X.K (cSl ca cl ch)) :=
  (pe_slice (sl_list.or sl_tupA) ha hl hh).imp fun σ H Q hw => by
    obtain ⟨ω, F, s, d, b, s', sr, e, p⟩ := hw
    unfold cSl at e
    cases e1 : ca s with
    | none => rw [e1] at e; cases e
    | some p1 =>
      obtain ⟨⟨d1, b1⟩, s1⟩ := p1
      rw [e1] at e
      simp only [Option.bind_some] at e
      cases e2 : cl s1 with
      | none => rw [e2] at e; cases e
      | some p2 =>
        obtain ⟨n2, s2⟩ := p2
        rw [e2] at e
        simp only [Option.bind_some] at e
        cases e3 : ch s2 with
        | none => rw [e3] at e; cases e
        | some p3 =>
          obtain ⟨n3, s3⟩ := p3
          rw [e3] at e
          simp only [Option.bind_some] at e
          refine rd_use sr e1 fun v F1 H1 x1 r1 hv => ?_
          refine ⟨ω, F1, s1, n2, s2, r1, e2, fun F2 H2 x2 r2 => ?_⟩
          refine ⟨ω, F2, s2, n3, s3, r2, e3, fun F3 H3 x3 r3 => ?_⟩
          have hv := hv.mono (x2.trans x3)
          have p := p.mono ((x1.trans x2).trans x3)
          unfold dSl at e
          split at e
          · cases e
            unfold Rp at hv
            obtain ⟨q, xs, rfl, h1, h2⟩ := hv
            refine .inl ⟨q, xs, rfl, SqL.of (r3.sub _ _ h1), fun l hl => r3.newL hl ?_ p⟩
            unfold cut cutV
            rw [h2.len]
            exact (h2.drop _).take _
          · cases e
            unfold Rp at hv
            obtain ⟨q, xs, rfl, h1, h2⟩ := hv
            refine .inr ⟨q, xs, rfl, sqt_mono r3.sub h1, fun z => ?_, fun _ l hl => r3.newT hl ?_ p⟩
            · refine r3.here (b := false) ?_ p
              show Rp _ _ _ _ _
              unfold Rp
              refine ⟨q, xs, rfl, h1, ?_⟩
              unfold cut
              rw [h2.len] at z
              rw [z.1, z.2, List.drop_zero, Nat.sub_zero, List.take_of_length_le (Nat.le_refl _)]
              exact h2
            · unfold cut cutV
              rw [h2.len]
              exact (h2.drop _).take _
          · cases e
            unfold Rp at hv
            obtain ⟨q, rfl, h1⟩ := hv
            refine .inl ⟨q, _, rfl, sql_mono r3.sub h1, fun l hl => r3.newL hl ?_ p⟩
            unfold cut cutV
            rw [List.length_map, ← List.map_drop, ← List.map_take]
            exact .ofInts _
          · cases e
/-! x[::-1] -/
def dRev : D → Option (D × Bool)
  | .lst ds => some (.lst ds.reverse, true)
  | .tup ds => some (.tup ds.reverse, false)
  | _ => none
def tRevT (K : PySem.W.Frag) (te : TE) : TE := fun σ H Q => te σ H fun x H1 => ∃ a xs, x = .ref a ∧ SqT K H1 a xs ∧ ∀ p, H1 p = none → Q (.ref p) (upd H1 p (.tup xs.reverse))
theorem pe_revT {e : Expr} {te : TE} {k : Nat} {p1 p2 p3 pos : Pos} (he : PE X e te) : PE X (.Subscript e (.Slice none none (some (.UnaryOp .USub (.Constant (.int 1) k p1) p2)) p3) pos) (tRevT X.K te) := by
  refine ⟨fun pins s σ H Q I h => ?_⟩
  refine Subscript_ (thn (he.run pins s σ H _ I h) fun v s1 ⟨x, H1, I1, r1, q1⟩ => ?_)
  obtain ⟨a, xs, ex, hx, q⟩ := q1
  subst ex
  cases r1
  have hst : PO X (some (.UnaryOp .USub (.Constant (.int 1) k p1) p2)) (tPart (tUn (rU fun i => .int (-i)) (tC (.int 1)))) := po_some (pe_un un_neg pe_int)
  refine wpAny_Slice (thn (po_none.run pins s1 σ H1 (fun o H2 => o = none ∧ H2 = H1) I1 ⟨rfl, rfl⟩) fun vl s2 ⟨l, H2, I2, pl, el, e2⟩ => ?_)
  subst el e2
  refine thn (po_none.run pins s2 σ H2 (fun o H3 => o = none ∧ H3 = H2) I2 ⟨rfl, rfl⟩) fun vu s3 ⟨u, H3, I3, pu, eu, e3⟩ => ?_
  subst eu e3
  refine thn (hst.run pins s3 σ H3 (fun o H4 => o = some (-1) ∧ H4 = H3) I3 ⟨1, rfl, -1, rfl, rfl, rfl⟩) fun vs s4 ⟨o, H4, I4, ps, eo, e4⟩ => ?_
  subst eo e4
  cases pl
  cases pu
  have I5 : Inv X pins σ H4 { s4 with heap := s4.heap.push { cls := .type "slice", data := .fields #[.none, .none, vs] } } := I4.kept (t' := s4.toks) fun b ob q => Heap.get?_push_of_some _ q
  obtain ⟨its, r, ht, hz⟩ := I5.tuple hx
  have hlen := r.length
  show wpAny (model X.prog X.w) X.A (subscriptTail e (.Slice none none (some (.UnaryOp .USub (.Constant (.int 1) k p1) p2)) p3) (.ref a) (.ref s4.heap.objs.size)) (EP X pins σ Q) X.xe { s4 with heap := s4.heap.push { cls := .type "slice", data := .fields #[.none, .none, vs] } }
  refine tail_any (ops := [.ref a, .ref s4.heap.objs.size]) ht.typeIs (PyProof.Rows.slot_tuple_getitem.lookup) ?_ (by with_unfolding_all rfl)
  refine HT.getItem_tuple_back ht (Heap.IsSliceOf.new _ .none .none vs) ps ?_ (by rw [List.size_toArray]; omega)
  refine ⟨.ref _, _, I5.laid (t' := s4.toks) (o := .tup xs.reverse) (fun b ob q => Heap.get?_push_of_some _ q) (Nat.le_refl _) ?_, rfl, q _ (I5.hok.fresh (Nat.le_refl _))⟩
  exact ⟨by rw [List.length_reverse]; exact hz, _, r.reverse, IsTup.new _ _⟩
theorem p_rev {e : Expr} {c : SE} {k : Nat} {p1 p2 p3 pos : Pos} (he : PE X e (rd X.K c)) : PE X (.Subscript e (.Slice none none (some (.UnaryOp .USub (.Constant (.int 1) k p1) p2)) p3) pos) (rd X.K (cUn dRev c)) :=
  ⟨fun pins s σ H Q I hw => by
    have two : tRevL X.K (rd X.K c) σ H Q ∨ tRevT X.K (rd X.K c) σ H Q := by
      obtain ⟨ω, F, s0, d, b0, s', sr, e, p⟩ := hw
      unfold cUn at e
      cases e1 : c s0 with
      | none => rw [e1] at e; cases e
      | some q1 =>
        obtain ⟨⟨d1, b1⟩, s1⟩ := q1
        rw [e1] at e
        simp only [Option.bind_some] at e
        cases d1 <;> first | (cases e; done) | skip
        · cases e
          refine .inr (rd_use sr e1 fun v F1 H1 x1 r1 hv => ?_)
          unfold Rp at hv
          obtain ⟨q, xs, rfl, h1, h2⟩ := hv
          exact ⟨q, xs, rfl, sqt_mono r1.sub h1, fun l hl => r1.newT hl h2.rev (p.mono x1)⟩
        · cases e
          refine .inl (rd_use sr e1 fun v F1 H1 x1 r1 hv => ?_)
          unfold Rp at hv
          obtain ⟨q, xs, rfl, h1, h2⟩ := hv
          exact ⟨q, xs, rfl, SqL.of (r1.sub _ _ h1), fun l hl => r1.newL hl h2.rev (p.mono x1)⟩
    rcases two with h | h
    · exact (pe_revL he).run pins s σ H Q I h
    · exact (pe_revT he).run pins s σ H Q I h⟩
end
/-! ### isinstance -/
def dTy : D → String
  | .non => "NoneType" | .bl _ => "bool" | .int _ => "int" | .str _ => "str" | .tup _ => "tuple" | .lst _ => "list" | .dic _ => "dict" | .pot => "" | .scr _ => "list"
def cIsi (T : String) (a : SE) : SE := fun s => (a s).bind fun p => match p.1.1 with
  | .pot => none
  | d => (kitB (dTy d) T).map fun b => ((.bl b, false), p.2)
theorem Rp.tyX {K : PySem.W.Frag} {P : Option Addr} {F H : Hp} {d : D} {v : V} (h : Rp K P F d v) (e : Ex F H) (hp : d ≠ .pot) : TyX K H v (.type (dTy d)) := by
  cases d <;> unfold Rp at h
  case non => subst h; exact .base .non
  case bl => subst h; exact .base (.bl _)
  case int => subst h; exact .base (.int _)
  case str => subst h; exact .base (.str _)
  case tup =>
    obtain ⟨a, xs, rfl, h1, h2⟩ := h
    rcases h1 with (h1 | ⟨o, h1⟩) | ⟨o, its, n, hk, hc, _⟩
    · exact .base (.tup (e _ _ h1))
    · exact .fTuple (e _ _ h1)
    · exact .kTuple hk hc
  case lst =>
    obtain ⟨a, xs, rfl, h1, h2⟩ := h
    exact .base (.lst (e _ _ h1))
  case dic =>
    obtain ⟨a, xs, rfl, h1, h2⟩ := h
    rcases h1 with h1 | ⟨o, h1⟩
    · exact .base (.dK (e _ _ h1))
    · exact .fDict (e _ _ h1)
  case pot => exact absurd rfl hp
  case scr =>
    obtain ⟨a, rfl, h1⟩ := h
    rcases h1 with (h1 | ⟨o, h1⟩) | ⟨o, its, n, hk, hc, _⟩
    · exact .base (.lst (e _ _ h1))
    · exact .base (.frz (e _ _ h1))
    · exact .kList hk hc
section
variable {X : Cx}
theorem p_isi {e : Expr} {c : SE} {T : String} {xT : Str} {p pt pos : Pos} (he : PE X e (rd X.K c)) (hg : Gl X "isinstance") (hm : X.mg "isinstance" = none) (hT : PE X (.Name xT pt) (tC (.ty T)))
    (hs : starEach [e, .Name xT pt] X.env = (false, eval e X.env) :: starEach [.Name xT pt] X.env := by rfl) (hs2 : starEach [.Name xT pt] X.env = (false, eval (.Name xT pt) X.env) :: starEach [] X.env := by rfl) (hpl : (backTo pos (starEach [.Name xT pt] X.env)).any (·.1) = false := by rfl) :
    PE X (.Call (.Name "isinstance" p) [e, .Name xT pt] [] pos) (rd X.K (cIsi T c)) :=
  (pe_callB (call_isi) hg hm (by decide +kernel) (pa_cons he (pa_cons hT pa_nil hs2) hs) (by decide) (by decide) hs hpl).imp fun σ H Q hw => by
    obtain ⟨ω, F, s, d, b, s', sr, h, q⟩ := hw
    unfold cIsi at h
    cases e1 : c s with
    | none => rw [e1] at h; cases h
    | some p1 =>
      obtain ⟨⟨d1, b1⟩, s1⟩ := p1
      rw [e1] at h
      simp only [Option.bind_some] at h
      have hd : d1 ≠ .pot := fun z => by subst z; cases h
      have h : (kitB (dTy d1) T).map (fun b => ((D.bl b, false), s1)) = some ((d, b), s') := by
        cases d1 <;> first | exact h | exact absurd rfl hd
      cases e2 : kitB (dTy d1) T with
      | none => rw [e2] at h; cases h
      | some r =>
        rw [e2] at h; cases h
        refine rd_use sr e1 fun v F1 H1 x1 r1 hv => ?_
        exact ⟨v, .ty T, .type (dTy d1), .type T, r, rfl, .ty T, hv.tyX r1.sub hd, kit_ty e2, r1.here (b := false) (by show Rp _ _ _ _ _; unfold Rp; rfl) (q.mono x1)⟩
end
end Rb

namespace Rb
open PySem PySem.Spec PyProof.Rows L2

section
variable {K : PySem.W.Frag} {ω : Wd} {F F' : Hp} {σ : L2.St} {H H' : Hp} {s s' : S} {v : V} {d d' : D} {b : Bool} {i : Nat}
theorem getElem?_ltL {α : Type} {l : List α} {i : Nat} {x : α} (h : l[i]? = some x) : i < l.length := by
  rcases Nat.lt_or_ge i l.length with q | q
  · exact q
  · rw [List.getElem?_eq_none q] at h; cases h
/-- the object that slot i holds alone is changed -/
theorem Sr.mut {a : Addr} {o : HO} (r : Sr K ω F σ H s) (h : s.r[i]? = some (.own d)) (hv : σ[i]? = some (some (.ref a)))
    (hd : (∃ ds xs, d' = .lst ds ∧ o = .lst xs ∧ RpL K ω.P F ds xs) ∨ ∃ ds xs, d' = .dic ds ∧ o = .dK xs ∧ RpK K ω.P F ds xs) :
    Sr K ω F σ (upd H a o) { s with r := s.r.set i (.own d') } := by
  obtain ⟨v, hv', ho⟩ := r.sl i _ h
  rw [hv] at hv'; cases hv'
  obtain ⟨a', u, ea, ha, hF, h0, hP, _⟩ := ho.is
  cases ea
  have hi := getElem?_ltL h
  refine ⟨by rw [r.len]; simp, r.sub.updR hF, fun c u q e => ?_, r.new, r.pt.ext (fun q e => upd_ne fun z => hP (by rw [e, z])) (fun _ _ => rfl), fun j b e => ?_, fun j k d1 d2 w hjk h1 h2 h3 h4 => ?_⟩
  · have : c ≠ a := fun z => by rw [z, h0] at e; cases e
    rw [upd_ne this]; exact r.frm c u q e
  · have e : (s.r.set i (.own d'))[j]? = some b := e
    by_cases q : i = j
    · subst q
      rw [List.getElem?_set_self hi] at e; cases e
      refine ⟨_, hv, ?_⟩
      rcases hd with ⟨ds, xs, rfl, rfl, hr⟩ | ⟨ds, xs, rfl, rfl, hr⟩
      · exact ⟨a, xs, rfl, upd_same, hF, h0, hP, hr⟩
      · exact ⟨a, xs, rfl, upd_same, hF, h0, hP, hr⟩
    · rw [List.getElem?_set_ne q] at e
      refine (r.sl j b e).mono (Ex.refl F) fun c hc hx _ hFc => ⟨upd_ne fun z => ?_, hFc⟩
      obtain ⟨d2, rfl⟩ := hc
      exact r.dis i j d d2 _ q h e hv (by rw [hx, z])
  · have h1 : (s.r.set i (.own d'))[j]? = some (.own d1) := h1
    have h2 : (s.r.set i (.own d'))[k]? = some (.own d2) := h2
    have g1 : ∃ d1', s.r[j]? = some (.own d1') := by
      by_cases q : i = j
      · subst q; exact ⟨_, h⟩
      · rw [List.getElem?_set_ne q] at h1; exact ⟨_, h1⟩
    have g2 : ∃ d2', s.r[k]? = some (.own d2') := by
      by_cases q : i = k
      · subst q; exact ⟨_, h⟩
      · rw [List.getElem?_set_ne q] at h2; exact ⟨_, h2⟩
    obtain ⟨_, g1⟩ := g1
    obtain ⟨_, g2⟩ := g2
    exact r.dis j k _ _ w hjk g1 g2 h3 h4
/-- a slot that holds a list alone -/
theorem Sr.ownL {ds : List D} (r : Sr K ω F σ H s) (h : s.r[i]? = some (.own (.lst ds))) : ∃ a xs, σ[i]? = some (some (.ref a)) ∧ H a = some (.lst xs) ∧ RpL K ω.P F ds xs := by
  obtain ⟨v, hv, a, xs, rfl, h1, _, _, _, h2⟩ := r.sl i _ h
  exact ⟨a, xs, hv, h1, h2⟩
theorem Sr.ownD {ds : List (Key × D)} (r : Sr K ω F σ H s) (h : s.r[i]? = some (.own (.dic ds))) : ∃ a xs, σ[i]? = some (some (.ref a)) ∧ H a = some (.dK xs) ∧ RpK K ω.P F ds xs := by
  obtain ⟨v, hv, a, xs, rfl, h1, _, _, _, h2⟩ := r.sl i _ h
  exact ⟨a, xs, hv, h1, h2⟩
end
/-! ### x.append(e) -/
def cApp (i : Nat) (c : SE) : SS := fun s => match s.r[i]? with
  | some (.own (.lst _)) => (c s).bind fun p => match p.2.r[i]? with
    | some (.own (.lst ds)) => if szOk (ds.length + 1) then some (.nx, { p.2 with r := p.2.r.set i (.own (.lst (ds ++ [p.1.1]))) }) else none
    | _ => none
  | _ => none
def cExt (i : Nat) (c : SE) : SS := fun s => match s.r[i]? with
  | some (.own (.lst _)) => (c s).bind fun p => match p.2.r[i]?, p.1.1 with
    | some (.own (.lst ds)), .lst es => if szOk (ds.length + es.length) then some (.nx, { p.2 with r := p.2.r.set i (.own (.lst (ds ++ es))) }) else none
    | _, _ => none
  | _ => none
/-- x.pop(k) -/
def cPop (i : Nat) (c : SE) : SE := fun s => match s.r[i]? with
  | some (.own (.lst _)) => (c s).bind fun p => match p.2.r[i]?, p.1.1 with
    | some (.own (.lst ds)), .int k => if inR 9223372036854775807 k then (ixN ds.length k).bind fun j => (ds[j]?).map fun d => ((d, false), { p.2 with r := p.2.r.set i (.own (.lst (ds.eraseIdx j))) }) else none
    | _, _ => none
  | _ => none
/-- x[k], len(x) of what the slot holds alone -/
def cIxV (i : Nat) (c : SE) : SE := fun s => (c s).bind fun p => match s.r[i]?, p.2.r[i]?, p.1.1 with
  | some (.own (.lst _)), some (.own (.lst ds)), .int k => (atI ds k).map fun d => ((d, false), p.2)
  | some (.val (.lst ds)), _, .int k => (atI ds k).map fun d => ((d, false), p.2)
  | some (.val (.tup ds)), _, .int k => (atI ds k).map fun d => ((d, false), p.2)
  | some (.own (.dic _)), some (.own (.dic ks)), k => (dDGet (.dic ks) k).map fun d => (d, p.2)
  | some (.val (.dic ks)), _, k => (dDGet (.dic ks) k).map fun d => (d, p.2)
  | _, _, _ => none
def cLenV (i : Nat) : SE := fun s => match s.r[i]? with
  | some (.own (.lst ds)) => some ((.int ds.length, false), s)
  | some (.val (.lst ds)) => some ((.int ds.length, false), s)
  | some (.val (.tup ds)) => some ((.int ds.length, false), s)
  | _ => none
/-- x[k] = e -/
def cPutV (i : Nat) (ci : SE) (c : SE) : SS := fun s => (c s).bind fun p => match p.2.r[i]? with
  | some (.own (.lst _)) => (ci p.2).bind fun q => match q.2.r[i]?, q.1.1 with
    | some (.own (.lst ds)), .int k => (ixN ds.length k).map fun j => (.nx, { q.2 with r := q.2.r.set i (.own (.lst (ds.set j p.1.1))) })
    | _, _ => none
  | _ => none
section
variable {X : Cx} {i : Nat} {x : Str} {pn : Pos}
theorem one_arg {K : PySem.W.Frag} {c : SE} {ω : Wd} {F : Hp} {σ : L2.St} {H : Hp} {s s' : S} {d : D} {b : Bool} {R : List V → Hp → Prop} (r : Sr K ω F σ H s) (e : c s = some ((d, b), s')) (q : ∀ v F' H', Ex F F' → Sr K ω F' σ H' s' → Rp K ω.P F' d v → R [v] H') : tCons (rd K c) tNil σ H R :=
  rd_use r e fun v F1 H1 x1 r1 hv => q v F1 H1 x1 r1 hv
theorem s_app {e : Expr} {c : SE} {apos cpos pos : Pos} (hv : PE X (.Name x pn) (tVar i)) (he : PE X e (rd X.K c))
    (hb : attributeBase (.Name x pn) "append" X.env (eval (.Name x pn) X.env) = eval (.Name x pn) X.env)
    (hfew : ((backTo cpos (starEach [e] X.env)).all (fun x => !x.1) && (backToKw cpos (keywordEach [] X.env)).all (fun x => x.1.isSome)
      && decide (([e] : List Expr).length + ([] : List Keyword).length + (if ([] : List Keyword).isEmpty then 0 else 1) < 30)) = true)
    (hline : (apos.endLine == cpos.line) = true) (hs : starEach [e] X.env = (false, eval e X.env) :: starEach [] X.env) (hp : (backTo cpos (starEach [] X.env)).any (·.1) = false)
    (hsw : swapsWith (.Call (.Attribute (.Name x pn) "append" apos) [e] [] cpos) none pos.line X.env = pure false) :
    PS X (.Expr (.Call (.Attribute (.Name x pn) "append" apos) [e] [] cpos) pos) (rdS X.K (cApp i c)) :=
  (ps_expr (pe_bm PySem.F.plainAttrs_list PySem.F.slot_list_append PySem.F.type_list_append mt_append hv (pa_cons he pa_nil hs) hb hfew hline hs hp) hsw).imp fun D' σ H hw => by
    obtain ⟨ω, F, s, fl, s', sr, h, p⟩ := hw
    unfold cApp at h
    split at h
    · rename_i ds0 h0
      obtain ⟨a, xs, hσ, hH, _⟩ := sr.ownL h0
      cases e1 : c s with
      | none => rw [e1] at h; cases h
      | some p1 =>
        obtain ⟨⟨d1, b1⟩, s1⟩ := p1
        rw [e1] at h
        simp only [Option.bind_some] at h
        split at h
        · rename_i ds h1
          split at h
          · rename_i hz
            cases h
            refine ⟨_, hσ, Or.inl ⟨rfl, _, SqL.of hH⟩, one_arg sr e1 fun v F1 H1 x1 r1 hv => ?_⟩
            obtain ⟨a', ys, hσ', hH', hr⟩ := r1.ownL h1
            rw [hσ] at hσ'; cases hσ'
            refine ⟨a, ys, v, rfl, rfl, hH', ?_, p σ F1 _ x1 (r1.mut h1 hσ (.inl ⟨_, _, rfl, rfl, hr.app (.cons hv .nil)⟩))⟩
            have := szOk_le hz
            rw [hr.len]; omega
          · cases h
        · cases h
    · cases h
theorem s_ext {e : Expr} {c : SE} {apos cpos pos : Pos} (hv : PE X (.Name x pn) (tVar i)) (he : PE X e (rd X.K c))
    (hb : attributeBase (.Name x pn) "extend" X.env (eval (.Name x pn) X.env) = eval (.Name x pn) X.env)
    (hfew : ((backTo cpos (starEach [e] X.env)).all (fun x => !x.1) && (backToKw cpos (keywordEach [] X.env)).all (fun x => x.1.isSome)
      && decide (([e] : List Expr).length + ([] : List Keyword).length + (if ([] : List Keyword).isEmpty then 0 else 1) < 30)) = true)
    (hline : (apos.endLine == cpos.line) = true) (hs : starEach [e] X.env = (false, eval e X.env) :: starEach [] X.env) (hp : (backTo cpos (starEach [] X.env)).any (·.1) = false)
    (hsw : swapsWith (.Call (.Attribute (.Name x pn) "extend" apos) [e] [] cpos) none pos.line X.env = pure false) :
    PS X (.Expr (.Call (.Attribute (.Name x pn) "extend" apos) [e] [] cpos) pos) (rdS X.K (cExt i c)) :=
  (ps_expr (pe_bm PySem.F.plainAttrs_list PySem.F.slot_list_extend PySem.F.type_list_extend mt_extend hv (pa_cons he pa_nil hs) hb hfew hline hs hp) hsw).imp fun D' σ H hw => by
    obtain ⟨ω, F, s, fl, s', sr, h, p⟩ := hw
    unfold cExt at h
    split at h
    · rename_i ds0 h0
      obtain ⟨a, xs, hσ, hH, _⟩ := sr.ownL h0
      cases e1 : c s with
      | none => rw [e1] at h; cases h
      | some p1 =>
        obtain ⟨⟨d1, b1⟩, s1⟩ := p1
        rw [e1] at h
        simp only [Option.bind_some] at h
        split at h
        · rename_i ds es h1
          split at h
          · rename_i hz
            cases h
            refine ⟨_, hσ, Or.inl ⟨rfl, _, SqL.of hH⟩, one_arg sr e1 fun v F1 H1 x1 r1 hv => ?_⟩
            obtain ⟨a', ys, hσ', hH', hr⟩ := r1.ownL h1
            rw [hσ] at hσ'; cases hσ'
            unfold Rp at hv
            obtain ⟨q, zs, rfl, h4, h5⟩ := hv
            refine ⟨a, q, ys, zs, rfl, rfl, hH', r1.sub _ _ h4, ?_, p σ F1 _ x1 (r1.mut h1 hσ (.inl ⟨_, _, rfl, rfl, hr.app h5⟩))⟩
            rw [hr.len, h5.len]; exact szOk_le hz
          · cases h
        · cases h
    · cases h
theorem p_pop {e : Expr} {c : SE} {apos cpos : Pos} (hv : PE X (.Name x pn) (tVar i)) (he : PE X e (rd X.K c))
    (hb : attributeBase (.Name x pn) "pop" X.env (eval (.Name x pn) X.env) = eval (.Name x pn) X.env)
    (hfew : ((backTo cpos (starEach [e] X.env)).all (fun x => !x.1) && (backToKw cpos (keywordEach [] X.env)).all (fun x => x.1.isSome)
      && decide (([e] : List Expr).length + ([] : List Keyword).length + (if ([] : List Keyword).isEmpty then 0 else 1) < 30)) = true)
    (hline : (apos.endLine == cpos.line) = true) (hs : starEach [e] X.env = (false, eval e X.env) :: starEach [] X.env) (hp : (backTo cpos (starEach [] X.env)).any (·.1) = false) :
    PE X (.Call (.Attribute (.Name x pn) "pop" apos) [e] [] cpos) (rd X.K (cPop i c)) :=
  (pe_bm PySem.F.plainAttrs_list PySem.F.slot_list_pop PySem.F.type_list_pop mt_popAt hv (pa_cons he pa_nil hs) hb hfew hline hs hp).imp fun σ H Q hw => by
    obtain ⟨ω, F, s, d, b, s', sr, h, p⟩ := hw
    unfold cPop at h
    split at h
    · rename_i ds0 h0
      obtain ⟨a, xs, hσ, hH, _⟩ := sr.ownL h0
      cases e1 : c s with
      | none => rw [e1] at h; cases h
      | some p1 =>
        obtain ⟨⟨d1, b1⟩, s1⟩ := p1
        rw [e1] at h
        simp only [Option.bind_some] at h
        split at h
        · rename_i ds k h1
          split at h
          · rename_i hk
            have hk : -(2 ^ 63) ≤ k ∧ k < 2 ^ 63 := by have := inR_iff.1 hk; omega
            cases e2 : ixN ds.length k with
            | none => rw [e2] at h; cases h
            | some j =>
              rw [e2] at h
              simp only [Option.bind_some] at h
              cases e3 : ds[j]? with
              | none => rw [e3] at h; cases h
              | some d0 =>
                rw [e3] at h
                cases h
                refine ⟨_, hσ, Or.inl ⟨rfl, _, SqL.of hH⟩, one_arg sr e1 fun v F1 H1 x1 r1 hv => ?_⟩
                obtain ⟨a', ys, hσ', hH', hr⟩ := r1.ownL h1
                rw [hσ] at hσ'; cases hσ'
                unfold Rp at hv; subst hv
                obtain ⟨y, hy, hyr⟩ := hr.get e3
                refine ⟨a, ys, k, j, y, rfl, rfl, hH', hk.1, hk.2, by rw [hr.len]; exact (ixN_seq e2).1, hy, ?_⟩
                exact (r1.mut h1 hσ (.inl ⟨_, _, rfl, rfl, hr.erase j⟩)).here (b := false) hyr (p.mono x1)
          · cases h
        · cases h
    · cases h
theorem p_ixV {e : Expr} {c : SE} {pos : Pos} (hu : X.A.units + 1 < cLine) (hv : PE X (.Name x pn) (tVar i)) (he : PE X e (rd X.K c)) (hs : ∀ o i, subscripted e false o i = operate [o, i] (getItem o i)) : PE X (.Subscript (.Name x pn) e pos) (rd X.K (cIxV i c)) :=
  ⟨fun pins st σ H Q I hw => by
    have two : tOp (rIx X.K) (tVar i) (rd X.K c) σ H Q ∨ tDGet (tVar i) (rd X.K c) σ H Q := by
      obtain ⟨ω, F, s, d, b, s', sr, h, p⟩ := hw
      unfold cIxV at h
      cases e1 : c s with
      | none => rw [e1] at h; cases h
      | some p1 =>
        obtain ⟨⟨d1, b1⟩, s1⟩ := p1
        rw [e1] at h
        simp only [Option.bind_some] at h
        split at h
        · rename_i ds0 ds k h0 h1
          cases q : atI ds k with
          | none => rw [q] at h; cases h
          | some d0 =>
            rw [q] at h; cases h
            obtain ⟨a, xs, hσ, hH, _⟩ := sr.ownL h0
            refine .inl ⟨_, hσ, rd_use sr e1 fun v F1 H1 x1 r1 hv => ?_⟩
            obtain ⟨a', ys, hσ', hH', hr⟩ := r1.ownL h1
            rw [hσ] at hσ'; cases hσ'
            unfold Rp at hv; subst hv
            obtain ⟨w, h3, h4⟩ := hr.atI q
            exact .inl ⟨a, ys, _, w, rfl, rfl, SqL.of hH', h3, r1.here (b := false) h4 (p.mono x1)⟩
        · rename_i _ ds k h0
          cases q : atI ds k with
          | none => rw [q] at h; cases h
          | some d0 =>
            rw [q] at h; cases h
            obtain ⟨v0, hσ, hr⟩ := sr.sl i _ h0
            refine .inl ⟨_, hσ, rd_use sr e1 fun v F1 H1 x1 r1 hv => ?_⟩
            have hr := hr.mono x1
            unfold Rp at hv hr; subst hv
            obtain ⟨a, xs, rfl, h1, h2⟩ := hr
            obtain ⟨w, h3, h4⟩ := h2.atI q
            exact .inl ⟨a, xs, _, w, rfl, rfl, SqL.of (r1.sub _ _ h1), h3, r1.here (b := false) h4 (p.mono x1)⟩
        · rename_i _ ds k h0
          cases q : atI ds k with
          | none => rw [q] at h; cases h
          | some d0 =>
            rw [q] at h; cases h
            obtain ⟨v0, hσ, hr⟩ := sr.sl i _ h0
            refine .inl ⟨_, hσ, rd_use sr e1 fun v F1 H1 x1 r1 hv => ?_⟩
            have hr := hr.mono x1
            unfold Rp at hv hr; subst hv
            obtain ⟨a, xs, rfl, h1, h2⟩ := hr
            obtain ⟨w, h3, h4⟩ := h2.atI q
            exact .inr (.inl ⟨a, xs, _, w, rfl, rfl, sqt_mono r1.sub h1, h3, r1.here (b := false) h4 (p.mono x1)⟩)
        · rename_i kd x2 x1 x0 ks0 ks h0 h1
          unfold dDGet at h
          dsimp only at h
          cases q1 : keyOf kd with
          | none => rw [q1] at h; cases h
          | some k =>
            rw [q1] at h
            simp only [Option.bind_some] at h
            cases q2 : valD ks k with
            | none => rw [q2] at h; cases h
            | some d0 =>
              rw [q2] at h; cases h
              obtain ⟨a, xs, hσ, hH, _⟩ := sr.ownD h0
              refine .inr ⟨_, hσ, rd_use sr e1 fun v F1 H1 x1 r1 hv => ?_⟩
              obtain ⟨a', ys, hσ', hH', hr⟩ := r1.ownD h1
              rw [hσ] at hσ'; cases hσ'
              have hvk := keyOf_rp hv q1
              rcases hr.val k with ⟨h3, _⟩ | ⟨d2, w, h3, h4, h5⟩
              · rw [q2] at h3; cases h3
              · rw [q2] at h3; cases h3
                exact ⟨a, w, rfl, .inl ⟨ys, k, Rd.of hH', hvk, h4.symm⟩, r1.here (b := false) h5 (p.mono x1)⟩
        · rename_i kd x2 x1 x0 ks h0
          unfold dDGet at h
          dsimp only at h
          cases q1 : keyOf kd with
          | none => rw [q1] at h; cases h
          | some k =>
            rw [q1] at h
            simp only [Option.bind_some] at h
            cases q2 : valD ks k with
            | none => rw [q2] at h; cases h
            | some d0 =>
              rw [q2] at h; cases h
              obtain ⟨v0, hσ, hr⟩ := sr.sl i _ h0
              refine .inr ⟨_, hσ, rd_use sr e1 fun v F1 H1 x1 r1 hv => ?_⟩
              have hr := hr.mono x1
              unfold Rp at hr
              obtain ⟨a, xs, rfl, h1, h2⟩ := hr
              have hvk := keyOf_rp hv q1
              rcases h2.val k with ⟨h3, _⟩ | ⟨d2, w, h3, h4, h5⟩
              · rw [q2] at h3; cases h3
              · rw [q2] at h3; cases h3
                exact ⟨a, w, rfl, .inl ⟨xs, k, rd_mono r1.sub h1, hvk, h4.symm⟩, r1.here (b := false) h5 (p.mono x1)⟩
        · cases h
    rcases two with h | h
    · exact (pe_ix ix_seq hv he hs).run pins st σ H Q I h
    · exact (pe_dget hu hv he hs).run pins st σ H Q I h⟩
theorem p_lenV {p pos : Pos} (hv : PE X (.Name x pn) (tVar i)) (hg : Gl X "len") (hm : X.mg "len" = none)
    (hs : starEach [.Name x pn] X.env = (false, eval (.Name x pn) X.env) :: starEach [] X.env) (hp : (backTo pos (starEach [] X.env)).any (·.1) = false) : PE X (.Call (.Name "len" p) [.Name x pn] [] pos) (rd X.K (cLenV i)) :=
  (pe_callB call_len_seq hg hm PySem.boot_len (pa_cons hv pa_nil hs) (by decide) (by decide) hs hp).imp fun σ H Q hw => by
    obtain ⟨ω, F, s, d, b, s', sr, h, p⟩ := hw
    unfold cLenV at h
    split at h
    · rename_i ds h0
      cases h
      obtain ⟨a, xs, hσ, hH, hr⟩ := sr.ownL h0
      exact ⟨_, hσ, a, xs, rfl, .inl (SqL.of hH), sr.here (b := false) (by show Rp _ _ _ _ _; unfold Rp; rw [hr.len]) p⟩
    · rename_i ds h0
      cases h
      obtain ⟨v0, hσ, hr⟩ := sr.sl i _ h0
      unfold Rp at hr
      obtain ⟨a, xs, rfl, h1, h2⟩ := hr
      exact ⟨_, hσ, a, xs, rfl, .inl (SqL.of (sr.sub _ _ h1)), sr.here (b := false) (by show Rp _ _ _ _ _; unfold Rp; rw [h2.len]) p⟩
    · rename_i ds h0
      cases h
      obtain ⟨v0, hσ, hr⟩ := sr.sl i _ h0
      unfold Rp at hr
      obtain ⟨a, xs, rfl, h1, h2⟩ := hr
      exact ⟨_, hσ, a, xs, rfl, .inr (sqt_mono sr.sub h1), sr.here (b := false) (by show Rp _ _ _ _ _; unfold Rp; rw [h2.len]) p⟩
    · cases h
theorem s_putV {e ei : Expr} {c ci : SE} {tpos pos : Pos} (hv : PE X (.Name x pn) (tVar i)) (hi : PE X ei (rd X.K ci)) (he : PE X e (rd X.K c))
    (hs : swapsWithSole [.Subscript (.Name x pn) ei tpos] e pos.line X.env = pure false) (hw : swappedStores [.Subscript (.Name x pn) ei tpos] e X.env = pure none)
    (ha : ∀ v, assign (.Subscript (.Name x pn) ei tpos) X.env v = (do
      let ov ← holding [v] (eval (.Name x pn) X.env)
      let iv ← holding [v, ov] (eval ei X.env)
      standAt tpos
      holding [v, ov, iv] (setItem ov iv v)
      release [v, ov, iv] []) := by intro _; rfl) : PS X (.Assign [.Subscript (.Name x pn) ei tpos] e pos) (rdS X.K (cPutV i ci c)) :=
  (ps_asg he (pg_sub hv hi set_list ha) hs hw).imp fun D' σ H hw => by
    obtain ⟨ω, F, s, fl, s', sr, h, p⟩ := hw
    unfold cPutV at h
    cases e1 : c s with
    | none => rw [e1] at h; cases h
    | some p1 =>
      obtain ⟨⟨d1, b1⟩, s1⟩ := p1
      rw [e1] at h
      simp only [Option.bind_some] at h
      split at h
      · rename_i ds0 h0
        cases e2 : ci s1 with
        | none => rw [e2] at h; cases h
        | some p2 =>
          obtain ⟨⟨d2, b2⟩, s2⟩ := p2
          rw [e2] at h
          simp only [Option.bind_some] at h
          split at h
          · rename_i ds k h1
            cases e3 : ixN ds.length k with
            | none => rw [e3] at h; cases h
            | some j =>
              rw [e3] at h
              cases h
              refine rd_use sr e1 fun v F1 H1 x1 r1 hv1 => ?_
              obtain ⟨a, xs, hσ, hH, _⟩ := r1.ownL h0
              refine ⟨_, hσ, rd_use r1 e2 fun w F2 H2 x2 r2 hw2 => ?_⟩
              obtain ⟨a', ys, hσ', hH', hr⟩ := r2.ownL h1
              rw [hσ] at hσ'; cases hσ'
              unfold Rp at hw2; subst hw2
              exact ⟨a, ys, k, j, rfl, rfl, hH', by rw [hr.len]; exact e3, p σ F2 _ (x1.trans x2) (r2.mut h1 hσ (.inl ⟨_, _, rfl, rfl, hr.setL j (hv1.mono x2)⟩))⟩
          · cases h
      · cases h
end
/-! ### the pot -/
def getP (t : Int × Int × Int) : Nat → Int
  | 0 => t.1 | 1 => t.2.1 | _ => t.2.2
def setP (t : Int × Int × Int) : Nat → Int → Int × Int × Int
  | 0, i => (i, t.2.1, t.2.2) | 1, i => (t.1, i, t.2.2) | _, i => (t.1, t.2.1, i)
def cPotGet (i k : Nat) : SE := fun s => match s.r[i]?, s.p with
  | some (.val .pot), some t => some ((.int (getP t k), false), s)
  | _, _ => none
def cPotSet (i k : Nat) (c : SE) : SS := fun s => (c s).bind fun p => match p.2.r[i]?, p.2.p, p.1.1 with
  | some (.val .pot), some t, .int n => some (.nx, { p.2 with p := some (setP t k n) })
  | _, _, _ => none
section
variable {K : PySem.W.Frag} {ω : Wd} {F : Hp} {σ : L2.St} {H : Hp} {s : S} {i : Nat} {t : Int × Int × Int}
theorem Sr.potAt (r : Sr K ω F σ H s) (h : s.r[i]? = some (.val .pot)) (ht : s.p = some t) : ∃ a, ω.P = some a ∧ σ[i]? = some (some (.ref a)) ∧ H a = some (.lst [.int t.1, .int t.2.1, .int t.2.2]) ∧ F a = none := by
  obtain ⟨v, hv, hp⟩ := r.sl i _ h
  unfold Rp at hp
  obtain ⟨a, ha, rfl⟩ := hp
  have q := r.pt
  rw [ht] at q
  obtain ⟨b, hb, h1, h2⟩ := q
  rw [ha] at hb; cases hb
  exact ⟨a, ha, hv, h1, h2⟩
theorem Sr.potPut (r : Sr K ω F σ H s) (ht : s.p = some t) {u : Int × Int × Int} {a : Addr} (ha : ω.P = some a) : Sr K ω F σ (upd H a (.lst [.int u.1, .int u.2.1, .int u.2.2])) { s with p := some u } := by
  have q := r.pt
  rw [ht] at q
  obtain ⟨b, hb, h1, h2⟩ := q
  rw [ha] at hb; cases hb
  refine ⟨r.len, r.sub.updR h2, fun c v hc e => ?_, r.new, ⟨a, ha, upd_same, h2⟩, fun j b e => ?_, r.dis⟩
  · have : c ≠ a := fun z => hc (by rw [ha, z])
    rw [upd_ne this]; exact r.frm c v hc e
  · refine (r.sl j b e).mono (Ex.refl F) fun c hc hx _ hFc => ⟨upd_ne fun z => ?_, hFc⟩
    obtain ⟨d, rfl⟩ := hc
    obtain ⟨v, hv, ho⟩ := r.sl j _ e
    obtain ⟨a', o, ea, _, _, _, hP, _⟩ := ho.is
    rw [hx] at hv; cases hv; cases ea
    exact hP (by rw [ha, z])
end
section
variable {X : Cx} {i : Nat} {x : Str} {pn : Pos}
theorem p_potGet {k : Nat} {j : Nat} {pk pos : Pos} (hk : k < 3) (hv : PE X (.Name x pn) (tVar i)) (hs : ∀ o z, subscripted (.Constant (.int (k : Int)) j pk) false o z = operate [o, z] (getItem o z)) : PE X (.Subscript (.Name x pn) (.Constant (.int (k : Int)) j pk) pos) (rd X.K (cPotGet i k)) :=
  (pe_ix ix_list hv pe_int hs).imp fun σ H Q hw => by
    obtain ⟨ω, F, s, d, b, s', sr, h, p⟩ := hw
    unfold cPotGet at h
    split at h
    · rename_i t h0 ht
      cases h
      obtain ⟨a, ha, hσ, hH, _⟩ := sr.potAt h0 ht
      refine ⟨_, hσ, a, _, _, .int (getP t k), rfl, rfl, SqL.of hH, atI_nat ?_, sr.here (b := false) (by show Rp _ _ _ _ _; unfold Rp; rfl) p⟩
      match k, hk with
      | 0, _ => rfl
      | 1, _ => rfl
      | 2, _ => rfl
    · cases h
theorem s_potSet {k : Nat} {j : Nat} {e : Expr} {c : SE} {pk tpos pos : Pos} (hk : k < 3) (hv : PE X (.Name x pn) (tVar i)) (he : PE X e (rd X.K c))
    (hs : swapsWithSole [.Subscript (.Name x pn) (.Constant (.int (k : Int)) j pk) tpos] e pos.line X.env = pure false) (hw : swappedStores [.Subscript (.Name x pn) (.Constant (.int (k : Int)) j pk) tpos] e X.env = pure none) :
    PS X (.Assign [.Subscript (.Name x pn) (.Constant (.int (k : Int)) j pk) tpos] e pos) (rdS X.K (cPotSet i k c)) :=
  (ps_asg he (pg_sub hv pe_int set_list) hs hw).imp fun D' σ H hw => by
    obtain ⟨ω, F, s, fl, s', sr, h, p⟩ := hw
    unfold cPotSet at h
    cases e1 : c s with
    | none => rw [e1] at h; cases h
    | some p1 =>
      obtain ⟨⟨d1, b1⟩, s1⟩ := p1
      rw [e1] at h
      simp only [Option.bind_some] at h
      split at h
      · rename_i t n h0 ht
        cases h
        refine rd_use sr e1 fun v F1 H1 x1 r1 hv1 => ?_
        obtain ⟨a, ha, hσ, hH, _⟩ := r1.potAt h0 ht
        unfold Rp at hv1; subst hv1
        refine ⟨_, hσ, a, _, _, k, rfl, rfl, hH, by show ixN 3 (k : Int) = some k; unfold ixN; rw [if_pos (by omega), if_pos (by omega)]; simp, ?_⟩
        have q := p σ F1 _ x1 (r1.potPut ht (u := setP t k n) ha)
        match k, hk, q with
        | 0, _, q => exact q
        | 1, _, q => exact q
        | 2, _, q => exact q
      · cases h
end
end Rb

namespace Rb
open PySem PySem.Spec PyProof.Rows L2
open Classical in
/-- all that stands now, but what slots hold alone, is to stay -/
noncomputable def protW (ω : Wd) (F : Hp) (σ : L2.St) (H : Hp) (s : S) : Wd := ⟨ω.P, fun a => if (∃ (i : Nat) (d : D), s.r[i]? = some (.own d) ∧ σ[i]? = some (some (.ref a))) then none else H a, F⟩
def Owned (σ : L2.St) (s : S) (a : Addr) : Prop := ∃ (i : Nat) (d : D), s.r[i]? = some (.own d) ∧ σ[i]? = some (some (.ref a))
section
variable {K : PySem.W.Frag} {ω : Wd} {F F' : Hp} {σ σ' : L2.St} {H H' : Hp} {s s' : S} {v : V} {d : D} {b : Bool} {a : Addr}
theorem prot_own (h : Owned σ s a) : (protW ω F σ H s).H0 a = none := if_pos h
theorem prot_not (h : ¬ Owned σ s a) : (protW ω F σ H s).H0 a = H a := if_neg h
theorem Sr.ownAt (r : Sr K ω F σ H s) (h : Owned σ s a) : (∃ o, H a = some o) ∧ F a = none ∧ ω.H0 a = none ∧ ω.P ≠ some a := by
  obtain ⟨i, d, h1, h2⟩ := h
  obtain ⟨v, h3, h4⟩ := r.sl i _ h1
  rw [h2] at h3; cases h3
  obtain ⟨c, o, ec, g1, g2, g3, g4, _⟩ := h4.is
  cases ec
  exact ⟨⟨o, g1⟩, g2, g3, g4⟩
theorem Own.world {ω' : Wd} (h : Own K ω F H v d) (hP : ω'.P = ω.P) (h0 : ∀ a, v = .ref a → ω'.H0 a = none) : Own K ω' F H v d := by
  cases d <;> first | exact h.elim | skip
  · obtain ⟨a, xs, h1, h2, h3, h4, h5, h6⟩ := h
    exact ⟨a, xs, h1, h2, h3, h0 a h1, by rw [hP]; exact h5, by rw [hP]; exact h6⟩
  · obtain ⟨a, xs, h1, h2, h3, h4, h5, h6⟩ := h
    exact ⟨a, xs, h1, h2, h3, h0 a h1, by rw [hP]; exact h5, by rw [hP]; exact h6⟩
theorem Sr.prot (r : Sr K ω F σ H s) : Sr K (protW ω F σ H s) F σ H s where
  len := r.len
  sub := r.sub
  frm a o hP h := by
    by_cases q : Owned σ s a
    · rw [prot_own q] at h; cases h
    · rw [prot_not q] at h; exact h
  new a o h := .inl h
  pt := r.pt
  sl i b h := by
    have q := r.sl i b h
    cases b with
    | no => trivial
    | val d => exact q
    | own d =>
      obtain ⟨v, h1, h2⟩ := q
      exact ⟨v, h1, h2.world rfl fun a ea => prot_own ⟨i, d, h, by rw [h1, ea]⟩⟩
  dis := r.dis
theorem Sr.h0of (r : Sr K ω F σ H s) (h : (protW ω F σ H s).H0 a = none) : ω.H0 a = none := by
  by_cases q : Owned σ s a
  · exact (r.ownAt q).2.2.1
  · rw [prot_not q] at h; exact r.h0 h
theorem Sr.unprot (r : Sr K ω F σ H s) (t : Sr K (protW ω F σ H s) F' σ' H' s') : Sr K ω F' σ' H' s' where
  len := t.len
  sub := t.sub
  frm a o hP h := by
    have q : ¬ Owned σ s a := fun z => by rw [(r.ownAt z).2.2.1] at h; cases h
    exact t.frm a o hP (by rw [prot_not q]; exact r.frm a o hP h)
  new a o h := by
    rcases t.new a o h with q | q
    · exact r.new a o q
    · exact .inr (r.h0of q)
  pt := t.pt
  sl i b h := by
    have q := t.sl i b h
    cases b with
    | no => trivial
    | val d => exact q
    | own d =>
      obtain ⟨v, h1, h2⟩ := q
      refine ⟨v, h1, h2.world rfl fun a ea => ?_⟩
      obtain ⟨c, o, ec, _, _, g3, _⟩ := h2.is
      rw [ec] at ea; cases ea
      exact r.h0of g3
  dis := t.dis
/-- what is kept -/
def Kept (ω : Wd) (F : Hp) (σ : L2.St) (H : Hp) (s : S) (F' : Hp) (σ' : L2.St) (H' : Hp) (s' : S) : Prop := ∀ a o, ω.P ≠ some a → ¬ Owned σ s a → H a = some o → H' a = some o ∧ (F a = none → F' a = none) ∧ ¬ Owned σ' s' a
theorem Sr.kept (r : Sr K ω F σ H s) (t : Sr K (protW ω F σ H s) F' σ' H' s') : Kept ω F σ H s F' σ' H' s' := fun a o hP hn h => by
  have e : (protW ω F σ H s).H0 a = some o := by rw [prot_not hn]; exact h
  refine ⟨t.frm a o hP e, fun hF => ?_, fun z => ?_⟩
  · cases q : F' a with
    | none => rfl
    | some u =>
      rcases t.new a u q with q2 | q2
      · rw [show F a = some u from q2] at hF; cases hF
      · rw [e] at q2; cases q2
  · have := (t.ownAt z).2.2.1
    rw [e] at this; cases this
theorem Sr.rpr (r : Sr K ω F σ H s) {σ2 : L2.St} (t : Sr K (protW ω F σ H s) F' σ2 H' s') (h : RpR K (protW ω F σ H s) F' σ2 H' s' v d b) : RpR K ω F' σ2 H' s' v d b := by
  cases b with
  | false => exact h
  | true =>
    obtain ⟨h1, h2⟩ := h
    refine ⟨h1.world rfl fun a ea => ?_, h2⟩
    obtain ⟨c, o, ec, _, _, g3, _⟩ := h1.is
    rw [ec] at ea; cases ea
    exact r.h0of g3
theorem rd_keep {e : SE} {R : VK} (r : Sr K ω F σ H s) (h : e s = some ((d, b), s')) (q : ∀ v F' H', Ex F F' → Sr K ω F' σ H' s' → RpR K ω F' σ H' s' v d b → Kept ω F σ H s F' σ H' s' → (b = true → ∀ a, v = .ref a → Owned σ s a ∨ H a = none) → R v H') : rd K e σ H R :=
  ⟨protW ω F σ H s, F, s, d, b, s', r.prot, h, fun v F1 H1 x1 t hv => q v F1 H1 x1 (r.unprot t) (r.rpr t hv) (r.kept t) fun hb a ea => by
    subst hb
    obtain ⟨c, o, ec, _, _, g3, _⟩ := hv.1.is
    rw [ec] at ea; cases ea
    by_cases z : Owned σ s a
    · exact .inl z
    · rw [prot_not z] at g3; exact .inr g3⟩
theorem rdT_keep {e : ST} {c : Bool} {R : Bool → Hp → Prop} (r : Sr K ω F σ H s) (h : e s = some (c, s')) (q : ∀ F' H', Ex F F' → Sr K ω F' σ H' s' → Kept ω F σ H s F' σ H' s' → R c H') : rdT K e σ H R :=
  ⟨protW ω F σ H s, F, s, c, s', r.prot, h, fun F1 H1 x1 t => q F1 H1 x1 (r.unprot t) (r.kept t)⟩
/-- a slot is stored -/
theorem Sr.setS {i : Nat} (r : Sr K ω F σ H s) (h : RpR K ω F σ H s v d b) : Sr K ω F (σ.set i (some v)) H { s with r := s.r.set i (if b then .own d else .val d) } := by
  refine ⟨by simp [r.len], r.sub, r.frm, r.new, r.pt, fun j c e => ?_, fun j k d1 d2 w hjk h1 h2 h3 h4 => ?_⟩
  · have e : (s.r.set i (if b then .own d else .val d))[j]? = some c := e
    by_cases q : i = j
    · subst q
      by_cases hi : i < s.r.length
      · rw [List.getElem?_set_self hi] at e; cases e
        have hσ : (σ.set i (some v))[i]? = some (some v) := List.getElem?_set_self (by rw [r.len]; exact hi)
        cases b with
        | false => exact ⟨v, hσ, h⟩
        | true => exact ⟨v, hσ, h.1⟩
      · rw [List.getElem?_eq_none (by simpa using hi)] at e; cases e
    · rw [List.getElem?_set_ne q] at e
      rw [List.getElem?_set_ne q]
      exact r.sl j c e
  · have h1 : (s.r.set i (if b then .own d else .val d))[j]? = some (.own d1) := h1
    have h2 : (s.r.set i (if b then .own d else .val d))[k]? = some (.own d2) := h2
    have key : ∀ (j k : Nat) d1 d2, i = j → i ≠ k → (s.r.set i (if b then .own d else .val d))[j]? = some (.own d1) → (s.r.set i (if b then .own d else .val d))[k]? = some (.own d2) → (σ.set i (some v))[j]? = some (some w) → (σ.set i (some v))[k]? = some (some w) → False := fun j k d1 d2 hj hk g1 g2 g3 g4 => by
      subst hj
      have hi : i < s.r.length := by have := getElem?_ltL g1; simpa using this
      rw [List.getElem?_set_self hi] at g1
      rw [List.getElem?_set_self (by rw [r.len]; exact hi)] at g3
      rw [List.getElem?_set_ne hk] at g2 g4
      cases g3
      cases b with
      | false => cases g1
      | true => exact h.2 k d2 g2 g4
    by_cases qj : i = j
    · exact key j k d1 d2 qj (fun z => hjk (qj.symm.trans z)) h1 h2 h3 h4
    · by_cases qk : i = k
      · exact key k j d2 d1 qk qj h2 h1 h4 h3
      · rw [List.getElem?_set_ne qj] at h1 h3
        rw [List.getElem?_set_ne qk] at h2 h4
        exact r.dis j k d1 d2 w hjk h1 h2 h3 h4
end

/-! ### statements -/
def cSkip : SS := fun s => some (.nx, s)
def cSeq (a b : SS) : SS := fun s => (a s).bind fun p => match p.1 with
  | .nx => b p.2
  | f => some (f, p.2)
def cIf (t : ST) (a b : SS) : SS := fun s => (t s).bind fun p => if p.1 then a p.2 else b p.2
def cRet (c : SE) : SS := fun s => (c s).map fun p => (.rt p.1.1, p.2)
def cRetN : SS := fun s => some (.rt .non, s)
def cNever : SS := fun _ => none
def cCont : SS := fun s => some (.ct, s)
def cBrk : SS := fun s => some (.bk, s)
def bdOf (p : D × Bool) : Bd := if p.2 then .own p.1 else .val p.1
def cSet (i : Nat) (c : SE) : SS := fun s => (c s).map fun p => (.nx, { p.2 with r := p.2.r.set i (bdOf p.1) })
def cPar (i j : Nat) (a b : SE) : SS := fun s => (a s).bind fun p => (b p.2).map fun q => (.nx, { q.2 with r := (q.2.r.set i (bdOf p.1)).set j (bdOf q.1) })
def cPar3 (i j k : Nat) (a b c : SE) : SS := fun s => (a s).bind fun p => (b p.2).bind fun q => (c q.2).map fun t => (.nx, { t.2 with r := ((t.2.r.set i (.val p.1.1)).set j (.val q.1.1)).set k (.val t.1.1) })
def cAug (i : Nat) (g : Int → Int → Int) (c : SE) : SS := fun s => match s.r[i]? with
  | some (.val (.int a)) => (c s).bind fun p => match p.1.1 with
    | .int b => some (.nx, { p.2 with r := p.2.r.set i (.val (.int (g a b))) })
    | _ => none
  | _ => none
section
variable {K : PySem.W.Frag} {ω : Wd} {F F' : Hp} {D' : Ends} {s : S} {fl : Fl}
theorem EndOk.mono (h : EndOk K ω F D' s fl) (e : Ex F F') : EndOk K ω F' D' s fl := by
  cases fl with
  | nx => exact fun σ F2 H2 e2 => h σ F2 H2 (e.trans e2)
  | bk => exact fun σ F2 H2 e2 => h σ F2 H2 (e.trans e2)
  | ct => exact fun σ F2 H2 e2 => h σ F2 H2 (e.trans e2)
  | rt d => exact fun v σ F2 H2 e2 => h v σ F2 H2 (e.trans e2)
theorem EndOk.ends {D2 : Ends} (h : EndOk K ω F D' s fl) (h1 : ∀ σ H, D'.nx σ H → D2.nx σ H) (h2 : ∀ σ H, D'.bk σ H → D2.bk σ H) (h3 : ∀ σ H, D'.ct σ H → D2.ct σ H) (h4 : ∀ v H, D'.rt v H → D2.rt v H) : EndOk K ω F D2 s fl := by
  cases fl with
  | nx => exact fun σ F2 H2 e2 r => h1 _ _ (h σ F2 H2 e2 r)
  | bk => exact fun σ F2 H2 e2 r => h2 _ _ (h σ F2 H2 e2 r)
  | ct => exact fun σ F2 H2 e2 r => h3 _ _ (h σ F2 H2 e2 r)
  | rt d => exact fun v σ F2 H2 e2 r x => h4 _ _ (h v σ F2 H2 e2 r x)
theorem RpR.of (h : Rp K ω.P F d v) : RpR K ω F σ H s v d false := h
end
section
variable {X : Cx}
theorem s_pass {pos : Pos} : PS X (.Pass pos) (rdS X.K cSkip) := ps_pass.imp fun D' σ H ⟨ω, F, s, fl, s', sr, h, p⟩ => by
  cases h
  exact p σ F H (Ex.refl F) sr
theorem s_cont {pos : Pos} : PS X (.Continue pos) (rdS X.K cCont) := ps_continue.imp fun D' σ H ⟨ω, F, s, fl, s', sr, h, p⟩ => by
  cases h
  exact p σ F H (Ex.refl F) sr
theorem s_brk {pos : Pos} : PS X (.Break pos) (rdS X.K cBrk) := ps_break.imp fun D' σ H ⟨ω, F, s, fl, s', sr, h, p⟩ => by
  cases h
  exact p σ F H (Ex.refl F) sr
theorem s_never {st : Stmt} : PS X st (rdS X.K cNever) := ps_never.imp fun D' σ H ⟨ω, F, s, fl, s', sr, h, p⟩ => by
  cases h
theorem ss_nil : PSs X [] (rdS X.K cSkip) := pss_nil.imp fun D' σ H ⟨ω, F, s, fl, s', sr, h, p⟩ => by
  cases h
  exact p σ F H (Ex.refl F) sr
theorem ss_one {st : Stmt} {c : SS} (h : PS X st (rdS X.K c)) : PSs X [st] (rdS X.K c) := pss_one h
theorem ss_cons {st : Stmt} {r : List Stmt} {c1 c2 : SS} (h1 : PS X st (rdS X.K c1)) (h2 : PSs X r (rdS X.K c2)) : PSs X (st :: r) (rdS X.K (cSeq c1 c2)) :=
  (pss_cons h1 h2).imp fun D' σ H ⟨ω, F, s, fl, s', sr, h, p⟩ => by
    unfold cSeq at h
    cases e1 : c1 s with
    | none => rw [e1] at h; cases h
    | some p1 =>
      obtain ⟨f1, s1⟩ := p1
      rw [e1] at h
      simp only [Option.bind_some] at h
      refine ⟨ω, F, s, f1, s1, sr, e1, ?_⟩
      cases f1 with
      | nx =>
        intro σ2 F2 H2 x2 r2
        exact ⟨ω, F2, s1, fl, s', r2, h, p.mono x2⟩
      | bk => cases h; exact p
      | ct => cases h; exact p
      | rt d => cases h; exact p
theorem s_if {c : Expr} {a b : List Stmt} {t : ST} {ca cb : SS} {pos : Pos} (hc : PT X c (rdT X.K t)) (ha : PSs X a (rdS X.K ca)) (hb : PSs X b (rdS X.K cb)) : PS X (.If c a b pos) (rdS X.K (cIf t ca cb)) :=
  (ps_if hc ha hb).imp fun D' σ H ⟨ω, F, s, fl, s', sr, h, p⟩ => by
    unfold cIf at h
    cases e1 : t s with
    | none => rw [e1] at h; cases h
    | some p1 =>
      obtain ⟨b1, s1⟩ := p1
      rw [e1] at h
      simp only [Option.bind_some] at h
      refine rdT_use sr e1 fun F1 H1 x1 r1 => ?_
      cases b1
      · exact ⟨ω, F1, s1, fl, s', r1, h, p.mono x1⟩
      · exact ⟨ω, F1, s1, fl, s', r1, h, p.mono x1⟩
theorem s_ret {e : Expr} {c : SE} {pos : Pos} (he : PE X e (rd X.K c)) : PS X (.Return (some e) pos) (rdS X.K (cRet c)) :=
  (ps_ret he).imp fun D' σ H ⟨ω, F, s, fl, s', sr, h, p⟩ => by
    unfold cRet at h
    cases e1 : c s with
    | none => rw [e1] at h; cases h
    | some p1 =>
      obtain ⟨⟨d1, b1⟩, s1⟩ := p1
      rw [e1] at h
      cases h
      exact rd_use sr e1 fun v F1 H1 x1 r1 hv => p v σ F1 H1 x1 r1 hv
theorem s_retN {pos : Pos} : PS X (.Return none pos) (rdS X.K cRetN) :=
  ps_retN.imp fun D' σ H ⟨ω, F, s, fl, s', sr, h, p⟩ => by
    cases h
    exact p .non σ F H (Ex.refl F) sr (by unfold Rp; rfl)
theorem s_set {i : Nat} {x : Str} {e : Expr} {c : SE} {pos pos' : Pos} (hN : X.N.Nodup) (hi : X.N[i]? = some x) (hx : Loc X.env.scope x) (he : PE X e (rd X.K c)) (hs : swapsWith e (some (.Name x pos')) pos.line X.env = pure false := by rfl) (hf : X.fn x = true ∨ X.env.scope.names.lookup x = some .local := by first | exact .inl rfl | exact .inr rfl | assumption) :
    PS X (.Assign [.Name x pos'] e pos) (rdS X.K (cSet i c)) :=
  (ps_set hN hi hx he hs hf).imp fun D' σ H ⟨ω, F, s, fl, s', sr, h, p⟩ => by
    unfold cSet at h
    cases e1 : c s with
    | none => rw [e1] at h; cases h
    | some p1 =>
      obtain ⟨⟨d1, b1⟩, s1⟩ := p1
      rw [e1] at h
      cases h
      exact rd_keep sr e1 fun v F1 H1 x1 r1 hv _ _ => p _ F1 H1 x1 (r1.setS hv)
/-- both are kept as they are, then stored -/
theorem par_go {K : PySem.W.Frag} {i j : Nat} {ca cb : SE} {σ : L2.St} {H : Hp} {D' : Ends} {ω : Wd} {F : Hp} {s s1 s2 : S} {d1 d2 : D} {b1 b2 : Bool} (sr : Sr K ω F σ H s) (e1 : ca s = some ((d1, b1), s1)) (e2 : cb s1 = some ((d2, b2), s2)) (hij : i ≠ j)
    (p : EndOk K ω F D' { s2 with r := (s2.r.set i (bdOf (d1, b1))).set j (bdOf (d2, b2)) } .nx) :
    rd K ca σ H fun x H1 => rd K cb σ H1 fun y H2 => D'.nx ((σ.set i (some x)).set j (some y)) H2 := by
  refine rd_keep sr e1 fun v F1 H1 x1 r1 hv _ _ => ?_
  refine rd_keep r1 e2 fun u F2 H2 x2 r2 hu kp hnw => ?_
  have hv2 : RpR K ω F2 σ H2 s2 v d1 b1 := by
    cases b1 with
    | false => exact Rp.mono x2 hv
    | true =>
      obtain ⟨ho, hn⟩ := hv
      obtain ⟨a, o, ea, ha, hF, h0, hP, _⟩ := ho.is
      have nO : ¬ Owned σ s1 a := fun ⟨i, d, g1, g2⟩ => hn i d g1 (by rw [g2, ea])
      obtain ⟨k1, k2, k3⟩ := kp a o hP nO ha
      refine ⟨ho.mono x2 fun c ec _ _ => ?_, fun i d g1 g2 => k3 ⟨i, d, g1, by rw [g2, ea]⟩⟩
      rw [ea] at ec; cases ec
      exact ⟨by rw [k1, ha], k2 hF⟩
  have r3 := r2.setS (i := i) hv2
  -- the second one is still nobody's
  have hu3 : RpR K ω F2 (σ.set i (some v)) H2 { s2 with r := s2.r.set i (if b1 then .own d1 else .val d1) } u d2 b2 := by
    cases b2 with
    | false => exact hu
    | true =>
      refine ⟨hu.1, fun k d g1 g2 => ?_⟩
      have g1 : (s2.r.set i (if b1 then .own d1 else .val d1))[k]? = some (.own d) := g1
      by_cases q : i = k
      · subst q
        have hi : i < s2.r.length := by have := getElem?_ltL g1; simpa using this
        rw [List.getElem?_set_self hi] at g1
        rw [List.getElem?_set_self (by rw [r2.len]; exact hi)] at g2
        cases b1 with
        | false => cases g1
        | true =>
          cases g2
          -- u = v: v stood ahead of the second
          obtain ⟨a, o, ea, ha, hF, h0, hP, _⟩ := hv.1.is
          have nO : ¬ Owned σ s1 a := fun ⟨i, d, g1, g2⟩ => hv.2 i d g1 (by rw [g2, ea])
          rcases hnw rfl a ea with z | z
          · exact nO z
          · rw [ha] at z; cases z
      · rw [List.getElem?_set_ne q] at g1 g2
        exact hu.2 k d g1 g2
  exact p _ F2 H2 (x1.trans x2) (r3.setS hu3)

theorem bind2 {α β : Type} {x : Option α} {f : α → Option β} {z : β} (h : x.bind f = some z) : ∃ a, x = some a ∧ f a = some z := by
  cases x with
  | none => cases h
  | some a => exact ⟨a, rfl, h⟩
theorem map2 {α β : Type} {x : Option α} {f : α → β} {z : β} (h : x.map f = some z) : ∃ a, x = some a ∧ f a = z := by
  cases x with
  | none => cases h
  | some a => cases h; exact ⟨a, rfl, rfl⟩
theorem s_par {i j : Nat} {x y : Str} {a b : Expr} {ca cb : SE} {px py pt pos : Pos} {kt k2 pt2} (hc : X.calm = true) (hN : X.N.Nodup) (hi : X.N[i]? = some x) (hj : X.N[j]? = some y) (hij : i ≠ j)
    (hx : X.env.scope.names.lookup x = some .local) (hy : X.env.scope.names.lookup y = some .local) (ha : PE X a (rd X.K ca)) (hb : PE X b (rd X.K cb))
    (hsa : starEach [a, b] X.env = (false, eval a X.env) :: starEach [b] X.env) (hsb : starEach [b] X.env = (false, eval b X.env) :: starEach [] X.env)
    (hw : swappedStores [.Tuple [.Name x px, .Name y py] kt pt] (.Tuple [a, b] k2 pt2) X.env = pure (some [x, y]))
    (hs : swapsWithSole [.Tuple [.Name x px, .Name y py] kt pt] (.Tuple [a, b] k2 pt2) pos.line X.env = pure false) :
    PS X (.Assign [.Tuple [.Name x px, .Name y py] kt pt] (.Tuple [a, b] k2 pt2) pos) (rdS X.K (cPar i j ca cb)) :=
  (ps_par hc hN hi hj hij hx hy (pa_cons ha (pa_cons hb pa_nil hsb) hsa) hw hs).imp fun D' σ H ⟨ω, F, s, fl, s', sr, h, p⟩ => by
    unfold cPar at h
    obtain ⟨⟨⟨d1, b1⟩, s1⟩, e1, h⟩ := bind2 h
    obtain ⟨⟨⟨d2, b2⟩, s2⟩, e2, h⟩ := map2 h
    cases h
    have q := par_go sr e1 e2 hij p
    obtain ⟨ω', F', s0, d, b', s0', t1, t2, t3⟩ := q
    refine ⟨ω', F', s0, d, b', s0', t1, t2, fun v F1 H1 x1 r1 hv => ?_⟩
    obtain ⟨ω2, F2, s3, d3, b3, s3', u1, u2, u3⟩ := t3 v F1 H1 x1 r1 hv
    exact ⟨ω2, F2, s3, d3, b3, s3', u1, u2, fun v2 F3 H3 x3 r3 hv3 => ⟨_, _, rfl, u3 v2 F3 H3 x3 r3 hv3⟩⟩
theorem s_par3 {i j l : Nat} {x y z : Str} {a b c : Expr} {ca cb cc : SE} {px py pz pt pos : Pos} {kt k2 pt2} (hc : X.calm = true) (hN : X.N.Nodup) (hi : X.N[i]? = some x) (hj : X.N[j]? = some y) (hl : X.N[l]? = some z) (hij : i ≠ j) (hil : i ≠ l) (hjl : j ≠ l)
    (hx : X.env.scope.names.lookup x = some .local) (hy : X.env.scope.names.lookup y = some .local) (hz : X.env.scope.names.lookup z = some .local) (ha : PE X a (rd X.K ca)) (hb : PE X b (rd X.K cb)) (hcc : PE X c (rd X.K cc))
    (hsa : starEach [a, b, c] X.env = (false, eval a X.env) :: starEach [b, c] X.env) (hsb : starEach [b, c] X.env = (false, eval b X.env) :: starEach [c] X.env) (hsc : starEach [c] X.env = (false, eval c X.env) :: starEach [] X.env)
    (hw : swappedStores [.Tuple [.Name x px, .Name y py, .Name z pz] kt pt] (.Tuple [a, b, c] k2 pt2) X.env = pure (some [x, y, z]))
    (hs : swapsWithSole [.Tuple [.Name x px, .Name y py, .Name z pz] kt pt] (.Tuple [a, b, c] k2 pt2) pos.line X.env = pure false) :
    PS X (.Assign [.Tuple [.Name x px, .Name y py, .Name z pz] kt pt] (.Tuple [a, b, c] k2 pt2) pos) (rdS X.K (cPar3 i j l ca cb cc)) :=
  (ps_par3 hc hN hi hj hl hij hil hjl hx hy hz (pa_cons ha (pa_cons hb (pa_cons hcc pa_nil hsc) hsb) hsa) hw hs).imp fun D' σ H ⟨ω, F, s, fl, s', sr, h, p⟩ => by
    unfold cPar3 at h
    obtain ⟨⟨⟨d1, b1⟩, s1⟩, e1, h⟩ := bind2 h
    obtain ⟨⟨⟨d2, b2⟩, s2⟩, e2, h⟩ := bind2 h
    obtain ⟨⟨⟨d3, b3⟩, s3⟩, e3, h⟩ := map2 h
    cases h
    refine rd_use sr e1 fun v F1 H1 x1 r1 hv => rd_use r1 e2 fun u F2 H2 x2 r2 hu => rd_use r2 e3 fun w F3 H3 x3 r3 hw => ⟨_, _, _, rfl, ?_⟩
    have g1 := r3.setS (i := i) (b := false) (d := d1) (v := v) (hv.mono (x2.trans x3))
    have g2 := g1.setS (i := j) (b := false) (d := d2) (v := u) (hu.mono x3)
    have g3 := g2.setS (i := l) (b := false) (d := d3) (v := w) hw
    exact p _ F3 H3 ((x1.trans x2).trans x3) g3
theorem s_aug {i : Nat} {x : Str} {e : Expr} {c : SE} {op : Operator} {g : Int → Int → Int} {pos pos' : Pos} (hN : X.N.Nodup) (hi : X.N[i]? = some x) (hx : Loc X.env.scope x) (he : PE X e (rd X.K c)) (ho : PIp X op (ipI g)) (hf : X.fn x = true ∨ X.env.scope.names.lookup x = some .local := by first | exact .inl rfl | exact .inr rfl | assumption) :
    PS X (.AugAssign (.Name x pos') op e pos) (rdS X.K (cAug i g c)) :=
  (ps_aug hN hi hx he ho hf).imp fun D' σ H ⟨ω, F, s, fl, s', sr, h, p⟩ => by
    unfold cAug at h
    split at h
    · rename_i a h0
      obtain ⟨⟨⟨d1, b1⟩, s1⟩, e1, h⟩ := bind2 h
      obtain ⟨v0, hσ, hr⟩ := sr.sl i _ h0
      unfold Rp at hr; subst hr
      dsimp only at h
      split at h
      · cases h
        refine ⟨_, hσ, rd_use sr e1 fun v F1 H1 x1 r1 hv => ?_⟩
        unfold Rp at hv; subst hv
        exact ⟨_, _, rfl, rfl, p _ F1 H1 x1 (r1.setS (b := false) (by show Rp _ _ _ _ _; unfold Rp; rfl))⟩
      · cases h
    · cases h
end

/-! ### targets -/
def rdG (K : PySem.W.Frag) (ts : List Nat) (g : D → S → Option S) : TG := fun v σ H Q => ∃ ω F s d s', Sr K ω F σ H s ∧ Rp K ω.P F d v ∧ g d s = some s' ∧ ∀ σ' F' H', (∀ vs, (∀ i ∈ ts, i ∈ vs) → wipe σ' vs = wipe σ vs) → Ex F F' → Sr K ω F' σ' H' s' → Q σ' H'
def rdGs (K : PySem.W.Frag) (ts : List Nat) (g : List D → S → Option S) : TGs := fun vs σ H Q => ∃ ω F s ds s', Sr K ω F σ H s ∧ RpL K ω.P F ds vs ∧ g ds s = some s' ∧ ∀ σ' F' H', (∀ vs, (∀ i ∈ ts, i ∈ vs) → wipe σ' vs = wipe σ vs) → Ex F F' → Sr K ω F' σ' H' s' → Q σ' H'
def gN (i : Nat) : D → S → Option S := fun d s => some { s with r := s.r.set i (.val d) }
def gsNil : List D → S → Option S := fun ds s => match ds with
  | [] => some s
  | _ => none
def gsCons (g : D → S → Option S) (gs : List D → S → Option S) : List D → S → Option S := fun ds s => match ds with
  | d :: r => (g d s).bind fun s1 => gs r s1
  | _ => none
def gT (n : Nat) (g : List D → S → Option S) : D → S → Option S := fun d s => match d with
  | .tup ds => if ds.length = n then g ds s else none
  | .lst ds => if ds.length = n then g ds s else none
  | _ => none
theorem wipe_get {σ : L2.St} {j : Nat} : ∀ {vs : List Nat}, (wipe σ vs)[j]? = if j ∈ vs then (if j < σ.length then some none else none) else σ[j]?
  | [] => by simp [wipe]
  | v :: vs => by
    have ih := wipe_get (σ := σ) (j := j) (vs := vs)
    unfold wipe
    rw [List.getElem?_set, wipe_length, ih]
    by_cases h : v = j
    · subst h
      simp
    · rw [if_neg h]
      by_cases h2 : j ∈ vs
      · simp [h2]
      · have : ¬ j ∈ v :: vs := by simp [h2, Ne.symm h]
        simp [h2, Ne.symm h]
theorem wipe_set {σ : L2.St} {i : Nat} {x : Option V} {vs : List Nat} (h : i ∈ vs) : wipe (σ.set i x) vs = wipe σ vs := by
  refine List.ext_getElem? fun j => ?_
  rw [wipe_get, wipe_get, List.length_set]
  by_cases q : j ∈ vs
  · simp [q]
  · have : i ≠ j := fun z => q (z ▸ h)
    rw [if_neg q, if_neg q, List.getElem?_set_ne this]
section
variable {X : Cx}
theorem _root_.L2.PG.imp {X : Cx} {tg : Expr} {t t' : TG} (h : PG X tg t) (q : ∀ v σ H Q, t' v σ H Q → t v σ H Q) : PG X tg t' := ⟨fun pins s σ H v u Q I r hw => h.run pins s σ H v u Q I r (q v σ H Q hw)⟩
theorem _root_.L2.PGs.imp {X : Cx} {tg : List Expr} {t t' : TGs} (h : PGs X tg t) (q : ∀ v σ H Q, t' v σ H Q → t v σ H Q) : PGs X tg t' := ⟨fun pins s σ H v u Q I r hw => h.run pins s σ H v u Q I r (q v σ H Q hw)⟩
theorem g_name {i : Nat} {x : Str} {pos : Pos} (hN : X.N.Nodup) (hi : X.N[i]? = some x) (hx : Loc X.env.scope x) (hf : X.fn x = true ∨ X.env.scope.names.lookup x = some .local := by first | exact .inl rfl | exact .inr rfl | assumption) : PG X (.Name x pos) (rdG X.K [i] (gN i)) :=
  (pg_name hN hi hx hf).imp fun v σ H Q ⟨ω, F, s, d, s', sr, hr, e, p⟩ => by
    cases e
    exact p _ F H (fun vs h => wipe_set (h i (by simp))) (Ex.refl F) (sr.setS (b := false) hr)
theorem gs_nil : PGs X [] (rdGs X.K [] gsNil) := pgs_nil.imp fun vs σ H Q ⟨ω, F, s, ds, s', sr, hr, e, p⟩ => by
  unfold gsNil at e
  split at e
  · cases e
    unfold RpL at hr
    exact ⟨hr, p σ F H (fun _ _ => rfl) (Ex.refl F) sr⟩
  · cases e
theorem gs_cons {e : Expr} {es : List Expr} {ts us : List Nat} {g : D → S → Option S} {gs : List D → S → Option S} (h1 : PG X e (rdG X.K ts g)) (h2 : PGs X es (rdGs X.K us gs))
    (ha : (assignEach (e :: es) X.env).map (·.2) = assign e X.env :: (assignEach es X.env).map (·.2) := by rfl) : PGs X (e :: es) (rdGs X.K (ts ++ us) (gsCons g gs)) :=
  (pgs_cons h1 h2 ha).imp fun vs σ H Q ⟨ω, F, s, ds, s', sr, hr, e, p⟩ => by
    unfold gsCons at e
    split at e
    · rename_i d r
      obtain ⟨s1, e1, e2⟩ := bind2 e
      unfold RpL at hr
      obtain ⟨v, xs, rfl, hv, hxs⟩ := hr
      refine ⟨v, xs, rfl, ω, F, s, d, s1, sr, hv, e1, fun σ1 F1 H1 w1 x1 r1 => ?_⟩
      refine ⟨ω, F1, s1, r, s', r1, hxs.mono x1, e2, fun σ2 F2 H2 w2 x2 r2 => ?_⟩
      exact p σ2 F2 H2 (fun vs hvs => (w2 vs fun i hi => hvs i (List.mem_append_right _ hi)).trans (w1 vs fun i hi => hvs i (List.mem_append_left _ hi))) (x1.trans x2) r2
    · cases e
theorem g_tup {es : List Expr} {k : Nat} {ts : List Nat} {g : List D → S → Option S} {n : Nat} {pos : Pos} (hc : X.calm = true) (h : PGs X es (rdGs X.K ts g))
    (hn : (assignEach es X.env).length = n := by rfl) (hst : (assignEach es X.env).findIdx? (·.1) = none := by rfl) : PG X (.Tuple es k pos) (rdG X.K ts (gT n g)) :=
  ⟨fun pins st σ H v u Q I rv hw => by
    have two : gTup X.K n (rdGs X.K ts g) v σ H Q ∨ gUnl X.K n (rdGs X.K ts g) v σ H Q := by
      obtain ⟨ω, F, s, d, s', sr, hr, e, p⟩ := hw
      unfold gT at e
      split at e
      · split at e
        · rename_i ds hl
          unfold Rp at hr
          obtain ⟨a, xs, rfl, h1, h2⟩ := hr
          exact .inl ⟨a, xs, rfl, sqt_mono sr.sub h1, by rw [h2.len]; exact hl, ω, F, s, ds, s', sr, h2, e, p⟩
        · cases e
      · split at e
        · rename_i ds hl
          unfold Rp at hr
          obtain ⟨a, xs, rfl, h1, h2⟩ := hr
          exact .inr ⟨a, xs, rfl, SqL.of (sr.sub _ _ h1), by rw [h2.len]; exact hl, ω, F, s, ds, s', sr, h2, e, p⟩
        · cases e
      · cases e
    rcases two with q | q
    · exact (pg_tup hc h hn hst).run pins st σ H v u Q I rv q
    · exact (pg_unl hc h hn hst).run pins st σ H v u Q I rv q⟩
def cAsg (g : D → S → Option S) (c : SE) : SS := fun s => (c s).bind fun p => (g p.1.1 p.2).map fun s2 => (.nx, s2)
theorem s_asg {tg e : Expr} {ts : List Nat} {g : D → S → Option S} {c : SE} {pos : Pos} (he : PE X e (rd X.K c)) (hg : PG X tg (rdG X.K ts g)) (hs : swapsWithSole [tg] e pos.line X.env = pure false := by rfl) (hw : swappedStores [tg] e X.env = pure none := by rfl) (h1 : (assignEach [tg] X.env).map (·.2) = [assign tg X.env] := by rfl) :
    PS X (.Assign [tg] e pos) (rdS X.K (cAsg g c)) :=
  (ps_asg he hg hs hw h1).imp fun D' σ H ⟨ω, F, s, fl, s', sr, h, p⟩ => by
    unfold cAsg at h
    obtain ⟨⟨⟨d1, b1⟩, s1⟩, e1, h⟩ := bind2 h
    obtain ⟨s2, e2, h⟩ := map2 h
    cases h
    exact rd_use sr e1 fun v F1 H1 x1 r1 hv => ⟨ω, F1, s1, d1, _, r1, hv, e2, fun σ2 F2 H2 _ x2 r2 => p σ2 F2 H2 (x1.trans x2) r2⟩
end
end Rb

namespace Rb
open PySem PySem.Spec PyProof.Rows L2
section
variable {K : PySem.W.Frag} {ω : Wd} {F F' : Hp} {σ σ' : L2.St} {H H' : Hp} {s s' : S} {v : V} {d : D} {b : Bool} {a : Addr}
theorem rd_useK {e : SE} {R : VK} (r : Sr K ω F σ H s) (h : e s = some ((d, b), s')) (q : ∀ v F' H', Ex F F' → Sr K ω F' σ H' s' → Rp K ω.P F' d v → Kept ω F σ H s F' σ H' s' → R v H') : rd K e σ H R :=
  ⟨protW ω F σ H s, F, s, d, b, s', r.prot, h, fun v F1 H1 x1 t hv => by
    obtain ⟨F2, x2, t2, y⟩ := t.frz hv
    exact q v F2 H1 (x1.trans x2) (r.unprot t2) y (r.kept t2)⟩
theorem rdG_useK {ts : List Nat} {g : D → S → Option S} {Q : L2.St → Hp → Prop} (r : Sr K ω F σ H s) (hv : Rp K ω.P F d v) (h : g d s = some s')
    (q : ∀ σ' F' H', (∀ vs, (∀ i ∈ ts, i ∈ vs) → wipe σ' vs = wipe σ vs) → Ex F F' → Sr K ω F' σ' H' s' → Kept ω F σ H s F' σ' H' s' → Q σ' H') : rdG K ts g v σ H Q :=
  ⟨protW ω F σ H s, F, s, d, s', r.prot, hv, h, fun σ1 F1 H1 w x1 t => q σ1 F1 H1 w x1 (r.unprot t) (r.kept t)⟩
/-- an object that is nobody's here changes -/
theorem Sr.other {o : HO} (r : Sr K ω F σ H s) (hF : F a = none) (hO : ¬ Owned σ s a) (h0 : ω.H0 a = none) (hP : ω.P ≠ some a) : Sr K ω F σ (upd H a o) s where
  len := r.len
  sub := r.sub.updR hF
  frm c u q e := by
    have : c ≠ a := fun z => by rw [z, h0] at e; cases e
    rw [upd_ne this]; exact r.frm c u q e
  new := r.new
  pt := r.pt.ext (fun q e => upd_ne fun z => hP (by rw [e, z])) (fun _ _ => rfl)
  sl i b h := (r.sl i b h).mono (Ex.refl F) fun c hc hx _ hFc => ⟨upd_ne fun z => by
    obtain ⟨d, rfl⟩ := hc
    exact hO ⟨i, d, h, by rw [hx, z]⟩, hFc⟩
  dis := r.dis
def wipeB (r : List Bd) : List Nat → List Bd
  | [] => r
  | i :: is => (wipeB r is).set i .no
theorem wipeB_len (r : List Bd) : ∀ vs : List Nat, (wipeB r vs).length = r.length
  | [] => rfl
  | i :: is => by unfold wipeB; rw [List.length_set, wipeB_len r is]
theorem wipeB_get {r : List Bd} {j : Nat} : ∀ {vs : List Nat}, (wipeB r vs)[j]? = if j ∈ vs then (if j < r.length then some .no else none) else r[j]?
  | [] => by simp [wipeB]
  | v :: vs => by
    have ih := wipeB_get (r := r) (j := j) (vs := vs)
    unfold wipeB
    rw [List.getElem?_set, wipeB_len, ih]
    by_cases h : v = j
    · subst h
      simp
    · rw [if_neg h]
      by_cases h2 : j ∈ vs
      · simp [h2]
      · simp [h2, Ne.symm h]
def wipeS (vs : List Nat) (s : S) : S := { s with r := wipeB s.r vs }
theorem Sr.wipe (r : Sr K ω F σ H s) (vs : List Nat) : Sr K ω F (L2.wipe σ vs) H (wipeS vs s) where
  len := by show _ = (wipeB s.r vs).length; rw [wipe_length, wipeB_len]; exact r.len
  sub := r.sub
  frm := r.frm
  new := r.new
  pt := r.pt
  sl i b h := by
    have h : (wipeB s.r vs)[i]? = some b := h
    rw [wipeB_get] at h
    rw [wipe_get]
    by_cases q : i ∈ vs
    · rw [if_pos q] at h
      split at h
      · cases h; trivial
      · cases h
    · rw [if_neg q] at h
      rw [if_neg q]
      exact r.sl i b h
  dis i j d e w hij h1 h2 h3 h4 := by
    have h1 : (wipeB s.r vs)[i]? = some (.own d) := h1
    have h2 : (wipeB s.r vs)[j]? = some (.own e) := h2
    rw [wipeB_get] at h1 h2
    rw [wipe_get] at h3 h4
    by_cases q1 : i ∈ vs
    · rw [if_pos q1] at h1; split at h1 <;> cases h1
    · by_cases q2 : j ∈ vs
      · rw [if_pos q2] at h2; split at h2 <;> cases h2
      · rw [if_neg q1] at h1 h3
        rw [if_neg q2] at h2 h4
        exact r.dis i j d e w hij h1 h2 h3 h4
end

/-! ### what is walked -/
def WalkD (K : PySem.W.Frag) (P : Option Addr) (F : Hp) (ds : List D) (J : It) : Prop := ∃ G Y, Walk J ds.length G Y ∧ (∀ F' H, Ex F F' → Ex F' H → G H) ∧
  ∀ (ω : Wd) (i : Nat) d x F' σ H H' s, ω.P = P → ds[i]? = some d → Ex F F' → Sr K ω F' σ H s → Y i H x H' → ∃ F'', Ex F' F'' ∧ Sr K ω F'' σ H' s ∧ Rp K P F'' d x
def rdI (K : PySem.W.Frag) (it : SI) : TI := fun σ H R => ∃ ω F s ds s', Sr K ω F σ H s ∧ it s = some (ds, s') ∧ ∀ J F' H', Ex F F' → Sr K ω F' σ H' s' → WalkD K ω.P F' ds J → R J H'
theorem _root_.L2.PI.imp {X : Cx} {tg e : Expr} {t t' : TI} (h : PI X tg e t) (q : ∀ σ H Q, t' σ H Q → t σ H Q) : PI X tg e t' := ⟨fun pins s σ H R I hw => h.run pins s σ H R I (q σ H R hw)⟩
theorem _root_.L2.PI.or {X : Cx} {tg e : Expr} {t t' : TI} (h : PI X tg e t) (h' : PI X tg e t') : PI X tg e (fun σ H R => t σ H R ∨ t' σ H R) := ⟨fun pins s σ H R I hw => by
  rcases hw with q | q
  · exact h.run pins s σ H R I q
  · exact h'.run pins s σ H R I q⟩
def iSeq (c : SE) : SI := fun s => (c s).bind fun p => match p.1.1 with
  | .lst ds => some (ds, p.2)
  | .tup ds => some (ds, p.2)
  | _ => none
def rngL (lo : Int) (n : Nat) : List D := (List.range n).map fun i => .int (lo + (i : Nat))
theorem rngL_len (lo : Int) (n : Nat) : (rngL lo n).length = n := by simp [rngL]
theorem rngL_get {lo : Int} {n i : Nat} {d : D} (h : (rngL lo n)[i]? = some d) : i < n ∧ d = .int (lo + (i : Nat)) := by
  unfold rngL at h
  rw [List.getElem?_map] at h
  have hi : i < n := by
    rcases Nat.lt_or_ge i n with q | q
    · exact q
    · rw [List.getElem?_eq_none (by simpa using q)] at h; cases h
  rw [List.getElem?_range hi] at h
  cases h
  exact ⟨hi, rfl⟩
def rgOk (i : Int) : Bool := inR 4611686018427387903 i
theorem rgOk_is {i : Int} (h : rgOk i = true) : -(2 ^ 62) ≤ i ∧ i < 2 ^ 62 := by
  have := inR_iff.1 h; omega
def iRg1 (t : SA) : SI := fun s => (t s).bind fun p => match p.1 with
  | [.int j] => if rgOk j then some (rngL 0 j.toNat, p.2) else none
  | _ => none
def iRg2 (t : SA) : SI := fun s => (t s).bind fun p => match p.1 with
  | [.int i, .int j] => if rgOk i && rgOk j then some (rngL i (j - i).toNat, p.2) else none
  | _ => none
section
variable {K : PySem.W.Frag} {P : Option Addr} {F : Hp}
theorem walkD_list {a : Addr} {ds : List D} {xs : List V} (h : F a = some (.lst xs)) (hr : RpL K P F ds xs) : WalkD K P F ds (Itl K a) := by
  refine ⟨_, _, by rw [← hr.len]; exact walk_list (K := K) (a := a) (xs := xs), fun F' H e1 e2 => SqL.of (e2 _ _ (e1 _ _ h)), fun ω i d x F' σ H H' s hP hd e1 sr hy => ?_⟩
  obtain ⟨rfl, hx⟩ := hy
  refine ⟨F', Ex.refl _, sr, ?_⟩
  obtain ⟨y, h1, h2⟩ := hr.get hd
  rw [hx] at h1; cases h1
  exact h2.mono e1
theorem walkD_tup {a : Addr} {ds : List D} {xs : List V} (h : SqT K F a xs) (hr : RpL K P F ds xs) : WalkD K P F ds (Itt K a) := by
  refine ⟨_, _, by rw [← hr.len]; exact walk_tup (K := K) (a := a) (xs := xs), fun F' H e1 e2 => sqt_mono (e1.trans e2) h, fun ω i d x F' σ H H' s hP hd e1 sr hy => ?_⟩
  obtain ⟨rfl, hx⟩ := hy
  refine ⟨F', Ex.refl _, sr, ?_⟩
  obtain ⟨y, h1, h2⟩ := hr.get hd
  rw [hx] at h1; cases h1
  exact h2.mono e1
theorem walkD_rng {lo : Int} {n : Nat} : WalkD K P F (rngL lo n) (Itr lo n) := by
  refine ⟨_, _, by rw [rngL_len]; exact walk_range (lo := lo) (n := n), fun _ _ _ _ => True.intro, fun ω i d x F' σ H H' s hP hd e1 sr hy => ?_⟩
  obtain ⟨rfl, hx⟩ := hy
  obtain ⟨_, rfl⟩ := rngL_get hd
  exact ⟨F', Ex.refl _, sr, by unfold Rp; exact hx⟩
end
section
variable {X : Cx} {tg : Expr}
theorem i_seq {e : Expr} {c : SE} (he : PE X e (rd X.K c)) : PI X tg e (rdI X.K (iSeq c)) :=
  ((pi_list he).or (pi_tup he)).imp fun σ H R ⟨ω, F, s, ds, s', sr, h, p⟩ => by
    unfold iSeq at h
    obtain ⟨⟨⟨d1, b1⟩, s1⟩, e1, h⟩ := bind2 h
    dsimp only at h
    split at h
    · cases h
      refine .inl (rd_use sr e1 fun v F1 H1 x1 r1 hv => ?_)
      unfold Rp at hv
      obtain ⟨a, xs, rfl, h1, h2⟩ := hv
      exact ⟨a, rfl, ⟨xs, SqL.of (r1.sub _ _ h1)⟩, p _ F1 H1 x1 r1 (walkD_list h1 h2)⟩
    · cases h
      refine .inr (rd_use sr e1 fun v F1 H1 x1 r1 hv => ?_)
      unfold Rp at hv
      obtain ⟨a, xs, rfl, h1, h2⟩ := hv
      exact ⟨a, rfl, ⟨xs, sqt_mono r1.sub h1⟩, p _ F1 H1 x1 r1 (walkD_tup h1 h2)⟩
    · cases h
theorem i_rg1 {a : Expr} {t : SA} {p pos : Pos} (hg : Gl X "range") (hm : X.mg "range" = none) (ha : PA X [a] (rdA X.K t)) (hs : starEach [a] X.env = [(false, eval a X.env)] := by rfl) : PI X tg (.Call (.Name "range" p) [a] [] pos) (rdI X.K (iRg1 t)) :=
  (pi_range1 hg hm ha hs).imp fun σ H R ⟨ω, F, s, ds, s', sr, h, q⟩ => by
    unfold iRg1 at h
    obtain ⟨⟨l, s1⟩, e1, h⟩ := bind2 h
    dsimp only at h
    split at h
    · split at h
      · rename_i hz
        cases h
        have hz := rgOk_is hz
        refine rdA_use sr e1 fun vs F1 H1 x1 r1 hv => ?_
        obtain ⟨v, rfl, hv2⟩ := hv.one
        unfold Rp at hv2; subst hv2
        exact ⟨_, rfl, hz.1, hz.2, q _ F1 H1 x1 r1 walkD_rng⟩
      · cases h
    · cases h
theorem i_rg2 {a b : Expr} {t : SA} {p pos : Pos} (hg : Gl X "range") (hm : X.mg "range" = none) (ha : PA X [a, b] (rdA X.K t)) (hs : starEach [a, b] X.env = [(false, eval a X.env), (false, eval b X.env)] := by rfl) (hs2 : starEach [b] X.env = [(false, eval b X.env)] := by rfl) : PI X tg (.Call (.Name "range" p) [a, b] [] pos) (rdI X.K (iRg2 t)) :=
  (pi_range2 hg hm ha hs hs2).imp fun σ H R ⟨ω, F, s, ds, s', sr, h, q⟩ => by
    unfold iRg2 at h
    obtain ⟨⟨l, s1⟩, e1, h⟩ := bind2 h
    dsimp only at h
    split at h
    · split at h
      · rename_i hz
        cases h
        rw [Bool.and_eq_true] at hz
        have hz1 := rgOk_is hz.1
        have hz2 := rgOk_is hz.2
        refine rdA_use sr e1 fun vs F1 H1 x1 r1 hv => ?_
        obtain ⟨v, w, rfl, hv, hw⟩ := hv.two
        unfold Rp at hv hw; subst hv hw
        exact ⟨_, _, rfl, ⟨hz1.1, hz1.2, hz2.1, hz2.2⟩, q _ F1 H1 x1 r1 walkD_rng⟩
      · cases h
    · cases h
end

/-! ### for, while -/
def forL (g : D → S → Option S) (body : SS) : List D → SS
  | [], s => some (.nx, s)
  | d :: ds, s => (g d s).bind fun s1 => (body s1).bind fun p => match p.1 with
    | .nx => forL g body ds p.2
    | .ct => forL g body ds p.2
    | .bk => some (.nx, p.2)
    | .rt d => some (.rt d, p.2)
def cFor (it : SI) (g : D → S → Option S) (body : SS) : SS := fun s => (it s).bind fun p => forL g body p.1 p.2
def whL (t : ST) (body : SS) : Nat → SS
  | 0, _ => none
  | n + 1, s => (t s).bind fun p => if p.1 then (body p.2).bind fun q => match q.1 with
      | .nx => whL t body n q.2
      | .ct => whL t body n q.2
      | .bk => some (.nx, q.2)
      | .rt d => some (.rt d, q.2)
    else some (.nx, p.2)
def cWhile (n : Nat) (t : ST) (body : SS) : SS := whL t body n
section
variable {X : Cx}
theorem s_for {tg iter : Expr} {body : List Stmt} {it : SI} {ts : List Nat} {g : D → S → Option S} {c : SS} {pos : Pos} (hp : PassesOwn (model X.prog X.w) X.A X.env X.xe) (hc : X.calm = true) (hi : PI X tg iter (rdI X.K it)) (hg : PG X tg (rdG X.K ts g)) (hb : PSs X body (rdS X.K c))
    (hs : ∀ x, foldedSetIterable iter X.env x = pure x := by intro _; rfl) : PS X (.For tg iter body [] pos) (rdS X.K (cFor it g c)) :=
  (ps_for hp hc hi hg hb hs).imp fun D' σ H ⟨ω, F, s, fl, s', sr, h, p⟩ => by
    unfold cFor at h
    obtain ⟨⟨ds, s1⟩, e1, h⟩ := bind2 h
    refine ⟨ω, F, s, ds, s1, sr, e1, fun J F1 H1 x1 r1 ⟨G, Y, w, hG, hY⟩ => ?_⟩
    have p1 := p.mono x1
    refine for_it w (fun i σ' H' => i ≤ ds.length ∧ ∃ F2 s2, Ex F1 F2 ∧ Sr X.K ω F2 σ' H' s2 ∧ forL g c (ds.drop i) s2 = some (fl, s')) ⟨Nat.zero_le _, F1, s1, Ex.refl _, r1, by simpa using h⟩ (fun i σ' H' _ ⟨_, F2, s2, x2, r2, _⟩ => hG F2 H' x2 r2.sub) (fun i x σ' H' H2 hi ⟨_, F2, s2, x2, r2, e2⟩ hy => ?_) (fun σ' H' ⟨_, F2, s2, x2, r2, e2⟩ => ?_)
    · have hd : ds[i]? = some ds[i] := List.getElem?_eq_getElem hi
      rw [List.drop_eq_getElem_cons hi] at e2
      unfold forL at e2
      obtain ⟨s3, e3, e2⟩ := bind2 e2
      obtain ⟨⟨f4, s4⟩, e4, e2⟩ := bind2 e2
      obtain ⟨F3, x3, r3, hv⟩ := hY ω i _ x F2 σ' H' H2 s2 rfl hd x2 r2 hy
      refine ⟨ω, F3, s2, ds[i], s3, r3, hv, e3, fun σ4 F4 H4 _ x4 r4 => ?_⟩
      refine ⟨ω, F4, s3, f4, s4, r4, e4, ?_⟩
      have xx := (x2.trans x3).trans x4
      cases f4 with
      | nx => exact fun σ5 F5 H5 x5 r5 => ⟨hi, F5, s4, xx.trans x5, r5, e2⟩
      | ct => exact fun σ5 F5 H5 x5 r5 => ⟨hi, F5, s4, xx.trans x5, r5, e2⟩
      | bk => cases e2; exact fun σ5 F5 H5 x5 r5 => p1 σ5 F5 H5 (xx.trans x5) r5
      | rt d => cases e2; exact fun v σ5 F5 H5 x5 r5 hv => p1 v σ5 F5 H5 (xx.trans x5) r5 hv
    · rw [List.drop_eq_nil_of_le (Nat.le_refl _)] at e2
      cases e2
      exact p1 σ' F2 H' x2 r2
theorem s_while {t : Expr} {body : List Stmt} {n : Nat} {tc : ST} {c : SS} {pos : Pos} (hp : PassesOwn (model X.prog X.w) X.A X.env X.xe) (ht : PT X t (rdT X.K tc)) (hb : PSs X body (rdS X.K c)) : PS X (.While t body [] pos) (rdS X.K (cWhile n tc c)) :=
  (ps_while hp ht hb).imp fun D' σ H ⟨ω, F, s, fl, s', sr, h, p⟩ => by
    unfold cWhile at h
    refine ⟨fun m σ' H' => ∃ F2 s2, Ex F F2 ∧ Sr X.K ω F2 σ' H' s2 ∧ whL tc c m s2 = some (fl, s'), ⟨n, F, s, Ex.refl _, sr, h⟩, fun m σ' H' ⟨F2, s2, x2, r2, e2⟩ => ?_⟩
    cases m with
    | zero => cases e2
    | succ m =>
      unfold whL at e2
      obtain ⟨⟨b3, s3⟩, e3, e2⟩ := bind2 e2
      refine rdT_use r2 e3 fun F3 H3 x3 r3 => ?_
      cases b3 with
      | false =>
        cases e2
        exact p σ' F3 H3 (x2.trans x3) r3
      | true =>
        rw [if_pos rfl] at e2
        obtain ⟨⟨f4, s4⟩, e4, e2⟩ := bind2 e2
        refine ⟨fun σ5 H5 => ∃ F5 s5, Ex F F5 ∧ Sr X.K ω F5 σ5 H5 s5 ∧ whL tc c m s5 = some (fl, s'), fun σ5 H5 q => ⟨m, Nat.lt_succ_self m, q⟩, ω, F3, s3, f4, s4, r3, e4, ?_⟩
        have xx := x2.trans x3
        cases f4 with
        | nx => exact fun σ5 F5 H5 x5 r5 => ⟨F5, s4, xx.trans x5, r5, e2⟩
        | ct => exact fun σ5 F5 H5 x5 r5 => ⟨F5, s4, xx.trans x5, r5, e2⟩
        | bk => cases e2; exact fun σ5 F5 H5 x5 r5 => p σ5 F5 H5 (xx.trans x5) r5
        | rt d => cases e2; exact fun v σ5 F5 H5 x5 r5 hv => p v σ5 F5 H5 (xx.trans x5) r5 hv
end

/-! ### comprehensions -/
def lcL (g : D → S → Option S) (tt : ST) (te : SE) (vs : List Nat) : List D → S → List D → Option (List D × S)
  | [], s, acc => some (acc, s)
  | d :: ds, s, acc => (g d s).bind fun s1 => (tt s1).bind fun p => if p.1 then (te p.2).bind fun q => if szOk (acc.length + 1) then lcL g tt te vs ds (wipeS vs q.2) (acc ++ [q.1.1]) else none
    else lcL g tt te vs ds (wipeS vs p.2) acc
def restB (old new : List Bd) : List Nat → List Bd
  | [] => new
  | i :: is => (restB old new is).set i (old.getD i .no)
def noOwn (vs : List Nat) (s : S) : Bool := vs.all fun i => match s.r[i]? with
  | some (.own _) => false
  | _ => true
def cLC (it : SI) (g : D → S → Option S) (tt : ST) (te : SE) (vs : List Nat) : SE := fun s => (it s).bind fun p => if noOwn vs p.2 then (lcL g tt te vs p.1 (wipeS vs p.2) []).map fun q => ((.lst q.1, true), { q.2 with r := restB p.2.r q.2.r vs }) else none
def bYes : ST := fun s => some (true, s)
theorem restB_len (old new : List Bd) : ∀ vs : List Nat, (restB old new vs).length = new.length
  | [] => rfl
  | i :: is => by unfold restB; rw [List.length_set, restB_len old new is]
theorem restB_get {old new : List Bd} {j : Nat} : ∀ {vs : List Nat}, (restB old new vs)[j]? = if j ∈ vs then (if j < new.length then some (old.getD j .no) else none) else new[j]?
  | [] => by simp [restB]
  | v :: vs => by
    have ih := restB_get (old := old) (new := new) (j := j) (vs := vs)
    unfold restB
    rw [List.getElem?_set, restB_len, ih]
    by_cases h : v = j
    · subst h
      simp
    · rw [if_neg h]
      by_cases h2 : j ∈ vs
      · simp [h2]
      · simp [h2, Ne.symm h]
theorem Sr.rest {K : PySem.W.Frag} {ω : Wd} {F F' : Hp} {σ : L2.St} {H H' : Hp} {s s' : S} {vs : List Nat} (r : Sr K ω F σ H s) (hn : noOwn vs s = true) (e : Ex F F') (t : Sr K ω F' (L2.wipe σ vs) H' s') : Sr K ω F' σ H' { s' with r := restB s.r s'.r vs } where
  len := by show _ = (restB s.r s'.r vs).length; rw [restB_len, ← t.len, wipe_length]
  sub := t.sub
  frm := t.frm
  new := t.new
  pt := t.pt
  sl i b h := by
    have h : (restB s.r s'.r vs)[i]? = some b := h
    rw [restB_get] at h
    by_cases q : i ∈ vs
    · rw [if_pos q] at h
      split at h
      · cases h
        cases z : s.r[i]? with
        | none => rw [List.getD_eq_getElem?_getD, z]; trivial
        | some c =>
          rw [List.getD_eq_getElem?_getD, z]
          have g := r.sl i c z
          have w := List.all_eq_true.mp hn i q
          rw [z] at w
          cases c with
          | no => trivial
          | val d => obtain ⟨v, h1, h2⟩ := g; exact ⟨v, h1, h2.mono e⟩
          | own d => cases w
      · cases h
    · rw [if_neg q] at h
      have g := t.sl i b h
      rw [wipe_get, if_neg q] at g
      exact g
  dis i j d e w hij h1 h2 h3 h4 := by
    have key : ∀ (i : Nat) d, (restB s.r s'.r vs)[i]? = some (.own d) → i ∉ vs ∧ s'.r[i]? = some (.own d) := fun i d h => by
      rw [restB_get] at h
      by_cases q : i ∈ vs
      · rw [if_pos q] at h
        split at h
        · have w := List.all_eq_true.mp hn i q
          cases z : s.r[i]? with
          | none => rw [List.getD_eq_getElem?_getD, z] at h; cases h
          | some c =>
            rw [z] at w
            rw [List.getD_eq_getElem?_getD, z] at h
            cases h
            cases w
        · cases h
      · rw [if_neg q] at h
        exact ⟨q, h⟩
    obtain ⟨q1, g1⟩ := key i d h1
    obtain ⟨q2, g2⟩ := key j e h2
    exact t.dis i j d e w hij g1 g2 (by rw [wipe_get, if_neg q1]; exact h3) (by rw [wipe_get, if_neg q2]; exact h4)
section
variable {X : Cx}
theorem ts_nil : PTs X [] (rdT X.K bYes) := by
  have h : PTs X [] tYes := pts_nil
  exact ⟨fun pins s σ H Q I hw => h.run pins s σ H Q I (by
    obtain ⟨ω, F, s, b, s', sr, e, p⟩ := hw
    cases e
    exact p F H (Ex.refl F) sr)⟩
theorem ts_one {c : Expr} {t : ST} (h : PT X c (rdT X.K t)) : PTs X [c] (rdT X.K t) := pts_one h
/-- the reading of a comprehension -/
theorem lc_go {K : PySem.W.Frag} {it : SI} {ts vs : List Nat} {g : D → S → Option S} {tt : ST} {te : SE} {σ : L2.St} {H : Hp} {Q : VK} (hts : ∀ i ∈ ts, i ∈ vs) (hw : rd K (cLC it g tt te vs) σ H Q) : tLc (rdI K it) (rdG K ts g) (rdT K tt) (rd K te) vs σ H Q := by
  obtain ⟨ω, F, s, d, b, s', sr, h, p⟩ := hw
  unfold cLC at h
  obtain ⟨⟨ds, s1⟩, e1, h⟩ := bind2 h
  split at h
  · rename_i hno
    obtain ⟨⟨res, s2⟩, e2, h⟩ := map2 h
    cases h
    refine ⟨ω, F, s, ds, s1, sr, e1, fun J F1 H1 x1 r1 ⟨G, Y, w, hG, hY⟩ D0 hD => ?_⟩
    have hF1 : F1 D0 = none := r1.sub.none hD
    have h0 := r1.h0 hD
    have hP := r1.pt.ne hD
    have rw1 : Sr K ω F1 (L2.wipe σ vs) (upd H1 D0 (.lst [])) (wipeS vs s1) := (r1.wipe vs).allocN hD
    have nO1 : ¬ Owned (L2.wipe σ vs) (wipeS vs s1) D0 := fun z => by
      obtain ⟨⟨o, q⟩, _⟩ := (r1.wipe vs).ownAt z
      rw [hD] at q; cases q
    refine lc_it w (fun i H' => ∃ F2 s3 acc xs, Ex F1 F2 ∧ Sr K ω F2 (L2.wipe σ vs) H' s3 ∧ H' D0 = some (.lst xs) ∧ F2 D0 = none ∧ ¬ Owned (L2.wipe σ vs) s3 D0 ∧ RpL K ω.P F2 acc xs ∧ wipeS vs s3 = s3 ∧ lcL g tt te vs (ds.drop i) s3 acc = some (res, s2))
      ⟨F1, wipeS vs s1, [], [], Ex.refl _, rw1, upd_same, hF1, nO1, .nil, ?_, by simpa using e2⟩ (fun i H' _ ⟨F2, s3, acc, xs, x2, r2, _⟩ => hG F2 H' x2 r2.sub) (fun i x H' H2 hi ⟨F2, s3, acc, xs, x2, r2, hD2, hF2, hO2, ha2, hw2, e3⟩ hy => ?_) (fun H' ⟨F2, s3, acc, xs, x2, r2, hD2, hF2, hO2, ha2, hw2, e3⟩ => ?_)
    · unfold wipeS
      congr 1
      refine List.ext_getElem? fun j => ?_
      rw [wipeB_get, wipeB_get, wipeB_len]
      by_cases q : j ∈ vs <;> simp [q]
    · have hd : ds[i]? = some ds[i] := List.getElem?_eq_getElem hi
      rw [List.drop_eq_getElem_cons hi] at e3
      unfold lcL at e3
      obtain ⟨s4, e4, e3⟩ := bind2 e3
      obtain ⟨⟨b5, s5⟩, e5, e3⟩ := bind2 e3
      -- the item
      obtain ⟨F3, x3, r3p, hv⟩ := hY (protW ω F2 (L2.wipe σ vs) H' s3) i _ x F2 (L2.wipe σ vs) H' H2 s3 rfl hd x2 r2.prot hy
      have kp3 := r2.kept r3p
      have r3 := r2.unprot r3p
      obtain ⟨hD3, hF3, hO3⟩ := kp3 D0 _ hP hO2 hD2
      refine rdG_useK r3 hv e4 fun σ4 F4 H4 w4 x4 r4 kp4 => ⟨w4 vs hts |>.trans (by
        refine List.ext_getElem? fun j => ?_
        rw [wipe_get, wipe_get, wipe_length]
        by_cases q : j ∈ vs <;> simp [q]), ?_⟩
      obtain ⟨hD4, hF4, hO4⟩ := kp4 D0 _ hP hO3 hD3
      refine rdT_keep r4 e5 fun F5 H5 x5 r5 kp5 => ?_
      obtain ⟨hD5, hF5, hO5⟩ := kp5 D0 _ hP hO4 hD4
      have w4' := w4 vs hts
      have ww : L2.wipe (L2.wipe σ vs) vs = L2.wipe σ vs := by
        refine List.ext_getElem? fun j => ?_
        rw [wipe_get, wipe_get, wipe_length]
        by_cases q : j ∈ vs <;> simp [q]
      rw [ww] at w4'
      have wiped : ∀ s : S, wipeS vs (wipeS vs s) = wipeS vs s := fun s => by
        unfold wipeS
        congr 1
        refine List.ext_getElem? fun j => ?_
        rw [wipeB_get, wipeB_get, wipeB_len]
        by_cases q : j ∈ vs <;> simp [q]
      have wipO : ∀ {s : S} {F : Hp} {H : Hp}, Sr K ω F σ4 H s → ¬ Owned σ4 s D0 → ¬ Owned (L2.wipe σ vs) (wipeS vs s) D0 := fun {s F H} r hn ⟨k, d, g1, g2⟩ => by
        have g1 : (wipeB s.r vs)[k]? = some (.own d) := g1
        rw [wipeB_get] at g1
        by_cases q : k ∈ vs
        · rw [if_pos q] at g1; split at g1 <;> cases g1
        · rw [if_neg q] at g1
          rw [← w4', wipe_get, if_neg q] at g2
          exact hn ⟨k, d, g1, g2⟩
      cases b5 with
      | false =>
        refine ⟨F5, wipeS vs s5, acc, xs, ((x2.trans x3).trans x4).trans x5, ?_, hD5, hF5 (hF4 (hF3 hF2)), wipO r5 hO5, ha2.mono ((x3.trans x4).trans x5), wiped s5, e3⟩
        rw [← w4']; exact r5.wipe vs
      | true =>
        rw [if_pos rfl] at e3
        obtain ⟨⟨⟨d6, b6⟩, s6⟩, e6, e3⟩ := bind2 e3
        split at e3
        · rename_i hz
          refine rd_useK r5 e6 fun y F6 H6 x6 r6 hy6 kp6 => ?_
          obtain ⟨hD6, hF6, hO6⟩ := kp6 D0 _ hP hO5 hD5
          have hF6' := hF6 (hF5 (hF4 (hF3 hF2)))
          have xx := (((x2.trans x3).trans x4).trans x5).trans x6
          refine ⟨xs, hD6, by rw [ha2.len]; have := szOk_le hz; omega, F6, wipeS vs s6, acc ++ [d6], xs ++ [y], xx, ?_, upd_same, hF6', wipO r6 hO6, (ha2.mono (((x3.trans x4).trans x5).trans x6)).app (.cons hy6 .nil), wiped s6, e3⟩
          rw [← w4']
          exact (r6.other hF6' hO6 h0 hP).wipe vs
        · cases e3
    · rw [List.drop_eq_nil_of_le (Nat.le_refl _)] at e3
      cases e3
      have t := r1.rest hno x2 r2
      refine p _ F2 H' (x1.trans x2) t ⟨⟨D0, xs, rfl, hD2, hF2, h0, hP, ha2⟩, fun j e g1 g2 => ?_⟩
      have g1 : (restB s1.r s2.r vs)[j]? = some (.own e) := g1
      rw [restB_get] at g1
      by_cases q : j ∈ vs
      · rw [if_pos q] at g1
        split at g1
        · have wz := List.all_eq_true.mp hno j q
          cases z : s1.r[j]? with
          | none => rw [List.getD_eq_getElem?_getD, z] at g1; cases g1
          | some c =>
            rw [z] at wz
            rw [List.getD_eq_getElem?_getD, z] at g1
            cases g1
            cases wz
        · cases g1
      · rw [if_neg q] at g1
        exact hO2 ⟨j, e, g1, by rw [wipe_get, if_neg q]; exact g2⟩
  · cases h
theorem p_lc {elt tg iter : Expr} {ifs : List Expr} {scope : Scope} {own : List (Str × Nat)} {pos : Pos} {it : SI} {ts : List Nat} {g : D → S → Option S} {tt : ST} {te : SE} (hc : X.calm = true) (hN : X.N.Nodup) (hi : PI X tg iter (rdI X.K it)) (ok : BlkOk X.N X.env.scope scope own)
    (hts : ∀ i ∈ ts, i ∈ own.map (·.2))
    (hg : ∀ (s : Shared) (H : Hp) (C : Addr) (cl : List (Str × Addr)) (fp : List Addr), PG (X.blk s H scope (compEnvC scope cl C X.env) fp) tg (rdG X.K ts g)) (ht : ∀ (s : Shared) (H : Hp) (C : Addr) (cl : List (Str × Addr)) (fp : List Addr), PTs (X.blk s H scope (compEnvC scope cl C X.env) fp) ifs (rdT X.K tt))
    (he : ∀ (s : Shared) (H : Hp) (C : Addr) (cl : List (Str × Addr)) (fp : List Addr), PE (X.blk s H scope (compEnvC scope cl C X.env) fp) elt (rd X.K te)) (hs : ∀ x, foldedSetIterable iter X.env x = pure x := by intro _; rfl) :
    PE X (.ListComp elt [⟨tg, iter, ifs, 0⟩] scope pos) (rd X.K (cLC it g tt te (own.map (·.2)))) :=
  (pe_lc hc hN hi ok hg ht he hs).imp fun σ H Q hw => lc_go hts hw
theorem s_setLc {i : Nat} {y : Str} {py : Pos} {elt tg iter : Expr} {ifs : List Expr} {scope : Scope} {own : List (Str × Nat)} {pos spos : Pos} {it : SI} {ts : List Nat} {g : D → S → Option S} {tt : ST} {te : SE} (hc : X.calm = true) (hN : X.N.Nodup) (hy : X.N[i]? = some y) (hyl : X.env.scope.names.lookup y = some .local)
    (hsw : swapsWith (.ListComp elt [⟨tg, iter, ifs, 0⟩] scope pos) (some (.Name y py)) spos.line X.env = pure true) (hi : PI X tg iter (rdI X.K it)) (ok : BlkOk X.N X.env.scope scope own)
    (hts : ∀ i ∈ ts, i ∈ own.map (·.2))
    (hg : ∀ (s : Shared) (H : Hp) (C : Addr) (cl : List (Str × Addr)) (fp : List Addr), PG (X.blk s H scope (compEnvC scope cl C X.env) fp) tg (rdG X.K ts g)) (ht : ∀ (s : Shared) (H : Hp) (C : Addr) (cl : List (Str × Addr)) (fp : List Addr), PTs (X.blk s H scope (compEnvC scope cl C X.env) fp) ifs (rdT X.K tt))
    (he : ∀ (s : Shared) (H : Hp) (C : Addr) (cl : List (Str × Addr)) (fp : List Addr), PE (X.blk s H scope (compEnvC scope cl C X.env) fp) elt (rd X.K te)) (hs : ∀ x, foldedSetIterable iter X.env x = pure x := by intro _; rfl) :
    PS X (.Assign [.Name y py] (.ListComp elt [⟨tg, iter, ifs, 0⟩] scope pos) spos) (rdS X.K (cSet i (cLC it g tt te (own.map (·.2))))) :=
  (ps_setLc hc hN hy hyl hsw hi ok hg ht he hs).imp fun D' σ H ⟨ω, F, s, fl, s', sr, h, p⟩ => by
    unfold cSet at h
    obtain ⟨⟨⟨d1, b1⟩, s1⟩, e1, h⟩ := map2 h
    cases h
    exact lc_go hts (rd_keep sr e1 fun v F1 H1 x1 r1 hv _ _ => p _ F1 H1 x1 (r1.setS hv))
end

/-! ### defs -/
abbrev Fn := List D → Pt → Option (D × Pt)
def runF (n : Nat) (c : SS) : Fn := fun ds p => match c ⟨ds.map .val ++ List.replicate (n - ds.length) .no, p⟩ with
  | some (.rt d, s) => some (d, s.p)
  | some (.nx, s) => some (.non, s.p)
  | _ => none
def spF (K : PySem.W.Frag) (k : Nat) (f : Fn) : Sp := fun vs H Q _ => vs.length = k ∧ ∃ P F ds p d p', Ex F H ∧ PtOk P F H p ∧ RpL K P F ds vs ∧ f ds p = some (d, p') ∧
  ∀ v F' H', Ex F F' → Ex F' H' → PtOk P F' H' p' → (∀ a o, P ≠ some a → H a = some o → H' a = some o) → (∀ a o, F' a = some o → F a = some o ∨ H a = none) → Rp K P F' d v → Q v H'
def cCall (f : Fn) (t : SA) : SE := fun s => (t s).bind fun p => (f p.1 p.2.p).map fun q => ((q.1, false), { p.2 with p := q.2 })
structure Def (P : Program) (w : World) (K : PySem.W.Frag) (mg : Str → Option Value) (base : Heap) (x : Str) (k n : Nat) (f : Fn) : Prop where
  ex : ∃ (a : Addr) (fd : FuncData) (ps : List Str), mg x = some (.ref a) ∧ PySem.W.keepIn K (.ref a) = true ∧ FnOk P w K mg base CX0 k a fd ps (spF K n f) ∧ Binds K fd ps []
theorem Def.mono {P : Program} {w : World} {K : PySem.W.Frag} {mg : Str → Option Value} {base : Heap} {x : Str} {j k n : Nat} {f : Fn} (h : Def P w K mg base x j n f) (e : j ≤ k) : Def P w K mg base x k n f := by
  obtain ⟨a, fd, ps, h1, h2, h3, h4⟩ := h.ex
  exact ⟨a, fd, ps, h1, h2, h3.mono e, h4⟩
theorem startB {K : PySem.W.Frag} {P : Option Addr} {F H : Hp} {ds : List D} {vs : List V} {N : List Str} {p : Pt} (hN : vs.length ≤ N.length) (e : Ex F H) (hp : PtOk P F H p) (hr : RpL K P F ds vs) : Sr K ⟨P, H, F⟩ F (L2.start N vs) H ⟨ds.map .val ++ List.replicate (N.length - ds.length) .no, p⟩ where
  len := by
    unfold L2.start
    simp [hr.len]
  sub := e
  frm a o _ h := h
  new a o h := .inl h
  pt := hp
  sl i b h := by
    have h : (ds.map Bd.val ++ List.replicate (N.length - ds.length) .no)[i]? = some b := h
    by_cases q : i < ds.length
    · rw [List.getElem?_append_left (by simpa using q), List.getElem?_map, List.getElem?_eq_getElem q] at h
      cases h
      obtain ⟨v, h1, h2⟩ := hr.get (List.getElem?_eq_getElem q)
      refine ⟨v, ?_, h2⟩
      unfold L2.start
      rw [List.getElem?_append_left (by rw [List.length_map, hr.len]; exact q), List.getElem?_map, h1]
      rfl
    · rw [List.getElem?_append_right (by simpa using q), List.getElem?_replicate] at h
      split at h
      · cases h; trivial
      · cases h
  dis i j d e w hij h1 := by
    have h1 : (ds.map Bd.val ++ List.replicate (N.length - ds.length) .no)[i]? = some (.own d) := h1
    by_cases q : i < ds.length
    · rw [List.getElem?_append_left (by simpa using q), List.getElem?_map, List.getElem?_eq_getElem q] at h1
      cases h1
    · rw [List.getElem?_append_right (by simpa using q), List.getElem?_replicate] at h1
      split at h1 <;> cases h1
section
variable {P : Program} {w : World} {K : PySem.W.Frag} {mg : Str → Option Value} {base : Heap}
theorem fn_ok {x qual : Str} {st : Stmt} {f : Addr} {fd : FuncData} {N ps : List Str} {k n : Nat} {c : SS} (F : Fun K x qual st f fd) (S : FnScope N ps (defScope st)) (hn : ps.length = n)
    (hbody : ∀ (cdv : Value) (A : Around) (outer : List Env) (s : Shared) (H : Hp) (E : XK), Room k (A.deeper (envOfC qual (defScope st) s.heap.objs.size f cdv)) →
      PSs (cxOf CX0 P w K mg base N qual (defScope st) f cdv A outer s H E).nox (defBody st) (rdS K c)) : FnOk P w K mg base CX0 (k + 1) f fd ps (spF K n (runF N.length c)) := by
  subst hn
  refine F.ok S (fun vs H Q E h => h.1) (fun cdv A outer s H vs Q E hr hsp => ⟨rdS K c, hbody cdv A outer s H E hr, ?_⟩)
  obtain ⟨hl, P0, F0, ds, p, d, p', h1, h2, h3, h4, h5⟩ := hsp
  have hN : vs.length ≤ N.length := by
    have := congrArg List.length S.pre
    rw [List.length_take] at this; omega
  unfold runF at h4
  have sr := startB hN h1 h2 h3
  split at h4
  · rename_i d1 s1 e1
    cases h4
    refine ⟨_, F0, _, _, _, sr, e1, fun v σ F' H' x r hv => ?_⟩
    exact h5 v F' H' x r.sub r.pt (fun a o hP ha => r.frm a o hP ha) r.new hv
  · rename_i s1 e1
    cases h4
    refine ⟨_, F0, _, _, _, sr, e1, fun σ F' H' x r => ?_⟩
    exact h5 .non F' H' x r.sub r.pt (fun a o hP ha => r.frm a o hP ha) r.new (by unfold Rp; rfl)
  · cases h4
theorem def_ok {x qual : Str} {st : Stmt} {f : Addr} {fd : FuncData} {N ps : List Str} {k n : Nat} {c : SS} (hg : mg x = some (.ref f)) (F : Fun K x qual st f fd) (hb : Binds K fd ps []) (S : FnScope N ps (defScope st)) (hn : ps.length = n)
    (hbody : ∀ (cdv : Value) (A : Around) (outer : List Env) (s : Shared) (H : Hp) (E : XK), Room k (A.deeper (envOfC qual (defScope st) s.heap.objs.size f cdv)) →
      PSs (cxOf CX0 P w K mg base N qual (defScope st) f cdv A outer s H E).nox (defBody st) (rdS K c)) : Def P w K mg base x (k + 1) n (runF N.length c) :=
  ⟨f, fd, ps, hg, F.kp, fn_ok F S hn hbody, hb⟩
end
section
variable {X : Cx}
theorem call_use {K : PySem.W.Frag} {n : Nat} {f : Fn} {t : SA} {σ : L2.St} {H : Hp} {Q : VK} {E : XK} (hlen : ∀ s ds s', t s = some (ds, s') → ds.length = n) (hw : rd K (cCall f t) σ H Q) : tCall (spF K n f) [] E (rdA K t) σ H Q := by
  obtain ⟨ω, F, s, d, b, s', sr, h, p⟩ := hw
  unfold cCall at h
  obtain ⟨⟨ds, s1⟩, e1, h⟩ := bind2 h
  obtain ⟨⟨d2, p2⟩, e2, h⟩ := map2 h
  cases h
  refine rdA_use sr e1 fun vs F1 H1 x1 r1 hv => ?_
  rw [List.append_nil]
  refine ⟨by rw [hv.len]; exact hlen _ _ _ e1, ω.P, F1, ds, s1.p, _, p2, r1.sub, r1.pt, hv, e2, fun v F2 H2 x2 e3 pt2 kp nw hr => ?_⟩
  refine p v F2 H2 (x1.trans x2) ⟨r1.len, e3, fun a o hP ha => kp a o hP (r1.frm a o hP ha), fun a o ha => ?_, pt2, fun i c hc => ?_, r1.dis⟩ hr
  · rcases nw a o ha with q | q
    · exact r1.new a o q
    · exact .inr (r1.h0 q)
  · refine (r1.sl i c hc).mono x2 fun a hown hσ hne hF => ?_
    obtain ⟨d0, rfl⟩ := hown
    obtain ⟨⟨o, ho⟩, _, _, hP⟩ := r1.ownAt ⟨i, d0, hc, hσ⟩
    refine ⟨by rw [kp a o hP ho, ho], ?_⟩
    cases q : F2 a with
    | none => rfl
    | some u =>
      rcases nw a u q with z | z
      · rw [hF] at z; cases z
      · rw [ho] at z; cases z
theorem p_call {x : Str} {k j n : Nat} {f : Fn} {t : SA} {e : Expr} {es : List Expr} {p pos : Pos} (hd : Def X.prog X.w X.K X.mg X.base x k n f) (hr : Room j X.A) (hkj : k ≤ j) (hg : Gl X x) (ha : PA X (e :: es) (rdA X.K t)) (hlen : ∀ s ds s', t s = some (ds, s') → ds.length = n) (hdb : (x == ("__debug__" : Str)) = false := by decide)
    (he : starEach (e :: es) X.env = (false, eval e X.env) :: starEach es X.env := by rfl) (hpl : (backTo pos (starEach es X.env)).any (·.1) = false := by rfl) : PE X (.Call (.Name x p) (e :: es) [] pos) (rd X.K (cCall f t)) := by
  obtain ⟨a, fd, ps, h1, h2, h3, h4⟩ := hd.ex
  exact (pe_call (E := E0) h3 (hr.mono hkj) hg h1 h2 h4 .nil pass0 ha hdb he hpl).imp fun _ _ _ => call_use hlen
theorem p_call0 {x : Str} {k j : Nat} {f : Fn} {p pos : Pos} (hd : Def X.prog X.w X.K X.mg X.base x k 0 f) (hr : Room j X.A) (hkj : k ≤ j) (hg : Gl X x) (hdb : (x == ("__debug__" : Str)) = false := by decide) : PE X (.Call (.Name x p) [] [] pos) (rd X.K (cCall f aNil)) := by
  obtain ⟨a, fd, ps, h1, h2, h3, h4⟩ := hd.ex
  refine (pe_call0 (E := E0) h3 (hr.mono hkj) hg h1 h2 h4 .nil pass0 hdb).imp fun σ H Q hw => ?_
  have q := call_use (n := 0) (E := E0) (fun s ds s' e => by cases e; rfl) hw
  obtain ⟨ω, F, s, ds, s', sr, e, p⟩ := q
  cases e
  exact p [] F H (Ex.refl F) sr .nil
theorem aNil_len : ∀ s ds s', aNil s = some (ds, s') → ds.length = 0 := fun s ds s' h => by cases h; rfl
theorem aCons_len {c : SE} {t : SA} {n : Nat} (h : ∀ s ds s', t s = some (ds, s') → ds.length = n) : ∀ s ds s', aCons c t s = some (ds, s') → ds.length = n + 1 := fun s ds s' e => by
  unfold aCons at e
  obtain ⟨⟨⟨d1, b1⟩, s1⟩, e1, e⟩ := bind2 e
  obtain ⟨⟨ds2, s2⟩, e2, e⟩ := map2 e
  cases e
  rw [List.length_cons, h _ _ _ e2]
end
end Rb

namespace Rb
open PySem PySem.Spec PyProof.Rows L2
/-! ### flat data: in, index -/
def flatD : D → Bool
  | .non => true | .bl _ => true | .int _ => true | .str _ => true | _ => false
def toV : D → V
  | .bl b => .bl b | .int i => .int i | .str x => .str x | _ => .non
theorem Rp.flat {K : PySem.W.Frag} {P : Option Addr} {F : Hp} {d : D} {v : V} (h : Rp K P F d v) (hf : flatD d = true) : v = toV d ∧ flatV v = true := by
  cases d <;> first | (cases hf; done) | skip
  all_goals
    unfold Rp at h; subst h; exact ⟨rfl, rfl⟩
theorem RpL.flat {K : PySem.W.Frag} {P : Option Addr} {F : Hp} : ∀ {ds : List D} {vs : List V}, RpL K P F ds vs → ds.all flatD = true → vs = ds.map toV ∧ vs.all flatV = true
  | [], vs, h, _ => by unfold RpL at h; subst h; exact ⟨rfl, rfl⟩
  | d :: ds, vs, h, hf => by
    unfold RpL at h
    obtain ⟨x, r, rfl, hx, hr⟩ := h
    rw [List.all_cons, Bool.and_eq_true] at hf
    obtain ⟨e1, e2⟩ := hx.flat hf.1
    obtain ⟨e3, e4⟩ := RpL.flat hr hf.2
    subst e1 e3
    exact ⟨rfl, by rw [List.all_cons, e2, e4]; rfl⟩
def inD (x : D) (ds : List D) : Bool := ds.any fun y => eqV (toV y) (toV x)
theorem inD_eq {x : D} {ds : List D} : inV (toV x) (ds.map toV) = inD x ds := by
  unfold inV inD
  rw [List.any_map]; rfl
def dIn (x : D) : D → Option (D × Bool)
  | .lst ds => if flatD x && ds.all flatD then some (.bl (inD x ds), false) else none
  | .tup ds => if flatD x && ds.all flatD then some (.bl (inD x ds), false) else none
  | .dic ks => (keyOf x).map fun k => (.bl (valD ks k).isSome, false)
  | _ => none
def dNotIn (x : D) : D → Option (D × Bool)
  | .lst ds => if flatD x && ds.all flatD then some (.bl (!inD x ds), false) else none
  | .tup ds => if flatD x && ds.all flatD then some (.bl (!inD x ds), false) else none
  | .dic ks => (keyOf x).map fun k => (.bl (!(valD ks k).isSome), false)
  | _ => none
theorem ok_in_seq {K : PySem.W.Frag} {ω : Wd} {F : Hp} {σ : L2.St} {H : Hp} {s : S} {x : D} {v u : V} {ds : List D} {neg : Bool} {Q : VK} (sr : Sr K ω F σ H s) (hx : Rp K ω.P F x v) (hy : Rp K ω.P F (.lst ds) u ∨ Rp K ω.P F (.tup ds) u) (h : (flatD x && ds.all flatD) = true) (p : Post K ω F σ s (.bl (if neg then !inD x ds else inD x ds)) false Q) : rIn K neg v u H Q := by
  rw [Bool.and_eq_true] at h
  obtain ⟨e1, e2⟩ := hx.flat h.1
  have fin : ∀ (a : Addr) (xs : List V), u = .ref a → (SqL K H a xs ∨ SqT K H a xs) → RpL K ω.P F ds xs → rIn K neg v u H Q := fun a xs ea hq hr => by
    obtain ⟨e3, e4⟩ := hr.flat h.2
    refine ⟨a, xs, ea, hq, e2, e4, ?_⟩
    rw [e3, e1, inD_eq]
    refine sr.here (b := false) ?_ p
    show Rp _ _ _ _ _
    unfold Rp
    cases neg <;> rfl
  rcases hy with hy | hy
  · unfold Rp at hy
    obtain ⟨a, xs, ea, h1, h2⟩ := hy
    exact fin a xs ea (.inl (SqL.of (sr.sub _ _ h1))) h2
  · unfold Rp at hy
    obtain ⟨a, xs, ea, h1, h2⟩ := hy
    exact fin a xs ea (.inr (sqt_mono sr.sub h1)) h2
def rInD (neg : Bool) : R2 := fun y x H Q => ∃ a o, x = .ref a ∧ DGet H a y o ∧ Q (.bl (if neg then !o.isSome else o.isSome)) H
section
variable {X : Cx}
theorem PE.two {e : Expr} {t t' : TE} (h : PE X e t) (h' : PE X e t') : PE X e (fun σ H Q => t σ H Q ∨ t' σ H Q) := ⟨fun pins s σ H Q I hw => by
  rcases hw with q | q
  · exact h.run pins s σ H Q I q
  · exact h'.run pins s σ H Q I q⟩
theorem p_in {a b : Expr} {ea eb : SE} {pos : Pos} (hu : X.A.units + 1 < cLine) (ha : PE X a (rd X.K ea)) (hb : PE X b (rd X.K eb)) (hm : behindInMarks .In b = false) : PE X (.Compare a [.In] [b] pos) (rd X.K (cBin dIn ea eb)) :=
  (PE.two (pe_cmpR op_in_seq ha hb hm) (pe_cmp (pc_din hu ha hb) hm)).imp fun σ H Q hw => by
    obtain ⟨ω, F, s, d, b, s', sr, h, p⟩ := hw
    unfold cBin at h
    obtain ⟨⟨⟨d1, b1⟩, s1⟩, e1, h⟩ := bind2 h
    obtain ⟨⟨⟨d2, b2⟩, s2⟩, e2, h⟩ := bind2 h
    obtain ⟨z, e3, h⟩ := map2 h
    cases h
    dsimp only at e3
    unfold dIn at e3
    split at e3
    · split at e3
      · rename_i hf
        cases e3
        exact .inl (rd_use sr e1 fun v F1 H1 x1 r1 hv => rd_use r1 e2 fun u F2 H2 x2 r2 hu => ok_in_seq (neg := false) r2 (hv.mono x2) (.inl hu) hf (p.mono (x1.trans x2)))
      · cases e3
    · split at e3
      · rename_i hf
        cases e3
        exact .inl (rd_use sr e1 fun v F1 H1 x1 r1 hv => rd_use r1 e2 fun u F2 H2 x2 r2 hu => ok_in_seq (neg := false) r2 (hv.mono x2) (.inr hu) hf (p.mono (x1.trans x2)))
      · cases e3
    · rename_i ks
      obtain ⟨k, ek, e3⟩ := map2 e3
      cases e3
      refine .inr (rd_use sr e1 fun v F1 H1 x1 r1 hv => rd_use r1 e2 fun u F2 H2 x2 r2 hu => ?_)
      have hvk := keyOf_rp hv ek
      unfold Rp at hu
      obtain ⟨a, xs, rfl, h1, h2⟩ := hu
      refine ⟨a, valV xs k, rfl, .inl ⟨xs, k, rd_mono r2.sub h1, hvk, rfl⟩, r2.here (b := false) ?_ (p.mono (x1.trans x2))⟩
      show Rp _ _ _ _ _
      unfold Rp
      rcases h2.val k with ⟨g1, g2⟩ | ⟨d, w, g1, g2, _⟩ <;> rw [g1, g2] <;> rfl
    · cases e3
theorem p_notin {a b : Expr} {ea eb : SE} {pos : Pos} (hu : X.A.units + 1 < cLine) (ha : PE X a (rd X.K ea)) (hb : PE X b (rd X.K eb)) (hm : behindInMarks .NotIn b = false) : PE X (.Compare a [.NotIn] [b] pos) (rd X.K (cBin dNotIn ea eb)) :=
  (PE.two (pe_cmpR op_notIn_seq ha hb hm) (pe_cmp (pc_dnotin hu ha hb) hm)).imp fun σ H Q hw => by
    obtain ⟨ω, F, s, d, b, s', sr, h, p⟩ := hw
    unfold cBin at h
    obtain ⟨⟨⟨d1, b1⟩, s1⟩, e1, h⟩ := bind2 h
    obtain ⟨⟨⟨d2, b2⟩, s2⟩, e2, h⟩ := bind2 h
    obtain ⟨z, e3, h⟩ := map2 h
    cases h
    dsimp only at e3
    unfold dNotIn at e3
    split at e3
    · split at e3
      · rename_i hf
        cases e3
        exact .inl (rd_use sr e1 fun v F1 H1 x1 r1 hv => rd_use r1 e2 fun u F2 H2 x2 r2 hu => ok_in_seq (neg := true) r2 (hv.mono x2) (.inl hu) hf (p.mono (x1.trans x2)))
      · cases e3
    · split at e3
      · rename_i hf
        cases e3
        exact .inl (rd_use sr e1 fun v F1 H1 x1 r1 hv => rd_use r1 e2 fun u F2 H2 x2 r2 hu => ok_in_seq (neg := true) r2 (hv.mono x2) (.inr hu) hf (p.mono (x1.trans x2)))
      · cases e3
    · rename_i ks
      obtain ⟨k, ek, e3⟩ := map2 e3
      cases e3
      refine .inr (rd_use sr e1 fun v F1 H1 x1 r1 hv => rd_use r1 e2 fun u F2 H2 x2 r2 hu => ?_)
      have hvk := keyOf_rp hv ek
      unfold Rp at hu
      obtain ⟨a, xs, rfl, h1, h2⟩ := hu
      refine ⟨a, valV xs k, rfl, .inl ⟨xs, k, rd_mono r2.sub h1, hvk, rfl⟩, r2.here (b := false) ?_ (p.mono (x1.trans x2))⟩
      show Rp _ _ _ _ _
      unfold Rp
      rcases h2.val k with ⟨g1, g2⟩ | ⟨d, w, g1, g2, _⟩ <;> rw [g1, g2] <;> rfl
    · cases e3
/-! xs.index(y) -/
def dIndex : D → List D → Option (D × Bool)
  | .lst ds, [y] => if flatD y && ds.all flatD then (ds.findIdx? fun z => eqV (toV z) (toV y)).map fun j => (.int (j : Nat), false) else none
  | _, _ => none
def cMeth (f : D → List D → Option (D × Bool)) (a : SE) (t : SA) : SE := fun s => (a s).bind fun p => (t p.2).bind fun q => (f p.1.1 q.1).map fun z => (z, q.2)
theorem p_index {o e : Expr} {co : SE} {t : SA} {apos cpos : Pos} (ho : PE X o (rd X.K co)) (ha : PA X [e] (rdA X.K t))
    (hb : attributeBase o "index" X.env (eval o X.env) = eval o X.env)
    (hfew : ((backTo cpos (starEach [e] X.env)).all (fun x => !x.1) && (backToKw cpos (keywordEach [] X.env)).all (fun x => x.1.isSome)
      && decide (([e] : List Expr).length + ([] : List Keyword).length + (if ([] : List Keyword).isEmpty then 0 else 1) < 30)) = true)
    (hline : (apos.endLine == cpos.line) = true) (hs : starEach [e] X.env = (false, eval e X.env) :: starEach [] X.env) (hp : (backTo cpos (starEach [] X.env)).any (·.1) = false) :
    PE X (.Call (.Attribute o "index" apos) [e] [] cpos) (rd X.K (cMeth dIndex co t)) :=
  (pe_bm PySem.F.plainAttrs_list PySem.F.slot_list_index PySem.F.type_list_index mt_index ho ha hb hfew hline hs hp).imp fun σ H Q hw => by
    obtain ⟨ω, F, s, d, b, s', sr, h, p⟩ := hw
    unfold cMeth at h
    obtain ⟨⟨⟨d1, b1⟩, s1⟩, e1, h⟩ := bind2 h
    obtain ⟨⟨ds2, s2⟩, e2, h⟩ := bind2 h
    obtain ⟨z, e3, h⟩ := map2 h
    cases h
    dsimp only at e3
    unfold dIndex at e3
    split at e3
    · rename_i ds y _ _
      split at e3
      · rename_i hf
        rw [Bool.and_eq_true] at hf
        obtain ⟨j, ej, e3⟩ := map2 e3
        cases e3
        refine rd_use sr e1 fun v F1 H1 x1 r1 hv => ?_
        unfold Rp at hv
        obtain ⟨a, xs, rfl, h1, h2⟩ := hv
        refine ⟨Or.inl ⟨rfl, _, SqL.of (r1.sub _ _ h1)⟩, rdA_use r1 e2 fun vs F2 H2 x2 r2 hvs => ?_⟩
        obtain ⟨y2, rfl, hy2⟩ := hvs.one
        obtain ⟨g1, g2⟩ := hy2.flat hf.1
        obtain ⟨g3, g4⟩ := h2.flat hf.2
        subst g1 g3
        rw [List.findIdx?_eq_some_iff_getElem] at ej
        obtain ⟨hlt, hj, hno⟩ := ej
        refine ⟨a, _, _, j, toV ds[j], rfl, rfl, SqL.of (r2.sub _ _ (x2 _ _ h1)), g2, g4, by rw [List.getElem?_map, List.getElem?_eq_getElem hlt]; rfl, hj, fun m z' hm hz => ?_, r2.here (b := false) (by show Rp _ _ _ _ _; unfold Rp; rfl) (p.mono (x1.trans x2))⟩
        have hmlt : m < ds.length := by omega
        rw [List.getElem?_map, List.getElem?_eq_getElem hmlt] at hz
        cases hz
        have := hno m hm
        simpa using this
      · cases e3
    · cases e3
/-! list(range(n)) -/
def cListRg (c : SE) : SE := fun s => (c s).bind fun p => match p.1.1 with
  | .int n => if rgOk n && Nat.ble n.toNat 16777216 then some ((.lst (rngL 0 n.toNat), true), p.2) else none
  | _ => none
theorem p_listRg {a : Expr} {c : SE} {p pr pos ppos : Pos} (hc : X.calm = true) (hg : Gl X "list") (hm : X.mg "list" = none) (hg2 : Gl X "range") (hm2 : X.mg "range" = none) (ha : PE X a (rd X.K c))
    (na : starEach [a] X.env = (false, eval a X.env) :: starEach [] X.env := by rfl) (nb : starEach [.Call (.Name "range" pr) [a] [] ppos] X.env = (false, eval (.Call (.Name "range" pr) [a] [] ppos) X.env) :: starEach [] X.env := by rfl) :
    PE X (.Call (.Name "list" p) [.Call (.Name "range" pr) [a] [] ppos] [] pos) (rd X.K (cListRg c)) :=
  (pe_listRg hc hg hm (prg_1 hg2 hm2 ha na) nb).imp fun σ H Q hw => by
    obtain ⟨ω, F, s, d, b, s', sr, h, q⟩ := hw
    unfold cListRg at h
    obtain ⟨⟨⟨d1, b1⟩, s1⟩, e1, h⟩ := bind2 h
    dsimp only at h
    split at h
    · split at h
      · rename_i n hz
        have hz : -(2 ^ 62) ≤ n ∧ n < 2 ^ 62 ∧ n.toNat ≤ 2 ^ 24 := by
          rw [Bool.and_eq_true, Nat.ble_eq] at hz
          have := rgOk_is hz.1
          exact ⟨this.1, this.2, hz.2⟩
        cases h
        refine rd_use sr e1 fun v F1 H1 x1 r1 hv => ?_
        unfold Rp at hv; subst hv
        refine ⟨n, rfl, ⟨by omega, by omega, hz.1, hz.2.1, by rw [Int.sub_zero]; exact hz.2.2⟩, fun l hl => ?_⟩
        have e : rgV 0 n = (List.range n.toNat).map fun i => V.int (0 + (i : Nat)) := by unfold rgV; rw [Int.sub_zero]
        rw [e]
        refine r1.newL hl ?_ (q.mono x1)
        refine .of_get (by simp [rngL]) fun i d x h1 h2 => ?_
        obtain ⟨hi, rfl⟩ := rngL_get h1
        rw [List.getElem?_map, List.getElem?_range hi] at h2
        cases h2
        unfold Rp; rfl
      · cases h
    · cases h
end

/-! ### the law's own: a pot is made; the law of a cell is asked of it -/
abbrev PotFn := List D → Option (Int × Int × Int)
def spPot (K : PySem.W.Frag) (k : Nat) (f : PotFn) : Sp := fun vs H Q _ => vs.length = k ∧ ∃ F ds t, Ex F H ∧ RpL K none F ds vs ∧ f ds = some t ∧
  ∀ q F' H', Ex F F' → Ex F' H' → H q = none → F' q = none → H' q = some (.lst [.int t.1, .int t.2.1, .int t.2.2]) → Ex H H' → (∀ a o, F' a = some o → F a = some o ∨ H a = none) → Q (.ref q) H'
structure DefP (P : Program) (w : World) (K : PySem.W.Frag) (mg : Str → Option Value) (base : Heap) (x : Str) (k n : Nat) (f : PotFn) : Prop where
  ex : ∃ (a : Addr) (fd : FuncData) (ps : List Str), mg x = some (.ref a) ∧ PySem.W.keepIn K (.ref a) = true ∧ FnOk P w K mg base CX0 k a fd ps (spPot K n f) ∧ Binds K fd ps []
def runP (n : Nat) (c1 c2 c3 : SS) (t : SA) : PotFn := fun ds => match c1 ⟨ds.map .val ++ List.replicate (n - ds.length) .no, none⟩ with
  | some (.nx, s1) => match c2 s1 with
    | some (.nx, s2) => match c3 s2 with
      | some (.nx, s3) => match t s3 with
        | some ([.int a, .int b, .int c], _) => some (a, b, c)
        | _ => none
      | _ => none
    | _ => none
  | _ => none
section
variable {P : Program} {w : World} {K : PySem.W.Frag} {mg : Str → Option Value} {base : Heap}
theorem def_pot {x qual : Str} {st s1 s2 s3 : Stmt} {es : List Expr} {lp rp : Pos} {f : Addr} {fd : FuncData} {N ps : List Str} {k n : Nat} {c1 c2 c3 : SS} {t : SA} (hg : mg x = some (.ref f)) (F : Fun K x qual st f fd) (hb : Binds K fd ps []) (S : FnScope N ps (defScope st)) (hn : ps.length = n)
    (hbd : defBody st = [s1, s2, s3, .Return (some (.List es lp)) rp])
    (hbody : ∀ (cdv : Value) (A : Around) (outer : List Env) (s : Shared) (H : Hp) (E : XK), Room k (A.deeper (envOfC qual (defScope st) s.heap.objs.size f cdv)) →
      ∀ X, X = (cxOf CX0 P w K mg base N qual (defScope st) f cdv A outer s H E).nox → PS X s1 (rdS K c1) ∧ PS X s2 (rdS K c2) ∧ PS X s3 (rdS K c3) ∧ PA X es (rdA K t)) : DefP P w K mg base x (k + 1) n (runP N.length c1 c2 c3 t) := by
  subst hn
  refine ⟨f, fd, ps, hg, F.kp, ?_, hb⟩
  refine F.ok S (fun vs H Q E h => h.1) (fun cdv A outer s H vs Q E hr hsp => ?_)
  obtain ⟨b1, b2, b3, b4⟩ := hbody cdv A outer s H E hr _ rfl
  rw [hbd]
  refine ⟨_, pss_cons b1 (pss_cons b2 (pss_cons b3 (pss_one (ps_ret (pe_lst b4))))), ?_⟩
  obtain ⟨hl, F0, ds, t0, h1, h3, h4, h5⟩ := hsp
  have hN : vs.length ≤ N.length := by
    have := congrArg List.length S.pre
    rw [List.length_take] at this; omega
  unfold runP at h4
  have sr := startB (p := none) hN h1 rfl h3
  split at h4
  · rename_i s1 e1
    split at h4
    · rename_i s2 e2
      split at h4
      · rename_i s3 e3
        split at h4
        · rename_i a b c s4 e4
          cases h4
          refine ⟨_, F0, _, _, _, sr, e1, fun σ1 F1 H1 x1 r1 => ⟨_, F1, _, _, _, r1, e2, fun σ2 F2 H2 x2 r2 => ⟨_, F2, _, _, _, r2, e3, fun σ3 F3 H3 x3 r3 => ?_⟩⟩⟩
          refine rdA_use r3 e4 fun us F4 H4 x4 r4 hu => ⟨by rw [hu.len]; exact szOk_le rfl, fun q hq => ?_⟩
          have hus : us = [.int a, .int b, .int c] := RpL.ints (ns := [a, b, c]) hu
          have hH : H q = none := by
            cases z : H q with
            | none => rfl
            | some o => rw [r4.frm q o (fun z => nomatch z) z] at hq; cases hq
          refine h5 q F4 _ (((x1.trans x2).trans x3).trans x4) (r4.sub.updR (r4.sub.none hq)) hH (r4.sub.none hq) (by rw [hus]; exact upd_same) (fun a o ha => ?_) r4.new
          have := r4.frm a o (fun z => nomatch z) ha
          rw [upd_ne (ne_of_none this hq)]; exact this
        · cases h4
      · cases h4
    · cases h4
  · cases h4
end
/-- f(g(..)): g makes a pot, f asks it -/
def cPotCall (g : PotFn) (f : Fn) (t : SA) : SE := fun s => match s.p with
  | none => (t s).bind fun p => match p.2.p with
    | none => (g p.1).bind fun u => (f [.pot] (some u)).bind fun q => match q.1 with
      | .bl b => some ((.bl b, false), p.2)
      | _ => none
    | _ => none
  | _ => none
section
variable {X : Cx}
theorem p_potCall {x y : Str} {k1 k2 j n : Nat} {g : PotFn} {f : Fn} {t : SA} {e : Expr} {es : List Expr} {p1 p2 pos1 pos2 : Pos} (hg : DefP X.prog X.w X.K X.mg X.base y k1 n g) (hf : Def X.prog X.w X.K X.mg X.base x k2 1 f) (hr : Room j X.A) (hk1 : k1 ≤ j) (hk2 : k2 ≤ j) (hgx : Gl X x) (hgy : Gl X y) (ha : PA X (e :: es) (rdA X.K t)) (hlen : ∀ s ds s', t s = some (ds, s') → ds.length = n)
    (hdx : (x == ("__debug__" : Str)) = false := by decide) (hdy : (y == ("__debug__" : Str)) = false := by decide)
    (he : starEach (e :: es) X.env = (false, eval e X.env) :: starEach es X.env := by rfl) (hpl : (backTo pos2 (starEach es X.env)).any (·.1) = false := by rfl)
    (he1 : starEach [.Call (.Name y p2) (e :: es) [] pos2] X.env = (false, eval (.Call (.Name y p2) (e :: es) [] pos2) X.env) :: starEach [] X.env := by rfl) (hpl1 : (backTo pos1 (starEach [] X.env)).any (·.1) = false := by rfl) :
    PE X (.Call (.Name x p1) [.Call (.Name y p2) (e :: es) [] pos2] [] pos1) (rd X.K (cPotCall g f t)) := by
  obtain ⟨a, fd, ps, h1, h2, h3, h4⟩ := hf.ex
  obtain ⟨a', fd', ps', h1', h2', h3', h4'⟩ := hg.ex
  refine (pe_call (E := E0) h3 (hr.mono hk2) hgx h1 h2 h4 .nil pass0 (pa_cons (pe_call (E := E0) h3' (hr.mono hk1) hgy h1' h2' h4' .nil pass0 ha hdy he hpl) pa_nil he1) hdx he1 hpl1).imp fun σ H Q hw => ?_
  obtain ⟨ω, F, s, d, b, s', sr, h, q⟩ := hw
  unfold cPotCall at h
  split at h
  · rename_i hp0
    obtain ⟨⟨ds, s1⟩, e1, h⟩ := bind2 h
    dsimp only at h
    split at h
    · rename_i hp1
      obtain ⟨u, e2, h⟩ := bind2 h
      obtain ⟨⟨d3, p3⟩, e3, h⟩ := bind2 h
      have hb3 : ∃ b3, d3 = .bl b3 := by cases d3 <;> first | exact ⟨_, rfl⟩ | (cases h; done)
      obtain ⟨b3, rfl⟩ := hb3
      cases h
      refine rdA_use sr e1 fun vs F1 H1 x1 r1 hv => ?_
      have hP : ω.P = none := by
        have z := r1.pt
        rw [hp1] at z; exact z
      rw [List.append_nil]
      rw [hP] at hv
      refine ⟨by rw [hv.len]; exact hlen _ _ _ e1, F1, ds, u, r1.sub, hv, e2, fun l F2 H2 x2 ex2 hl hFl hH2 ex12 nw => ?_⟩
      show spF X.K 1 f ([.ref l] ++ []) H2 Q E0
      refine ⟨rfl, some l, F2, [.pot], some u, .bl b3, p3, ex2, ⟨l, rfl, hH2, hFl⟩, .cons (by unfold Rp; exact ⟨l, rfl, rfl⟩) .nil, e3, fun v F3 H3 x3 ex3 pt3 kp nw3 hr3 => ?_⟩
      have nl : ∀ a o, F3 a = some o → a ≠ l := fun a o ha z => by
        cases p3 with
        | none => exact absurd pt3 (fun z => nomatch z)
        | some t3 =>
          obtain ⟨l', el, _, hF3⟩ := pt3
          cases el
          rw [z, hF3] at ha; cases ha
      refine q v F3 H3 ((x1.trans x2).trans x3) ⟨r1.len, ex3, fun a o hPa ha => ?_, fun a o ha => ?_, by rw [hP, hp1]; rfl, fun i c hc => ?_, r1.dis⟩ ?_
      · have g1 := r1.frm a o hPa ha
        have : a ≠ l := fun z => by rw [z, hl] at g1; cases g1
        exact kp a o (fun z => by cases z; exact this rfl) (ex12 a o g1)
      · rcases nw3 a o ha with z | z
        · rcases nw a o z with z2 | z2
          · exact r1.new a o z2
          · exact .inr (r1.h0 z2)
        · refine .inr (r1.h0 ?_)
          cases w : H1 a with
          | none => rfl
          | some o' => rw [ex12 a o' w] at z; cases z
      · refine (r1.sl i c hc).mono (x2.trans x3) fun a hown hσ hne hF => ?_
        obtain ⟨d0, rfl⟩ := hown
        obtain ⟨⟨o, ho⟩, _, _, _⟩ := r1.ownAt ⟨i, d0, hc, hσ⟩
        have anl : a ≠ l := fun z => by rw [z, hl] at ho; cases ho
        refine ⟨by rw [kp a o (fun z => by cases z; exact anl rfl) (ex12 a o ho), ho], ?_⟩
        cases w : F3 a with
        | none => rfl
        | some o3 =>
          rcases nw3 a o3 w with z | z
          · rcases nw a o3 z with z2 | z2
            · rw [hF] at z2; cases z2
            · rw [ho] at z2; cases z2
          · rw [ex12 a o ho] at z; cases z
      · show Rp _ _ _ _ _
        unfold Rp at hr3 ⊢
        exact hr3
    · cases h
  · cases h
end
end Rb

namespace Rb
open PySem PySem.Spec PyProof.Rows L2
/-! ### powers of wider bases -/
def CPowW (i j : Int) : Prop := CPow i j ∨ (0 ≤ j ∧ (Builtin.Int.intBits i : Int) * j ≤ 2 ^ 27)
theorem op_powW {X : Cx} : OpR X (binaryOp .Pow) (rI CPowW fun i j => .int (i ^ j.toNat)) := opI fun _ _ _ _ _ _ _ hc q => hc.elim (fun hc => pow_int_small hc.1 hc.2.1 hc.2.2 q) fun hc => PyProof.Rows.pow_int hc.1 hc.2 q
def powWC (i j : Int) : Bool := powC i j || decide (0 ≤ j ∧ (Builtin.Int.intBits i : Int) * j ≤ 134217728)
def dPowW := dI2 powWC fun i j => i ^ j.toNat
theorem ok_powW {K : PySem.W.Frag} : BinOk K dPowW (rI CPowW fun i j => .int (i ^ j.toNat)) := ok_I (fun _ _ h => by
  rcases (by simpa [powWC] using h : powC _ _ = true ∨ _) with h | h
  · exact .inl (by simpa [powC, CPow] using h)
  · exact .inr h) fun _ _ _ => rfl
/-! ### the module's own names -/
section
variable {X : Cx}
theorem p_gc {x : Str} {v : V} {d : D} {pos : Pos} (hg : Gl X x) (hm : ∃ u, X.mg x = some u ∧ RelV v u) (q : ∀ P F, Rp X.K P F d v) (hd : (x == ("__debug__" : Str)) = false := by decide) : PE X (.Name x pos) (rd X.K (cD d)) := by
  obtain ⟨u, h1, h2⟩ := hm
  exact p_c (pe_glob hg h1 h2 hd) q
end
theorem q_int {K : PySem.W.Frag} {i : Int} : ∀ P F, Rp K P F (.int i) (.int i) := fun _ _ => by unfold Rp; rfl
theorem q_str {K : PySem.W.Frag} {i : Str} : ∀ P F, Rp K P F (.str i) (.str i) := fun _ _ => by unfold Rp; rfl
def cExpr (c : SE) : SS := fun s => (c s).map fun p => (.nx, p.2)
section
variable {X : Cx}
theorem s_expr {e : Expr} {c : SE} {pos : Pos} (he : PE X e (rd X.K c)) (hs : swapsWith e none pos.line X.env = pure false := by rfl) : PS X (.Expr e pos) (rdS X.K (cExpr c)) :=
  (ps_expr he hs).imp fun D' σ H ⟨ω, F, s, fl, s', sr, h, p⟩ => by
    unfold cExpr at h
    obtain ⟨⟨⟨d, b⟩, s1⟩, e1, e2⟩ := map2 h
    cases e2
    exact rd_use sr e1 fun v F' H' x r hv => p σ F' H' x r
end

/-! ### what nobody changes is known at once -/
def cFz (c : SE) : SE := fun s => (c s).map fun p => ((p.1.1, false), p.2)
theorem fz_use {K : PySem.W.Frag} {c : SE} {σ : L2.St} {H : Hp} {Q : VK} (hw : rd K (cFz c) σ H Q) : rd K c σ H Q := by
  obtain ⟨ω, F, s, d, b, s', sr, e, p⟩ := hw
  unfold cFz at e
  obtain ⟨⟨⟨d1, b1⟩, s1⟩, e1, e2⟩ := map2 e
  cases e2
  exact rd_use sr e1 fun v F1 H1 x1 r1 hv => r1.here (b := false) hv (p.mono x1)
section
variable {X : Cx}
theorem p_fz {e : Expr} {c : SE} (h : PE X e (rd X.K c)) : PE X e (rd X.K (cFz c)) := h.imp fun _ _ _ => fz_use
theorem s_setLcZ {i : Nat} {y : Str} {py : Pos} {elt tg iter : Expr} {ifs : List Expr} {scope : Scope} {own : List (Str × Nat)} {pos spos : Pos} {it : SI} {ts : List Nat} {g : D → S → Option S} {tt : ST} {te : SE} (hc : X.calm = true) (hN : X.N.Nodup) (hy : X.N[i]? = some y) (hyl : X.env.scope.names.lookup y = some .local)
    (hsw : swapsWith (.ListComp elt [⟨tg, iter, ifs, 0⟩] scope pos) (some (.Name y py)) spos.line X.env = pure true) (hi : PI X tg iter (rdI X.K it)) (ok : BlkOk X.N X.env.scope scope own)
    (hts : ∀ i ∈ ts, i ∈ own.map (·.2))
    (hg : ∀ (s : Shared) (H : Hp) (C : Addr) (cl : List (Str × Addr)) (fp : List Addr), PG (X.blk s H scope (compEnvC scope cl C X.env) fp) tg (rdG X.K ts g)) (ht : ∀ (s : Shared) (H : Hp) (C : Addr) (cl : List (Str × Addr)) (fp : List Addr), PTs (X.blk s H scope (compEnvC scope cl C X.env) fp) ifs (rdT X.K tt))
    (he : ∀ (s : Shared) (H : Hp) (C : Addr) (cl : List (Str × Addr)) (fp : List Addr), PE (X.blk s H scope (compEnvC scope cl C X.env) fp) elt (rd X.K te)) (hs : ∀ x, foldedSetIterable iter X.env x = pure x := by intro _; rfl) :
    PS X (.Assign [.Name y py] (.ListComp elt [⟨tg, iter, ifs, 0⟩] scope pos) spos) (rdS X.K (cSet i (cFz (cLC it g tt te (own.map (·.2)))))) :=
  (ps_setLc hc hN hy hyl hsw hi ok hg ht he hs).imp fun D' σ H ⟨ω, F, s, fl, s', sr, h, p⟩ => by
    unfold cSet at h
    obtain ⟨⟨⟨d1, b1⟩, s1⟩, e1, h⟩ := map2 h
    cases h
    exact lc_go hts (fz_use (rd_keep sr e1 fun v F1 H1 x1 r1 hv _ _ => p _ F1 H1 x1 (r1.setS hv)))
end
/-! ### builtins -/
theorem bt_int : bootBuiltins "int" = some (.type "int") := by decide +kernel
theorem bt_bool : bootBuiltins "bool" = some (.type "bool") := by decide +kernel
theorem bt_tuple : bootBuiltins "tuple" = some (.type "tuple") := by decide +kernel
theorem bt_list : bootBuiltins "list" = some (.type "list") := by decide +kernel
theorem bt_str : bootBuiltins "str" = some (.type "str") := by decide +kernel
theorem bt_dict : bootBuiltins "dict" = some (.type "dict") := by decide +kernel
theorem bt_set : bootBuiltins "set" = some (.type "set") := by decide +kernel
theorem bt_all : bootBuiltins "all" = some (.builtin "all") := by decide +kernel
theorem bt_any : bootBuiltins "any" = some (.builtin "any") := by decide +kernel
theorem bt_abs : bootBuiltins "abs" = some (.builtin "abs") := by decide +kernel
theorem bt_max : bootBuiltins "max" = some (.builtin "max") := by decide +kernel
theorem bt_min : bootBuiltins "min" = some (.builtin "min") := by decide +kernel
theorem bt_sum : bootBuiltins "sum" = some (.builtin "sum") := by decide +kernel
theorem bt_sorted : bootBuiltins "sorted" = some (.builtin "sorted") := by decide +kernel
theorem bt_len : bootBuiltins "len" = some (.builtin "len") := by decide +kernel
theorem bt_isinstance : bootBuiltins "isinstance" = some (.builtin "isinstance") := by decide +kernel
theorem bt_repr : bootBuiltins "repr" = some (.builtin "repr") := by decide +kernel
theorem bt_divmod : bootBuiltins "divmod" = some (.builtin "divmod") := by decide +kernel
theorem bt_pow : bootBuiltins "pow" = some (.builtin "pow") := by decide +kernel
theorem bt_iter : bootBuiltins "iter" = some (.builtin "iter") := by decide +kernel
theorem bt_next : bootBuiltins "next" = some (.builtin "next") := by decide +kernel
theorem bt_range : bootBuiltins "range" = some (.type "range") := by decide +kernel
theorem bt_zip : bootBuiltins "zip" = some (.type "zip") := by decide +kernel
theorem bt_enumerate : bootBuiltins "enumerate" = some (.type "enumerate") := by decide +kernel
theorem bt_reversed : bootBuiltins "reversed" = some (.type "reversed") := by decide +kernel
theorem bt_map : bootBuiltins "map" = some (.type "map") := by decide +kernel
theorem sp_law {K : PySem.W.Frag} {f : Fn} {H : Hp} {a : Addr} {ns : List Int} {E : XK} (h : ∃ p', f [.scr ns] none = some (.bl true, p')) (hS : SqL K H a (ns.map V.int)) : spF K 1 f [.ref a] H (fun v _ => v = .bl true) E := by
  obtain ⟨p', h⟩ := h
  refine ⟨rfl, none, H, [.scr ns], none, .bl true, p', Ex.refl H, rfl, .cons (by unfold Rp; exact ⟨a, rfl, hS⟩) .nil, h, ?_⟩
  intro v F' H' _ _ _ _ _ hv
  unfold Rp at hv
  exact hv
end Rb

namespace Rb
open PySem PySem.Spec PyProof.Rows L2
/-! ### evaluation -/
theorem kb1 : kitB "int" "int" = some true := by decide +kernel
theorem kb2 : kitB "int" "bool" = some false := by decide +kernel
theorem kb3 : kitB "tuple" "tuple" = some true := by decide +kernel
theorem kb4 : kitB "list" "tuple" = some false := by decide +kernel
theorem kb5 : kitB "bool" "int" = some true := by decide +kernel
theorem kb6 : kitB "bool" "bool" = some true := by decide +kernel
theorem kb7 : kitB "int" "tuple" = some false := by decide +kernel
theorem kb8 : kitB "str" "str" = some true := by decide +kernel
theorem isi_i {a : SE} {T : String} {s s' : S} {i : Int} {b : Bool} (h : a s = some ((.int i, b), s')) : cIsi T a s = (kitB "int" T).map fun b => ((.bl b, false), s') := by
  simp only [cIsi, h, Option.bind_some, dTy]
theorem isi_t {a : SE} {T : String} {s s' : S} {i : List D} {b : Bool} (h : a s = some ((.tup i, b), s')) : cIsi T a s = (kitB "tuple" T).map fun b => ((.bl b, false), s') := by
  simp only [cIsi, h, Option.bind_some, dTy]
def ab (i : Int) : Int := if i < 0 then -i else i
def mx (i j : Int) : Int := if j > i then j else i
def mn (i j : Int) : Int := if j < i then j else i
theorem fAbs_ev {i : Int} : fAbs [.int i] = some (.int (ab i), false) := rfl
theorem fMax_ev {i j : Int} : fMax [.int i, .int j] = some (.int (mx i j), false) := rfl
theorem fMin_ev {i j : Int} : fMin [.int i, .int j] = some (.int (mn i j), false) := rfl
theorem fMax_t {ns : List Int} (h : 0 < ns.length) : fMax [.tup (ns.map .int)] = some (.int (maxL ns), false) := by
  cases ns with
  | nil => simp at h
  | cons n ns => 
    show (intsOf ((n :: ns).map D.int)).map _ = _
    rw [intsOf_map]; rfl
theorem fMin_t {ns : List Int} (h : 0 < ns.length) : fMin [.tup (ns.map .int)] = some (.int (minL ns), false) := by
  cases ns with
  | nil => simp at h
  | cons n ns => 
    show (intsOf ((n :: ns).map D.int)).map _ = _
    rw [intsOf_map]; rfl
theorem fMax_l {ns : List Int} (h : 0 < ns.length) : fMax [.lst (ns.map .int)] = some (.int (maxL ns), false) := by
  cases ns with
  | nil => simp at h
  | cons n ns => 
    show (intsOf ((n :: ns).map D.int)).map _ = _
    rw [intsOf_map]; rfl
theorem fSum_t {ns : List Int} : fSum [.tup (ns.map .int)] = some (.int ns.sum, false) := by
  show (intsOf _).map _ = _; rw [intsOf_map]; rfl
theorem fSum_l {ns : List Int} : fSum [.lst (ns.map .int)] = some (.int ns.sum, false) := by
  show (intsOf _).map _ = _; rw [intsOf_map]; rfl
theorem fSorted_t {ns : List Int} : fSorted [.tup (ns.map .int)] = some (.lst ((srt ns).map .int), true) := by
  show (intsOf _).map _ = _; rw [intsOf_map]; rfl
theorem fSorted_l {ns : List Int} : fSorted [.lst (ns.map .int)] = some (.lst ((srt ns).map .int), true) := by
  show (intsOf _).map _ = _; rw [intsOf_map]; rfl
theorem fAll_b {bs : List Bool} : fAll [.lst (bs.map .bl)] = some (.bl (bs.all id), false) := by
  show (blsOf _).map _ = _; rw [blsOf_map]; rfl
theorem fAny_b {bs : List Bool} : fAny [.lst (bs.map .bl)] = some (.bl (bs.any id), false) := by
  show (blsOf _).map _ = _; rw [blsOf_map]; rfl
theorem dMod_ev {a u : Int} (h : 0 < u) : dMod (.int a) (.int u) = some (.int (a % u), false) := by
  simp [dMod, dI2, modC, h]
theorem dSub_ev {a u : Int} : dSub (.int a) (.int u) = some (.int (a - u), false) := by simp [dSub, dI2]
theorem cs0 : ((0 : Nat) : Int) = 0 := rfl
theorem cs1 : ((1 : Nat) : Int) = 1 := rfl
theorem cs2 : ((2 : Nat) : Int) = 2 := rfl
theorem cs3 : ((3 : Nat) : Int) = 3 := rfl
theorem cs4 : ((4 : Nat) : Int) = 4 := rfl
theorem cs5 : ((5 : Nat) : Int) = 5 := rfl
theorem cs6 : ((6 : Nat) : Int) = 6 := rfl
theorem cs7 : ((7 : Nat) : Int) = 7 := rfl
theorem cs8 : ((8 : Nat) : Int) = 8 := rfl
theorem cs9 : ((9 : Nat) : Int) = 9 := rfl
theorem cs10 : ((10 : Nat) : Int) = 10 := rfl
theorem cs11 : ((11 : Nat) : Int) = 11 := rfl
theorem cs12 : ((12 : Nat) : Int) = 12 := rfl
theorem log2_le {n : Nat} (h : n < 2 ^ 4000) : n.log2 < 4000 := by
  by_cases q : n = 0
  · subst q; decide
  · exact (Nat.log2_lt q).2 h
theorem big_of {a : Int} (h : a.natAbs ≤ 2 ^ 70) : a.natAbs < 2 ^ 4000 := Nat.lt_of_le_of_lt h (Nat.pow_lt_pow_right (by decide) (by decide))
theorem dDiv_ev {a u : Int} (h : 0 < u) (h2 : u ≤ 1180591620717411303424) : dDiv (.int a) (.int u) = some (.int (a / u), false) := by
  have : u.natAbs.log2 < 9000 := Nat.lt_trans (log2_le (big_of (by omega))) (by decide)
  simp [dDiv, dI2, divC, h, this]
/-- a number that fits into 2^4000 -/
def Sm (a : Int) : Prop := a.natAbs < 2 ^ 4000
theorem Sm.of {a : Int} (h : -1180591620717411303424 ≤ a) (h2 : a ≤ 1180591620717411303424) : Sm a := big_of (by omega)
theorem dMul_ev {a b : Int} (h : Sm a) (h2 : Sm b) : dMulI (.int a) (.int b) = some (.int (a * b), false) := by
  have := log2_le h
  have := log2_le h2
  have : a.natAbs.log2 + b.natAbs.log2 < 1000000 := by omega
  simp [dMulI, dI2, mulC, this]
/-- the same for numbers that come near nought -/
theorem dMul_i {a b : Int} (h : -1180591620717411303424 ≤ a ∧ a ≤ 1180591620717411303424) (h2 : -1180591620717411303424 ≤ b ∧ b ≤ 1180591620717411303424) : dMulI (.int a) (.int b) = some (.int (a * b), false) := dMul_ev (.of h.1 h.2) (.of h2.1 h2.2)
/-! statements -/
section
variable {a b c0 : SS} {c : SE} {t : ST} {s s1 : S} {r : Option (Fl × S)} {d : D} {o : Bool} {i : Nat}
theorem seq_nx (h : a s = some (.nx, s1)) (h2 : b s1 = r) : cSeq a b s = r := by
  simp only [cSeq, h, Option.bind_some]; exact h2
theorem seq_rt (h : a s = some (.rt d, s1)) : cSeq a b s = some (.rt d, s1) := by
  simp only [cSeq, h, Option.bind_some]
theorem seq_ct (h : a s = some (.ct, s1)) : cSeq a b s = some (.ct, s1) := by
  simp only [cSeq, h, Option.bind_some]
theorem seq_bk (h : a s = some (.bk, s1)) : cSeq a b s = some (.bk, s1) := by
  simp only [cSeq, h, Option.bind_some]
theorem if_t (h : t s = some (true, s1)) (h2 : a s1 = r) : cIf t a b s = r := by
  simp only [cIf, h, Option.bind_some, if_true]; exact h2
theorem if_f (h : t s = some (false, s1)) (h2 : b s1 = r) : cIf t a b s = r := by
  simp only [cIf, h, Option.bind_some, Bool.false_eq_true, if_false]; exact h2
theorem set_ev {r0 : List Bd} {p : Pt} (h : c s = some ((d, o), ⟨r0, p⟩)) : cSet i c s = some (.nx, ⟨r0.set i (bdOf (d, o)), p⟩) := by
  simp only [cSet, h, Option.map_some]
theorem ret_ev (h : c s = some ((d, o), s1)) : cRet c s = some (.rt d, s1) := by
  simp only [cRet, h, Option.map_some]
end
theorem run_rt {n : Nat} {c : SS} {ds : List D} {p : Pt} {d : D} {s : S} (h : c ⟨ds.map .val ++ List.replicate (n - ds.length) .no, p⟩ = some (.rt d, s)) : runF n c ds p = some (d, s.p) := by
  simp only [runF, h]
theorem run_nx {n : Nat} {c : SS} {ds : List D} {p : Pt} {s : S} (h : c ⟨ds.map .val ++ List.replicate (n - ds.length) .no, p⟩ = some (.nx, s)) : runF n c ds p = some (.non, s.p) := by
  simp only [runF, h]
/-! loops -/
theorem for_inv {g : D → S → Option S} {body : SS} (J : Nat → S → Prop) : ∀ (ds : List D) (k : Nat) (s : S), (∀ j d s, ds[j]? = some d → J (k + j) s → ∃ s1, g d s = some s1 ∧ ∃ f s2, body s1 = some (f, s2) ∧ (f = .nx ∨ f = .ct) ∧ J (k + j + 1) s2) → J k s → ∃ s', forL g body ds s = some (.nx, s') ∧ J (k + ds.length) s'
  | [], k, s, h, j => ⟨s, rfl, j⟩
  | d :: ds, k, s, h, j => by
    obtain ⟨s1, e1, f, s2, e2, hf, j2⟩ := h 0 d s rfl j
    obtain ⟨s', e3, j3⟩ := for_inv J ds (k + 1) s2 (fun i e u hi hu => by
      obtain ⟨s1, e1, f, s2, e2, hf, j2⟩ := h (i + 1) e u (by simpa using hi) (by rw [show k + (i + 1) = k + 1 + i by omega]; exact hu)
      exact ⟨s1, e1, f, s2, e2, hf, by rw [show k + 1 + i + 1 = k + (i + 1) + 1 by omega]; exact j2⟩) j2
    refine ⟨s', ?_, by rw [List.length_cons, show k + (ds.length + 1) = k + 1 + ds.length by omega]; exact j3⟩
    simp only [forL, e1, Option.bind_some, e2]
    rcases hf with rfl | rfl <;> exact e3
/-! comprehensions -/
theorem wipe1 {r : List Bd} {i : Nat} : wipeB r [i] = r.set i .no := rfl
theorem set_set {r : List Bd} {i : Nat} {x y : Bd} : (r.set i x).set i y = r.set i y := List.set_set ..
theorem rest1 {old : List Bd} {i : Nat} {b : Bd} (h : old[i]? = some b) : restB old (old.set i .no) [i] = old := by
  show (old.set i .no).set i (old.getD i .no) = old
  rw [List.set_set, List.getD_eq_getElem?_getD, h, Option.getD_some]
  obtain ⟨hl, e⟩ := List.getElem?_eq_some_iff.1 h
  subst e
  exact List.set_getElem_self hl
def notOwn : Bd → Bool
  | .own _ => false
  | _ => true
theorem noOwn1 {s : S} {i : Nat} {b : Bd} (h : s.r[i]? = some b) (hb : notOwn b = true) : noOwn [i] s = true := by
  unfold noOwn
  simp only [List.all_cons, List.all_nil, Bool.and_true, h]
  cases b <;> simp_all [notOwn]
/-- one slot, nothing is changed: what is kept and what is told, thing by thing -/
theorem lcL_pure {te : SE} {tt : ST} {i : Nat} {p : Pt} {r : List Bd} {β : D → Bool} {φ : D → D} : ∀ (ds : List D) (acc : List D), (∀ d ∈ ds, tt ⟨r.set i (.val d), p⟩ = some (β d, ⟨r.set i (.val d), p⟩)) → (∀ d ∈ ds, β d = true → ∃ b, te ⟨r.set i (.val d), p⟩ = some ((φ d, b), ⟨r.set i (.val d), p⟩)) → acc.length + ds.length ≤ 1000000 →
    lcL (gN i) tt te [i] ds ⟨r.set i .no, p⟩ acc = some (acc ++ (ds.filter β).map φ, ⟨r.set i .no, p⟩)
  | [], acc, _, _, _ => by simp [lcL]
  | d :: ds, acc, ht, h, hz => by
    have e1 := ht d (.head _)
    have hz1 : acc.length + 1 ≤ 16777216 := by rw [List.length_cons] at hz; omega
    simp only [lcL, gN, set_set, Option.bind_some, e1]
    cases hb : β d with
    | true =>
      obtain ⟨b, e2⟩ := h d (.head _) hb
      simp only [e2, if_true, Option.bind_some, szOk, hz1, decide_true, wipeS, wipe1, set_set]
      rw [lcL_pure ds (acc ++ [φ d]) (fun e he => ht e (.tail _ he)) (fun e he => h e (.tail _ he)) (by rw [List.length_append, List.length_singleton]; rw [List.length_cons] at hz; omega), List.filter_cons_of_pos hb]
      simp
    | false =>
      simp only [Bool.false_eq_true, if_false, wipeS, wipe1, set_set]
      rw [lcL_pure ds acc (fun e he => ht e (.tail _ he)) (fun e he => h e (.tail _ he)) (by rw [List.length_cons] at hz; omega), List.filter_cons_of_neg (by simp [hb])]
theorem lc_pure {it : SI} {te : SE} {tt : ST} {i : Nat} {p : Pt} {r : List Bd} {b0 : Bd} {s0 : S} {ds : List D} {β : D → Bool} {φ : D → D} (hit : it s0 = some (ds, ⟨r, p⟩)) (hi : r[i]? = some b0) (hb : notOwn b0 = true)
    (ht : ∀ d ∈ ds, tt ⟨r.set i (.val d), p⟩ = some (β d, ⟨r.set i (.val d), p⟩)) (h : ∀ d ∈ ds, β d = true → ∃ b, te ⟨r.set i (.val d), p⟩ = some ((φ d, b), ⟨r.set i (.val d), p⟩)) (hz : ds.length ≤ 1000000) :
    cLC it (gN i) tt te [i] s0 = some ((.lst ((ds.filter β).map φ), true), ⟨r, p⟩) := by
  simp only [cLC, hit, Option.bind_some, noOwn1 (s := ⟨r, p⟩) hi hb, if_true, wipeS, wipe1]
  rw [lcL_pure ds [] ht h (by simpa using hz)]
  simp only [Option.map_some, rest1 hi, List.nil_append]
theorem lc_map {it : SI} {te : SE} {i : Nat} {p : Pt} {r : List Bd} {b0 : Bd} {s0 : S} {ds : List D} {φ : D → D} (hit : it s0 = some (ds, ⟨r, p⟩)) (hi : r[i]? = some b0) (hb : notOwn b0 = true)
    (h : ∀ d ∈ ds, ∃ b, te ⟨r.set i (.val d), p⟩ = some ((φ d, b), ⟨r.set i (.val d), p⟩)) (hz : ds.length ≤ 1000000) :
    cLC it (gN i) bYes te [i] s0 = some ((.lst (ds.map φ), true), ⟨r, p⟩) := by
  rw [lc_pure (β := fun _ => true) (φ := φ) hit hi hb (fun _ _ => rfl) (fun d hd _ => h d hd) hz]
  rw [List.filter_eq_self.2 (fun _ _ => rfl)]
/-- one slot, the pot goes on -/
theorem lcL_pot {te : SE} {i : Nat} {r : List Bd} (J : Nat → Pt → Prop) (Pd : D → Prop) : ∀ (ds : List D) (acc : List D) (k : Nat) (p : Pt), (∀ j d p, d ∈ ds → j < ds.length → J (k + j) p → ∃ x b p', te ⟨r.set i (.val d), p⟩ = some ((x, b), ⟨r.set i (.val d), p'⟩) ∧ J (k + j + 1) p' ∧ Pd x) → J k p → acc.length + ds.length ≤ 1000000 →
    ∃ xs p', lcL (gN i) bYes te [i] ds ⟨r.set i .no, p⟩ acc = some (acc ++ xs, ⟨r.set i .no, p'⟩) ∧ xs.length = ds.length ∧ (∀ x ∈ xs, Pd x) ∧ J (k + ds.length) p'
  | [], acc, k, p, _, j, _ => ⟨[], p, by simp [lcL], rfl, by simp, j⟩
  | d :: ds, acc, k, p, h, j, hz => by
    obtain ⟨x, b, p1, e1, j1, hx⟩ := h 0 d p (.head _) (by simp) j
    have hz1 : acc.length + 1 ≤ 16777216 := by rw [List.length_cons] at hz; omega
    obtain ⟨xs, p2, e2, l2, hp, j2⟩ := lcL_pot J Pd ds (acc ++ [x]) (k + 1) p1 (fun i e q he hi hq => by
      obtain ⟨y, c, p3, e3, j3, hy⟩ := h (i + 1) e q (.tail _ he) (by simpa using hi) (by rw [show k + (i + 1) = k + 1 + i by omega]; exact hq)
      exact ⟨y, c, p3, e3, by rw [show k + 1 + i + 1 = k + (i + 1) + 1 by omega]; exact j3, hy⟩) j1 (by rw [List.length_append, List.length_singleton]; rw [List.length_cons] at hz; omega)
    refine ⟨x :: xs, p2, ?_, by simp [l2], fun y hy => ?_, by rw [List.length_cons, show k + (ds.length + 1) = k + 1 + ds.length by omega]; exact j2⟩
    · simp only [lcL, gN, set_set, Option.bind_some, bYes, e1, if_true, szOk, hz1, decide_true, wipeS, wipe1]
      rw [show acc ++ x :: xs = acc ++ [x] ++ xs by simp]
      exact e2
    · rcases List.mem_cons.1 hy with rfl | hy
      · exact hx
      · exact hp y hy
theorem lc_pot {it : SI} {te : SE} {i : Nat} {p : Pt} {r : List Bd} {b0 : Bd} {s0 : S} {ds : List D} (J : Nat → Pt → Prop) (Pd : D → Prop) (k : Nat) (hit : it s0 = some (ds, ⟨r, p⟩)) (hi : r[i]? = some b0) (hb : notOwn b0 = true)
    (h : ∀ j d p, d ∈ ds → j < ds.length → J (k + j) p → ∃ x b p', te ⟨r.set i (.val d), p⟩ = some ((x, b), ⟨r.set i (.val d), p'⟩) ∧ J (k + j + 1) p' ∧ Pd x) (j : J k p) (hz : ds.length ≤ 1000000) :
    ∃ xs p', cLC it (gN i) bYes te [i] s0 = some ((.lst xs, true), ⟨r, p'⟩) ∧ xs.length = ds.length ∧ (∀ x ∈ xs, Pd x) ∧ J (k + ds.length) p' := by
  obtain ⟨xs, p', e, l, hp, j2⟩ := lcL_pot J Pd ds [] k p h j (by simpa using hz)
  refine ⟨xs, p', ?_, l, hp, j2⟩
  simp only [cLC, hit, Option.bind_some, noOwn1 (s := ⟨r, p⟩) hi hb, if_true, wipeS, wipe1, e, Option.map_some, rest1 hi, List.nil_append]
/-! equality -/
theorem eqB_int {i j : Int} : eqB (.int i) (.int j) = decide (i = j) := by
  simp only [eqB, D.py, PyData.eqv, Bool.beq_eq_decide_eq]
theorem eqB_bl {i j : Bool} : eqB (.bl i) (.bl j) = (i == j) := by
  simp [eqB, D.py, PyData.eqv]
theorem eqB_str {i j : Str} : eqB (.str i) (.str j) = (i == j) := by
  simp [eqB, D.py, PyData.eqv]
theorem eqB_tup0 : eqB (.tup []) (.tup []) = true := by simp [eqB, D.py, D.pyL, PyData.eqv, PyData.eqvAll]
theorem eqB_tup {x y : D} {xs ys : List D} : eqB (.tup (x :: xs)) (.tup (y :: ys)) = (eqB x y && eqB (.tup xs) (.tup ys)) := by simp [eqB, D.py, D.pyL, PyData.eqv, PyData.eqvAll]
theorem eqB_lst0 : eqB (.lst []) (.lst []) = true := by simp [eqB, D.py, D.pyL, PyData.eqv, PyData.eqvAll]
theorem eqB_lst {x y : D} {xs ys : List D} : eqB (.lst (x :: xs)) (.lst (y :: ys)) = (eqB x y && eqB (.lst xs) (.lst ys)) := by simp [eqB, D.py, D.pyL, PyData.eqv, PyData.eqvAll]
theorem eqB_tupF0 {y : D} {ys : List D} : eqB (.tup []) (.tup (y :: ys)) = false := by simp [eqB, D.py, D.pyL, PyData.eqv, PyData.eqvAll]
theorem eqB_tupF1 {y : D} {ys : List D} : eqB (.tup (y :: ys)) (.tup []) = false := by simp [eqB, D.py, D.pyL, PyData.eqv, PyData.eqvAll]
theorem eqB_lstF0 {y : D} {ys : List D} : eqB (.lst []) (.lst (y :: ys)) = false := by simp [eqB, D.py, D.pyL, PyData.eqv, PyData.eqvAll]
theorem eqB_lstF1 {y : D} {ys : List D} : eqB (.lst (y :: ys)) (.lst []) = false := by simp [eqB, D.py, D.pyL, PyData.eqv, PyData.eqvAll]
theorem eqB_non : eqB .non .non = true := by simp [eqB, D.py, PyData.eqv]
mutual
theorem eqB_rfl : ∀ (n : Nat) (d : D), D.sh n d = true → eqB d d = true
  | n, .non, _ => eqB_non
  | n, .bl b, _ => by simp [eqB_bl]
  | n, .int i, _ => by simp [eqB_int]
  | n, .str x, _ => by simp [eqB_str]
  | 0, .tup ds, h => by simp [D.sh] at h
  | 0, .lst ds, h => by simp [D.sh] at h
  | n + 1, .tup ds, h => (eqB_rflL n ds (by simpa [D.sh] using h)).1
  | n + 1, .lst ds, h => (eqB_rflL n ds (by simpa [D.sh] using h)).2
  | n, .dic _, h => by cases n <;> simp [D.sh] at h
  | n, .pot, h => by cases n <;> simp [D.sh] at h
  | n, .scr _, h => by cases n <;> simp [D.sh] at h
theorem eqB_rflL : ∀ (n : Nat) (ds : List D), D.shL n ds = true → eqB (.tup ds) (.tup ds) = true ∧ eqB (.lst ds) (.lst ds) = true
  | n, [], _ => ⟨eqB_tup0, eqB_lst0⟩
  | n, d :: ds, h => by
    rw [D.shL, Bool.and_eq_true] at h
    have h1 := eqB_rfl n d h.1
    have h2 := eqB_rflL n ds h.2
    rw [eqB_tup, eqB_lst, h1, h2.1, h2.2]
    exact ⟨rfl, rfl⟩
end
theorem dEq_rfl {x y : D} (h : D.sh 64 x = true) (e : x = y) : dEq x y = some (.bl true, false) := by
  subst e
  simp only [dEq, h, Bool.and_self, if_true, eqB_rfl 64 x h]
theorem dNe_rfl {x y : D} (h : D.sh 64 x = true) (e : x = y) : dNe x y = some (.bl false, false) := by
  subst e
  simp only [dNe, h, Bool.and_self, if_true, eqB_rfl 64 x h, Bool.not_true]
theorem sh_int {n : Nat} {i : Int} : D.sh n (.int i) = true := by cases n <;> rfl
theorem sh_bl {n : Nat} {i : Bool} : D.sh n (.bl i) = true := by cases n <;> rfl
theorem sh_non {n : Nat} : D.sh n .non = true := by cases n <;> rfl
theorem sh_tup {n : Nat} {ds : List D} : D.sh (n + 1) (.tup ds) = D.shL n ds := by simp [D.sh]
theorem sh_lst {n : Nat} {ds : List D} : D.sh (n + 1) (.lst ds) = D.shL n ds := by simp [D.sh]
theorem sh_tup64 {ds : List D} : D.sh 64 (.tup ds) = D.shL 63 ds := sh_tup
theorem sh_lst64 {ds : List D} : D.sh 64 (.lst ds) = D.shL 63 ds := sh_lst
theorem sh_tup63 {ds : List D} : D.sh 63 (.tup ds) = D.shL 62 ds := sh_tup
theorem sh_lst63 {ds : List D} : D.sh 63 (.lst ds) = D.shL 62 ds := sh_lst
theorem sh_tup62 {ds : List D} : D.sh 62 (.tup ds) = D.shL 61 ds := sh_tup
theorem sh_lst62 {ds : List D} : D.sh 62 (.lst ds) = D.shL 61 ds := sh_lst
theorem shL_nil {n : Nat} : D.shL n [] = true := by simp [D.shL]
theorem shL_cons {n : Nat} {d : D} {ds : List D} : D.shL n (d :: ds) = (D.sh n d && D.shL n ds) := by simp [D.shL]
theorem shL_ints {n : Nat} : ∀ ns : List Int, D.shL n (ns.map .int) = true
  | [] => shL_nil
  | x :: xs => by rw [List.map_cons, shL_cons, sh_int, shL_ints xs]; rfl
theorem shL_bls {n : Nat} : ∀ ns : List Bool, D.shL n (ns.map .bl) = true
  | [] => shL_nil
  | x :: xs => by rw [List.map_cons, shL_cons, sh_bl, shL_bls xs]; rfl
theorem shL_all {n : Nat} : ∀ {ds : List D}, (∀ d ∈ ds, D.sh n d = true) → D.shL n ds = true
  | [], _ => shL_nil
  | x :: xs, h => by rw [shL_cons, h x (.head _), shL_all fun d hd => h d (.tail _ hd)]; rfl
theorem dEq_int {i j : Int} : dEq (.int i) (.int j) = some (.bl (decide (i = j)), false) := by
  simp only [dEq, sh_int, Bool.and_self, if_true, eqB_int]
theorem dNe_int {i j : Int} : dNe (.int i) (.int j) = some (.bl (!decide (i = j)), false) := by
  simp only [dNe, sh_int, Bool.and_self, if_true, eqB_int]
theorem dEq_bl {i j : Bool} : dEq (.bl i) (.bl j) = some (.bl (i == j), false) := by
  simp only [dEq, sh_bl, Bool.and_self, if_true, eqB_bl]
theorem dNe_bl {i j : Bool} : dNe (.bl i) (.bl j) = some (.bl (!(i == j)), false) := by
  simp only [dNe, sh_bl, Bool.and_self, if_true, eqB_bl]
/-- two pairs of numbers -/
theorem dEq_pair {a b c d : Int} : dEq (.tup [.int a, .int b]) (.tup [.int c, .int d]) = some (.bl (decide (a = c) && decide (b = d)), false) := by
  simp only [dEq, sh_tup64, shL_cons, shL_nil, sh_int, Bool.and_self, if_true, eqB_tup, eqB_tup0, eqB_int, Bool.and_true]
theorem dNe_pair {a b c d : Int} : dNe (.tup [.int a, .int b]) (.tup [.int c, .int d]) = some (.bl (!(decide (a = c) && decide (b = d))), false) := by
  simp only [dNe, sh_tup64, shL_cons, shL_nil, sh_int, Bool.and_self, if_true, eqB_tup, eqB_tup0, eqB_int, Bool.and_true]
section
variable {α : Type} {a b c d : α}
theorem at40 : L2.atI [a, b, c, d] 0 = some a := rfl
theorem at41 : L2.atI [a, b, c, d] 1 = some b := rfl
theorem at42 : L2.atI [a, b, c, d] 2 = some c := rfl
theorem at43 : L2.atI [a, b, c, d] 3 = some d := rfl
theorem at20 : L2.atI [a, b] 0 = some a := rfl
theorem at21 : L2.atI [a, b] 1 = some b := rfl
theorem at30 : L2.atI [a, b, c] 0 = some a := rfl
theorem at31 : L2.atI [a, b, c] 1 = some b := rfl
theorem at32 : L2.atI [a, b, c] 2 = some c := rfl
end
/-! sorting -/
theorem srt_eq {ns ms : List Int} (h : ns.Perm ms) : srt ns = srt ms := srt_uniq (ns := ms) ((srt_perm ns).trans h) (srt_sorted ns)
theorem srt_len {ns : List Int} : (srt ns).length = ns.length := (srt_perm ns).length_eq
theorem srt_mul {ns : List Int} {t : Int} (h : 0 < t) : srt (ns.map (t * ·)) = (srt ns).map (t * ·) := by
  refine (srt_uniq ((srt_perm ns).map _) ?_).symm
  rw [List.pairwise_map]
  exact (srt_sorted ns).imp fun {a b} hab => Int.mul_le_mul_of_nonneg_left hab (Int.le_of_lt h)
end Rb

namespace Rb
open PySem PySem.Spec PyProof.Rows L2
/-! ### the law's own drawing -/
/-- the pot after at most k takes -/
structure Pk (k : Nat) (t : Int × Int × Int) : Prop where
  o0 : 0 ≤ t.1
  o1 : Sm t.1
  s0 : 0 ≤ t.2.1
  s1 : t.2.1 ≤ 2305843009213693951
  n0 : 0 ≤ t.2.2
  n1 : t.2.2 ≤ (k : Int)
theorem Pk.mono {j k : Nat} {t : Int × Int × Int} (h : Pk j t) (e : j ≤ k) : Pk k t := ⟨h.o0, h.o1, h.s0, h.s1, h.n0, by have := h.n1; omega⟩
def takeC (A B q0 q1 q2 q3 q4 C E M W : Int) : SS :=
  (cSeq (cIf (bT (cBin dGt (cPotGet 0 0) (cD (.int 0))))
  (cSeq (cSet 2 (cBin dMod (cBi fInt (aCons (cPotGet 0 0) aNil)) (cVar 1)))
  (cSeq (cPotSet 0 0 (cBin dDiv (cPotGet 0 0) (cVar 1)))
  (cRet (cVar 2))))
  cSkip)
  (cSeq (cPotSet 0 2 (cBin dAdd (cPotGet 0 2) (cD (.int 1))))
  (cSeq (cSet 3 (cBin dGetAny (cLst (aCons (cD (.int q0)) (aCons (cD (.int q1)) (aCons (cD (.int q2)) (aCons (cD (.int q3)) (aCons (cD (.int q4)) aNil)))))) (cBin dMod (cBi fInt (aCons (cPotGet 0 2) aNil)) (cD (.int 5)))))
  (cSeq (cSet 4 (cBin dMod (cBi fInt (aCons (cBin dPowW (cBi fInt (aCons (cBin dAdd (cBin dAdd (cPotGet 0 1) (cBin dMulI (cBin dMulI (cD (.int A)) (cPotGet 0 2)) (cPotGet 0 2))) (cD (.int B))) aNil)) (cD (.int 3))) aNil)) (cVar 3)))
  (cSeq (cSet 4 (cBin dMod (cBi fInt (aCons (cBin dMulI (cVar 4) (cBin dAdd (cBin dMod (cBi fInt (aCons (cVar 4) aNil)) (cD (.int C))) (cBin dMulI (cD (.int E)) (cPotGet 0 2)))) aNil)) (cD (.int M))))
  (cRet (cBin dMod (cBi fInt (aCons (cBin dDiv (cVar 4) (cD (.int W))) aNil)) (cVar 1))))))))
/-- what a take does -/
def Take (f : Fn) : Prop := ∀ (u : Int) (t : Int × Int × Int) (k : Nat), Pk k t → k ≤ 1000000000 → 0 < u → u ≤ 1180591620717411303424 → ∃ r t', f [.pot, .int u] (some t) = some (.int r, some t') ∧ 0 ≤ r ∧ r < u ∧ Pk (k + 1) t'
/-- a constant of the law's own -/
def cOk (i : Int) : Bool := decide (0 < i ∧ i ≤ 4611686018427387904)
theorem cOk.is {i : Int} (h : cOk i = true) : 0 < i ∧ i ≤ 4611686018427387904 := of_decide_eq_true h
theorem pow3_ev {b : Int} (h : Builtin.Int.intBits b ≤ 1000) : dPowW (.int b) (.int 3) = some (.int (b ^ 3), false) := by
  have : powWC b 3 = true := by
    unfold powWC
    rw [Bool.or_eq_true]
    refine .inr (decide_eq_true ⟨by decide, ?_⟩)
    have : (Builtin.Int.intBits b : Int) ≤ 1000 := by exact_mod_cast h
    omega
  show (if powWC b 3 = true then _ else _) = _
  rw [if_pos this]; rfl
theorem at5 {α : Type} {a b c d e : α} {i : Int} (h0 : 0 ≤ i) (h : i < 5) : ∃ x, L2.atI [a, b, c, d, e] i = some x ∧ (x = a ∨ x = b ∨ x = c ∨ x = d ∨ x = e) := by
  have : i = 0 ∨ i = 1 ∨ i = 2 ∨ i = 3 ∨ i = 4 := by omega
  rcases this with rfl | rfl | rfl | rfl | rfl
  · exact ⟨a, rfl, by simp⟩
  · exact ⟨b, rfl, by simp⟩
  · exact ⟨c, rfl, by simp⟩
  · exact ⟨d, rfl, by simp⟩
  · exact ⟨e, rfl, by simp⟩
theorem take_ev {A B q0 q1 q2 q3 q4 C E M W : Int} (hc : (cOk A && cOk B && cOk q0 && cOk q1 && cOk q2 && cOk q3 && cOk q4 && cOk C && cOk E && cOk M && cOk W) = true) : Take (runF 5 (takeC A B q0 q1 q2 q3 q4 C E M W)) := by
  simp only [Bool.and_eq_true] at hc
  obtain ⟨⟨⟨⟨⟨⟨⟨⟨⟨⟨hA, hB⟩, h0⟩, h1⟩, h2⟩, h3⟩, h4⟩, hC⟩, hE⟩, hM⟩, hW⟩ := hc
  have hA := cOk.is hA; have hB := cOk.is hB; have hC := cOk.is hC; have hE := cOk.is hE; have hM := cOk.is hM; have hW := cOk.is hW
  have h0 := cOk.is h0; have h1 := cOk.is h1; have h2 := cOk.is h2; have h3 := cOk.is h3; have h4 := cOk.is h4
  rintro u ⟨o, sd, n⟩ k ⟨ho0, ho1, hs0, hs1, hn0, hn1⟩ hk hu hu2
  simp only [] at ho0 ho1 hs0 hs1 hn0 hn1
  by_cases hp : 0 < o
  · refine ⟨o % u, (o / u, sd, n), ?_, Int.emod_nonneg _ (by omega), Int.emod_lt_of_pos _ hu, ⟨Int.ediv_nonneg ho0 (by omega), ?_, hs0, hs1, hn0, by simp only []; omega⟩⟩
    · simp only [cFz, at40, at41, at42, at43, at20, at21, at30, at31, at32, List.set, dMod_ev, Int.reduceMod, Int.reduceLT, Int.reduceSub, Int.reduceMul, Int.reduceToNat, Nat.reduceLT, Int.zero_add, Int.reduceLE, fAll_b, runF, cSeq, cIf, cSet, cRet, cRetN, cSkip, cCont, cBrk, cVar, cD, cBin, cUn, cBi, aNil, aCons, cTup, cLst, bT, bAnd, bOr, bNot, cAnd, cOr, cNot, cIte, cChain, cIsi, dTy, kb1, kb2, kb3, kb4, kb5, kb6, kb7, fAbs_ev, fMax_ev, fMin_ev, wipeS, Function.comp_apply, Function.comp_def, dIx, dGetAny, cPotGet, cPotSet, getP, setP, cCall, fInt, fLen, fTuple, fList, cLenV, dLt, dLe, dGt, dGe, dB2, dAdd, dSub_ev, dNeg, Nat.reduceLeDiff, cs0, cs1, cs2, cs3, cs4, cs5, cs6, cs7, cs8, cs9, cs10, cs11, cs12, Int.ofNat_eq_natCast, dEq_int, dNe_int, dEq_pair, dNe_pair, dIsN, dNotN, cPar, cPar3, cAsg, gN, gT, gsCons, gsNil, bdOf, cSl, oNone, oSome, dSl, iSeq, iRg1, iRg2, cExpr, dRev, List.map_cons, List.map_nil, List.length_cons, List.length_nil, List.cons_append, List.nil_append, List.append_nil, List.replicate, List.getElem?_cons_zero, List.getElem?_cons_succ, List.set_cons_zero, List.set_cons_succ, Option.bind_some, Option.map_some, Option.bind_none, Option.map_none, Nat.reduceAdd, Nat.reduceSub, Int.reduceAdd, Int.reduceNeg, decide_true, decide_false, Bool.not_true, Bool.not_false, if_true, if_false, Bool.false_eq_true, if_pos, reduceIte, reduceCtorEq, Option.some.injEq, Prod.mk.injEq, and_self, and_true, true_and, szOk, takeC, hp, dMod_ev hu, dDiv_ev hu hu2]
    · show (o / u).natAbs < 2 ^ 4000
      refine Nat.lt_of_le_of_lt ?_ ho1
      have := Int.ediv_le_self u ho0
      have := Int.ediv_nonneg ho0 (by omega : (0 : Int) ≤ u)
      omega
  · have m0 : 0 ≤ (n + 1) % 5 := Int.emod_nonneg _ (by decide)
    have m1 : (n + 1) % 5 < 5 := Int.emod_lt_of_pos _ (by decide)
    obtain ⟨x, ex, hx⟩ := at5 (a := D.int q0) (b := D.int q1) (c := D.int q2) (d := D.int q3) (e := D.int q4) m0 m1
    have hq : ∃ q, x = .int q ∧ 0 < q ∧ q ≤ 4611686018427387904 := by
      rcases hx with rfl | rfl | rfl | rfl | rfl
      · exact ⟨_, rfl, h0⟩
      · exact ⟨_, rfl, h1⟩
      · exact ⟨_, rfl, h2⟩
      · exact ⟨_, rfl, h3⟩
      · exact ⟨_, rfl, h4⟩
    obtain ⟨q, rfl, q0', q1'⟩ := hq
    have hn2 : n + 1 ≤ 1000000001 := by omega
    have hAn : 0 ≤ A * (n + 1) ∧ A * (n + 1) ≤ 4611686018427387904 * 1000000001 := ⟨Int.mul_nonneg (by omega) (by omega), Int.mul_le_mul hA.2 hn2 (by omega) (by decide)⟩
    have hAnn : 0 ≤ A * (n + 1) * (n + 1) ∧ A * (n + 1) * (n + 1) ≤ 4611686018427387904 * 1000000001 * 1000000001 := ⟨Int.mul_nonneg hAn.1 (by omega), Int.mul_le_mul hAn.2 hn2 (by omega) (by decide)⟩
    have sA : Sm A := .of (by omega) (by omega)
    have sn : Sm (n + 1) := .of (by omega) (by omega)
    have sAn : Sm (A * (n + 1)) := by
      have : (2 : Nat) ^ 200 < 2 ^ 4000 := Nat.pow_lt_pow_right (by decide) (by decide)
      refine Nat.lt_of_le_of_lt ?_ this
      omega
    have e1 := dMul_ev sA sn
    have e2 := dMul_ev sAn sn
    have hb : Builtin.Int.intBits (sd + A * (n + 1) * (n + 1) + B) ≤ 1000 := by
      refine intBits_le_iff.2 ?_
      have : (2 : Nat) ^ 200 < 2 ^ 1000 := Nat.pow_lt_pow_right (by decide) (by decide)
      refine Nat.lt_of_le_of_lt ?_ this
      omega
    have e3 := pow3_ev hb
    generalize hz : (sd + A * (n + 1) * (n + 1) + B) ^ 3 % q = z at *
    have z0 : 0 ≤ z := by rw [← hz]; exact Int.emod_nonneg _ (by omega)
    have z1 : z < q := by rw [← hz]; exact Int.emod_lt_of_pos _ q0'
    have c0 : 0 ≤ z % C := Int.emod_nonneg _ (by omega)
    have c1 : z % C < C := Int.emod_lt_of_pos _ hC.1
    have hEn : 0 ≤ E * (n + 1) ∧ E * (n + 1) ≤ 4611686018427387904 * 1000000001 := ⟨Int.mul_nonneg (by omega) (by omega), Int.mul_le_mul hE.2 hn2 (by omega) (by decide)⟩
    have e4 := dMul_ev (a := E) (b := n + 1) (.of (by omega) (by omega)) sn
    have e5 : dMulI (.int z) (.int (z % C + E * (n + 1))) = some (.int (z * (z % C + E * (n + 1))), false) := dMul_ev (.of (by omega) (by omega)) (by
      have : (2 : Nat) ^ 200 < 2 ^ 4000 := Nat.pow_lt_pow_right (by decide) (by decide)
      refine Nat.lt_of_le_of_lt ?_ this
      omega)
    refine ⟨z * (z % C + E * (n + 1)) % M / W % u, (o, sd, n + 1), ?_, Int.emod_nonneg _ (by omega), Int.emod_lt_of_pos _ hu, ⟨ho0, ho1, hs0, hs1, by simp only []; omega, by simp only []; omega⟩⟩
    simp only [cFz, at40, at41, at42, at43, at20, at21, at30, at31, at32, List.set, dMod_ev, Int.reduceMod, Int.reduceLT, Int.reduceSub, Int.reduceMul, Int.reduceToNat, Nat.reduceLT, Int.zero_add, Int.reduceLE, fAll_b, runF, cSeq, cIf, cSet, cRet, cRetN, cSkip, cCont, cBrk, cVar, cD, cBin, cUn, cBi, aNil, aCons, cTup, cLst, bT, bAnd, bOr, bNot, cAnd, cOr, cNot, cIte, cChain, cIsi, dTy, kb1, kb2, kb3, kb4, kb5, kb6, kb7, fAbs_ev, fMax_ev, fMin_ev, wipeS, Function.comp_apply, Function.comp_def, dIx, dGetAny, cPotGet, cPotSet, getP, setP, cCall, fInt, fLen, fTuple, fList, cLenV, dLt, dLe, dGt, dGe, dB2, dAdd, dSub_ev, dNeg, Nat.reduceLeDiff, cs0, cs1, cs2, cs3, cs4, cs5, cs6, cs7, cs8, cs9, cs10, cs11, cs12, Int.ofNat_eq_natCast, dEq_int, dNe_int, dEq_pair, dNe_pair, dIsN, dNotN, cPar, cPar3, cAsg, gN, gT, gsCons, gsNil, bdOf, cSl, oNone, oSome, dSl, iSeq, iRg1, iRg2, cExpr, dRev, List.map_cons, List.map_nil, List.length_cons, List.length_nil, List.cons_append, List.nil_append, List.append_nil, List.replicate, List.getElem?_cons_zero, List.getElem?_cons_succ, List.set_cons_zero, List.set_cons_succ, Option.bind_some, Option.map_some, Option.bind_none, Option.map_none, Nat.reduceAdd, Nat.reduceSub, Int.reduceAdd, Int.reduceNeg, decide_true, decide_false, Bool.not_true, Bool.not_false, if_true, if_false, Bool.false_eq_true, if_pos, reduceIte, reduceCtorEq, Option.some.injEq, Prod.mk.injEq, and_self, and_true, true_and, szOk, takeC, hp, ex, e1, e2, e3, e4, e5, dMod_ev hu, dMod_ev hC.1, dMod_ev hM.1, dMod_ev q0', dDiv_ev hW.1 (Int.le_trans hW.2 (by decide)), hz]
/-! the pot -/
def potC1 (a b c : Int) : SS := (cSet 2 (cFz (cIte (bT (cBin dLt (cVar 1) (cBi fLen (aCons (cVar 0) aNil)))) (cBin dGetAny (cVar 0) (cVar 1)) (cBin dAdd (cBin dAdd (cBin dMod (cBi fInt (aCons (cBi fSum (aCons (cSl (cVar 0) oNone (oSome (cD (.int 1)))) aNil)) aNil)) (cD (.int a))) (cBin dMulI (cD (.int b)) (cVar 1))) (cD (.int c))))))
def potC2 : SS := (cSet 3 (cBin dMulI (cBin dMod (cBi fInt (aCons (cBi fAbs (aCons (cVar 2) aNil)) aNil)) (cBin dPowW (cBin dPowW (cD (.int 10)) (cD (.int 60))) (cD (.int 5)))) (cBi fInt (aCons (cBin dGe (cBi fAbs (aCons (cVar 2) aNil)) (cBin dPowW (cD (.int 10)) (cD (.int 18)))) aNil))))
def potC3 (m : Int) : SS := (cSet 4 (cBin dMod (cBi fInt (aCons (cVar 2) aNil)) (cD (.int m))))
def potA (a b c m : Int) : SA := (aCons (cVar 3) (aCons (cBin dMod (cBi fInt (aCons (cBin dAdd (cBin dAdd (cBin dMulI (cVar 4) (cD (.int a))) (cBin dMulI (cBin dMulI (cD (.int b)) (cVar 1)) (cVar 1))) (cD (.int c))) aNil)) (cD (.int m))) (aCons (cD (.int 0)) aNil)))

theorem fLen_scr {ns : List Int} : fLen [.scr ns] = some (.int ns.length, false) := rfl
theorem p10_60 : dPowW (.int 10) (.int 60) = some (.int (10 ^ 60), false) := by
  have hp : powWC 10 60 = true := by decide +kernel
  simp only [dPowW, dI2, hp, if_true]; rfl
theorem p60_5 : dPowW (.int (10 ^ 60)) (.int 5) = some (.int ((10 ^ 60) ^ 5), false) := by
  have hp : powWC (10 ^ 60) 5 = true := by decide +kernel
  simp only [dPowW, dI2, hp, if_true]; rfl
theorem p10_18 : dPowW (.int 10) (.int 18) = some (.int (10 ^ 18), false) := by
  have hp : powWC 10 18 = true := by decide +kernel
  simp only [dPowW, dI2, hp, if_true]; rfl
theorem atI_of {α : Type} {xs : List α} {i : Int} (h0 : 0 ≤ i) (h : i < xs.length) : ∃ x, L2.atI xs i = some x ∧ x ∈ xs := by
  obtain ⟨j, rfl⟩ := Int.eq_ofNat_of_zero_le h0
  have hj : j < xs.length := by omega
  exact ⟨xs[j], atI_nat (List.getElem?_eq_getElem hj), List.getElem_mem hj⟩
theorem fInt_b {b : Bool} : fInt [.bl b] = some (.int (if b then 1 else 0), false) := rfl
theorem pot_ev {a b c a2 b2 c2 m m2 : Int} (hc : (cOk a && cOk b && cOk c && cOk a2 && cOk b2 && cOk c2 && cOk m && cOk m2 && decide (m2 ≤ 2305843009213693951) && decide (b ≤ 1000000000000) && decide (b2 ≤ 1000000000000)) = true) {ns : List Int} {place : Int} (h0 : 0 ≤ place) (h1 : place ≤ 10) :
    ∃ t, runP 5 (potC1 a b c) potC2 (potC3 m) (potA a2 b2 c2 m2) [.scr ns, .int place] = some t ∧ Pk 0 t := by
  simp only [Bool.and_eq_true] at hc
  obtain ⟨⟨⟨⟨⟨⟨⟨⟨⟨⟨ha, hb⟩, hc⟩, ha2⟩, hb2⟩, hc2⟩, hm⟩, hm2⟩, hm3⟩, hb3⟩, hb4⟩ := hc
  have ha := cOk.is ha; have hb := cOk.is hb; have hc := cOk.is hc; have ha2 := cOk.is ha2; have hb2 := cOk.is hb2; have hc2 := cOk.is hc2; have hm := cOk.is hm; have hm2 := cOk.is hm2
  have hm3 := of_decide_eq_true hm3; have hb3 := of_decide_eq_true hb3; have hb4 := of_decide_eq_true hb4
  have e1 : ∃ cell : Int, potC1 a b c ⟨[.val (.scr ns), .val (.int place), .no, .no, .no], none⟩ = some (.nx, ⟨[.val (.scr ns), .val (.int place), .val (.int cell), .no, .no], none⟩) := by
    by_cases hl : place < ns.length
    · obtain ⟨x, hx, _⟩ := atI_of h0 hl
      refine ⟨x, ?_⟩
      simp only [cFz, at40, at41, at42, at43, at20, at21, at30, at31, at32, List.set, dMod_ev, Int.reduceMod, Int.reduceLT, Int.reduceSub, Int.reduceMul, Int.reduceToNat, Nat.reduceLT, Int.zero_add, Int.reduceLE, fAll_b, runF, cSeq, cIf, cSet, cRet, cRetN, cSkip, cCont, cBrk, cVar, cD, cBin, cUn, cBi, aNil, aCons, cTup, cLst, bT, bAnd, bOr, bNot, cAnd, cOr, cNot, cIte, cChain, cIsi, dTy, kb1, kb2, kb3, kb4, kb5, kb6, kb7, fAbs_ev, fMax_ev, fMin_ev, wipeS, Function.comp_apply, Function.comp_def, dIx, dGetAny, cPotGet, cPotSet, getP, setP, cCall, fInt, fLen, fTuple, fList, cLenV, dLt, dLe, dGt, dGe, dB2, dAdd, dSub_ev, dNeg, Nat.reduceLeDiff, cs0, cs1, cs2, cs3, cs4, cs5, cs6, cs7, cs8, cs9, cs10, cs11, cs12, Int.ofNat_eq_natCast, dEq_int, dNe_int, dEq_pair, dNe_pair, dIsN, dNotN, cPar, cPar3, cAsg, gN, gT, gsCons, gsNil, bdOf, cSl, oNone, oSome, dSl, iSeq, iRg1, iRg2, cExpr, dRev, List.map_cons, List.map_nil, List.length_cons, List.length_nil, List.cons_append, List.nil_append, List.append_nil, List.replicate, List.getElem?_cons_zero, List.getElem?_cons_succ, List.set_cons_zero, List.set_cons_succ, Option.bind_some, Option.map_some, Option.bind_none, Option.map_none, Nat.reduceAdd, Nat.reduceSub, Int.reduceAdd, Int.reduceNeg, decide_true, decide_false, Bool.not_true, Bool.not_false, if_true, if_false, Bool.false_eq_true, if_pos, reduceIte, reduceCtorEq, Option.some.injEq, Prod.mk.injEq, and_self, and_true, true_and, szOk, potC1, fLen_scr, hl, hx]
    · have e2 := dMul_i (a := b) (b := place) (by omega) (by omega)
      have e3 : fSum [.lst ((cut ns none (some 1)).map .int)] = _ := fSum_l
      refine ⟨(cut ns none (some 1)).sum % a + b * place + c, ?_⟩
      simp only [cFz, at40, at41, at42, at43, at20, at21, at30, at31, at32, List.set, dMod_ev, Int.reduceMod, Int.reduceLT, Int.reduceSub, Int.reduceMul, Int.reduceToNat, Nat.reduceLT, Int.zero_add, Int.reduceLE, fAll_b, runF, cSeq, cIf, cSet, cRet, cRetN, cSkip, cCont, cBrk, cVar, cD, cBin, cUn, cBi, aNil, aCons, cTup, cLst, bT, bAnd, bOr, bNot, cAnd, cOr, cNot, cIte, cChain, cIsi, dTy, kb1, kb2, kb3, kb4, kb5, kb6, kb7, fAbs_ev, fMax_ev, fMin_ev, wipeS, Function.comp_apply, Function.comp_def, dIx, dGetAny, cPotGet, cPotSet, getP, setP, cCall, fInt, fLen, fTuple, fList, cLenV, dLt, dLe, dGt, dGe, dB2, dAdd, dSub_ev, dNeg, Nat.reduceLeDiff, cs0, cs1, cs2, cs3, cs4, cs5, cs6, cs7, cs8, cs9, cs10, cs11, cs12, Int.ofNat_eq_natCast, dEq_int, dNe_int, dEq_pair, dNe_pair, dIsN, dNotN, cPar, cPar3, cAsg, gN, gT, gsCons, gsNil, bdOf, cSl, oNone, oSome, dSl, iSeq, iRg1, iRg2, cExpr, dRev, List.map_cons, List.map_nil, List.length_cons, List.length_nil, List.cons_append, List.nil_append, List.append_nil, List.replicate, List.getElem?_cons_zero, List.getElem?_cons_succ, List.set_cons_zero, List.set_cons_succ, Option.bind_some, Option.map_some, Option.bind_none, Option.map_none, Nat.reduceAdd, Nat.reduceSub, Int.reduceAdd, Int.reduceNeg, decide_true, decide_false, Bool.not_true, Bool.not_false, if_true, if_false, Bool.false_eq_true, if_pos, reduceIte, reduceCtorEq, Option.some.injEq, Prod.mk.injEq, and_self, and_true, true_and, szOk, potC1, fLen_scr, hl, e2, e3, dMod_ev ha.1]
  obtain ⟨cell, e1⟩ := e1
  have hpos : (0 : Int) < (10 ^ 60) ^ 5 := by decide +kernel
  have o0 : 0 ≤ ab cell % (10 ^ 60) ^ 5 := Int.emod_nonneg _ (by omega)
  have o1 : ab cell % (10 ^ 60) ^ 5 < (10 ^ 60) ^ 5 := Int.emod_lt_of_pos _ hpos
  have o2 : Sm (ab cell % (10 ^ 60) ^ 5) := by
    have : (10 ^ 60) ^ 5 < (2 : Nat) ^ 4000 := by decide +kernel
    have h2 : (((10 ^ 60) ^ 5 : Nat) : Int) = (10 ^ 60) ^ 5 := by decide +kernel
    unfold Sm
    omega
  have e2 : ∃ own : Int, 0 ≤ own ∧ Sm own ∧ potC2 ⟨[.val (.scr ns), .val (.int place), .val (.int cell), .no, .no], none⟩ = some (.nx, ⟨[.val (.scr ns), .val (.int place), .val (.int cell), .val (.int own), .no], none⟩) := by
    generalize hz : ab cell % (10 ^ 60) ^ 5 = z at *
    by_cases hg : 10 ^ 18 ≤ ab cell
    · have e3 := dMul_ev (a := z) (b := 1) o2 (.of (by decide) (by decide))
      refine ⟨z * 1, by omega, by rw [Int.mul_one]; exact o2, ?_⟩
      simp only [cFz, at40, at41, at42, at43, at20, at21, at30, at31, at32, List.set, dMod_ev, Int.reduceMod, Int.reduceLT, Int.reduceSub, Int.reduceMul, Int.reduceToNat, Nat.reduceLT, Int.zero_add, Int.reduceLE, fAll_b, runF, cSeq, cIf, cSet, cRet, cRetN, cSkip, cCont, cBrk, cVar, cD, cBin, cUn, cBi, aNil, aCons, cTup, cLst, bT, bAnd, bOr, bNot, cAnd, cOr, cNot, cIte, cChain, cIsi, dTy, kb1, kb2, kb3, kb4, kb5, kb6, kb7, fAbs_ev, fMax_ev, fMin_ev, wipeS, Function.comp_apply, Function.comp_def, dIx, dGetAny, cPotGet, cPotSet, getP, setP, cCall, fInt, fLen, fTuple, fList, cLenV, dLt, dLe, dGt, dGe, dB2, dAdd, dSub_ev, dNeg, Nat.reduceLeDiff, cs0, cs1, cs2, cs3, cs4, cs5, cs6, cs7, cs8, cs9, cs10, cs11, cs12, Int.ofNat_eq_natCast, dEq_int, dNe_int, dEq_pair, dNe_pair, dIsN, dNotN, cPar, cPar3, cAsg, gN, gT, gsCons, gsNil, bdOf, cSl, oNone, oSome, dSl, iSeq, iRg1, iRg2, cExpr, dRev, List.map_cons, List.map_nil, List.length_cons, List.length_nil, List.cons_append, List.nil_append, List.append_nil, List.replicate, List.getElem?_cons_zero, List.getElem?_cons_succ, List.set_cons_zero, List.set_cons_succ, Option.bind_some, Option.map_some, Option.bind_none, Option.map_none, Nat.reduceAdd, Nat.reduceSub, Int.reduceAdd, Int.reduceNeg, decide_true, decide_false, Bool.not_true, Bool.not_false, if_true, if_false, Bool.false_eq_true, if_pos, reduceIte, reduceCtorEq, Option.some.injEq, Prod.mk.injEq, and_self, and_true, true_and, szOk, potC2, p10_60, p60_5, p10_18, dMod_ev hpos, hz, hg, e3, fInt_b]
    · have e3 := dMul_ev (a := z) (b := 0) o2 (.of (by decide) (by decide))
      refine ⟨z * 0, by omega, by rw [Int.mul_zero]; exact .of (by decide) (by decide), ?_⟩
      simp only [cFz, at40, at41, at42, at43, at20, at21, at30, at31, at32, List.set, dMod_ev, Int.reduceMod, Int.reduceLT, Int.reduceSub, Int.reduceMul, Int.reduceToNat, Nat.reduceLT, Int.zero_add, Int.reduceLE, fAll_b, runF, cSeq, cIf, cSet, cRet, cRetN, cSkip, cCont, cBrk, cVar, cD, cBin, cUn, cBi, aNil, aCons, cTup, cLst, bT, bAnd, bOr, bNot, cAnd, cOr, cNot, cIte, cChain, cIsi, dTy, kb1, kb2, kb3, kb4, kb5, kb6, kb7, fAbs_ev, fMax_ev, fMin_ev, wipeS, Function.comp_apply, Function.comp_def, dIx, dGetAny, cPotGet, cPotSet, getP, setP, cCall, fInt, fLen, fTuple, fList, cLenV, dLt, dLe, dGt, dGe, dB2, dAdd, dSub_ev, dNeg, Nat.reduceLeDiff, cs0, cs1, cs2, cs3, cs4, cs5, cs6, cs7, cs8, cs9, cs10, cs11, cs12, Int.ofNat_eq_natCast, dEq_int, dNe_int, dEq_pair, dNe_pair, dIsN, dNotN, cPar, cPar3, cAsg, gN, gT, gsCons, gsNil, bdOf, cSl, oNone, oSome, dSl, iSeq, iRg1, iRg2, cExpr, dRev, List.map_cons, List.map_nil, List.length_cons, List.length_nil, List.cons_append, List.nil_append, List.append_nil, List.replicate, List.getElem?_cons_zero, List.getElem?_cons_succ, List.set_cons_zero, List.set_cons_succ, Option.bind_some, Option.map_some, Option.bind_none, Option.map_none, Nat.reduceAdd, Nat.reduceSub, Int.reduceAdd, Int.reduceNeg, decide_true, decide_false, Bool.not_true, Bool.not_false, if_true, if_false, Bool.false_eq_true, if_pos, reduceIte, reduceCtorEq, Option.some.injEq, Prod.mk.injEq, and_self, and_true, true_and, szOk, potC2, p10_60, p60_5, p10_18, dMod_ev hpos, hz, hg, e3, fInt_b]
  obtain ⟨own, w0, w1, e2⟩ := e2
  have e3 : potC3 m ⟨[.val (.scr ns), .val (.int place), .val (.int cell), .val (.int own), .no], none⟩ = some (.nx, ⟨[.val (.scr ns), .val (.int place), .val (.int cell), .val (.int own), .val (.int (cell % m))], none⟩) := by
    simp only [cFz, at40, at41, at42, at43, at20, at21, at30, at31, at32, List.set, dMod_ev, Int.reduceMod, Int.reduceLT, Int.reduceSub, Int.reduceMul, Int.reduceToNat, Nat.reduceLT, Int.zero_add, Int.reduceLE, fAll_b, runF, cSeq, cIf, cSet, cRet, cRetN, cSkip, cCont, cBrk, cVar, cD, cBin, cUn, cBi, aNil, aCons, cTup, cLst, bT, bAnd, bOr, bNot, cAnd, cOr, cNot, cIte, cChain, cIsi, dTy, kb1, kb2, kb3, kb4, kb5, kb6, kb7, fAbs_ev, fMax_ev, fMin_ev, wipeS, Function.comp_apply, Function.comp_def, dIx, dGetAny, cPotGet, cPotSet, getP, setP, cCall, fInt, fLen, fTuple, fList, cLenV, dLt, dLe, dGt, dGe, dB2, dAdd, dSub_ev, dNeg, Nat.reduceLeDiff, cs0, cs1, cs2, cs3, cs4, cs5, cs6, cs7, cs8, cs9, cs10, cs11, cs12, Int.ofNat_eq_natCast, dEq_int, dNe_int, dEq_pair, dNe_pair, dIsN, dNotN, cPar, cPar3, cAsg, gN, gT, gsCons, gsNil, bdOf, cSl, oNone, oSome, dSl, iSeq, iRg1, iRg2, cExpr, dRev, List.map_cons, List.map_nil, List.length_cons, List.length_nil, List.cons_append, List.nil_append, List.append_nil, List.replicate, List.getElem?_cons_zero, List.getElem?_cons_succ, List.set_cons_zero, List.set_cons_succ, Option.bind_some, Option.map_some, Option.bind_none, Option.map_none, Nat.reduceAdd, Nat.reduceSub, Int.reduceAdd, Int.reduceNeg, decide_true, decide_false, Bool.not_true, Bool.not_false, if_true, if_false, Bool.false_eq_true, if_pos, reduceIte, reduceCtorEq, Option.some.injEq, Prod.mk.injEq, and_self, and_true, true_and, szOk, potC3, dMod_ev hm.1]
  have k0 : 0 ≤ cell % m := Int.emod_nonneg _ (by omega)
  have k1 : cell % m < m := Int.emod_lt_of_pos _ hm.1
  have g1 := dMul_i (a := cell % m) (b := a2) (by omega) (by omega)
  have g2 := dMul_i (a := b2) (b := place) (by omega) (by omega)
  have hbp : 0 ≤ b2 * place ∧ b2 * place ≤ 1000000000000 * 10 := ⟨Int.mul_nonneg (by omega) h0, Int.mul_le_mul hb4 h1 h0 (by decide)⟩
  have g3 := dMul_i (a := b2 * place) (b := place) (by omega) (by omega)
  refine ⟨(own, (cell % m * a2 + b2 * place * place + c2) % m2, 0), ?_, ⟨w0, w1, Int.emod_nonneg _ (by omega), ?_, Int.le_refl 0, Int.le_refl 0⟩⟩
  · unfold runP
    simp only [List.map_cons, List.map_nil, List.length_cons, List.length_nil, List.replicate, List.cons_append, List.nil_append]
    simp only [e1, e2, e3]
    simp only [cFz, at40, at41, at42, at43, at20, at21, at30, at31, at32, List.set, dMod_ev, Int.reduceMod, Int.reduceLT, Int.reduceSub, Int.reduceMul, Int.reduceToNat, Nat.reduceLT, Int.zero_add, Int.reduceLE, fAll_b, runF, cSeq, cIf, cSet, cRet, cRetN, cSkip, cCont, cBrk, cVar, cD, cBin, cUn, cBi, aNil, aCons, cTup, cLst, bT, bAnd, bOr, bNot, cAnd, cOr, cNot, cIte, cChain, cIsi, dTy, kb1, kb2, kb3, kb4, kb5, kb6, kb7, fAbs_ev, fMax_ev, fMin_ev, wipeS, Function.comp_apply, Function.comp_def, dIx, dGetAny, cPotGet, cPotSet, getP, setP, cCall, fInt, fLen, fTuple, fList, cLenV, dLt, dLe, dGt, dGe, dB2, dAdd, dSub_ev, dNeg, Nat.reduceLeDiff, cs0, cs1, cs2, cs3, cs4, cs5, cs6, cs7, cs8, cs9, cs10, cs11, cs12, Int.ofNat_eq_natCast, dEq_int, dNe_int, dEq_pair, dNe_pair, dIsN, dNotN, cPar, cPar3, cAsg, gN, gT, gsCons, gsNil, bdOf, cSl, oNone, oSome, dSl, iSeq, iRg1, iRg2, cExpr, dRev, List.map_cons, List.map_nil, List.length_cons, List.length_nil, List.cons_append, List.nil_append, List.append_nil, List.replicate, List.getElem?_cons_zero, List.getElem?_cons_succ, List.set_cons_zero, List.set_cons_succ, Option.bind_some, Option.map_some, Option.bind_none, Option.map_none, Nat.reduceAdd, Nat.reduceSub, Int.reduceAdd, Int.reduceNeg, decide_true, decide_false, Bool.not_true, Bool.not_false, if_true, if_false, Bool.false_eq_true, if_pos, reduceIte, reduceCtorEq, Option.some.injEq, Prod.mk.injEq, and_self, and_true, true_and, szOk, potA, g1, g2, g3, dMod_ev hm2.1]
  · have := Int.emod_lt_of_pos (cell % m * a2 + b2 * place * place + c2) hm2.1
    show (cell % m * a2 + b2 * place * place + c2) % m2 ≤ _
    omega
/-! the law's other drawings, by its own take -/
def ofC (f : Fn) : SS := (cRet (cBin dGetAny (cVar 1) (cCall f (aCons (cVar 0) (aCons (cBi fLen (aCons (cVar 1) aNil)) aNil)))))
theorem of_ev {f : Fn} (hf : Take f) {ds : List D} {t : Int × Int × Int} {k : Nat} (h : Pk k t) (hk : k ≤ 1000000000) (h0 : 0 < ds.length) (h1 : ds.length ≤ 1000000) {x : D} (hx : x = .lst ds ∨ x = .tup ds) : ∃ d t', runF 2 (ofC f) [.pot, x] (some t) = some (d, some t') ∧ d ∈ ds ∧ Pk (k + 1) t' := by
  obtain ⟨r, t', e, r0, r1, h'⟩ := hf ds.length t k h hk (by omega) (by omega)
  obtain ⟨d, hd, hm⟩ := atI_of r0 r1
  refine ⟨d, t', ?_, hm, h'⟩
  rcases hx with rfl | rfl
  · simp only [cFz, at40, at41, at42, at43, at20, at21, at30, at31, at32, List.set, dMod_ev, Int.reduceMod, Int.reduceLT, Int.reduceSub, Int.reduceMul, Int.reduceToNat, Nat.reduceLT, Int.zero_add, Int.reduceLE, fAll_b, runF, cSeq, cIf, cSet, cRet, cRetN, cSkip, cCont, cBrk, cVar, cD, cBin, cUn, cBi, aNil, aCons, cTup, cLst, bT, bAnd, bOr, bNot, cAnd, cOr, cNot, cIte, cChain, cIsi, dTy, kb1, kb2, kb3, kb4, kb5, kb6, kb7, fAbs_ev, fMax_ev, fMin_ev, wipeS, Function.comp_apply, Function.comp_def, dIx, dGetAny, cPotGet, cPotSet, getP, setP, cCall, fInt, fLen, fTuple, fList, cLenV, dLt, dLe, dGt, dGe, dB2, dAdd, dSub_ev, dNeg, Nat.reduceLeDiff, cs0, cs1, cs2, cs3, cs4, cs5, cs6, cs7, cs8, cs9, cs10, cs11, cs12, Int.ofNat_eq_natCast, dEq_int, dNe_int, dEq_pair, dNe_pair, dIsN, dNotN, cPar, cPar3, cAsg, gN, gT, gsCons, gsNil, bdOf, cSl, oNone, oSome, dSl, iSeq, iRg1, iRg2, cExpr, dRev, List.map_cons, List.map_nil, List.length_cons, List.length_nil, List.cons_append, List.nil_append, List.append_nil, List.replicate, List.getElem?_cons_zero, List.getElem?_cons_succ, List.set_cons_zero, List.set_cons_succ, Option.bind_some, Option.map_some, Option.bind_none, Option.map_none, Nat.reduceAdd, Nat.reduceSub, Int.reduceAdd, Int.reduceNeg, decide_true, decide_false, Bool.not_true, Bool.not_false, if_true, if_false, Bool.false_eq_true, if_pos, reduceIte, reduceCtorEq, Option.some.injEq, Prod.mk.injEq, and_self, and_true, true_and, szOk, ofC, e, hd]
  · simp only [cFz, at40, at41, at42, at43, at20, at21, at30, at31, at32, List.set, dMod_ev, Int.reduceMod, Int.reduceLT, Int.reduceSub, Int.reduceMul, Int.reduceToNat, Nat.reduceLT, Int.zero_add, Int.reduceLE, fAll_b, runF, cSeq, cIf, cSet, cRet, cRetN, cSkip, cCont, cBrk, cVar, cD, cBin, cUn, cBi, aNil, aCons, cTup, cLst, bT, bAnd, bOr, bNot, cAnd, cOr, cNot, cIte, cChain, cIsi, dTy, kb1, kb2, kb3, kb4, kb5, kb6, kb7, fAbs_ev, fMax_ev, fMin_ev, wipeS, Function.comp_apply, Function.comp_def, dIx, dGetAny, cPotGet, cPotSet, getP, setP, cCall, fInt, fLen, fTuple, fList, cLenV, dLt, dLe, dGt, dGe, dB2, dAdd, dSub_ev, dNeg, Nat.reduceLeDiff, cs0, cs1, cs2, cs3, cs4, cs5, cs6, cs7, cs8, cs9, cs10, cs11, cs12, Int.ofNat_eq_natCast, dEq_int, dNe_int, dEq_pair, dNe_pair, dIsN, dNotN, cPar, cPar3, cAsg, gN, gT, gsCons, gsNil, bdOf, cSl, oNone, oSome, dSl, iSeq, iRg1, iRg2, cExpr, dRev, List.map_cons, List.map_nil, List.length_cons, List.length_nil, List.cons_append, List.nil_append, List.append_nil, List.replicate, List.getElem?_cons_zero, List.getElem?_cons_succ, List.set_cons_zero, List.set_cons_succ, Option.bind_some, Option.map_some, Option.bind_none, Option.map_none, Nat.reduceAdd, Nat.reduceSub, Int.reduceAdd, Int.reduceNeg, decide_true, decide_false, Bool.not_true, Bool.not_false, if_true, if_false, Bool.false_eq_true, if_pos, reduceIte, reduceCtorEq, Option.some.injEq, Prod.mk.injEq, and_self, and_true, true_and, szOk, ofC, e, hd]
def rodsC (f : Fn) : SS := (cRet (cBi fTuple (aCons (cLC (iRg1 (aCons (cBin dAdd (cD (.int 1)) (cCall f (aCons (cVar 0) (aCons (cVar 1) aNil)))) aNil)) (gN 3) bYes (cBi fInt (aCons (cBin dAdd (cD (.int 1)) (cCall f (aCons (cVar 0) (aCons (cVar 2) aNil)))) aNil)) [3]) aNil)))
def rodsC2 (f : Fn) : SS := (cRet (cBi fTuple (aCons (cLC (iRg1 (aCons (cBin dAdd (cD (.int 1)) (cCall f (aCons (cVar 0) (aCons (cVar 1) aNil)))) aNil)) (gN 3) bYes (cBin dAdd (cD (.int 1)) (cBi fInt (aCons (cCall f (aCons (cVar 0) (aCons (cVar 2) aNil))) aNil))) [3]) aNil)))
theorem intsP {ds : List D} {lo hi : Int} (h : ∀ d ∈ ds, ∃ i, d = .int i ∧ lo ≤ i ∧ i ≤ hi) : ∃ ns : List Int, ds = ns.map .int ∧ ∀ i ∈ ns, lo ≤ i ∧ i ≤ hi := by
  induction ds with
  | nil => exact ⟨[], rfl, by simp⟩
  | cons d ds ih =>
    obtain ⟨ns, e, hn⟩ := ih fun x hx => h x (.tail _ hx)
    obtain ⟨i, e2, hi⟩ := h d (.head _)
    refine ⟨i :: ns, by rw [List.map_cons, e, e2], fun j hj => ?_⟩
    rcases List.mem_cons.1 hj with rfl | hj
    · exact hi
    · exact hn j hj
theorem rgOk_of {i : Int} (h0 : 0 ≤ i) (h1 : i ≤ 1000000) : rgOk i = true := inR_iff.2 ⟨by omega, by omega⟩
section
variable {f : Fn} {t : Int × Int × Int} {k : Nat} {most long : Int}
theorem rods_ev (hf : Take f) (h : Pk k t) (hk : k ≤ 900000000) (h0 : 0 < most) (h1 : most ≤ 1000) (l0 : 0 < long) (l1 : long ≤ 1000000) :
    ∃ (ns : List Int) (t' : Int × Int × Int), runF 4 (rodsC f) [.pot, .int most, .int long] (some t) = some (.tup (ns.map .int), some t') ∧ 1 ≤ ns.length ∧ (ns.length : Int) ≤ most ∧ (∀ i ∈ ns, 1 ≤ i ∧ i ≤ long) ∧ Pk (k + 1001) t' := by
  obtain ⟨r, t1, e, r0, r1, hp⟩ := hf most t k h (by omega) h0 (by omega)
  have hr : rgOk (1 + r) = true := rgOk_of (by omega) (by omega)
  obtain ⟨xs, p', e2, l, hx, t2, rfl, hj⟩ := lc_pot (it := iRg1 (aCons (cBin dAdd (cD (.int 1)) (cCall f (aCons (cVar 0) (aCons (cVar 1) aNil)))) aNil)) (te := cBi fInt (aCons (cBin dAdd (cD (.int 1)) (cCall f (aCons (cVar 0) (aCons (cVar 2) aNil)))) aNil)) (i := 3) (p := some t1) (r := [.val .pot, .val (.int most), .val (.int long), .no]) (b0 := .no) (s0 := ⟨[.val .pot, .val (.int most), .val (.int long), .no], some t⟩) (ds := rngL 0 (1 + r).toNat)
    (fun j p => ∃ t', p = some t' ∧ Pk j t') (fun x => ∃ i, x = .int i ∧ 1 ≤ i ∧ i ≤ long) (k + 1) (by simp only [cFz, at40, at41, at42, at43, at20, at21, at30, at31, at32, List.set, dMod_ev, Int.reduceMod, Int.reduceLT, Int.reduceSub, Int.reduceMul, Int.reduceToNat, Nat.reduceLT, Int.zero_add, Int.reduceLE, fAll_b, runF, cSeq, cIf, cSet, cRet, cRetN, cSkip, cCont, cBrk, cVar, cD, cBin, cUn, cBi, aNil, aCons, cTup, cLst, bT, bAnd, bOr, bNot, cAnd, cOr, cNot, cIte, cChain, cIsi, dTy, kb1, kb2, kb3, kb4, kb5, kb6, kb7, fAbs_ev, fMax_ev, fMin_ev, wipeS, Function.comp_apply, Function.comp_def, dIx, dGetAny, cPotGet, cPotSet, getP, setP, cCall, fInt, fLen, fTuple, fList, cLenV, dLt, dLe, dGt, dGe, dB2, dAdd, dSub_ev, dNeg, Nat.reduceLeDiff, cs0, cs1, cs2, cs3, cs4, cs5, cs6, cs7, cs8, cs9, cs10, cs11, cs12, Int.ofNat_eq_natCast, dEq_int, dNe_int, dEq_pair, dNe_pair, dIsN, dNotN, cPar, cPar3, cAsg, gN, gT, gsCons, gsNil, bdOf, cSl, oNone, oSome, dSl, iSeq, iRg1, iRg2, cExpr, dRev, List.map_cons, List.map_nil, List.length_cons, List.length_nil, List.cons_append, List.nil_append, List.append_nil, List.replicate, List.getElem?_cons_zero, List.getElem?_cons_succ, List.set_cons_zero, List.set_cons_succ, Option.bind_some, Option.map_some, Option.bind_none, Option.map_none, Nat.reduceAdd, Nat.reduceSub, Int.reduceAdd, Int.reduceNeg, decide_true, decide_false, Bool.not_true, Bool.not_false, if_true, if_false, Bool.false_eq_true, if_pos, reduceIte, reduceCtorEq, Option.some.injEq, Prod.mk.injEq, and_self, and_true, true_and, szOk, e, hr]) rfl rfl (fun j d p hd hj ⟨t', ep, hp'⟩ => by
      subst ep
      rw [rngL_len] at hj
      obtain ⟨r', t2, e', r0', r1', hp2⟩ := hf long t' (k + 1 + j) hp' (by omega) l0 (by omega)
      refine ⟨.int (1 + r'), false, some t2, ?_, ⟨t2, rfl, hp2⟩, 1 + r', rfl, by omega, by omega⟩
      simp only [cFz, at40, at41, at42, at43, at20, at21, at30, at31, at32, List.set, dMod_ev, Int.reduceMod, Int.reduceLT, Int.reduceSub, Int.reduceMul, Int.reduceToNat, Nat.reduceLT, Int.zero_add, Int.reduceLE, fAll_b, runF, cSeq, cIf, cSet, cRet, cRetN, cSkip, cCont, cBrk, cVar, cD, cBin, cUn, cBi, aNil, aCons, cTup, cLst, bT, bAnd, bOr, bNot, cAnd, cOr, cNot, cIte, cChain, cIsi, dTy, kb1, kb2, kb3, kb4, kb5, kb6, kb7, fAbs_ev, fMax_ev, fMin_ev, wipeS, Function.comp_apply, Function.comp_def, dIx, dGetAny, cPotGet, cPotSet, getP, setP, cCall, fInt, fLen, fTuple, fList, cLenV, dLt, dLe, dGt, dGe, dB2, dAdd, dSub_ev, dNeg, Nat.reduceLeDiff, cs0, cs1, cs2, cs3, cs4, cs5, cs6, cs7, cs8, cs9, cs10, cs11, cs12, Int.ofNat_eq_natCast, dEq_int, dNe_int, dEq_pair, dNe_pair, dIsN, dNotN, cPar, cPar3, cAsg, gN, gT, gsCons, gsNil, bdOf, cSl, oNone, oSome, dSl, iSeq, iRg1, iRg2, cExpr, dRev, List.map_cons, List.map_nil, List.length_cons, List.length_nil, List.cons_append, List.nil_append, List.append_nil, List.replicate, List.getElem?_cons_zero, List.getElem?_cons_succ, List.set_cons_zero, List.set_cons_succ, Option.bind_some, Option.map_some, Option.bind_none, Option.map_none, Nat.reduceAdd, Nat.reduceSub, Int.reduceAdd, Int.reduceNeg, decide_true, decide_false, Bool.not_true, Bool.not_false, if_true, if_false, Bool.false_eq_true, if_pos, reduceIte, reduceCtorEq, Option.some.injEq, Prod.mk.injEq, and_self, and_true, true_and, szOk, e']) ⟨t1, rfl, hp⟩ (by rw [rngL_len]; omega)
  obtain ⟨ns, rfl, hn⟩ := intsP hx
  rw [List.length_map, rngL_len] at l
  rw [rngL_len] at hj
  refine ⟨ns, t2, ?_, by omega, by omega, hn, hj.mono (by omega)⟩
  simp only [cFz, at40, at41, at42, at43, at20, at21, at30, at31, at32, List.set, dMod_ev, Int.reduceMod, Int.reduceLT, Int.reduceSub, Int.reduceMul, Int.reduceToNat, Nat.reduceLT, Int.zero_add, Int.reduceLE, fAll_b, runF, cSeq, cIf, cSet, cRet, cRetN, cSkip, cCont, cBrk, cVar, cD, cBin, cUn, cBi, aNil, aCons, cTup, cLst, bT, bAnd, bOr, bNot, cAnd, cOr, cNot, cIte, cChain, cIsi, dTy, kb1, kb2, kb3, kb4, kb5, kb6, kb7, fAbs_ev, fMax_ev, fMin_ev, wipeS, Function.comp_apply, Function.comp_def, dIx, dGetAny, cPotGet, cPotSet, getP, setP, cCall, fInt, fLen, fTuple, fList, cLenV, dLt, dLe, dGt, dGe, dB2, dAdd, dSub_ev, dNeg, Nat.reduceLeDiff, cs0, cs1, cs2, cs3, cs4, cs5, cs6, cs7, cs8, cs9, cs10, cs11, cs12, Int.ofNat_eq_natCast, dEq_int, dNe_int, dEq_pair, dNe_pair, dIsN, dNotN, cPar, cPar3, cAsg, gN, gT, gsCons, gsNil, bdOf, cSl, oNone, oSome, dSl, iSeq, iRg1, iRg2, cExpr, dRev, List.map_cons, List.map_nil, List.length_cons, List.length_nil, List.cons_append, List.nil_append, List.append_nil, List.replicate, List.getElem?_cons_zero, List.getElem?_cons_succ, List.set_cons_zero, List.set_cons_succ, Option.bind_some, Option.map_some, Option.bind_none, Option.map_none, Nat.reduceAdd, Nat.reduceSub, Int.reduceAdd, Int.reduceNeg, decide_true, decide_false, Bool.not_true, Bool.not_false, if_true, if_false, Bool.false_eq_true, if_pos, reduceIte, reduceCtorEq, Option.some.injEq, Prod.mk.injEq, and_self, and_true, true_and, szOk, rodsC, e2]
theorem rods_ev2 (hf : Take f) (h : Pk k t) (hk : k ≤ 900000000) (h0 : 0 < most) (h1 : most ≤ 1000) (l0 : 0 < long) (l1 : long ≤ 1000000) :
    ∃ (ns : List Int) (t' : Int × Int × Int), runF 4 (rodsC2 f) [.pot, .int most, .int long] (some t) = some (.tup (ns.map .int), some t') ∧ 1 ≤ ns.length ∧ (ns.length : Int) ≤ most ∧ (∀ i ∈ ns, 1 ≤ i ∧ i ≤ long) ∧ Pk (k + 1001) t' := by
  obtain ⟨r, t1, e, r0, r1, hp⟩ := hf most t k h (by omega) h0 (by omega)
  have hr : rgOk (1 + r) = true := rgOk_of (by omega) (by omega)
  obtain ⟨xs, p', e2, l, hx, t2, rfl, hj⟩ := lc_pot (it := iRg1 (aCons (cBin dAdd (cD (.int 1)) (cCall f (aCons (cVar 0) (aCons (cVar 1) aNil)))) aNil)) (te := cBin dAdd (cD (.int 1)) (cBi fInt (aCons (cCall f (aCons (cVar 0) (aCons (cVar 2) aNil))) aNil))) (i := 3) (p := some t1) (r := [.val .pot, .val (.int most), .val (.int long), .no]) (b0 := .no) (s0 := ⟨[.val .pot, .val (.int most), .val (.int long), .no], some t⟩) (ds := rngL 0 (1 + r).toNat)
    (fun j p => ∃ t', p = some t' ∧ Pk j t') (fun x => ∃ i, x = .int i ∧ 1 ≤ i ∧ i ≤ long) (k + 1) (by simp only [cFz, at40, at41, at42, at43, at20, at21, at30, at31, at32, List.set, dMod_ev, Int.reduceMod, Int.reduceLT, Int.reduceSub, Int.reduceMul, Int.reduceToNat, Nat.reduceLT, Int.zero_add, Int.reduceLE, fAll_b, runF, cSeq, cIf, cSet, cRet, cRetN, cSkip, cCont, cBrk, cVar, cD, cBin, cUn, cBi, aNil, aCons, cTup, cLst, bT, bAnd, bOr, bNot, cAnd, cOr, cNot, cIte, cChain, cIsi, dTy, kb1, kb2, kb3, kb4, kb5, kb6, kb7, fAbs_ev, fMax_ev, fMin_ev, wipeS, Function.comp_apply, Function.comp_def, dIx, dGetAny, cPotGet, cPotSet, getP, setP, cCall, fInt, fLen, fTuple, fList, cLenV, dLt, dLe, dGt, dGe, dB2, dAdd, dSub_ev, dNeg, Nat.reduceLeDiff, cs0, cs1, cs2, cs3, cs4, cs5, cs6, cs7, cs8, cs9, cs10, cs11, cs12, Int.ofNat_eq_natCast, dEq_int, dNe_int, dEq_pair, dNe_pair, dIsN, dNotN, cPar, cPar3, cAsg, gN, gT, gsCons, gsNil, bdOf, cSl, oNone, oSome, dSl, iSeq, iRg1, iRg2, cExpr, dRev, List.map_cons, List.map_nil, List.length_cons, List.length_nil, List.cons_append, List.nil_append, List.append_nil, List.replicate, List.getElem?_cons_zero, List.getElem?_cons_succ, List.set_cons_zero, List.set_cons_succ, Option.bind_some, Option.map_some, Option.bind_none, Option.map_none, Nat.reduceAdd, Nat.reduceSub, Int.reduceAdd, Int.reduceNeg, decide_true, decide_false, Bool.not_true, Bool.not_false, if_true, if_false, Bool.false_eq_true, if_pos, reduceIte, reduceCtorEq, Option.some.injEq, Prod.mk.injEq, and_self, and_true, true_and, szOk, e, hr]) rfl rfl (fun j d p hd hj ⟨t', ep, hp'⟩ => by
      subst ep
      rw [rngL_len] at hj
      obtain ⟨r', t2, e', r0', r1', hp2⟩ := hf long t' (k + 1 + j) hp' (by omega) l0 (by omega)
      refine ⟨.int (1 + r'), false, some t2, ?_, ⟨t2, rfl, hp2⟩, 1 + r', rfl, by omega, by omega⟩
      simp only [cFz, at40, at41, at42, at43, at20, at21, at30, at31, at32, List.set, dMod_ev, Int.reduceMod, Int.reduceLT, Int.reduceSub, Int.reduceMul, Int.reduceToNat, Nat.reduceLT, Int.zero_add, Int.reduceLE, fAll_b, runF, cSeq, cIf, cSet, cRet, cRetN, cSkip, cCont, cBrk, cVar, cD, cBin, cUn, cBi, aNil, aCons, cTup, cLst, bT, bAnd, bOr, bNot, cAnd, cOr, cNot, cIte, cChain, cIsi, dTy, kb1, kb2, kb3, kb4, kb5, kb6, kb7, fAbs_ev, fMax_ev, fMin_ev, wipeS, Function.comp_apply, Function.comp_def, dIx, dGetAny, cPotGet, cPotSet, getP, setP, cCall, fInt, fLen, fTuple, fList, cLenV, dLt, dLe, dGt, dGe, dB2, dAdd, dSub_ev, dNeg, Nat.reduceLeDiff, cs0, cs1, cs2, cs3, cs4, cs5, cs6, cs7, cs8, cs9, cs10, cs11, cs12, Int.ofNat_eq_natCast, dEq_int, dNe_int, dEq_pair, dNe_pair, dIsN, dNotN, cPar, cPar3, cAsg, gN, gT, gsCons, gsNil, bdOf, cSl, oNone, oSome, dSl, iSeq, iRg1, iRg2, cExpr, dRev, List.map_cons, List.map_nil, List.length_cons, List.length_nil, List.cons_append, List.nil_append, List.append_nil, List.replicate, List.getElem?_cons_zero, List.getElem?_cons_succ, List.set_cons_zero, List.set_cons_succ, Option.bind_some, Option.map_some, Option.bind_none, Option.map_none, Nat.reduceAdd, Nat.reduceSub, Int.reduceAdd, Int.reduceNeg, decide_true, decide_false, Bool.not_true, Bool.not_false, if_true, if_false, Bool.false_eq_true, if_pos, reduceIte, reduceCtorEq, Option.some.injEq, Prod.mk.injEq, and_self, and_true, true_and, szOk, e']) ⟨t1, rfl, hp⟩ (by rw [rngL_len]; omega)
  obtain ⟨ns, rfl, hn⟩ := intsP hx
  rw [List.length_map, rngL_len] at l
  rw [rngL_len] at hj
  refine ⟨ns, t2, ?_, by omega, by omega, hn, hj.mono (by omega)⟩
  simp only [cFz, at40, at41, at42, at43, at20, at21, at30, at31, at32, List.set, dMod_ev, Int.reduceMod, Int.reduceLT, Int.reduceSub, Int.reduceMul, Int.reduceToNat, Nat.reduceLT, Int.zero_add, Int.reduceLE, fAll_b, runF, cSeq, cIf, cSet, cRet, cRetN, cSkip, cCont, cBrk, cVar, cD, cBin, cUn, cBi, aNil, aCons, cTup, cLst, bT, bAnd, bOr, bNot, cAnd, cOr, cNot, cIte, cChain, cIsi, dTy, kb1, kb2, kb3, kb4, kb5, kb6, kb7, fAbs_ev, fMax_ev, fMin_ev, wipeS, Function.comp_apply, Function.comp_def, dIx, dGetAny, cPotGet, cPotSet, getP, setP, cCall, fInt, fLen, fTuple, fList, cLenV, dLt, dLe, dGt, dGe, dB2, dAdd, dSub_ev, dNeg, Nat.reduceLeDiff, cs0, cs1, cs2, cs3, cs4, cs5, cs6, cs7, cs8, cs9, cs10, cs11, cs12, Int.ofNat_eq_natCast, dEq_int, dNe_int, dEq_pair, dNe_pair, dIsN, dNotN, cPar, cPar3, cAsg, gN, gT, gsCons, gsNil, bdOf, cSl, oNone, oSome, dSl, iSeq, iRg1, iRg2, cExpr, dRev, List.map_cons, List.map_nil, List.length_cons, List.length_nil, List.cons_append, List.nil_append, List.append_nil, List.replicate, List.getElem?_cons_zero, List.getElem?_cons_succ, List.set_cons_zero, List.set_cons_succ, Option.bind_some, Option.map_some, Option.bind_none, Option.map_none, Nat.reduceAdd, Nat.reduceSub, Int.reduceAdd, Int.reduceNeg, decide_true, decide_false, Bool.not_true, Bool.not_false, if_true, if_false, Bool.false_eq_true, if_pos, reduceIte, reduceCtorEq, Option.some.injEq, Prod.mk.injEq, and_self, and_true, true_and, szOk, rodsC2, e2]
end

def someC (f : Fn) : SS :=
  (cSeq (cPar 3 4 (cBi fList (aCons (cVar 1) aNil)) (cLst aNil))
  (cSeq (cFor (iRg1 (aCons (cVar 2) aNil)) (gN 5)
  (cApp 4 (cPop 3 (cCall f (aCons (cVar 0) (aCons (cLenV 3) aNil))))))
  (cRet (cVar 4))))
theorem ixN_n {n j : Nat} (hj : j < n) : ixN n (j : Int) = some j := by
  unfold ixN
  rw [if_pos (by omega), if_pos (by omega)]; rfl
theorem perm_erase {α : Type} : ∀ {rem : List α} {j : Nat} (hl : j < rem.length), rem.Perm (rem[j] :: rem.eraseIdx j)
  | a :: r, 0, _ => .refl _
  | a :: r, j + 1, hl => ((perm_erase (rem := r) (j := j) (by simpa using hl)).cons a).trans (.swap ..)
theorem perm_pick {α : Type} {rem fnd : List α} {j : Nat} {d : α} (h : rem[j]? = some d) : (rem.eraseIdx j ++ (fnd ++ [d])).Perm (rem ++ fnd) := by
  obtain ⟨hl, rfl⟩ := List.getElem?_eq_some_iff.1 h
  have h1 : rem.Perm (rem[j] :: rem.eraseIdx j) := perm_erase hl
  have h2 : (rem.eraseIdx j ++ (fnd ++ [rem[j]])).Perm (rem[j] :: (rem.eraseIdx j ++ fnd)) := by
    rw [← List.append_assoc]
    exact List.perm_append_singleton _ _
  exact h2.trans (h1.append_right fnd).symm
/-- what is taken away one by one from what is there -/
theorem some_ev {f : Fn} (hf : Take f) {ds : List D} {t : Int × Int × Int} {k : Nat} (h : Pk k t) (hk : k ≤ 900000000) (h1 : ds.length ≤ 100000) {many : Nat} (hm : many ≤ ds.length) {x : D} (hx : x = .lst ds ∨ x = .tup ds) :
    ∃ (rem fnd : List D) (t' : Int × Int × Int), runF 6 (someC f) [.pot, x, .int many] (some t) = some (.lst fnd, some t') ∧ fnd.length = many ∧ (rem ++ fnd).Perm ds ∧ Pk (k + many) t' := by
  obtain ⟨s', e, rem, fnd, t', b, hs', l1, l2, hp, hk'⟩ := for_inv (g := gN 5) (body := (cApp 4 (cPop 3 (cCall f (aCons (cVar 0) (aCons (cLenV 3) aNil))))))
    (fun j s => ∃ (rem fnd : List D) (t' : Int × Int × Int) (b : Bd), s = ⟨[.val .pot, .val x, .val (.int many), .own (.lst rem), .own (.lst fnd), b], some t'⟩ ∧ fnd.length = j ∧ rem.length + j = ds.length ∧ (rem ++ fnd).Perm ds ∧ Pk (k + j) t')
    (rngL 0 ((many : Nat) : Int).toNat) 0 ⟨[.val .pot, .val x, .val (.int many), .own (.lst ds), .own (.lst []), .no], some t⟩ (fun j d s hd ⟨rem, fnd, t', b, es, l1, l2, hp, hk'⟩ => by
      rw [Nat.zero_add] at l1 l2 hk'
      obtain ⟨hj, rfl⟩ := rngL_get hd
      subst es
      obtain ⟨r, t2, e, r0, r1, hk2⟩ := hf rem.length t' (k + j) hk' (by omega) (by omega) (by omega)
      obtain ⟨q, rfl⟩ := Int.eq_ofNat_of_zero_le r0
      have hq : q < rem.length := by omega
      have z1 : fnd.length ≤ 16777215 := by omega
      have z2 : inR 9223372036854775807 (q : Int) = true := inR_iff.2 ⟨by omega, by omega⟩
      have z3 : rem[q]? = some rem[q] := List.getElem?_eq_getElem hq
      refine ⟨_, rfl, .nx, ⟨[.val .pot, .val x, .val (.int many), .own (.lst (rem.eraseIdx q)), .own (.lst (fnd ++ [rem[q]])), .val (.int (0 + (j : Nat)))], some t2⟩, ?_, .inl rfl, ?_⟩
      · simp only [cFz, at40, at41, at42, at43, at20, at21, at30, at31, at32, List.set, dMod_ev, Int.reduceMod, Int.reduceLT, Int.reduceSub, Int.reduceMul, Int.reduceToNat, Nat.reduceLT, Int.zero_add, Int.reduceLE, fAll_b, runF, cSeq, cIf, cSet, cRet, cRetN, cSkip, cCont, cBrk, cVar, cD, cBin, cUn, cBi, aNil, aCons, cTup, cLst, bT, bAnd, bOr, bNot, cAnd, cOr, cNot, cIte, cChain, cIsi, dTy, kb1, kb2, kb3, kb4, kb5, kb6, kb7, fAbs_ev, fMax_ev, fMin_ev, wipeS, Function.comp_apply, Function.comp_def, dIx, dGetAny, cPotGet, cPotSet, getP, setP, cCall, fInt, fLen, fTuple, fList, cLenV, dLt, dLe, dGt, dGe, dB2, dAdd, dSub_ev, dNeg, Nat.reduceLeDiff, cs0, cs1, cs2, cs3, cs4, cs5, cs6, cs7, cs8, cs9, cs10, cs11, cs12, Int.ofNat_eq_natCast, dEq_int, dNe_int, dEq_pair, dNe_pair, dIsN, dNotN, cPar, cPar3, cAsg, gN, gT, gsCons, gsNil, bdOf, cSl, oNone, oSome, dSl, iSeq, iRg1, iRg2, cExpr, dRev, List.map_cons, List.map_nil, List.length_cons, List.length_nil, List.cons_append, List.nil_append, List.append_nil, List.replicate, List.getElem?_cons_zero, List.getElem?_cons_succ, List.set_cons_zero, List.set_cons_succ, Option.bind_some, Option.map_some, Option.bind_none, Option.map_none, Nat.reduceAdd, Nat.reduceSub, Int.reduceAdd, Int.reduceNeg, decide_true, decide_false, Bool.not_true, Bool.not_false, if_true, if_false, Bool.false_eq_true, if_pos, reduceIte, reduceCtorEq, Option.some.injEq, Prod.mk.injEq, and_self, and_true, true_and, szOk, cApp, cPop, e, z1, z2, z3, ixN_n hq]
      · refine ⟨_, _, t2, _, rfl, by rw [List.length_append, l1]; simp, by rw [List.length_eraseIdx_of_lt hq]; omega, (perm_pick z3).trans hp, hk2.mono (by omega)⟩)
    ⟨ds, [], t, .no, rfl, rfl, by simp, by simp, h⟩
  rw [rngL_len, Nat.zero_add] at l1 l2 hk'
  have hmn : ((many : Nat) : Int).toNat = many := Int.toNat_natCast many
  rw [hmn] at l1 l2 hk' e
  refine ⟨rem, fnd, t', ?_, l1, hp, hk'⟩
  subst hs'
  have hr : rgOk ((many : Nat) : Int) = true := rgOk_of (by omega) (by omega)
  rcases hx with rfl | rfl
  · simp only [cFz, at40, at41, at42, at43, at20, at21, at30, at31, at32, List.set, dMod_ev, Int.reduceMod, Int.reduceLT, Int.reduceSub, Int.reduceMul, Int.reduceToNat, Nat.reduceLT, Int.zero_add, Int.reduceLE, fAll_b, runF, cSeq, cIf, cSet, cRet, cRetN, cSkip, cCont, cBrk, cVar, cD, cBin, cUn, cBi, aNil, aCons, cTup, cLst, bT, bAnd, bOr, bNot, cAnd, cOr, cNot, cIte, cChain, cIsi, dTy, kb1, kb2, kb3, kb4, kb5, kb6, kb7, fAbs_ev, fMax_ev, fMin_ev, wipeS, Function.comp_apply, Function.comp_def, dIx, dGetAny, cPotGet, cPotSet, getP, setP, cCall, fInt, fLen, fTuple, fList, cLenV, dLt, dLe, dGt, dGe, dB2, dAdd, dSub_ev, dNeg, Nat.reduceLeDiff, cs0, cs1, cs2, cs3, cs4, cs5, cs6, cs7, cs8, cs9, cs10, cs11, cs12, Int.ofNat_eq_natCast, dEq_int, dNe_int, dEq_pair, dNe_pair, dIsN, dNotN, cPar, cPar3, cAsg, gN, gT, gsCons, gsNil, bdOf, cSl, oNone, oSome, dSl, iSeq, iRg1, iRg2, cExpr, dRev, List.map_cons, List.map_nil, List.length_cons, List.length_nil, List.cons_append, List.nil_append, List.append_nil, List.replicate, List.getElem?_cons_zero, List.getElem?_cons_succ, List.set_cons_zero, List.set_cons_succ, Option.bind_some, Option.map_some, Option.bind_none, Option.map_none, Nat.reduceAdd, Nat.reduceSub, Int.reduceAdd, Int.reduceNeg, decide_true, decide_false, Bool.not_true, Bool.not_false, if_true, if_false, Bool.false_eq_true, if_pos, reduceIte, reduceCtorEq, Option.some.injEq, Prod.mk.injEq, and_self, and_true, true_and, szOk, someC, cFor, hr, hmn, e, Nat.zero_le]
  · simp only [cFz, at40, at41, at42, at43, at20, at21, at30, at31, at32, List.set, dMod_ev, Int.reduceMod, Int.reduceLT, Int.reduceSub, Int.reduceMul, Int.reduceToNat, Nat.reduceLT, Int.zero_add, Int.reduceLE, fAll_b, runF, cSeq, cIf, cSet, cRet, cRetN, cSkip, cCont, cBrk, cVar, cD, cBin, cUn, cBi, aNil, aCons, cTup, cLst, bT, bAnd, bOr, bNot, cAnd, cOr, cNot, cIte, cChain, cIsi, dTy, kb1, kb2, kb3, kb4, kb5, kb6, kb7, fAbs_ev, fMax_ev, fMin_ev, wipeS, Function.comp_apply, Function.comp_def, dIx, dGetAny, cPotGet, cPotSet, getP, setP, cCall, fInt, fLen, fTuple, fList, cLenV, dLt, dLe, dGt, dGe, dB2, dAdd, dSub_ev, dNeg, Nat.reduceLeDiff, cs0, cs1, cs2, cs3, cs4, cs5, cs6, cs7, cs8, cs9, cs10, cs11, cs12, Int.ofNat_eq_natCast, dEq_int, dNe_int, dEq_pair, dNe_pair, dIsN, dNotN, cPar, cPar3, cAsg, gN, gT, gsCons, gsNil, bdOf, cSl, oNone, oSome, dSl, iSeq, iRg1, iRg2, cExpr, dRev, List.map_cons, List.map_nil, List.length_cons, List.length_nil, List.cons_append, List.nil_append, List.append_nil, List.replicate, List.getElem?_cons_zero, List.getElem?_cons_succ, List.set_cons_zero, List.set_cons_succ, Option.bind_some, Option.map_some, Option.bind_none, Option.map_none, Nat.reduceAdd, Nat.reduceSub, Int.reduceAdd, Int.reduceNeg, decide_true, decide_false, Bool.not_true, Bool.not_false, if_true, if_false, Bool.false_eq_true, if_pos, reduceIte, reduceCtorEq, Option.some.injEq, Prod.mk.injEq, and_self, and_true, true_and, szOk, someC, cFor, hr, hmn, e, Nat.zero_le]
def cellsC : SS := (cRet (cListRg (cBi fMax (aCons (cD (.int 1)) (aCons (cBi fMin (aCons (cVar 1) (aCons (cBi fLen (aCons (cVar 0) aNil)) aNil))) aNil)))))
theorem cells_ev {ns : List Int} {m : Int} (hm : 1 ≤ m ∧ m ≤ 1000) {p : Pt} : ∃ j : Nat, j ≤ m.toNat ∧ runF 2 cellsC [.scr ns, .int m] p = some (.lst (rngL 0 j), p) := by
  refine ⟨(mx 1 (mn m ns.length)).toNat, ?_, ?_⟩
  · unfold mx mn; split <;> split <;> omega
  · have b : 0 ≤ mx 1 (mn m ns.length) ∧ mx 1 (mn m ns.length) ≤ 1000 := by unfold mx mn; split <;> split <;> omega
    have h : rgOk (mx 1 (mn m ns.length)) = true := rgOk_of b.1 (by omega)
    have h2 : Nat.ble (mx 1 (mn m ns.length)).toNat 16777216 = true := by rw [Nat.ble_eq]; omega
    simp only [cFz, at40, at41, at42, at43, at20, at21, at30, at31, at32, List.set, dMod_ev, Int.reduceMod, Int.reduceLT, Int.reduceSub, Int.reduceMul, Int.reduceToNat, Nat.reduceLT, Int.zero_add, Int.reduceLE, fAll_b, runF, cSeq, cIf, cSet, cRet, cRetN, cSkip, cCont, cBrk, cVar, cD, cBin, cUn, cBi, aNil, aCons, cTup, cLst, bT, bAnd, bOr, bNot, cAnd, cOr, cNot, cIte, cChain, cIsi, dTy, kb1, kb2, kb3, kb4, kb5, kb6, kb7, fAbs_ev, fMax_ev, fMin_ev, wipeS, Function.comp_apply, Function.comp_def, dIx, dGetAny, cPotGet, cPotSet, getP, setP, cCall, fInt, fLen, fTuple, fList, cLenV, dLt, dLe, dGt, dGe, dB2, dAdd, dSub_ev, dNeg, Nat.reduceLeDiff, cs0, cs1, cs2, cs3, cs4, cs5, cs6, cs7, cs8, cs9, cs10, cs11, cs12, Int.ofNat_eq_natCast, dEq_int, dNe_int, dEq_pair, dNe_pair, dIsN, dNotN, cPar, cPar3, cAsg, gN, gT, gsCons, gsNil, bdOf, cSl, oNone, oSome, dSl, iSeq, iRg1, iRg2, cExpr, dRev, List.map_cons, List.map_nil, List.length_cons, List.length_nil, List.cons_append, List.nil_append, List.append_nil, List.replicate, List.getElem?_cons_zero, List.getElem?_cons_succ, List.set_cons_zero, List.set_cons_succ, Option.bind_some, Option.map_some, Option.bind_none, Option.map_none, Nat.reduceAdd, Nat.reduceSub, Int.reduceAdd, Int.reduceNeg, decide_true, decide_false, Bool.not_true, Bool.not_false, if_true, if_false, Bool.false_eq_true, if_pos, reduceIte, reduceCtorEq, Option.some.injEq, Prod.mk.injEq, and_self, and_true, true_and, szOk, cellsC, fLen_scr, cListRg, h, h2, Bool.and_self]
def lawC (fc : Fn) (fp : PotFn) (fr : Fn) (m : Int) : SS :=
  (cRet (cBi fAll (aCons (cLC (iSeq (cCall fc (aCons (cVar 0) (aCons (cD (.int m)) aNil)))) (gN 1) bYes (cPotCall fp fr (aCons (cVar 0) (aCons (cVar 1) aNil))) [1]) aNil)))
theorem law_ev {fp : PotFn} {fr : Fn} {m : Int} (hm : 1 ≤ m ∧ m ≤ 5) {ns : List Int} (hp : ∀ place : Int, 0 ≤ place → place ≤ 10 → ∃ t, fp [.scr ns, .int place] = some t ∧ Pk 0 t) (hr : ∀ t, Pk 0 t → ∃ t', fr [.pot] (some t) = some (.bl true, some t')) :
    ∃ p', runF 2 (lawC (runF 2 cellsC) fp fr m) [.scr ns] none = some (.bl true, p') := by
  obtain ⟨j, hj, e⟩ := cells_ev (ns := ns) (m := m) ⟨hm.1, by omega⟩ (p := none)
  have e2 := lc_map (it := iSeq (cCall (runF 2 cellsC) (aCons (cVar 0) (aCons (cD (.int m)) aNil)))) (te := cPotCall fp fr (aCons (cVar 0) (aCons (cVar 1) aNil))) (i := 1) (p := none) (r := [.val (.scr ns), .no]) (b0 := .no) (s0 := ⟨[.val (.scr ns), .no], none⟩) (ds := rngL 0 j) (φ := fun _ => .bl true) (by
    unfold iSeq cCall aCons aNil cVar cD
    simp only [List.getElem?_cons_zero, Option.bind_some, Option.map_some, e]) rfl rfl (fun d hd => by
      obtain ⟨i, hi⟩ := List.getElem?_of_mem hd
      obtain ⟨hj2, rfl⟩ := rngL_get hi
      obtain ⟨t, et, hk⟩ := hp (0 + (i : Nat)) (by omega) (by omega)
      obtain ⟨t', er⟩ := hr t hk
      rw [Int.zero_add] at et
      refine ⟨false, ?_⟩
      simp only [cFz, at40, at41, at42, at43, at20, at21, at30, at31, at32, List.set, dMod_ev, Int.reduceMod, Int.reduceLT, Int.reduceSub, Int.reduceMul, Int.reduceToNat, Nat.reduceLT, Int.zero_add, Int.reduceLE, fAll_b, runF, cSeq, cIf, cSet, cRet, cRetN, cSkip, cCont, cBrk, cVar, cD, cBin, cUn, cBi, aNil, aCons, cTup, cLst, bT, bAnd, bOr, bNot, cAnd, cOr, cNot, cIte, cChain, cIsi, dTy, kb1, kb2, kb3, kb4, kb5, kb6, kb7, fAbs_ev, fMax_ev, fMin_ev, wipeS, Function.comp_apply, Function.comp_def, dIx, dGetAny, cPotGet, cPotSet, getP, setP, cCall, fInt, fLen, fTuple, fList, cLenV, dLt, dLe, dGt, dGe, dB2, dAdd, dSub_ev, dNeg, Nat.reduceLeDiff, cs0, cs1, cs2, cs3, cs4, cs5, cs6, cs7, cs8, cs9, cs10, cs11, cs12, Int.ofNat_eq_natCast, dEq_int, dNe_int, dEq_pair, dNe_pair, dIsN, dNotN, cPar, cPar3, cAsg, gN, gT, gsCons, gsNil, bdOf, cSl, oNone, oSome, dSl, iSeq, iRg1, iRg2, cExpr, dRev, List.map_cons, List.map_nil, List.length_cons, List.length_nil, List.cons_append, List.nil_append, List.append_nil, List.replicate, List.getElem?_cons_zero, List.getElem?_cons_succ, List.set_cons_zero, List.set_cons_succ, Option.bind_some, Option.map_some, Option.bind_none, Option.map_none, Nat.reduceAdd, Nat.reduceSub, Int.reduceAdd, Int.reduceNeg, decide_true, decide_false, Bool.not_true, Bool.not_false, if_true, if_false, Bool.false_eq_true, if_pos, reduceIte, reduceCtorEq, Option.some.injEq, Prod.mk.injEq, and_self, and_true, true_and, szOk, cPotCall, et, er]) (by rw [rngL_len]; omega)
  have e3 : (rngL 0 j).map (fun _ => D.bl true) = ((List.range j).map fun _ => true).map D.bl := by simp [rngL]
  rw [e3] at e2
  refine ⟨none, ?_⟩
  have e4 := e2
  generalize hL : (cLC (iSeq (cCall (runF 2 cellsC) (aCons (cVar 0) (aCons (cD (.int m)) aNil)))) (gN 1) bYes (cPotCall fp fr (aCons (cVar 0) (aCons (cVar 1) aNil))) [1]) = L at e4
  have : runF 2 (cRet (cBi fAll (aCons L aNil))) [.scr ns] none = some (.bl (((List.range j).map fun _ => true).all id), none) := by
    simp only [cFz, at40, at41, at42, at43, at20, at21, at30, at31, at32, List.set, dMod_ev, Int.reduceMod, Int.reduceLT, Int.reduceSub, Int.reduceMul, Int.reduceToNat, Nat.reduceLT, Int.zero_add, Int.reduceLE, fAll_b, runF, cSeq, cIf, cSet, cRet, cRetN, cSkip, cCont, cBrk, cVar, cD, cBin, cUn, cBi, aNil, aCons, cTup, cLst, bT, bAnd, bOr, bNot, cAnd, cOr, cNot, cIte, cChain, cIsi, dTy, kb1, kb2, kb3, kb4, kb5, kb6, kb7, fAbs_ev, fMax_ev, fMin_ev, wipeS, Function.comp_apply, Function.comp_def, dIx, dGetAny, cPotGet, cPotSet, getP, setP, cCall, fInt, fLen, fTuple, fList, cLenV, dLt, dLe, dGt, dGe, dB2, dAdd, dSub_ev, dNeg, Nat.reduceLeDiff, cs0, cs1, cs2, cs3, cs4, cs5, cs6, cs7, cs8, cs9, cs10, cs11, cs12, Int.ofNat_eq_natCast, dEq_int, dNe_int, dEq_pair, dNe_pair, dIsN, dNotN, cPar, cPar3, cAsg, gN, gT, gsCons, gsNil, bdOf, cSl, oNone, oSome, dSl, iSeq, iRg1, iRg2, cExpr, dRev, List.map_cons, List.map_nil, List.length_cons, List.length_nil, List.cons_append, List.nil_append, List.append_nil, List.replicate, List.getElem?_cons_zero, List.getElem?_cons_succ, List.set_cons_zero, List.set_cons_succ, Option.bind_some, Option.map_some, Option.bind_none, Option.map_none, Nat.reduceAdd, Nat.reduceSub, Int.reduceAdd, Int.reduceNeg, decide_true, decide_false, Bool.not_true, Bool.not_false, if_true, if_false, Bool.false_eq_true, if_pos, reduceIte, reduceCtorEq, Option.some.injEq, Prod.mk.injEq, and_self, and_true, true_and, szOk, e4, fAll_b]
  unfold lawC
  rw [hL, this]
  simp
def poseC (f : Fn) : SS := (cRet (cBi fTuple (aCons (cLC (iSeq (cVar 1)) (gN 2) bYes (cBi fInt (aCons (cCall f (aCons (cVar 0) (aCons (cD (.int 4)) aNil))) aNil)) [2]) aNil)))
def poseC2 (f : Fn) : SS := (cRet (cBi fTuple (aCons (cLC (iRg1 (aCons (cVar 1) aNil)) (gN 2) bYes (cBi fInt (aCons (cCall f (aCons (cVar 0) (aCons (cD (.int 4)) aNil))) aNil)) [2]) aNil)))
/-- as many quarters as things are there -/
theorem pose_ev {f : Fn} (hf : Take f) {ds : List D} {t : Int × Int × Int} {k : Nat} (h : Pk k t) (hk : k ≤ 900000000) (h1 : ds.length ≤ 100000) {x : D} (hx : x = .lst ds ∨ x = .tup ds) :
    ∃ (ns : List Int) (t' : Int × Int × Int), runF 3 (poseC f) [.pot, x] (some t) = some (.tup (ns.map .int), some t') ∧ ns.length = ds.length ∧ (∀ i ∈ ns, 0 ≤ i ∧ i ≤ 3) ∧ Pk (k + ds.length) t' := by
  obtain ⟨xs, p', e2, l, hx2, t2, rfl, hj⟩ := lc_pot (it := iSeq (cVar 1)) (te := cBi fInt (aCons (cCall f (aCons (cVar 0) (aCons (cD (.int 4)) aNil))) aNil)) (i := 2) (p := some t) (r := [.val .pot, .val x, .no]) (b0 := .no) (s0 := ⟨[.val .pot, .val x, .no], some t⟩) (ds := ds)
    (fun j p => ∃ t', p = some t' ∧ Pk j t') (fun x => ∃ i, x = .int i ∧ 0 ≤ i ∧ i ≤ 3) k (by rcases hx with rfl | rfl <;> rfl) rfl rfl (fun j d p hd hj ⟨t', ep, hp'⟩ => by
      subst ep
      obtain ⟨r', t2, e', r0', r1', hp2⟩ := hf 4 t' (k + j) hp' (by omega) (by omega) (by omega)
      refine ⟨.int r', false, some t2, ?_, ⟨t2, rfl, hp2⟩, r', rfl, by omega, by omega⟩
      simp only [cFz, at40, at41, at42, at43, at20, at21, at30, at31, at32, List.set, dMod_ev, Int.reduceMod, Int.reduceLT, Int.reduceSub, Int.reduceMul, Int.reduceToNat, Nat.reduceLT, Int.zero_add, Int.reduceLE, fAll_b, runF, cSeq, cIf, cSet, cRet, cRetN, cSkip, cCont, cBrk, cVar, cD, cBin, cUn, cBi, aNil, aCons, cTup, cLst, bT, bAnd, bOr, bNot, cAnd, cOr, cNot, cIte, cChain, cIsi, dTy, kb1, kb2, kb3, kb4, kb5, kb6, kb7, fAbs_ev, fMax_ev, fMin_ev, wipeS, Function.comp_apply, Function.comp_def, dIx, dGetAny, cPotGet, cPotSet, getP, setP, cCall, fInt, fLen, fTuple, fList, cLenV, dLt, dLe, dGt, dGe, dB2, dAdd, dSub_ev, dNeg, Nat.reduceLeDiff, cs0, cs1, cs2, cs3, cs4, cs5, cs6, cs7, cs8, cs9, cs10, cs11, cs12, Int.ofNat_eq_natCast, dEq_int, dNe_int, dEq_pair, dNe_pair, dIsN, dNotN, cPar, cPar3, cAsg, gN, gT, gsCons, gsNil, bdOf, cSl, oNone, oSome, dSl, iSeq, iRg1, iRg2, cExpr, dRev, List.map_cons, List.map_nil, List.length_cons, List.length_nil, List.cons_append, List.nil_append, List.append_nil, List.replicate, List.getElem?_cons_zero, List.getElem?_cons_succ, List.set_cons_zero, List.set_cons_succ, Option.bind_some, Option.map_some, Option.bind_none, Option.map_none, Nat.reduceAdd, Nat.reduceSub, Int.reduceAdd, Int.reduceNeg, decide_true, decide_false, Bool.not_true, Bool.not_false, if_true, if_false, Bool.false_eq_true, if_pos, reduceIte, reduceCtorEq, Option.some.injEq, Prod.mk.injEq, and_self, and_true, true_and, szOk, e']) ⟨t, rfl, h⟩ (by omega)
  obtain ⟨ns, rfl, hn⟩ := intsP hx2
  rw [List.length_map] at l
  refine ⟨ns, t2, ?_, l, hn, hj⟩
  simp only [cFz, at40, at41, at42, at43, at20, at21, at30, at31, at32, List.set, dMod_ev, Int.reduceMod, Int.reduceLT, Int.reduceSub, Int.reduceMul, Int.reduceToNat, Nat.reduceLT, Int.zero_add, Int.reduceLE, fAll_b, runF, cSeq, cIf, cSet, cRet, cRetN, cSkip, cCont, cBrk, cVar, cD, cBin, cUn, cBi, aNil, aCons, cTup, cLst, bT, bAnd, bOr, bNot, cAnd, cOr, cNot, cIte, cChain, cIsi, dTy, kb1, kb2, kb3, kb4, kb5, kb6, kb7, fAbs_ev, fMax_ev, fMin_ev, wipeS, Function.comp_apply, Function.comp_def, dIx, dGetAny, cPotGet, cPotSet, getP, setP, cCall, fInt, fLen, fTuple, fList, cLenV, dLt, dLe, dGt, dGe, dB2, dAdd, dSub_ev, dNeg, Nat.reduceLeDiff, cs0, cs1, cs2, cs3, cs4, cs5, cs6, cs7, cs8, cs9, cs10, cs11, cs12, Int.ofNat_eq_natCast, dEq_int, dNe_int, dEq_pair, dNe_pair, dIsN, dNotN, cPar, cPar3, cAsg, gN, gT, gsCons, gsNil, bdOf, cSl, oNone, oSome, dSl, iSeq, iRg1, iRg2, cExpr, dRev, List.map_cons, List.map_nil, List.length_cons, List.length_nil, List.cons_append, List.nil_append, List.append_nil, List.replicate, List.getElem?_cons_zero, List.getElem?_cons_succ, List.set_cons_zero, List.set_cons_succ, Option.bind_some, Option.map_some, Option.bind_none, Option.map_none, Nat.reduceAdd, Nat.reduceSub, Int.reduceAdd, Int.reduceNeg, decide_true, decide_false, Bool.not_true, Bool.not_false, if_true, if_false, Bool.false_eq_true, if_pos, reduceIte, reduceCtorEq, Option.some.injEq, Prod.mk.injEq, and_self, and_true, true_and, szOk, poseC, e2]
theorem pose_ev2 {f : Fn} (hf : Take f) {n : Nat} {t : Int × Int × Int} {k : Nat} (h : Pk k t) (hk : k ≤ 900000000) (h1 : n ≤ 100000) :
    ∃ (ns : List Int) (t' : Int × Int × Int), runF 3 (poseC2 f) [.pot, .int n] (some t) = some (.tup (ns.map .int), some t') ∧ ns.length = n ∧ (∀ i ∈ ns, 0 ≤ i ∧ i ≤ 3) ∧ Pk (k + n) t' := by
  have hmn : ((n : Nat) : Int).toNat = n := Int.toNat_natCast n
  have hr : rgOk ((n : Nat) : Int) = true := rgOk_of (by omega) (by omega)
  obtain ⟨xs, p', e2, l, hx2, t2, rfl, hj⟩ := lc_pot (it := iRg1 (aCons (cVar 1) aNil)) (te := cBi fInt (aCons (cCall f (aCons (cVar 0) (aCons (cD (.int 4)) aNil))) aNil)) (i := 2) (p := some t) (r := [.val .pot, .val (.int n), .no]) (b0 := .no) (s0 := ⟨[.val .pot, .val (.int n), .no], some t⟩) (ds := rngL 0 n)
    (fun j p => ∃ t', p = some t' ∧ Pk j t') (fun x => ∃ i, x = .int i ∧ 0 ≤ i ∧ i ≤ 3) k (by simp only [cFz, at40, at41, at42, at43, at20, at21, at30, at31, at32, List.set, dMod_ev, Int.reduceMod, Int.reduceLT, Int.reduceSub, Int.reduceMul, Int.reduceToNat, Nat.reduceLT, Int.zero_add, Int.reduceLE, fAll_b, runF, cSeq, cIf, cSet, cRet, cRetN, cSkip, cCont, cBrk, cVar, cD, cBin, cUn, cBi, aNil, aCons, cTup, cLst, bT, bAnd, bOr, bNot, cAnd, cOr, cNot, cIte, cChain, cIsi, dTy, kb1, kb2, kb3, kb4, kb5, kb6, kb7, fAbs_ev, fMax_ev, fMin_ev, wipeS, Function.comp_apply, Function.comp_def, dIx, dGetAny, cPotGet, cPotSet, getP, setP, cCall, fInt, fLen, fTuple, fList, cLenV, dLt, dLe, dGt, dGe, dB2, dAdd, dSub_ev, dNeg, Nat.reduceLeDiff, cs0, cs1, cs2, cs3, cs4, cs5, cs6, cs7, cs8, cs9, cs10, cs11, cs12, Int.ofNat_eq_natCast, dEq_int, dNe_int, dEq_pair, dNe_pair, dIsN, dNotN, cPar, cPar3, cAsg, gN, gT, gsCons, gsNil, bdOf, cSl, oNone, oSome, dSl, iSeq, iRg1, iRg2, cExpr, dRev, List.map_cons, List.map_nil, List.length_cons, List.length_nil, List.cons_append, List.nil_append, List.append_nil, List.replicate, List.getElem?_cons_zero, List.getElem?_cons_succ, List.set_cons_zero, List.set_cons_succ, Option.bind_some, Option.map_some, Option.bind_none, Option.map_none, Nat.reduceAdd, Nat.reduceSub, Int.reduceAdd, Int.reduceNeg, decide_true, decide_false, Bool.not_true, Bool.not_false, if_true, if_false, Bool.false_eq_true, if_pos, reduceIte, reduceCtorEq, Option.some.injEq, Prod.mk.injEq, and_self, and_true, true_and, szOk, hr, hmn]) rfl rfl (fun j d p hd hj ⟨t', ep, hp'⟩ => by
      subst ep
      rw [rngL_len] at hj
      obtain ⟨r', t2, e', r0', r1', hp2⟩ := hf 4 t' (k + j) hp' (by omega) (by omega) (by omega)
      refine ⟨.int r', false, some t2, ?_, ⟨t2, rfl, hp2⟩, r', rfl, by omega, by omega⟩
      simp only [cFz, at40, at41, at42, at43, at20, at21, at30, at31, at32, List.set, dMod_ev, Int.reduceMod, Int.reduceLT, Int.reduceSub, Int.reduceMul, Int.reduceToNat, Nat.reduceLT, Int.zero_add, Int.reduceLE, fAll_b, runF, cSeq, cIf, cSet, cRet, cRetN, cSkip, cCont, cBrk, cVar, cD, cBin, cUn, cBi, aNil, aCons, cTup, cLst, bT, bAnd, bOr, bNot, cAnd, cOr, cNot, cIte, cChain, cIsi, dTy, kb1, kb2, kb3, kb4, kb5, kb6, kb7, fAbs_ev, fMax_ev, fMin_ev, wipeS, Function.comp_apply, Function.comp_def, dIx, dGetAny, cPotGet, cPotSet, getP, setP, cCall, fInt, fLen, fTuple, fList, cLenV, dLt, dLe, dGt, dGe, dB2, dAdd, dSub_ev, dNeg, Nat.reduceLeDiff, cs0, cs1, cs2, cs3, cs4, cs5, cs6, cs7, cs8, cs9, cs10, cs11, cs12, Int.ofNat_eq_natCast, dEq_int, dNe_int, dEq_pair, dNe_pair, dIsN, dNotN, cPar, cPar3, cAsg, gN, gT, gsCons, gsNil, bdOf, cSl, oNone, oSome, dSl, iSeq, iRg1, iRg2, cExpr, dRev, List.map_cons, List.map_nil, List.length_cons, List.length_nil, List.cons_append, List.nil_append, List.append_nil, List.replicate, List.getElem?_cons_zero, List.getElem?_cons_succ, List.set_cons_zero, List.set_cons_succ, Option.bind_some, Option.map_some, Option.bind_none, Option.map_none, Nat.reduceAdd, Nat.reduceSub, Int.reduceAdd, Int.reduceNeg, decide_true, decide_false, Bool.not_true, Bool.not_false, if_true, if_false, Bool.false_eq_true, if_pos, reduceIte, reduceCtorEq, Option.some.injEq, Prod.mk.injEq, and_self, and_true, true_and, szOk, e']) ⟨t, rfl, h⟩ (by rw [rngL_len]; omega)
  obtain ⟨ns, rfl, hn⟩ := intsP hx2
  rw [List.length_map, rngL_len] at l
  rw [rngL_len] at hj
  refine ⟨ns, t2, ?_, l, hn, hj⟩
  simp only [cFz, at40, at41, at42, at43, at20, at21, at30, at31, at32, List.set, dMod_ev, Int.reduceMod, Int.reduceLT, Int.reduceSub, Int.reduceMul, Int.reduceToNat, Nat.reduceLT, Int.zero_add, Int.reduceLE, fAll_b, runF, cSeq, cIf, cSet, cRet, cRetN, cSkip, cCont, cBrk, cVar, cD, cBin, cUn, cBi, aNil, aCons, cTup, cLst, bT, bAnd, bOr, bNot, cAnd, cOr, cNot, cIte, cChain, cIsi, dTy, kb1, kb2, kb3, kb4, kb5, kb6, kb7, fAbs_ev, fMax_ev, fMin_ev, wipeS, Function.comp_apply, Function.comp_def, dIx, dGetAny, cPotGet, cPotSet, getP, setP, cCall, fInt, fLen, fTuple, fList, cLenV, dLt, dLe, dGt, dGe, dB2, dAdd, dSub_ev, dNeg, Nat.reduceLeDiff, cs0, cs1, cs2, cs3, cs4, cs5, cs6, cs7, cs8, cs9, cs10, cs11, cs12, Int.ofNat_eq_natCast, dEq_int, dNe_int, dEq_pair, dNe_pair, dIsN, dNotN, cPar, cPar3, cAsg, gN, gT, gsCons, gsNil, bdOf, cSl, oNone, oSome, dSl, iSeq, iRg1, iRg2, cExpr, dRev, List.map_cons, List.map_nil, List.length_cons, List.length_nil, List.cons_append, List.nil_append, List.append_nil, List.replicate, List.getElem?_cons_zero, List.getElem?_cons_succ, List.set_cons_zero, List.set_cons_succ, Option.bind_some, Option.map_some, Option.bind_none, Option.map_none, Nat.reduceAdd, Nat.reduceSub, Int.reduceAdd, Int.reduceNeg, decide_true, decide_false, Bool.not_true, Bool.not_false, if_true, if_false, Bool.false_eq_true, if_pos, reduceIte, reduceCtorEq, Option.some.injEq, Prod.mk.injEq, and_self, and_true, true_and, szOk, poseC2, e2]
end Rb

namespace Lk51
open PySem PySem.Spec PyProof.Rows L2 Rb

def topS (i : Nat) : Stmt := PySem.Challenge.pw_reachedbyturns_k51_whole_rings_of_four_t.main.body.getD i (.Pass ⟨0, 0, 0, 0⟩)

structure G (K : PySem.W.Frag) (mg : Str → Option Value) : Prop where
  b_isinstance : mg "isinstance" = none
  b_int : mg "int" = none
  b_bool : mg "bool" = none
  b_tuple : mg "tuple" = none
  b_all : mg "all" = none
  b_len : mg "len" = none
  b_max : mg "max" = none
  b_sum : mg "sum" = none
  b_min : mg "min" = none
  b_abs : mg "abs" = none
  b_range : mg "range" = none
  b_sorted : mg "sorted" = none
  b_list : mg "list" = none
  c_MOST_ROD : ∃ u, mg "MOST_ROD" = some u ∧ RelV (V.int 60) u
  c_MOST_RODS : ∃ u, mg "MOST_RODS" = some u ∧ RelV (V.int 12) u
  c_MOST_PLACE : ∃ u, mg "MOST_PLACE" = some u ∧ RelV (V.int 10000) u
  c_MOST_BAR : ∃ u, mg "MOST_BAR" = some u ∧ RelV (V.int 10000) u
  c_FOUR : ∃ u, mg "FOUR" = some u ∧ RelV (V.int 4) u
  c_FLAT : ∃ u, mg "FLAT" = some u ∧ RelV (V.str "flat") u
  c_CRANKS : ∃ u, mg "CRANKS" = some u ∧ RelV (V.str "cranks") u
  c_CRANK : ∃ u, mg "CRANK" = some u ∧ RelV (V.str "crank") u
  c_ROCKERS : ∃ u, mg "ROCKERS" = some u ∧ RelV (V.str "rockers") u
  c_FAR : ∃ u, mg "FAR" = some u ∧ RelV (V.str "far") u
  c_NEAR : ∃ u, mg "NEAR" = some u ∧ RelV (V.str "near") u
  c_REACHED : ∃ u, mg "REACHED" = some u ∧ RelV (V.str "reached") u

section
variable {P : Program} {w : World} {K : PySem.W.Frag} {mg : Str → Option Value} {base : Heap}

abbrev N_is_int : List Str := ["value", "low", "high"]
theorem sc_is_int : FnScope N_is_int ["value", "low", "high"] (defScope (topS 7)) := ⟨rfl, rfl, rfl, by decide +kernel, rfl, by decide +kernel, by decide +kernel⟩
def c_is_int : SS :=
  (cRet (cAnd (cIsi "int" (cVar 0)) (cAnd (cNot (cIsi "bool" (cVar 0))) (cChain dLe dLe (cVar 1) (cVar 0) (cVar 2)))))
def f_is_int : Fn := runF 3 c_is_int
theorem d_is_int (g : G K mg) {f : Addr} {fd : FuncData} (hg : mg "is_int" = some (.ref f)) (F : Fun K "is_int" "is_int" (topS 7) f fd) (hb : Binds K fd ["value", "low", "high"] []) : Def P w K mg base "is_int" 1 3 f_is_int :=
  def_ok (k := 0) hg F hb sc_is_int rfl fun cdv A outer s H E hr =>
  (ss_one (s_ret (p_and (p_isi (p_var 0 (pv 0)) (by rfl) g.b_isinstance (pe_bltn (by rfl) g.b_int bt_int rfl)) (p_and (p_not (p_isi (p_var 0 (pv 0)) (by rfl) g.b_isinstance (pe_bltn (by rfl) g.b_bool bt_bool rfl))) (p_one (p_chain op_le op_le ok_B0 ok_B0 (p_var 1 (pv 1)) (p_var 0 (pv 0)) (p_var 2 (pv 2))))))))

abbrev N_are_ints : List Str := ["value", "low", "high", "one"]
theorem sc_are_ints : FnScope N_are_ints ["value", "low", "high"] (defScope (topS 8)) := ⟨rfl, rfl, rfl, by decide +kernel, rfl, by decide +kernel, by decide +kernel⟩
def c_are_ints : SS :=
  (cRet (cAnd (cIsi "tuple" (cVar 0)) (cBi fAll (aCons (cLC (iSeq (cVar 0)) (gN 3) bYes (cCall f_is_int (aCons (cVar 3) (aCons (cVar 1) (aCons (cVar 2) aNil)))) [3]) aNil))))
def f_are_ints : Fn := runF 4 c_are_ints
theorem d_are_ints (g : G K mg) (d_is_int : Def P w K mg base "is_int" 1 3 f_is_int) {f : Addr} {fd : FuncData} (hg : mg "are_ints" = some (.ref f)) (F : Fun K "are_ints" "are_ints" (topS 8) f fd) (hb : Binds K fd ["value", "low", "high"] []) : Def P w K mg base "are_ints" 2 3 f_are_ints :=
  def_ok (k := 1) hg F hb sc_are_ints rfl fun cdv A outer s H E hr =>
  (ss_one (s_ret (p_and (p_isi (p_var 0 (pv 0)) (by rfl) g.b_isinstance (pe_bltn (by rfl) g.b_tuple bt_tuple rfl)) (p_one (p_bi (cr_all rfl) ok_all (by rfl) g.b_all bt_all (a_cons (p_lc (own := [("one", 3)]) rfl sc_are_ints.nd (i_seq (p_var 0 (pv 0))) (blkOk_by (by decide +kernel : blkC N_are_ints (defScope (topS 8)) _ _ = true)) (by decide) (fun _ _ _ _ _ => (g_name (i := 3) sc_are_ints.nd rfl (by first | exact Or.inl rfl | exact Or.inr rfl))) (fun _ _ _ _ _ => ts_nil) (fun _ _ _ _ _ => (p_call d_is_int hr (by decide) (by rfl) (a_cons (p_var 3 (pv 3)) (a_cons (p_var 1 (pv 1)) (a_cons (p_var 2 (pv 2)) a_nil))) (aCons_len (aCons_len (aCons_len aNil_len)))))) a_nil))))))

abbrev N_is_rods : List Str := ["value"]
theorem sc_is_rods : FnScope N_is_rods ["value"] (defScope (topS 13)) := ⟨rfl, rfl, rfl, by decide +kernel, rfl, by decide +kernel, by decide +kernel⟩
def c_is_rods : SS :=
  (cRet (cAnd (cCall f_are_ints (aCons (cVar 0) (aCons (cD (.int 1)) (aCons (cD (.int 60)) aNil)))) (cChain dLe dLe (cD (.int 1)) (cBi fLen (aCons (cVar 0) aNil)) (cD (.int 12)))))
def f_is_rods : Fn := runF 1 c_is_rods
theorem d_is_rods (g : G K mg) (d_are_ints : Def P w K mg base "are_ints" 2 3 f_are_ints) {f : Addr} {fd : FuncData} (hg : mg "is_rods" = some (.ref f)) (F : Fun K "is_rods" "is_rods" (topS 13) f fd) (hb : Binds K fd ["value"] []) : Def P w K mg base "is_rods" 3 1 f_is_rods :=
  def_ok (k := 2) hg F hb sc_is_rods rfl fun cdv A outer s H E hr =>
  (ss_one (s_ret (p_and (p_call d_are_ints hr (by decide) (by rfl) (a_cons (p_var 0 (pv 0)) (a_cons p_int (a_cons (p_gc (by rfl) g.c_MOST_ROD q_int) a_nil))) (aCons_len (aCons_len (aCons_len aNil_len)))) (p_one (p_chain op_le op_le ok_B0 ok_B0 p_int (p_bi call_lenA ok_len (by rfl) g.b_len bt_len (a_cons (p_var 0 (pv 0)) a_nil)) (p_gc (by rfl) g.c_MOST_RODS q_int))))))

abbrev N_look_at_rods : List Str := ["rods"]
theorem sc_look_at_rods : FnScope N_look_at_rods ["rods"] (defScope (topS 14)) := ⟨rfl, rfl, rfl, by decide +kernel, rfl, by decide +kernel, by decide +kernel⟩
def c_look_at_rods : SS :=
  (cIf (bNot (bT (cCall f_is_rods (aCons (cVar 0) aNil))))
  cNever
  cSkip)
def f_look_at_rods : Fn := runF 1 c_look_at_rods
theorem d_look_at_rods (g : G K mg) (d_is_rods : Def P w K mg base "is_rods" 3 1 f_is_rods) {f : Addr} {fd : FuncData} (hg : mg "look_at_rods" = some (.ref f)) (F : Fun K "look_at_rods" "look_at_rods" (topS 14) f fd) (hb : Binds K fd ["rods"] []) : Def P w K mg base "look_at_rods" 4 1 f_look_at_rods :=
  def_ok (k := 3) hg F hb sc_look_at_rods rfl fun cdv A outer s H E hr =>
  (ss_one (s_if (t_not (t_val (p_call d_is_rods hr (by decide) (by rfl) (a_cons (p_var 0 (pv 0)) a_nil) (aCons_len aNil_len)))) (ss_one s_never) ss_nil))

abbrev N_is_point : List Str := ["value"]
theorem sc_is_point : FnScope N_is_point ["value"] (defScope (topS 15)) := ⟨rfl, rfl, rfl, by decide +kernel, rfl, by decide +kernel, by decide +kernel⟩
def c_is_point : SS :=
  (cRet (cAnd (cCall f_are_ints (aCons (cVar 0) (aCons (cUn dNeg (cD (.int 10000))) (aCons (cD (.int 10000)) aNil)))) (cBin dEq (cBi fLen (aCons (cVar 0) aNil)) (cD (.int 2)))))
def f_is_point : Fn := runF 1 c_is_point
theorem d_is_point (g : G K mg) (d_are_ints : Def P w K mg base "are_ints" 2 3 f_are_ints) {f : Addr} {fd : FuncData} (hg : mg "is_point" = some (.ref f)) (F : Fun K "is_point" "is_point" (topS 15) f fd) (hb : Binds K fd ["value"] []) : Def P w K mg base "is_point" 3 1 f_is_point :=
  def_ok (k := 2) hg F hb sc_is_point rfl fun cdv A outer s H E hr =>
  (ss_one (s_ret (p_and (p_call d_are_ints hr (by decide) (by rfl) (a_cons (p_var 0 (pv 0)) (a_cons (p_un un_neg ok_neg (p_gc (by rfl) g.c_MOST_PLACE q_int)) (a_cons (p_gc (by rfl) g.c_MOST_PLACE q_int) a_nil))) (aCons_len (aCons_len (aCons_len aNil_len)))) (p_one (p_cmp (op_eqD hr.units) ok_eq (p_bi call_lenA ok_len (by rfl) g.b_len bt_len (a_cons (p_var 0 (pv 0)) a_nil)) p_int (nomark _))))))

abbrev N_look_at_point : List Str := ["point"]
theorem sc_look_at_point : FnScope N_look_at_point ["point"] (defScope (topS 16)) := ⟨rfl, rfl, rfl, by decide +kernel, rfl, by decide +kernel, by decide +kernel⟩
def c_look_at_point : SS :=
  (cIf (bNot (bT (cCall f_is_point (aCons (cVar 0) aNil))))
  cNever
  cSkip)
def f_look_at_point : Fn := runF 1 c_look_at_point
theorem d_look_at_point (g : G K mg) (d_is_point : Def P w K mg base "is_point" 3 1 f_is_point) {f : Addr} {fd : FuncData} (hg : mg "look_at_point" = some (.ref f)) (F : Fun K "look_at_point" "look_at_point" (topS 16) f fd) (hb : Binds K fd ["point"] []) : Def P w K mg base "look_at_point" 4 1 f_look_at_point :=
  def_ok (k := 3) hg F hb sc_look_at_point rfl fun cdv A outer s H E hr =>
  (ss_one (s_if (t_not (t_val (p_call d_is_point hr (by decide) (by rfl) (a_cons (p_var 0 (pv 0)) a_nil) (aCons_len aNil_len)))) (ss_one s_never) ss_nil))

abbrev N_is_ring : List Str := ["value"]
theorem sc_is_ring : FnScope N_is_ring ["value"] (defScope (topS 27)) := ⟨rfl, rfl, rfl, by decide +kernel, rfl, by decide +kernel, by decide +kernel⟩
def c_is_ring : SS :=
  (cSeq (cIf (bOr (bNot (bT (cCall f_are_ints (aCons (cVar 0) (aCons (cD (.int 1)) (aCons (cD (.int 10000)) aNil)))))) (bT (cBin dNe (cBi fLen (aCons (cVar 0) aNil)) (cD (.int 4)))))
  (cRet (cD (.bl false)))
  cSkip)
  (cRet (cBin dLe (cBin dMulI (cD (.int 2)) (cBi fMax (aCons (cVar 0) aNil))) (cBi fSum (aCons (cVar 0) aNil)))))
def f_is_ring : Fn := runF 1 c_is_ring
theorem d_is_ring (g : G K mg) (d_are_ints : Def P w K mg base "are_ints" 2 3 f_are_ints) {f : Addr} {fd : FuncData} (hg : mg "is_ring" = some (.ref f)) (F : Fun K "is_ring" "is_ring" (topS 27) f fd) (hb : Binds K fd ["value"] []) : Def P w K mg base "is_ring" 3 1 f_is_ring :=
  def_ok (k := 2) hg F hb sc_is_ring rfl fun cdv A outer s H E hr =>
  (ss_cons (s_if (PW.pt (t_or (t_not (t_val (p_call d_are_ints hr (by decide) (by rfl) (a_cons (p_var 0 (pv 0)) (a_cons p_int (a_cons (p_gc (by rfl) g.c_MOST_BAR q_int) a_nil))) (aCons_len (aCons_len (aCons_len aNil_len)))))) (pw_or1 (t_cmp (op_neD hr.units) ok_ne (p_bi call_lenA ok_len (by rfl) g.b_len bt_len (a_cons (p_var 0 (pv 0)) a_nil)) (p_gc (by rfl) g.c_FOUR q_int) (nomark _))))) (ss_one (s_ret p_bl)) ss_nil)
  (ss_one (s_ret (p_cmp op_le ok_B0 (p_bin op_mulW ok_mulI p_int (p_bi (call_maxA rfl) ok_max (by rfl) g.b_max bt_max (a_cons (p_var 0 (pv 0)) a_nil))) (p_bi (call_sumA rfl) ok_sum (by rfl) g.b_sum bt_sum (a_cons (p_var 0 (pv 0)) a_nil)) (nomark _)))))

abbrev N_look_at_ring : List Str := ["ring"]
theorem sc_look_at_ring : FnScope N_look_at_ring ["ring"] (defScope (topS 28)) := ⟨rfl, rfl, rfl, by decide +kernel, rfl, by decide +kernel, by decide +kernel⟩
def c_look_at_ring : SS :=
  (cIf (bNot (bT (cCall f_is_ring (aCons (cVar 0) aNil))))
  cNever
  cSkip)
def f_look_at_ring : Fn := runF 1 c_look_at_ring
theorem d_look_at_ring (g : G K mg) (d_is_ring : Def P w K mg base "is_ring" 3 1 f_is_ring) {f : Addr} {fd : FuncData} (hg : mg "look_at_ring" = some (.ref f)) (F : Fun K "look_at_ring" "look_at_ring" (topS 28) f fd) (hb : Binds K fd ["ring"] []) : Def P w K mg base "look_at_ring" 4 1 f_look_at_ring :=
  def_ok (k := 3) hg F hb sc_look_at_ring rfl fun cdv A outer s H E hr =>
  (ss_one (s_if (t_not (t_val (p_call d_is_ring hr (by decide) (by rfl) (a_cons (p_var 0 (pv 0)) a_nil) (aCons_len aNil_len)))) (ss_one s_never) ss_nil))

abbrev N_told_span : List Str := ["ring", "corner", "one", "other", "first", "last"]
theorem sc_told_span : FnScope N_told_span ["ring", "corner"] (defScope (topS 29)) := ⟨rfl, rfl, rfl, by decide +kernel, rfl, by decide +kernel, by decide +kernel⟩
def c_told_span : SS :=
  (cSeq (cPar 2 3 (cBin dGetAny (cVar 0) (cVar 1)) (cBin dGetAny (cVar 0) (cBin dMod (cBin dAdd (cVar 1) (cD (.int 1))) (cD (.int 4)))))
  (cSeq (cPar 4 5 (cBin dGetAny (cVar 0) (cBin dMod (cBin dAdd (cVar 1) (cD (.int 2))) (cD (.int 4)))) (cBin dGetAny (cVar 0) (cBin dMod (cBin dAdd (cBin dAdd (cVar 1) (cD (.int 2))) (cD (.int 1))) (cD (.int 4)))))
  (cRet (cTup (aCons (cBi fMax (aCons (cBi fAbs (aCons (cBin dSub (cVar 2) (cVar 3)) aNil)) (aCons (cBi fAbs (aCons (cBin dSub (cVar 4) (cVar 5)) aNil)) aNil))) (aCons (cBi fMin (aCons (cBin dAdd (cVar 2) (cVar 3)) (aCons (cBin dAdd (cVar 4) (cVar 5)) aNil))) aNil))))))
def f_told_span : Fn := runF 6 c_told_span
theorem d_told_span (g : G K mg) {f : Addr} {fd : FuncData} (hg : mg "told_span" = some (.ref f)) (F : Fun K "told_span" "told_span" (topS 29) f fd) (hb : Binds K fd ["ring", "corner"] []) : Def P w K mg base "told_span" 1 2 f_told_span :=
  def_ok (k := 0) hg F hb sc_told_span rfl fun cdv A outer s H E hr =>
  (ss_cons (s_par (i := 2) (j := 3) rfl sc_told_span.nd rfl rfl (by decide) (by first | rfl) (by first | rfl) (p_ix (hu_of hr) (p_var 0 (pv 0)) (p_var 1 (pv 1)) (fun _ _ => rfl)) (p_ix (hu_of hr) (p_var 0 (pv 0)) (p_bin op_mod ok_mod (p_bin op_addAll ok_add (p_var 1 (pv 1)) p_int) (p_gc (by rfl) g.c_FOUR q_int)) (fun _ _ => rfl)) rfl rfl rfl rfl)
  (ss_cons (s_par (i := 4) (j := 5) rfl sc_told_span.nd rfl rfl (by decide) (by first | rfl) (by first | rfl) (p_ix (hu_of hr) (p_var 0 (pv 0)) (p_bin op_mod ok_mod (p_bin op_addAll ok_add (p_var 1 (pv 1)) p_int) (p_gc (by rfl) g.c_FOUR q_int)) (fun _ _ => rfl)) (p_ix (hu_of hr) (p_var 0 (pv 0)) (p_bin op_mod ok_mod (p_bin op_addAll ok_add (p_bin op_addAll ok_add (p_var 1 (pv 1)) p_int) p_int) (p_gc (by rfl) g.c_FOUR q_int)) (fun _ _ => rfl)) rfl rfl rfl rfl)
  (ss_one (s_ret (p_tup (a_cons (p_bi (call_maxA rfl) ok_max (by rfl) g.b_max bt_max (a_cons (p_bi call_abs ok_abs (by rfl) g.b_abs bt_abs (a_cons (p_bin op_sub ok_sub (p_var 2 (pv 2)) (p_var 3 (pv 3))) a_nil)) (a_cons (p_bi call_abs ok_abs (by rfl) g.b_abs bt_abs (a_cons (p_bin op_sub ok_sub (p_var 4 (pv 4)) (p_var 5 (pv 5))) a_nil)) a_nil))) (a_cons (p_bi (call_minA rfl) ok_min (by rfl) g.b_min bt_min (a_cons (p_bin op_addAll ok_add (p_var 2 (pv 2)) (p_var 3 (pv 3))) (a_cons (p_bin op_addAll ok_add (p_var 4 (pv 4)) (p_var 5 (pv 5))) a_nil))) a_nil)))))))

abbrev N_look_at_corner : List Str := ["ring", "corner"]
theorem sc_look_at_corner : FnScope N_look_at_corner ["ring", "corner"] (defScope (topS 30)) := ⟨rfl, rfl, rfl, by decide +kernel, rfl, by decide +kernel, by decide +kernel⟩
def c_look_at_corner : SS :=
  (cSeq (cExpr (cCall f_look_at_ring (aCons (cVar 0) aNil)))
  (cIf (bNot (bT (cCall f_is_int (aCons (cVar 1) (aCons (cD (.int 0)) (aCons (cBin dSub (cD (.int 4)) (cD (.int 1))) aNil))))))
  cNever
  cSkip))
def f_look_at_corner : Fn := runF 2 c_look_at_corner
theorem d_look_at_corner (g : G K mg) (d_look_at_ring : Def P w K mg base "look_at_ring" 4 1 f_look_at_ring) (d_is_int : Def P w K mg base "is_int" 1 3 f_is_int) {f : Addr} {fd : FuncData} (hg : mg "look_at_corner" = some (.ref f)) (F : Fun K "look_at_corner" "look_at_corner" (topS 30) f fd) (hb : Binds K fd ["ring", "corner"] []) : Def P w K mg base "look_at_corner" 5 2 f_look_at_corner :=
  def_ok (k := 4) hg F hb sc_look_at_corner rfl fun cdv A outer s H E hr =>
  (ss_cons (s_expr (p_call d_look_at_ring hr (by decide) (by rfl) (a_cons (p_var 0 (pv 0)) a_nil) (aCons_len aNil_len)))
  (ss_one (s_if (t_not (t_val (p_call d_is_int hr (by decide) (by rfl) (a_cons (p_var 1 (pv 1)) (a_cons p_int (a_cons (p_bin op_sub ok_sub (p_gc (by rfl) g.c_FOUR q_int) p_int) a_nil))) (aCons_len (aCons_len (aCons_len aNil_len)))))) (ss_one s_never) ss_nil)))

abbrev N_span_at : List Str := ["ring", "corner"]
theorem sc_span_at : FnScope N_span_at ["ring", "corner"] (defScope (topS 31)) := ⟨rfl, rfl, rfl, by decide +kernel, rfl, by decide +kernel, by decide +kernel⟩
def c_span_at : SS :=
  (cSeq (cExpr (cCall f_look_at_corner (aCons (cVar 0) (aCons (cVar 1) aNil))))
  (cRet (cCall f_told_span (aCons (cVar 0) (aCons (cVar 1) aNil)))))
def f_span_at : Fn := runF 2 c_span_at
theorem d_span_at (g : G K mg) (d_look_at_corner : Def P w K mg base "look_at_corner" 5 2 f_look_at_corner) (d_told_span : Def P w K mg base "told_span" 1 2 f_told_span) {f : Addr} {fd : FuncData} (hg : mg "span_at" = some (.ref f)) (F : Fun K "span_at" "span_at" (topS 31) f fd) (hb : Binds K fd ["ring", "corner"] []) : Def P w K mg base "span_at" 6 2 f_span_at :=
  def_ok (k := 5) hg F hb sc_span_at rfl fun cdv A outer s H E hr =>
  (ss_cons (s_expr (p_call d_look_at_corner hr (by decide) (by rfl) (a_cons (p_var 0 (pv 0)) (a_cons (p_var 1 (pv 1)) a_nil)) (aCons_len (aCons_len aNil_len))))
  (ss_one (s_ret (p_call d_told_span hr (by decide) (by rfl) (a_cons (p_var 0 (pv 0)) (a_cons (p_var 1 (pv 1)) a_nil)) (aCons_len (aCons_len aNil_len))))))

abbrev N_turns_round : List Str := ["ring", "corner", "one", "other"]
theorem sc_turns_round : FnScope N_turns_round ["ring", "corner"] (defScope (topS 32)) := ⟨rfl, rfl, rfl, by decide +kernel, rfl, by decide +kernel, by decide +kernel⟩
def c_turns_round : SS :=
  (cSeq (cExpr (cCall f_look_at_corner (aCons (cVar 0) (aCons (cVar 1) aNil))))
  (cSeq (cPar 2 3 (cBin dGetAny (cVar 0) (cVar 1)) (cBin dGetAny (cVar 0) (cBin dMod (cBin dAdd (cVar 1) (cD (.int 1))) (cD (.int 4)))))
  (cRet (cBin dEq (cCall f_told_span (aCons (cVar 0) (aCons (cVar 1) aNil))) (cTup (aCons (cBi fAbs (aCons (cBin dSub (cVar 2) (cVar 3)) aNil)) (aCons (cBin dAdd (cVar 2) (cVar 3)) aNil)))))))
def f_turns_round : Fn := runF 4 c_turns_round
theorem d_turns_round (g : G K mg) (d_look_at_corner : Def P w K mg base "look_at_corner" 5 2 f_look_at_corner) (d_told_span : Def P w K mg base "told_span" 1 2 f_told_span) {f : Addr} {fd : FuncData} (hg : mg "turns_round" = some (.ref f)) (F : Fun K "turns_round" "turns_round" (topS 32) f fd) (hb : Binds K fd ["ring", "corner"] []) : Def P w K mg base "turns_round" 6 2 f_turns_round :=
  def_ok (k := 5) hg F hb sc_turns_round rfl fun cdv A outer s H E hr =>
  (ss_cons (s_expr (p_call d_look_at_corner hr (by decide) (by rfl) (a_cons (p_var 0 (pv 0)) (a_cons (p_var 1 (pv 1)) a_nil)) (aCons_len (aCons_len aNil_len))))
  (ss_cons (s_par (i := 2) (j := 3) rfl sc_turns_round.nd rfl rfl (by decide) (by first | rfl) (by first | rfl) (p_ix (hu_of hr) (p_var 0 (pv 0)) (p_var 1 (pv 1)) (fun _ _ => rfl)) (p_ix (hu_of hr) (p_var 0 (pv 0)) (p_bin op_mod ok_mod (p_bin op_addAll ok_add (p_var 1 (pv 1)) p_int) (p_gc (by rfl) g.c_FOUR q_int)) (fun _ _ => rfl)) rfl rfl rfl rfl)
  (ss_one (s_ret (p_cmp (op_eqD hr.units) ok_eq (p_call d_told_span hr (by decide) (by rfl) (a_cons (p_var 0 (pv 0)) (a_cons (p_var 1 (pv 1)) a_nil)) (aCons_len (aCons_len aNil_len))) (p_tup (a_cons (p_bi call_abs ok_abs (by rfl) g.b_abs bt_abs (a_cons (p_bin op_sub ok_sub (p_var 2 (pv 2)) (p_var 3 (pv 3))) a_nil)) (a_cons (p_bin op_addAll ok_add (p_var 2 (pv 2)) (p_var 3 (pv 3))) a_nil))) (nomark _))))))

abbrev N_round_corners : List Str := ["ring", "corner"]
theorem sc_round_corners : FnScope N_round_corners ["ring"] (defScope (topS 33)) := ⟨rfl, rfl, rfl, by decide +kernel, rfl, by decide +kernel, by decide +kernel⟩
def c_round_corners : SS :=
  (cSeq (cExpr (cCall f_look_at_ring (aCons (cVar 0) aNil)))
  (cRet (cBi fTuple (aCons (cLC (iRg1 (aCons (cD (.int 4)) aNil)) (gN 1) (bT (cCall f_turns_round (aCons (cVar 0) (aCons (cVar 1) aNil)))) (cVar 1) [1]) aNil))))
def f_round_corners : Fn := runF 2 c_round_corners
theorem d_round_corners (g : G K mg) (d_look_at_ring : Def P w K mg base "look_at_ring" 4 1 f_look_at_ring) (d_turns_round : Def P w K mg base "turns_round" 6 2 f_turns_round) {f : Addr} {fd : FuncData} (hg : mg "round_corners" = some (.ref f)) (F : Fun K "round_corners" "round_corners" (topS 33) f fd) (hb : Binds K fd ["ring"] []) : Def P w K mg base "round_corners" 7 1 f_round_corners :=
  def_ok (k := 6) hg F hb sc_round_corners rfl fun cdv A outer s H E hr =>
  (ss_cons (s_expr (p_call d_look_at_ring hr (by decide) (by rfl) (a_cons (p_var 0 (pv 0)) a_nil) (aCons_len aNil_len)))
  (ss_one (s_ret (p_ty call_tupA ok_tuple (by rfl) g.b_tuple bt_tuple (a_cons (p_lc (own := [("corner", 1)]) rfl sc_round_corners.nd (i_rg1 (by rfl) g.b_range (a_cons (p_gc (by rfl) g.c_FOUR q_int) a_nil)) (blkOk_by (by decide +kernel : blkC N_round_corners (defScope (topS 33)) _ _ = true)) (by decide) (fun _ _ _ _ _ => (g_name (i := 1) sc_round_corners.nd rfl (by first | exact Or.inl rfl | exact Or.inr rfl))) (fun _ _ _ _ _ => (ts_one (t_val (p_call d_turns_round hr (by decide) (by rfl) (a_cons (p_var 0 (pv 0)) (a_cons (p_var 1 (pv 1)) a_nil)) (aCons_len (aCons_len aNil_len)))))) (fun _ _ _ _ _ => (p_var 1 (pv 1)))) a_nil)))))

abbrev N_grashof : List Str := ["ring", "least", "less", "more", "most"]
theorem sc_grashof : FnScope N_grashof ["ring"] (defScope (topS 34)) := ⟨rfl, rfl, rfl, by decide +kernel, rfl, by decide +kernel, by decide +kernel⟩
def c_grashof : SS :=
  (cSeq (cExpr (cCall f_look_at_ring (aCons (cVar 0) aNil)))
  (cSeq (cAsg (gT 4 (gsCons (gN 1) (gsCons (gN 2) (gsCons (gN 3) (gsCons (gN 4) gsNil))))) (cBi fSorted (aCons (cVar 0) aNil)))
  (cRet (cBin dSub (cBin dSub (cBin dAdd (cVar 2) (cVar 3)) (cVar 1)) (cVar 4)))))
def f_grashof : Fn := runF 5 c_grashof
theorem d_grashof (g : G K mg) (d_look_at_ring : Def P w K mg base "look_at_ring" 4 1 f_look_at_ring) {f : Addr} {fd : FuncData} (hg : mg "grashof" = some (.ref f)) (F : Fun K "grashof" "grashof" (topS 34) f fd) (hb : Binds K fd ["ring"] []) : Def P w K mg base "grashof" 5 1 f_grashof :=
  def_ok (k := 4) hg F hb sc_grashof rfl fun cdv A outer s H E hr =>
  (ss_cons (s_expr (p_call d_look_at_ring hr (by decide) (by rfl) (a_cons (p_var 0 (pv 0)) a_nil) (aCons_len aNil_len)))
  (ss_cons (s_asg (p_bi call_sortedA ok_sorted (by rfl) g.b_sorted bt_sorted (a_cons (p_var 0 (pv 0)) a_nil)) (g_tup rfl (gs_cons (g_name (i := 1) sc_grashof.nd rfl (by first | exact Or.inl rfl | exact Or.inr rfl)) (gs_cons (g_name (i := 2) sc_grashof.nd rfl (by first | exact Or.inl rfl | exact Or.inr rfl)) (gs_cons (g_name (i := 3) sc_grashof.nd rfl (by first | exact Or.inl rfl | exact Or.inr rfl)) (gs_cons (g_name (i := 4) sc_grashof.nd rfl (by first | exact Or.inl rfl | exact Or.inr rfl)) gs_nil))))))
  (ss_one (s_ret (p_bin op_sub ok_sub (p_bin op_sub ok_sub (p_bin op_addAll ok_add (p_var 2 (pv 2)) (p_var 3 (pv 3))) (p_var 1 (pv 1))) (p_var 4 (pv 4)))))))

abbrev N_kind_of_ring : List Str := ["ring", "ground", "turning", "corner"]
theorem sc_kind_of_ring : FnScope N_kind_of_ring ["ring", "ground"] (defScope (topS 35)) := ⟨rfl, rfl, rfl, by decide +kernel, rfl, by decide +kernel, by decide +kernel⟩
def c_kind_of_ring : SS :=
  (cSeq (cExpr (cCall f_look_at_ring (aCons (cVar 0) aNil)))
  (cSeq (cIf (bNot (bT (cCall f_is_int (aCons (cVar 1) (aCons (cD (.int 0)) (aCons (cBin dSub (cD (.int 4)) (cD (.int 1))) aNil))))))
  cNever
  cSkip)
  (cSeq (cIf (bT (cBin dEq (cCall f_grashof (aCons (cVar 0) aNil)) (cD (.int 0))))
  (cRet (cD (.str "flat")))
  cSkip)
  (cSeq (cSet 2 (cFz (cLC (iSeq (cTup (aCons (cVar 1) (aCons (cBin dMod (cBin dSub (cVar 1) (cD (.int 1))) (cD (.int 4))) aNil)))) (gN 3) (bT (cCall f_turns_round (aCons (cVar 0) (aCons (cVar 3) aNil)))) (cVar 3) [3])))
  (cRet (cBin dGetAny (cLst (aCons (cD (.str "rockers")) (aCons (cD (.str "crank")) (aCons (cD (.str "cranks")) aNil)))) (cBi fLen (aCons (cVar 2) aNil))))))))
def f_kind_of_ring : Fn := runF 4 c_kind_of_ring
theorem d_kind_of_ring (g : G K mg) (d_look_at_ring : Def P w K mg base "look_at_ring" 4 1 f_look_at_ring) (d_is_int : Def P w K mg base "is_int" 1 3 f_is_int) (d_grashof : Def P w K mg base "grashof" 5 1 f_grashof) (d_turns_round : Def P w K mg base "turns_round" 6 2 f_turns_round) {f : Addr} {fd : FuncData} (hg : mg "kind_of_ring" = some (.ref f)) (F : Fun K "kind_of_ring" "kind_of_ring" (topS 35) f fd) (hb : Binds K fd ["ring", "ground"] []) : Def P w K mg base "kind_of_ring" 7 2 f_kind_of_ring :=
  def_ok (k := 6) hg F hb sc_kind_of_ring rfl fun cdv A outer s H E hr =>
  (ss_cons (s_expr (p_call d_look_at_ring hr (by decide) (by rfl) (a_cons (p_var 0 (pv 0)) a_nil) (aCons_len aNil_len)))
  (ss_cons (s_if (t_not (t_val (p_call d_is_int hr (by decide) (by rfl) (a_cons (p_var 1 (pv 1)) (a_cons p_int (a_cons (p_bin op_sub ok_sub (p_gc (by rfl) g.c_FOUR q_int) p_int) a_nil))) (aCons_len (aCons_len (aCons_len aNil_len)))))) (ss_one s_never) ss_nil)
  (ss_cons (s_if (t_cmp (op_eqD hr.units) ok_eq (p_call d_grashof hr (by decide) (by rfl) (a_cons (p_var 0 (pv 0)) a_nil) (aCons_len aNil_len)) p_int (nomark _)) (ss_one (s_ret (p_gc (by rfl) g.c_FLAT q_str))) ss_nil)
  (ss_cons (s_setLcZ (i := 2) (own := [("corner", 3)]) rfl sc_kind_of_ring.nd rfl rfl rfl (i_seq (p_tup (a_cons (p_var 1 (pv 1)) (a_cons (p_bin op_mod ok_mod (p_bin op_sub ok_sub (p_var 1 (pv 1)) p_int) (p_gc (by rfl) g.c_FOUR q_int)) a_nil)))) (blkOk_by (by decide +kernel : blkC N_kind_of_ring (defScope (topS 35)) _ _ = true)) (by decide) (fun _ _ _ _ _ => (g_name (i := 3) sc_kind_of_ring.nd rfl (by first | exact Or.inl rfl | exact Or.inr rfl))) (fun _ _ _ _ _ => (ts_one (t_val (p_call d_turns_round hr (by decide) (by rfl) (a_cons (p_var 0 (pv 0)) (a_cons (p_var 3 (pv 3)) a_nil)) (aCons_len (aCons_len aNil_len)))))) (fun _ _ _ _ _ => (p_var 3 (pv 3))))
  (ss_one (s_ret (p_ix (hu_of hr) (p_lst (a_cons (p_gc (by rfl) g.c_ROCKERS q_str) (a_cons (p_gc (by rfl) g.c_CRANK q_str) (a_cons (p_gc (by rfl) g.c_CRANKS q_str) a_nil)))) (p_bi call_lenA ok_len (by rfl) g.b_len bt_len (a_cons (p_var 2 (pv 2)) a_nil)) (fun _ _ => rfl))))))))

abbrev N_told_ring_of : List Str := ["rods"]
theorem sc_told_ring_of : FnScope N_told_ring_of ["rods"] (defScope (topS 36)) := ⟨rfl, rfl, rfl, by decide +kernel, rfl, by decide +kernel, by decide +kernel⟩
def c_told_ring_of : SS :=
  (cRet (cTup (aCons (cBi fMax (aCons (cD (.int 0)) (aCons (cBin dSub (cBin dMulI (cD (.int 2)) (cBi fMax (aCons (cVar 0) aNil))) (cBi fSum (aCons (cVar 0) aNil))) aNil))) (aCons (cBi fSum (aCons (cVar 0) aNil)) aNil))))
def f_told_ring_of : Fn := runF 1 c_told_ring_of
theorem d_told_ring_of (g : G K mg) {f : Addr} {fd : FuncData} (hg : mg "told_ring_of" = some (.ref f)) (F : Fun K "told_ring_of" "told_ring_of" (topS 36) f fd) (hb : Binds K fd ["rods"] []) : Def P w K mg base "told_ring_of" 1 1 f_told_ring_of :=
  def_ok (k := 0) hg F hb sc_told_ring_of rfl fun cdv A outer s H E hr =>
  (ss_one (s_ret (p_tup (a_cons (p_bi (call_maxA rfl) ok_max (by rfl) g.b_max bt_max (a_cons p_int (a_cons (p_bin op_sub ok_sub (p_bin op_mulW ok_mulI p_int (p_bi (call_maxA rfl) ok_max (by rfl) g.b_max bt_max (a_cons (p_var 0 (pv 0)) a_nil))) (p_bi (call_sumA rfl) ok_sum (by rfl) g.b_sum bt_sum (a_cons (p_var 0 (pv 0)) a_nil))) a_nil))) (a_cons (p_bi (call_sumA rfl) ok_sum (by rfl) g.b_sum bt_sum (a_cons (p_var 0 (pv 0)) a_nil)) a_nil)))))

abbrev N_free_reach : List Str := ["rods"]
theorem sc_free_reach : FnScope N_free_reach ["rods"] (defScope (topS 37)) := ⟨rfl, rfl, rfl, by decide +kernel, rfl, by decide +kernel, by decide +kernel⟩
def c_free_reach : SS :=
  (cSeq (cExpr (cCall f_look_at_rods (aCons (cVar 0) aNil)))
  (cRet (cCall f_told_ring_of (aCons (cVar 0) aNil))))
def f_free_reach : Fn := runF 1 c_free_reach
theorem d_free_reach (g : G K mg) (d_look_at_rods : Def P w K mg base "look_at_rods" 4 1 f_look_at_rods) (d_told_ring_of : Def P w K mg base "told_ring_of" 1 1 f_told_ring_of) {f : Addr} {fd : FuncData} (hg : mg "free_reach" = some (.ref f)) (F : Fun K "free_reach" "free_reach" (topS 37) f fd) (hb : Binds K fd ["rods"] []) : Def P w K mg base "free_reach" 5 1 f_free_reach :=
  def_ok (k := 4) hg F hb sc_free_reach rfl fun cdv A outer s H E hr =>
  (ss_cons (s_expr (p_call d_look_at_rods hr (by decide) (by rfl) (a_cons (p_var 0 (pv 0)) a_nil) (aCons_len aNil_len)))
  (ss_one (s_ret (p_call d_told_ring_of hr (by decide) (by rfl) (a_cons (p_var 0 (pv 0)) a_nil) (aCons_len aNil_len)))))

abbrev N_reached_freely : List Str := ["rods", "point", "low", "high", "square"]
theorem sc_reached_freely : FnScope N_reached_freely ["rods", "point"] (defScope (topS 38)) := ⟨rfl, rfl, rfl, by decide +kernel, rfl, by decide +kernel, by decide +kernel⟩
def c_reached_freely : SS :=
  (cSeq (cExpr (cCall f_look_at_rods (aCons (cVar 0) aNil)))
  (cSeq (cExpr (cCall f_look_at_point (aCons (cVar 1) aNil)))
  (cSeq (cAsg (gT 2 (gsCons (gN 2) (gsCons (gN 3) gsNil))) (cCall f_told_ring_of (aCons (cVar 0) aNil)))
  (cSeq (cSet 4 (cFz (cBin dAdd (cBin dMulI (cBin dGetAny (cVar 1) (cD (.int 0))) (cBin dGetAny (cVar 1) (cD (.int 0)))) (cBin dMulI (cBin dGetAny (cVar 1) (cD (.int 1))) (cBin dGetAny (cVar 1) (cD (.int 1)))))))
  (cRet (cIte (bT (cBin dGt (cVar 4) (cBin dMulI (cVar 3) (cVar 3)))) (cD (.str "far")) (cIte (bT (cBin dLt (cVar 4) (cBin dMulI (cVar 2) (cVar 2)))) (cD (.str "near")) (cD (.str "reached")))))))))
def f_reached_freely : Fn := runF 5 c_reached_freely
theorem d_reached_freely (g : G K mg) (d_look_at_rods : Def P w K mg base "look_at_rods" 4 1 f_look_at_rods) (d_look_at_point : Def P w K mg base "look_at_point" 4 1 f_look_at_point) (d_told_ring_of : Def P w K mg base "told_ring_of" 1 1 f_told_ring_of) {f : Addr} {fd : FuncData} (hg : mg "reached_freely" = some (.ref f)) (F : Fun K "reached_freely" "reached_freely" (topS 38) f fd) (hb : Binds K fd ["rods", "point"] []) : Def P w K mg base "reached_freely" 5 2 f_reached_freely :=
  def_ok (k := 4) hg F hb sc_reached_freely rfl fun cdv A outer s H E hr =>
  (ss_cons (s_expr (p_call d_look_at_rods hr (by decide) (by rfl) (a_cons (p_var 0 (pv 0)) a_nil) (aCons_len aNil_len)))
  (ss_cons (s_expr (p_call d_look_at_point hr (by decide) (by rfl) (a_cons (p_var 1 (pv 1)) a_nil) (aCons_len aNil_len)))
  (ss_cons (s_asg (p_call d_told_ring_of hr (by decide) (by rfl) (a_cons (p_var 0 (pv 0)) a_nil) (aCons_len aNil_len)) (g_tup rfl (gs_cons (g_name (i := 2) sc_reached_freely.nd rfl (by first | exact Or.inl rfl | exact Or.inr rfl)) (gs_cons (g_name (i := 3) sc_reached_freely.nd rfl (by first | exact Or.inl rfl | exact Or.inr rfl)) gs_nil))))
  (ss_cons (s_set (i := 4) sc_reached_freely.nd rfl (by first | exact Or.inl rfl | exact Or.inr rfl) (p_fz (p_bin op_addAll ok_add (p_bin op_mulW ok_mulI (p_ix (hu_of hr) (p_var 1 (pv 1)) p_int (fun _ _ => rfl)) (p_ix (hu_of hr) (p_var 1 (pv 1)) p_int (fun _ _ => rfl))) (p_bin op_mulW ok_mulI (p_ix (hu_of hr) (p_var 1 (pv 1)) p_int (fun _ _ => rfl)) (p_ix (hu_of hr) (p_var 1 (pv 1)) p_int (fun _ _ => rfl))))))
  (ss_one (s_ret (p_ite (t_cmp op_gt ok_B0 (p_var 4 (pv 4)) (p_bin op_mulW ok_mulI (p_var 3 (pv 3)) (p_var 3 (pv 3))) (nomark _)) (p_gc (by rfl) g.c_FAR q_str) (p_ite (t_cmp op_lt ok_B0 (p_var 4 (pv 4)) (p_bin op_mulW ok_mulI (p_var 2 (pv 2)) (p_var 2 (pv 2))) (nomark _)) (p_gc (by rfl) g.c_NEAR q_str) (p_gc (by rfl) g.c_REACHED q_str)))))))))

abbrev N_fewest_free : List Str := ["rods", "point", "many"]
theorem sc_fewest_free : FnScope N_fewest_free ["rods", "point"] (defScope (topS 39)) := ⟨rfl, rfl, rfl, by decide +kernel, rfl, by decide +kernel, by decide +kernel⟩
def c_fewest_free : SS :=
  (cSeq (cExpr (cCall f_look_at_rods (aCons (cVar 0) aNil)))
  (cSeq (cExpr (cCall f_look_at_point (aCons (cVar 1) aNil)))
  (cSeq (cFor (iRg2 (aCons (cD (.int 1)) (aCons (cBin dAdd (cBi fLen (aCons (cVar 0) aNil)) (cD (.int 1))) aNil))) (gN 2)
  (cIf (bT (cBin dEq (cCall f_reached_freely (aCons (cSl (cVar 0) oNone (oSome (cVar 2))) (aCons (cVar 1) aNil))) (cD (.str "reached"))))
  (cRet (cVar 2))
  cSkip))
  (cRet (cD .non)))))
def f_fewest_free : Fn := runF 3 c_fewest_free
theorem d_fewest_free (g : G K mg) (d_look_at_rods : Def P w K mg base "look_at_rods" 4 1 f_look_at_rods) (d_look_at_point : Def P w K mg base "look_at_point" 4 1 f_look_at_point) (d_reached_freely : Def P w K mg base "reached_freely" 5 2 f_reached_freely) {f : Addr} {fd : FuncData} (hg : mg "fewest_free" = some (.ref f)) (F : Fun K "fewest_free" "fewest_free" (topS 39) f fd) (hb : Binds K fd ["rods", "point"] []) : Def P w K mg base "fewest_free" 6 2 f_fewest_free :=
  def_ok (k := 5) hg F hb sc_fewest_free rfl fun cdv A outer s H E hr =>
  (ss_cons (s_expr (p_call d_look_at_rods hr (by decide) (by rfl) (a_cons (p_var 0 (pv 0)) a_nil) (aCons_len aNil_len)))
  (ss_cons (s_expr (p_call d_look_at_point hr (by decide) (by rfl) (a_cons (p_var 1 (pv 1)) a_nil) (aCons_len aNil_len)))
  (ss_cons (s_for PassesOwn.never rfl (i_rg2 (by rfl) g.b_range (a_cons p_int (a_cons (p_bin op_addAll ok_add (p_bi call_lenA ok_len (by rfl) g.b_len bt_len (a_cons (p_var 0 (pv 0)) a_nil)) p_int) a_nil))) (g_name (i := 2) sc_fewest_free.nd rfl (by first | exact Or.inl rfl | exact Or.inr rfl))
  (ss_one (s_if (t_cmp (op_eqD hr.units) ok_eq (p_call d_reached_freely hr (by decide) (by rfl) (a_cons (p_sl (p_var 0 (pv 0)) o_none (o_some (p_var 2 (pv 2)))) (a_cons (p_var 1 (pv 1)) a_nil)) (aCons_len (aCons_len aNil_len))) (p_gc (by rfl) g.c_REACHED q_str) (nomark _)) (ss_one (s_ret (p_var 2 (pv 2)))) ss_nil)))
  (ss_one (s_ret p_non)))))

abbrev N__law_pot : List Str := ["script", "place", "cell", "own", "small"]
theorem sc__law_pot : FnScope N__law_pot ["script", "place"] (defScope (topS 41)) := ⟨rfl, rfl, rfl, by decide +kernel, rfl, by decide +kernel, by decide +kernel⟩
def c1__law_pot : SS := (cSet 2 (cFz (cIte (bT (cBin dLt (cVar 1) (cBi fLen (aCons (cVar 0) aNil)))) (cBin dGetAny (cVar 0) (cVar 1)) (cBin dAdd (cBin dAdd (cBin dMod (cBi fInt (aCons (cBi fSum (aCons (cSl (cVar 0) oNone (oSome (cD (.int 1)))) aNil)) aNil)) (cD (.int 1000211))) (cBin dMulI (cD (.int 4639)) (cVar 1))) (cD (.int 3163))))))
def c2__law_pot : SS := (cSet 3 (cBin dMulI (cBin dMod (cBi fInt (aCons (cBi fAbs (aCons (cVar 2) aNil)) aNil)) (cBin dPowW (cBin dPowW (cD (.int 10)) (cD (.int 60))) (cD (.int 5)))) (cBi fInt (aCons (cBin dGe (cBi fAbs (aCons (cVar 2) aNil)) (cBin dPowW (cD (.int 10)) (cD (.int 18)))) aNil))))
def c3__law_pot : SS := (cSet 4 (cBin dMod (cBi fInt (aCons (cVar 2) aNil)) (cD (.int 2305843009213693951))))
def a__law_pot : SA := (aCons (cVar 3) (aCons (cBin dMod (cBi fInt (aCons (cBin dAdd (cBin dAdd (cBin dMulI (cVar 4) (cD (.int 72161))) (cBin dMulI (cBin dMulI (cD (.int 10853)) (cVar 1)) (cVar 1))) (cD (.int 2843))) aNil)) (cD (.int 2305843009213693921))) (aCons (cD (.int 0)) aNil)))
def f__law_pot : PotFn := runP 5 c1__law_pot c2__law_pot c3__law_pot a__law_pot
theorem d__law_pot (g : G K mg) {f : Addr} {fd : FuncData} (hg : mg "_law_pot" = some (.ref f)) (F : Fun K "_law_pot" "_law_pot" (topS 41) f fd) (hb : Binds K fd ["script", "place"] []) : DefP P w K mg base "_law_pot" 1 2 f__law_pot :=
  def_pot (k := 0) hg F hb sc__law_pot rfl rfl fun cdv A outer s H E hr X hX => by
    subst hX
    exact ⟨(s_set (i := 2) sc__law_pot.nd rfl (by first | exact Or.inl rfl | exact Or.inr rfl) (p_fz (p_ite (t_cmp op_lt ok_B0 (p_var 1 (pv 1)) (p_bi call_lenA ok_len (by rfl) g.b_len bt_len (a_cons (p_var 0 (pv 0)) a_nil)) (nomark _)) (p_ix (hu_of hr) (p_var 0 (pv 0)) (p_var 1 (pv 1)) (fun _ _ => rfl)) (p_bin op_addAll ok_add (p_bin op_addAll ok_add (p_bin op_mod ok_mod (p_ty call_int1 ok_int (by rfl) g.b_int bt_int (a_cons (p_bi (call_sumA rfl) ok_sum (by rfl) g.b_sum bt_sum (a_cons (p_sl (p_var 0 (pv 0)) o_none (o_some p_int)) a_nil)) a_nil)) p_int) (p_bin op_mulW ok_mulI p_int (p_var 1 (pv 1)))) p_int)))),
      (s_set (i := 3) sc__law_pot.nd rfl (by first | exact Or.inl rfl | exact Or.inr rfl) (p_bin op_mulW ok_mulI (p_bin op_mod ok_mod (p_ty call_int1 ok_int (by rfl) g.b_int bt_int (a_cons (p_bi call_abs ok_abs (by rfl) g.b_abs bt_abs (a_cons (p_var 2 (pv 2)) a_nil)) a_nil)) (p_bin op_powW ok_powW (p_bin op_powW ok_powW p_int p_int) p_int)) (p_ty call_int1 ok_int (by rfl) g.b_int bt_int (a_cons (p_cmp op_ge ok_B0 (p_bi call_abs ok_abs (by rfl) g.b_abs bt_abs (a_cons (p_var 2 (pv 2)) a_nil)) (p_bin op_powW ok_powW p_int p_int) (nomark _)) a_nil)))),
      (s_set (i := 4) sc__law_pot.nd rfl (by first | exact Or.inl rfl | exact Or.inr rfl) (p_bin op_mod ok_mod (p_ty call_int1 ok_int (by rfl) g.b_int bt_int (a_cons (p_var 2 (pv 2)) a_nil)) p_int)),
      (a_cons (p_var 3 (pv 3)) (a_cons (p_bin op_mod ok_mod (p_ty call_int1 ok_int (by rfl) g.b_int bt_int (a_cons (p_bin op_addAll ok_add (p_bin op_addAll ok_add (p_bin op_mulW ok_mulI (p_var 4 (pv 4)) p_int) (p_bin op_mulW ok_mulI (p_bin op_mulW ok_mulI p_int (p_var 1 (pv 1))) (p_var 1 (pv 1)))) p_int) a_nil)) p_int) (a_cons p_int a_nil)))⟩

abbrev N__law_take : List Str := ["pot", "upto", "digit", "prime", "mixture"]
theorem sc__law_take : FnScope N__law_take ["pot", "upto"] (defScope (topS 42)) := ⟨rfl, rfl, rfl, by decide +kernel, rfl, by decide +kernel, by decide +kernel⟩
def s__law_take_0 : SS :=
  (cIf (bT (cBin dGt (cPotGet 0 0) (cD (.int 0))))
  (cSeq (cSet 2 (cBin dMod (cBi fInt (aCons (cPotGet 0 0) aNil)) (cVar 1)))
  (cSeq (cPotSet 0 0 (cBin dDiv (cPotGet 0 0) (cVar 1)))
  (cRet (cVar 2))))
  cSkip)
def s__law_take_1 : SS :=
  (cPotSet 0 2 (cBin dAdd (cPotGet 0 2) (cD (.int 1))))
def s__law_take_2 : SS :=
  (cSet 3 (cBin dGetAny (cLst (aCons (cD (.int 2147483647)) (aCons (cD (.int 2147483629)) (aCons (cD (.int 2147483587)) (aCons (cD (.int 2147483579)) (aCons (cD (.int 2147483563)) aNil)))))) (cBin dMod (cBi fInt (aCons (cPotGet 0 2) aNil)) (cD (.int 5)))))
def s__law_take_3 : SS :=
  (cSet 4 (cBin dMod (cBi fInt (aCons (cBin dPowW (cBi fInt (aCons (cBin dAdd (cBin dAdd (cPotGet 0 1) (cBin dMulI (cBin dMulI (cD (.int 95257)) (cPotGet 0 2)) (cPotGet 0 2))) (cD (.int 3163))) aNil)) (cD (.int 3))) aNil)) (cVar 3)))
def s__law_take_4 : SS :=
  (cSet 4 (cBin dMod (cBi fInt (aCons (cBin dMulI (cVar 4) (cBin dAdd (cBin dMod (cBi fInt (aCons (cVar 4) aNil)) (cD (.int 13441))) (cBin dMulI (cD (.int 419)) (cPotGet 0 2)))) aNil)) (cD (.int 2305843009213693907))))
def s__law_take_5 : SS :=
  (cRet (cBin dMod (cBi fInt (aCons (cBin dDiv (cVar 4) (cD (.int 229))) aNil)) (cVar 1)))
def c__law_take : SS :=
  (cSeq s__law_take_0
  (cSeq s__law_take_1
  (cSeq s__law_take_2
  (cSeq s__law_take_3
  (cSeq s__law_take_4
  s__law_take_5)))))
def f__law_take : Fn := runF 5 c__law_take
theorem d__law_take (g : G K mg) {f : Addr} {fd : FuncData} (hg : mg "_law_take" = some (.ref f)) (F : Fun K "_law_take" "_law_take" (topS 42) f fd) (hb : Binds K fd ["pot", "upto"] []) : Def P w K mg base "_law_take" 1 2 f__law_take :=
  def_ok (k := 0) hg F hb sc__law_take rfl fun cdv A outer s H E hr =>
  (ss_cons (s_if (t_cmp op_gt ok_B0 (p_potGet (k := 0) (by decide) (pv 0) (fun _ _ => rfl)) p_int (nomark _)) (ss_cons (s_set (i := 2) sc__law_take.nd rfl (by first | exact Or.inl rfl | exact Or.inr rfl) (p_bin op_mod ok_mod (p_ty call_int1 ok_int (by rfl) g.b_int bt_int (a_cons (p_potGet (k := 0) (by decide) (pv 0) (fun _ _ => rfl)) a_nil)) (p_var 1 (pv 1))))
  (ss_cons (s_potSet (k := 0) (by decide) (pv 0) (p_bin op_fdivW ok_div (p_potGet (k := 0) (by decide) (pv 0) (fun _ _ => rfl)) (p_var 1 (pv 1))) rfl rfl)
  (ss_one (s_ret (p_var 2 (pv 2)))))) ss_nil)
  (ss_cons (s_potSet (k := 2) (by decide) (pv 0) (p_bin op_addAll ok_add (p_potGet (k := 2) (by decide) (pv 0) (fun _ _ => rfl)) p_int) rfl rfl)
  (ss_cons (s_set (i := 3) sc__law_take.nd rfl (by first | exact Or.inl rfl | exact Or.inr rfl) (p_ix (hu_of hr) (p_lst (a_cons p_int (a_cons p_int (a_cons p_int (a_cons p_int (a_cons p_int a_nil)))))) (p_bin op_mod ok_mod (p_ty call_int1 ok_int (by rfl) g.b_int bt_int (a_cons (p_potGet (k := 2) (by decide) (pv 0) (fun _ _ => rfl)) a_nil)) p_int) (fun _ _ => rfl)))
  (ss_cons (s_set (i := 4) sc__law_take.nd rfl (by first | exact Or.inl rfl | exact Or.inr rfl) (p_bin op_mod ok_mod (p_ty call_int1 ok_int (by rfl) g.b_int bt_int (a_cons (p_bin op_powW ok_powW (p_ty call_int1 ok_int (by rfl) g.b_int bt_int (a_cons (p_bin op_addAll ok_add (p_bin op_addAll ok_add (p_potGet (k := 1) (by decide) (pv 0) (fun _ _ => rfl)) (p_bin op_mulW ok_mulI (p_bin op_mulW ok_mulI p_int (p_potGet (k := 2) (by decide) (pv 0) (fun _ _ => rfl))) (p_potGet (k := 2) (by decide) (pv 0) (fun _ _ => rfl)))) p_int) a_nil)) p_int) a_nil)) (p_var 3 (pv 3))))
  (ss_cons (s_set (i := 4) sc__law_take.nd rfl (by first | exact Or.inl rfl | exact Or.inr rfl) (p_bin op_mod ok_mod (p_ty call_int1 ok_int (by rfl) g.b_int bt_int (a_cons (p_bin op_mulW ok_mulI (p_var 4 (pv 4)) (p_bin op_addAll ok_add (p_bin op_mod ok_mod (p_ty call_int1 ok_int (by rfl) g.b_int bt_int (a_cons (p_var 4 (pv 4)) a_nil)) p_int) (p_bin op_mulW ok_mulI p_int (p_potGet (k := 2) (by decide) (pv 0) (fun _ _ => rfl))))) a_nil)) p_int))
  (ss_one (s_ret (p_bin op_mod ok_mod (p_ty call_int1 ok_int (by rfl) g.b_int bt_int (a_cons (p_bin op_fdivW ok_div (p_var 4 (pv 4)) p_int) a_nil)) (p_var 1 (pv 1))))))))))

abbrev N__law_of : List Str := ["pot", "some"]
theorem sc__law_of : FnScope N__law_of ["pot", "some"] (defScope (topS 43)) := ⟨rfl, rfl, rfl, by decide +kernel, rfl, by decide +kernel, by decide +kernel⟩
def c__law_of : SS :=
  (cRet (cBin dGetAny (cVar 1) (cCall f__law_take (aCons (cVar 0) (aCons (cBi fLen (aCons (cVar 1) aNil)) aNil)))))
def f__law_of : Fn := runF 2 c__law_of
theorem d__law_of (g : G K mg) (d__law_take : Def P w K mg base "_law_take" 1 2 f__law_take) {f : Addr} {fd : FuncData} (hg : mg "_law_of" = some (.ref f)) (F : Fun K "_law_of" "_law_of" (topS 43) f fd) (hb : Binds K fd ["pot", "some"] []) : Def P w K mg base "_law_of" 2 2 f__law_of :=
  def_ok (k := 1) hg F hb sc__law_of rfl fun cdv A outer s H E hr =>
  (ss_one (s_ret (p_ix (hu_of hr) (p_var 1 (pv 1)) (p_call d__law_take hr (by decide) (by rfl) (a_cons (p_var 0 (pv 0)) (a_cons (p_bi call_lenA ok_len (by rfl) g.b_len bt_len (a_cons (p_var 1 (pv 1)) a_nil)) a_nil)) (aCons_len (aCons_len aNil_len))) (fun _ _ => rfl))))

abbrev N__law_cells : List Str := ["script", "most"]
theorem sc__law_cells : FnScope N__law_cells ["script", "most"] (defScope (topS 44)) := ⟨rfl, rfl, rfl, by decide +kernel, rfl, by decide +kernel, by decide +kernel⟩
def c__law_cells : SS :=
  (cRet (cListRg (cBi fMax (aCons (cD (.int 1)) (aCons (cBi fMin (aCons (cVar 1) (aCons (cBi fLen (aCons (cVar 0) aNil)) aNil))) aNil)))))
def f__law_cells : Fn := runF 2 c__law_cells
theorem d__law_cells (g : G K mg) {f : Addr} {fd : FuncData} (hg : mg "_law_cells" = some (.ref f)) (F : Fun K "_law_cells" "_law_cells" (topS 44) f fd) (hb : Binds K fd ["script", "most"] []) : Def P w K mg base "_law_cells" 1 2 f__law_cells :=
  def_ok (k := 0) hg F hb sc__law_cells rfl fun cdv A outer s H E hr =>
  (ss_one (s_ret (p_listRg rfl (by rfl) g.b_list (by rfl) g.b_range (p_bi (call_maxA rfl) ok_max (by rfl) g.b_max bt_max (a_cons p_int (a_cons (p_bi (call_minA rfl) ok_min (by rfl) g.b_min bt_min (a_cons (p_var 1 (pv 1)) (a_cons (p_bi call_lenA ok_len (by rfl) g.b_len bt_len (a_cons (p_var 0 (pv 0)) a_nil)) a_nil))) a_nil))))))

abbrev N__law_some : List Str := ["pot", "pool", "many", "rests", "found", "lap"]
theorem sc__law_some : FnScope N__law_some ["pot", "pool", "many"] (defScope (topS 45)) := ⟨rfl, rfl, rfl, by decide +kernel, rfl, by decide +kernel, by decide +kernel⟩
def c__law_some : SS :=
  (cSeq (cPar 3 4 (cBi fList (aCons (cVar 1) aNil)) (cLst aNil))
  (cSeq (cFor (iRg1 (aCons (cVar 2) aNil)) (gN 5)
  (cApp 4 (cPop 3 (cCall f__law_take (aCons (cVar 0) (aCons (cLenV 3) aNil))))))
  (cRet (cVar 4))))
def f__law_some : Fn := runF 6 c__law_some
theorem d__law_some (g : G K mg) (d__law_take : Def P w K mg base "_law_take" 1 2 f__law_take) {f : Addr} {fd : FuncData} (hg : mg "_law_some" = some (.ref f)) (F : Fun K "_law_some" "_law_some" (topS 45) f fd) (hb : Binds K fd ["pot", "pool", "many"] []) : Def P w K mg base "_law_some" 2 3 f__law_some :=
  def_ok (k := 1) hg F hb sc__law_some rfl fun cdv A outer s H E hr =>
  (ss_cons (s_par (i := 3) (j := 4) rfl sc__law_some.nd rfl rfl (by decide) (by first | rfl) (by first | rfl) (p_ty call_listA ok_list (by rfl) g.b_list bt_list (a_cons (p_var 1 (pv 1)) a_nil)) (p_lst a_nil) rfl rfl rfl rfl)
  (ss_cons (s_for PassesOwn.never rfl (i_rg1 (by rfl) g.b_range (a_cons (p_var 2 (pv 2)) a_nil)) (g_name (i := 5) sc__law_some.nd rfl (by first | exact Or.inl rfl | exact Or.inr rfl))
  (ss_one (s_app (pv 4) (p_pop (pv 3) (p_call d__law_take hr (by decide) (by rfl) (a_cons (p_var 0 (pv 0)) (a_cons (p_lenV (pv 3) (by rfl) g.b_len rfl rfl) a_nil)) (aCons_len (aCons_len aNil_len))) rfl rfl rfl rfl rfl) rfl rfl rfl rfl rfl rfl)))
  (ss_one (s_ret (p_var 4 (pv 4))))))

abbrev N__law_rods_drawn : List Str := ["pot", "most", "long", "rod"]
theorem sc__law_rods_drawn : FnScope N__law_rods_drawn ["pot", "most", "long"] (defScope (topS 46)) := ⟨rfl, rfl, rfl, by decide +kernel, rfl, by decide +kernel, by decide +kernel⟩
def c__law_rods_drawn : SS :=
  (cRet (cBi fTuple (aCons (cLC (iRg1 (aCons (cBin dAdd (cD (.int 1)) (cCall f__law_take (aCons (cVar 0) (aCons (cVar 1) aNil)))) aNil)) (gN 3) bYes (cBi fInt (aCons (cBin dAdd (cD (.int 1)) (cCall f__law_take (aCons (cVar 0) (aCons (cVar 2) aNil)))) aNil)) [3]) aNil)))
def f__law_rods_drawn : Fn := runF 4 c__law_rods_drawn
theorem d__law_rods_drawn (g : G K mg) (d__law_take : Def P w K mg base "_law_take" 1 2 f__law_take) {f : Addr} {fd : FuncData} (hg : mg "_law_rods_drawn" = some (.ref f)) (F : Fun K "_law_rods_drawn" "_law_rods_drawn" (topS 46) f fd) (hb : Binds K fd ["pot", "most", "long"] []) : Def P w K mg base "_law_rods_drawn" 2 3 f__law_rods_drawn :=
  def_ok (k := 1) hg F hb sc__law_rods_drawn rfl fun cdv A outer s H E hr =>
  (ss_one (s_ret (p_ty call_tupA ok_tuple (by rfl) g.b_tuple bt_tuple (a_cons (p_lc (own := [("rod", 3)]) rfl sc__law_rods_drawn.nd (i_rg1 (by rfl) g.b_range (a_cons (p_bin op_addAll ok_add p_int (p_call d__law_take hr (by decide) (by rfl) (a_cons (p_var 0 (pv 0)) (a_cons (p_var 1 (pv 1)) a_nil)) (aCons_len (aCons_len aNil_len)))) a_nil)) (blkOk_by (by decide +kernel : blkC N__law_rods_drawn (defScope (topS 46)) _ _ = true)) (by decide) (fun _ _ _ _ _ => (g_name (i := 3) sc__law_rods_drawn.nd rfl (by first | exact Or.inl rfl | exact Or.inr rfl))) (fun _ _ _ _ _ => ts_nil) (fun _ _ _ _ _ => (p_ty call_int1 ok_int (by rfl) g.b_int bt_int (a_cons (p_bin op_addAll ok_add p_int (p_call d__law_take hr (by decide) (by rfl) (a_cons (p_var 0 (pv 0)) (a_cons (p_var 2 (pv 2)) a_nil)) (aCons_len (aCons_len aNil_len)))) a_nil)))) a_nil))))

abbrev N__law_right : List Str := ["pot", "lap", "most", "ring", "at", "times", "spans", "every", "kinds", "other", "back", "drawn", "rods", "more", "point", "words", "told", "rod", "corner", "ground", "many"]
theorem sc__law_right : FnScope N__law_right ["pot"] (defScope (topS 47)) := ⟨rfl, rfl, rfl, by decide +kernel, rfl, by decide +kernel, by decide +kernel⟩
def s__law_right_0 : SS :=
  (cSet 2 (cCall f__law_of (aCons (cVar 0) (aCons (cLst (aCons (cD (.int 6)) (aCons (cD (.int 40)) (aCons (cD (.int 3000)) aNil)))) aNil))))
def s__law_right_1 : SS :=
  (cSet 3 (cFz (cLC (iRg1 (aCons (cD (.int 4)) aNil)) (gN 17) bYes (cBi fInt (aCons (cBin dAdd (cD (.int 1)) (cCall f__law_take (aCons (cVar 0) (aCons (cVar 2) aNil)))) aNil)) [17])))
def s__law_right_2 : SS :=
  (cSet 3 (cBi fTuple (aCons (cLC (iSeq (cVar 3)) (gN 17) bYes (cBi fMin (aCons (cVar 17) (aCons (cBin dSub (cBi fSum (aCons (cVar 3) aNil)) (cVar 17)) aNil))) [17]) aNil)))
def s__law_right_3 : SS :=
  (cIf (bT (cBin dGt (cBin dMulI (cD (.int 2)) (cBi fMax (aCons (cVar 3) aNil))) (cBi fSum (aCons (cVar 3) aNil))))
  cCont
  cSkip)
def s__law_right_4 : SS :=
  (cAsg (gT 2 (gsCons (gN 4) (gsCons (gN 5) gsNil))) (cTup (aCons (cBi fInt (aCons (cCall f__law_take (aCons (cVar 0) (aCons (cD (.int 4)) aNil))) aNil)) (aCons (cBi fInt (aCons (cBin dAdd (cD (.int 2)) (cCall f__law_take (aCons (cVar 0) (aCons (cD (.int 2)) aNil)))) aNil)) aNil))))
def s__law_right_5 : SS :=
  (cSet 6 (cFz (cLC (iRg1 (aCons (cD (.int 4)) aNil)) (gN 18) bYes (cCall f_span_at (aCons (cVar 3) (aCons (cVar 18) aNil))) [18])))
def s__law_right_6 : SS :=
  (cSet 7 (cFz (cLC (iRg1 (aCons (cD (.int 4)) aNil)) (gN 18) bYes (cCall f_turns_round (aCons (cVar 3) (aCons (cVar 18) aNil))) [18])))
def s__law_right_7 : SS :=
  (cSet 8 (cFz (cLC (iRg1 (aCons (cD (.int 4)) aNil)) (gN 19) bYes (cCall f_kind_of_ring (aCons (cVar 3) (aCons (cVar 19) aNil))) [19])))
def s__law_right_8 : SS :=
  (cSet 9 (cFz (cBin dAdd (cSl (cVar 3) (oSome (cVar 4)) oNone) (cSl (cVar 3) oNone (oSome (cVar 4))))))
def s__law_right_9 : SS :=
  (cIf (bT (cBin dNe (cLC (iRg1 (aCons (cD (.int 4)) aNil)) (gN 18) bYes (cCall f_span_at (aCons (cVar 9) (aCons (cVar 18) aNil))) [18]) (cBin dAdd (cSl (cVar 6) (oSome (cVar 4)) oNone) (cSl (cVar 6) oNone (oSome (cVar 4))))))
  (cRet (cD (.bl false)))
  cSkip)
def s__law_right_10 : SS :=
  (cIf (bT (cBin dNe (cCall f_grashof (aCons (cVar 9) aNil)) (cCall f_grashof (aCons (cVar 3) aNil))))
  (cRet (cD (.bl false)))
  cSkip)
def s__law_right_11 : SS :=
  (cIf (bT (cBin dNe (cLC (iRg1 (aCons (cD (.int 4)) aNil)) (gN 19) bYes (cCall f_kind_of_ring (aCons (cVar 9) (aCons (cVar 19) aNil))) [19]) (cBin dAdd (cSl (cVar 8) (oSome (cVar 4)) oNone) (cSl (cVar 8) oNone (oSome (cVar 4))))))
  (cRet (cD (.bl false)))
  cSkip)
def s__law_right_12 : SS :=
  (cIf (bT (cBin dNe (cCall f_round_corners (aCons (cVar 9) aNil)) (cBi fTuple (aCons (cLC (iRg1 (aCons (cD (.int 4)) aNil)) (gN 18) (bT (cBin dGetAny (cBin dAdd (cSl (cVar 7) (oSome (cVar 4)) oNone) (cSl (cVar 7) oNone (oSome (cVar 4)))) (cVar 18))) (cVar 18) [18]) aNil))))
  (cRet (cD (.bl false)))
  cSkip)
def s__law_right_13 : SS :=
  (cSet 10 (cFz (cUn dRev (cVar 3))))
def s__law_right_14 : SS :=
  (cIf (bT (cBin dNe (cLC (iRg1 (aCons (cD (.int 4)) aNil)) (gN 18) bYes (cCall f_turns_round (aCons (cVar 10) (aCons (cVar 18) aNil))) [18]) (cLC (iRg1 (aCons (cD (.int 4)) aNil)) (gN 18) bYes (cBin dGetAny (cVar 7) (cBin dMod (cBin dSub (cD (.int 2)) (cVar 18)) (cD (.int 4)))) [18])))
  (cRet (cD (.bl false)))
  cSkip)
def s__law_right_15 : SS :=
  (cIf (bT (cBin dNe (cLC (iRg1 (aCons (cD (.int 4)) aNil)) (gN 19) bYes (cCall f_kind_of_ring (aCons (cVar 10) (aCons (cVar 19) aNil))) [19]) (cUn dRev (cVar 8))))
  (cRet (cD (.bl false)))
  cSkip)
def s__law_right_16 : SS :=
  (cSet 11 (cBi fTuple (aCons (cLC (iSeq (cVar 3)) (gN 17) bYes (cBin dMulI (cVar 5) (cVar 17)) [17]) aNil)))
def s__law_right_17 : SS :=
  (cIf (bOr (bT (cBin dNe (cCall f_round_corners (aCons (cVar 11) aNil)) (cCall f_round_corners (aCons (cVar 3) aNil)))) (bT (cBin dNe (cCall f_grashof (aCons (cVar 11) aNil)) (cBin dMulI (cVar 5) (cCall f_grashof (aCons (cVar 3) aNil))))))
  (cRet (cD (.bl false)))
  cSkip)
def s__law_right_18 : SS :=
  (cIf (bT (cBin dNe (cCall f_span_at (aCons (cVar 11) (aCons (cVar 4) aNil))) (cTup (aCons (cBin dMulI (cVar 5) (cBin dGetAny (cBin dGetAny (cVar 6) (cVar 4)) (cD (.int 0)))) (aCons (cBin dMulI (cVar 5) (cBin dGetAny (cBin dGetAny (cVar 6) (cVar 4)) (cD (.int 1)))) aNil)))))
  (cRet (cD (.bl false)))
  cSkip)
def s__law_right_19 : SS :=
  (cIf (bOr (bT (cBin dNe (cBin dGetAny (cVar 6) (cD (.int 0))) (cBin dGetAny (cVar 6) (cD (.int 2))))) (bOr (bT (cBin dNe (cBin dGetAny (cVar 6) (cD (.int 1))) (cBin dGetAny (cVar 6) (cD (.int 3))))) (bT (cBin dGt (cBin dGetAny (cBin dGetAny (cVar 6) (cD (.int 0))) (cD (.int 0))) (cBin dGetAny (cBin dGetAny (cVar 6) (cD (.int 0))) (cD (.int 1)))))))
  (cRet (cD (.bl false)))
  cSkip)
def s__law_right_20 : SS :=
  (cSet 12 (cCall f__law_rods_drawn (aCons (cVar 0) (aCons (cD (.int 7)) (aCons (cD (.int 60)) aNil)))))
def s__law_right_21 : SS :=
  (cIf (bT (cBin dNe (cCall f_free_reach (aCons (cBi fTuple (aCons (cCall f__law_some (aCons (cVar 0) (aCons (cBi fList (aCons (cVar 12) aNil)) (aCons (cBi fLen (aCons (cVar 12) aNil)) aNil)))) aNil)) aNil)) (cCall f_free_reach (aCons (cVar 12) aNil))))
  (cRet (cD (.bl false)))
  cSkip)
def s__law_right_22 : SS :=
  (cSet 13 (cFz (cBin dAdd (cVar 12) (cTup (aCons (cBi fInt (aCons (cBin dAdd (cD (.int 1)) (cCall f__law_take (aCons (cVar 0) (aCons (cD (.int 60)) aNil)))) aNil)) aNil)))))
def s__law_right_23 : SS :=
  (cIf (bOr (bT (cBin dLe (cBin dGetAny (cCall f_free_reach (aCons (cVar 13) aNil)) (cD (.int 1))) (cBin dGetAny (cCall f_free_reach (aCons (cVar 12) aNil)) (cD (.int 1))))) (bT (cBin dNe (cCall f_free_reach (aCons (cSl (cVar 12) oNone (oSome (cD (.int 1)))) aNil)) (cTup (aCons (cBin dGetAny (cVar 12) (cD (.int 0))) (aCons (cBin dGetAny (cVar 12) (cD (.int 0))) aNil))))))
  (cRet (cD (.bl false)))
  cSkip)
def s__law_right_24 : SS :=
  (cSet 14 (cTup (aCons (cBin dSub (cBi fInt (aCons (cCall f__law_take (aCons (cVar 0) (aCons (cD (.int 120)) aNil))) aNil)) (cD (.int 60))) (aCons (cBin dSub (cBi fInt (aCons (cCall f__law_take (aCons (cVar 0) (aCons (cD (.int 120)) aNil))) aNil)) (cD (.int 60))) aNil))))
def s__law_right_25 : SS :=
  (cSet 15 (cFz (cLC (iRg2 (aCons (cD (.int 1)) (aCons (cBin dAdd (cBi fLen (aCons (cVar 13) aNil)) (cD (.int 1))) aNil))) (gN 20) bYes (cCall f_reached_freely (aCons (cSl (cVar 13) oNone (oSome (cVar 20))) (aCons (cVar 14) aNil))) [20])))
def s__law_right_26 : SS :=
  (cSet 16 (cCall f_fewest_free (aCons (cVar 13) (aCons (cVar 14) aNil))))
def s__law_right_27 : SS :=
  (cIf (bOr (bT (cBin dNe (cBin dIn (cD (.str "reached")) (cVar 15)) (cBin dNotN (cVar 16) (cD .non)))) (bAnd (bT (cBin dNotN (cVar 16) (cD .non))) (bT (cBin dNe (cBin dAdd (cMeth dIndex (cVar 15) (aCons (cD (.str "reached")) aNil)) (cD (.int 1))) (cVar 16)))))
  (cRet (cD (.bl false)))
  cSkip)
def s__law_right_28 : SS :=
  (cIf (bT (cBin dNe (cCall f_reached_freely (aCons (cVar 13) (aCons (cTup (aCons (cBin dGetAny (cVar 14) (cD (.int 1))) (aCons (cUn dNeg (cBin dGetAny (cVar 14) (cD (.int 0)))) aNil))) aNil))) (cBin dGetAny (cVar 15) (cUn dNeg (cD (.int 1))))))
  (cRet (cD (.bl false)))
  cSkip)
def c__law_right : SS :=
  (cSeq (cFor (iRg1 (aCons (cD (.int 12)) aNil)) (gN 1)
  (cSeq s__law_right_0
  (cSeq s__law_right_1
  (cSeq s__law_right_2
  (cSeq s__law_right_3
  (cSeq s__law_right_4
  (cSeq s__law_right_5
  (cSeq s__law_right_6
  (cSeq s__law_right_7
  (cSeq s__law_right_8
  (cSeq s__law_right_9
  (cSeq s__law_right_10
  (cSeq s__law_right_11
  (cSeq s__law_right_12
  (cSeq s__law_right_13
  (cSeq s__law_right_14
  (cSeq s__law_right_15
  (cSeq s__law_right_16
  (cSeq s__law_right_17
  (cSeq s__law_right_18
  (cSeq s__law_right_19
  (cSeq s__law_right_20
  (cSeq s__law_right_21
  (cSeq s__law_right_22
  (cSeq s__law_right_23
  (cSeq s__law_right_24
  (cSeq s__law_right_25
  (cSeq s__law_right_26
  (cSeq s__law_right_27
  s__law_right_28)))))))))))))))))))))))))))))
  (cRet (cD (.bl true))))
def f__law_right : Fn := runF 21 c__law_right
theorem d__law_right (g : G K mg) (d__law_of : Def P w K mg base "_law_of" 2 2 f__law_of) (d__law_take : Def P w K mg base "_law_take" 1 2 f__law_take) (d_span_at : Def P w K mg base "span_at" 6 2 f_span_at) (d_turns_round : Def P w K mg base "turns_round" 6 2 f_turns_round) (d_kind_of_ring : Def P w K mg base "kind_of_ring" 7 2 f_kind_of_ring) (d_grashof : Def P w K mg base "grashof" 5 1 f_grashof) (d_round_corners : Def P w K mg base "round_corners" 7 1 f_round_corners) (d__law_rods_drawn : Def P w K mg base "_law_rods_drawn" 2 3 f__law_rods_drawn) (d__law_some : Def P w K mg base "_law_some" 2 3 f__law_some) (d_free_reach : Def P w K mg base "free_reach" 5 1 f_free_reach) (d_reached_freely : Def P w K mg base "reached_freely" 5 2 f_reached_freely) (d_fewest_free : Def P w K mg base "fewest_free" 6 2 f_fewest_free) {f : Addr} {fd : FuncData} (hg : mg "_law_right" = some (.ref f)) (F : Fun K "_law_right" "_law_right" (topS 47) f fd) (hb : Binds K fd ["pot"] []) : Def P w K mg base "_law_right" 8 1 f__law_right :=
  def_ok (k := 7) hg F hb sc__law_right rfl fun cdv A outer s H E hr =>
  (ss_cons (s_for PassesOwn.never rfl (i_rg1 (by rfl) g.b_range (a_cons p_int a_nil)) (g_name (i := 1) sc__law_right.nd rfl (by first | exact Or.inl rfl | exact Or.inr rfl))
  (ss_cons (s_set (i := 2) sc__law_right.nd rfl (by first | exact Or.inl rfl | exact Or.inr rfl) (p_call d__law_of hr (by decide) (by rfl) (a_cons (p_var 0 (pv 0)) (a_cons (p_lst (a_cons p_int (a_cons p_int (a_cons p_int a_nil)))) a_nil)) (aCons_len (aCons_len aNil_len))))
  (ss_cons (s_set (i := 3) sc__law_right.nd rfl (by first | exact Or.inl rfl | exact Or.inr rfl) (p_fz (p_lc (own := [("rod", 17)]) rfl sc__law_right.nd (i_rg1 (by rfl) g.b_range (a_cons p_int a_nil)) (blkOk_by (by decide +kernel : blkC N__law_right (defScope (topS 47)) _ _ = true)) (by decide) (fun _ _ _ _ _ => (g_name (i := 17) sc__law_right.nd rfl (by first | exact Or.inl rfl | exact Or.inr rfl))) (fun _ _ _ _ _ => ts_nil) (fun _ _ _ _ _ => (p_ty call_int1 ok_int (by rfl) g.b_int bt_int (a_cons (p_bin op_addAll ok_add p_int (p_call d__law_take hr (by decide) (by rfl) (a_cons (p_var 0 (pv 0)) (a_cons (p_var 2 (pv 2)) a_nil)) (aCons_len (aCons_len aNil_len)))) a_nil))))))
  (ss_cons (s_set (i := 3) sc__law_right.nd rfl (by first | exact Or.inl rfl | exact Or.inr rfl) (p_ty call_tupA ok_tuple (by rfl) g.b_tuple bt_tuple (a_cons (p_lc (own := [("rod", 17)]) rfl sc__law_right.nd (i_seq (p_var 3 (pv 3))) (blkOk_by (by decide +kernel : blkC N__law_right (defScope (topS 47)) _ _ = true)) (by decide) (fun _ _ _ _ _ => (g_name (i := 17) sc__law_right.nd rfl (by first | exact Or.inl rfl | exact Or.inr rfl))) (fun _ _ _ _ _ => ts_nil) (fun _ _ _ _ _ => (p_bi (call_minA rfl) ok_min (by rfl) g.b_min bt_min (a_cons (p_var 17 (pv 17)) (a_cons (p_bin op_sub ok_sub (p_bi (call_sumA rfl) ok_sum (by rfl) g.b_sum bt_sum (a_cons (p_var 3 (pv 3)) a_nil)) (p_var 17 (pv 17))) a_nil))))) a_nil)))
  (ss_cons (s_if (t_cmp op_gt ok_B0 (p_bin op_mulW ok_mulI p_int (p_bi (call_maxA rfl) ok_max (by rfl) g.b_max bt_max (a_cons (p_var 3 (pv 3)) a_nil))) (p_bi (call_sumA rfl) ok_sum (by rfl) g.b_sum bt_sum (a_cons (p_var 3 (pv 3)) a_nil)) (nomark _)) (ss_one s_cont) ss_nil)
  (ss_cons (s_asg (p_tup (a_cons (p_ty call_int1 ok_int (by rfl) g.b_int bt_int (a_cons (p_call d__law_take hr (by decide) (by rfl) (a_cons (p_var 0 (pv 0)) (a_cons p_int a_nil)) (aCons_len (aCons_len aNil_len))) a_nil)) (a_cons (p_ty call_int1 ok_int (by rfl) g.b_int bt_int (a_cons (p_bin op_addAll ok_add p_int (p_call d__law_take hr (by decide) (by rfl) (a_cons (p_var 0 (pv 0)) (a_cons p_int a_nil)) (aCons_len (aCons_len aNil_len)))) a_nil)) a_nil))) (g_tup rfl (gs_cons (g_name (i := 4) sc__law_right.nd rfl (by first | exact Or.inl rfl | exact Or.inr rfl)) (gs_cons (g_name (i := 5) sc__law_right.nd rfl (by first | exact Or.inl rfl | exact Or.inr rfl)) gs_nil))))
  (ss_cons (s_setLcZ (i := 6) (own := [("corner", 18)]) rfl sc__law_right.nd rfl rfl rfl (i_rg1 (by rfl) g.b_range (a_cons p_int a_nil)) (blkOk_by (by decide +kernel : blkC N__law_right (defScope (topS 47)) _ _ = true)) (by decide) (fun _ _ _ _ _ => (g_name (i := 18) sc__law_right.nd rfl (by first | exact Or.inl rfl | exact Or.inr rfl))) (fun _ _ _ _ _ => ts_nil) (fun _ _ _ _ _ => (p_call d_span_at hr (by decide) (by rfl) (a_cons (p_var 3 (pv 3)) (a_cons (p_var 18 (pv 18)) a_nil)) (aCons_len (aCons_len aNil_len)))))
  (ss_cons (s_set (i := 7) sc__law_right.nd rfl (by first | exact Or.inl rfl | exact Or.inr rfl) (p_fz (p_lc (own := [("corner", 18)]) rfl sc__law_right.nd (i_rg1 (by rfl) g.b_range (a_cons p_int a_nil)) (blkOk_by (by decide +kernel : blkC N__law_right (defScope (topS 47)) _ _ = true)) (by decide) (fun _ _ _ _ _ => (g_name (i := 18) sc__law_right.nd rfl (by first | exact Or.inl rfl | exact Or.inr rfl))) (fun _ _ _ _ _ => ts_nil) (fun _ _ _ _ _ => (p_call d_turns_round hr (by decide) (by rfl) (a_cons (p_var 3 (pv 3)) (a_cons (p_var 18 (pv 18)) a_nil)) (aCons_len (aCons_len aNil_len)))))))
  (ss_cons (s_setLcZ (i := 8) (own := [("ground", 19)]) rfl sc__law_right.nd rfl rfl rfl (i_rg1 (by rfl) g.b_range (a_cons p_int a_nil)) (blkOk_by (by decide +kernel : blkC N__law_right (defScope (topS 47)) _ _ = true)) (by decide) (fun _ _ _ _ _ => (g_name (i := 19) sc__law_right.nd rfl (by first | exact Or.inl rfl | exact Or.inr rfl))) (fun _ _ _ _ _ => ts_nil) (fun _ _ _ _ _ => (p_call d_kind_of_ring hr (by decide) (by rfl) (a_cons (p_var 3 (pv 3)) (a_cons (p_var 19 (pv 19)) a_nil)) (aCons_len (aCons_len aNil_len)))))
  (ss_cons (s_set (i := 9) sc__law_right.nd rfl (by first | exact Or.inl rfl | exact Or.inr rfl) (p_fz (p_bin op_addAll ok_add (p_sl (p_var 3 (pv 3)) (o_some (p_var 4 (pv 4))) o_none) (p_sl (p_var 3 (pv 3)) o_none (o_some (p_var 4 (pv 4)))))))
  (ss_cons (s_if (t_cmp (op_neD hr.units) ok_ne (p_lc (own := [("corner", 18)]) rfl sc__law_right.nd (i_rg1 (by rfl) g.b_range (a_cons p_int a_nil)) (blkOk_by (by decide +kernel : blkC N__law_right (defScope (topS 47)) _ _ = true)) (by decide) (fun _ _ _ _ _ => (g_name (i := 18) sc__law_right.nd rfl (by first | exact Or.inl rfl | exact Or.inr rfl))) (fun _ _ _ _ _ => ts_nil) (fun _ _ _ _ _ => (p_call d_span_at hr (by decide) (by rfl) (a_cons (p_var 9 (pv 9)) (a_cons (p_var 18 (pv 18)) a_nil)) (aCons_len (aCons_len aNil_len))))) (p_bin op_addAll ok_add (p_sl (p_var 6 (pv 6)) (o_some (p_var 4 (pv 4))) o_none) (p_sl (p_var 6 (pv 6)) o_none (o_some (p_var 4 (pv 4))))) (nomark _)) (ss_one (s_ret p_bl)) ss_nil)
  (ss_cons (s_if (t_cmp (op_neD hr.units) ok_ne (p_call d_grashof hr (by decide) (by rfl) (a_cons (p_var 9 (pv 9)) a_nil) (aCons_len aNil_len)) (p_call d_grashof hr (by decide) (by rfl) (a_cons (p_var 3 (pv 3)) a_nil) (aCons_len aNil_len)) (nomark _)) (ss_one (s_ret p_bl)) ss_nil)
  (ss_cons (s_if (t_cmp (op_neD hr.units) ok_ne (p_lc (own := [("ground", 19)]) rfl sc__law_right.nd (i_rg1 (by rfl) g.b_range (a_cons p_int a_nil)) (blkOk_by (by decide +kernel : blkC N__law_right (defScope (topS 47)) _ _ = true)) (by decide) (fun _ _ _ _ _ => (g_name (i := 19) sc__law_right.nd rfl (by first | exact Or.inl rfl | exact Or.inr rfl))) (fun _ _ _ _ _ => ts_nil) (fun _ _ _ _ _ => (p_call d_kind_of_ring hr (by decide) (by rfl) (a_cons (p_var 9 (pv 9)) (a_cons (p_var 19 (pv 19)) a_nil)) (aCons_len (aCons_len aNil_len))))) (p_bin op_addAll ok_add (p_sl (p_var 8 (pv 8)) (o_some (p_var 4 (pv 4))) o_none) (p_sl (p_var 8 (pv 8)) o_none (o_some (p_var 4 (pv 4))))) (nomark _)) (ss_one (s_ret p_bl)) ss_nil)
  (ss_cons (s_if (t_cmp (op_neD hr.units) ok_ne (p_call d_round_corners hr (by decide) (by rfl) (a_cons (p_var 9 (pv 9)) a_nil) (aCons_len aNil_len)) (p_ty call_tupA ok_tuple (by rfl) g.b_tuple bt_tuple (a_cons (p_lc (own := [("corner", 18)]) rfl sc__law_right.nd (i_rg1 (by rfl) g.b_range (a_cons p_int a_nil)) (blkOk_by (by decide +kernel : blkC N__law_right (defScope (topS 47)) _ _ = true)) (by decide) (fun _ _ _ _ _ => (g_name (i := 18) sc__law_right.nd rfl (by first | exact Or.inl rfl | exact Or.inr rfl))) (fun _ _ _ _ _ => (ts_one (t_val (p_ix (hu_of hr) (p_bin op_addAll ok_add (p_sl (p_var 7 (pv 7)) (o_some (p_var 4 (pv 4))) o_none) (p_sl (p_var 7 (pv 7)) o_none (o_some (p_var 4 (pv 4))))) (p_var 18 (pv 18)) (fun _ _ => rfl))))) (fun _ _ _ _ _ => (p_var 18 (pv 18)))) a_nil)) (nomark _)) (ss_one (s_ret p_bl)) ss_nil)
  (ss_cons (s_set (i := 10) sc__law_right.nd rfl (by first | exact Or.inl rfl | exact Or.inr rfl) (p_fz (p_rev (p_var 3 (pv 3)))))
  (ss_cons (s_if (t_cmp (op_neD hr.units) ok_ne (p_lc (own := [("corner", 18)]) rfl sc__law_right.nd (i_rg1 (by rfl) g.b_range (a_cons p_int a_nil)) (blkOk_by (by decide +kernel : blkC N__law_right (defScope (topS 47)) _ _ = true)) (by decide) (fun _ _ _ _ _ => (g_name (i := 18) sc__law_right.nd rfl (by first | exact Or.inl rfl | exact Or.inr rfl))) (fun _ _ _ _ _ => ts_nil) (fun _ _ _ _ _ => (p_call d_turns_round hr (by decide) (by rfl) (a_cons (p_var 10 (pv 10)) (a_cons (p_var 18 (pv 18)) a_nil)) (aCons_len (aCons_len aNil_len))))) (p_lc (own := [("corner", 18)]) rfl sc__law_right.nd (i_rg1 (by rfl) g.b_range (a_cons p_int a_nil)) (blkOk_by (by decide +kernel : blkC N__law_right (defScope (topS 47)) _ _ = true)) (by decide) (fun _ _ _ _ _ => (g_name (i := 18) sc__law_right.nd rfl (by first | exact Or.inl rfl | exact Or.inr rfl))) (fun _ _ _ _ _ => ts_nil) (fun _ _ _ _ _ => (p_ix (hu_of hr) (p_var 7 (pv 7)) (p_bin op_mod ok_mod (p_bin op_sub ok_sub p_int (p_var 18 (pv 18))) p_int) (fun _ _ => rfl)))) (nomark _)) (ss_one (s_ret p_bl)) ss_nil)
  (ss_cons (s_if (t_cmp (op_neD hr.units) ok_ne (p_lc (own := [("ground", 19)]) rfl sc__law_right.nd (i_rg1 (by rfl) g.b_range (a_cons p_int a_nil)) (blkOk_by (by decide +kernel : blkC N__law_right (defScope (topS 47)) _ _ = true)) (by decide) (fun _ _ _ _ _ => (g_name (i := 19) sc__law_right.nd rfl (by first | exact Or.inl rfl | exact Or.inr rfl))) (fun _ _ _ _ _ => ts_nil) (fun _ _ _ _ _ => (p_call d_kind_of_ring hr (by decide) (by rfl) (a_cons (p_var 10 (pv 10)) (a_cons (p_var 19 (pv 19)) a_nil)) (aCons_len (aCons_len aNil_len))))) (p_rev (p_var 8 (pv 8))) (nomark _)) (ss_one (s_ret p_bl)) ss_nil)
  (ss_cons (s_set (i := 11) sc__law_right.nd rfl (by first | exact Or.inl rfl | exact Or.inr rfl) (p_ty call_tupA ok_tuple (by rfl) g.b_tuple bt_tuple (a_cons (p_lc (own := [("rod", 17)]) rfl sc__law_right.nd (i_seq (p_var 3 (pv 3))) (blkOk_by (by decide +kernel : blkC N__law_right (defScope (topS 47)) _ _ = true)) (by decide) (fun _ _ _ _ _ => (g_name (i := 17) sc__law_right.nd rfl (by first | exact Or.inl rfl | exact Or.inr rfl))) (fun _ _ _ _ _ => ts_nil) (fun _ _ _ _ _ => (p_bin op_mulW ok_mulI (p_var 5 (pv 5)) (p_var 17 (pv 17))))) a_nil)))
  (ss_cons (s_if (PW.pt (t_or (t_cmp (op_neD hr.units) ok_ne (p_call d_round_corners hr (by decide) (by rfl) (a_cons (p_var 11 (pv 11)) a_nil) (aCons_len aNil_len)) (p_call d_round_corners hr (by decide) (by rfl) (a_cons (p_var 3 (pv 3)) a_nil) (aCons_len aNil_len)) (nomark _)) (pw_or1 (t_cmp (op_neD hr.units) ok_ne (p_call d_grashof hr (by decide) (by rfl) (a_cons (p_var 11 (pv 11)) a_nil) (aCons_len aNil_len)) (p_bin op_mulW ok_mulI (p_var 5 (pv 5)) (p_call d_grashof hr (by decide) (by rfl) (a_cons (p_var 3 (pv 3)) a_nil) (aCons_len aNil_len))) (nomark _))))) (ss_one (s_ret p_bl)) ss_nil)
  (ss_cons (s_if (t_cmp (op_neD hr.units) ok_ne (p_call d_span_at hr (by decide) (by rfl) (a_cons (p_var 11 (pv 11)) (a_cons (p_var 4 (pv 4)) a_nil)) (aCons_len (aCons_len aNil_len))) (p_tup (a_cons (p_bin op_mulW ok_mulI (p_var 5 (pv 5)) (p_ix (hu_of hr) (p_ix (hu_of hr) (p_var 6 (pv 6)) (p_var 4 (pv 4)) (fun _ _ => rfl)) p_int (fun _ _ => rfl))) (a_cons (p_bin op_mulW ok_mulI (p_var 5 (pv 5)) (p_ix (hu_of hr) (p_ix (hu_of hr) (p_var 6 (pv 6)) (p_var 4 (pv 4)) (fun _ _ => rfl)) p_int (fun _ _ => rfl))) a_nil))) (nomark _)) (ss_one (s_ret p_bl)) ss_nil)
  (ss_cons (s_if (PW.pt (t_or (t_cmp (op_neD hr.units) ok_ne (p_ix (hu_of hr) (p_var 6 (pv 6)) p_int (fun _ _ => rfl)) (p_ix (hu_of hr) (p_var 6 (pv 6)) p_int (fun _ _ => rfl)) (nomark _)) (t_or (t_cmp (op_neD hr.units) ok_ne (p_ix (hu_of hr) (p_var 6 (pv 6)) p_int (fun _ _ => rfl)) (p_ix (hu_of hr) (p_var 6 (pv 6)) p_int (fun _ _ => rfl)) (nomark _)) (pw_or1 (t_cmp op_gt ok_B0 (p_ix (hu_of hr) (p_ix (hu_of hr) (p_var 6 (pv 6)) p_int (fun _ _ => rfl)) p_int (fun _ _ => rfl)) (p_ix (hu_of hr) (p_ix (hu_of hr) (p_var 6 (pv 6)) p_int (fun _ _ => rfl)) p_int (fun _ _ => rfl)) (nomark _)))))) (ss_one (s_ret p_bl)) ss_nil)
  (ss_cons (s_set (i := 12) sc__law_right.nd rfl (by first | exact Or.inl rfl | exact Or.inr rfl) (p_call d__law_rods_drawn hr (by decide) (by rfl) (a_cons (p_var 0 (pv 0)) (a_cons p_int (a_cons p_int a_nil))) (aCons_len (aCons_len (aCons_len aNil_len)))))
  (ss_cons (s_if (t_cmp (op_neD hr.units) ok_ne (p_call d_free_reach hr (by decide) (by rfl) (a_cons (p_ty call_tupA ok_tuple (by rfl) g.b_tuple bt_tuple (a_cons (p_call d__law_some hr (by decide) (by rfl) (a_cons (p_var 0 (pv 0)) (a_cons (p_ty call_listA ok_list (by rfl) g.b_list bt_list (a_cons (p_var 12 (pv 12)) a_nil)) (a_cons (p_bi call_lenA ok_len (by rfl) g.b_len bt_len (a_cons (p_var 12 (pv 12)) a_nil)) a_nil))) (aCons_len (aCons_len (aCons_len aNil_len)))) a_nil)) a_nil) (aCons_len aNil_len)) (p_call d_free_reach hr (by decide) (by rfl) (a_cons (p_var 12 (pv 12)) a_nil) (aCons_len aNil_len)) (nomark _)) (ss_one (s_ret p_bl)) ss_nil)
  (ss_cons (s_set (i := 13) sc__law_right.nd rfl (by first | exact Or.inl rfl | exact Or.inr rfl) (p_fz (p_bin op_addAll ok_add (p_var 12 (pv 12)) (p_tup (a_cons (p_ty call_int1 ok_int (by rfl) g.b_int bt_int (a_cons (p_bin op_addAll ok_add p_int (p_call d__law_take hr (by decide) (by rfl) (a_cons (p_var 0 (pv 0)) (a_cons p_int a_nil)) (aCons_len (aCons_len aNil_len)))) a_nil)) a_nil)))))
  (ss_cons (s_if (PW.pt (t_or (t_cmp op_le ok_B0 (p_ix (hu_of hr) (p_call d_free_reach hr (by decide) (by rfl) (a_cons (p_var 13 (pv 13)) a_nil) (aCons_len aNil_len)) p_int (fun _ _ => rfl)) (p_ix (hu_of hr) (p_call d_free_reach hr (by decide) (by rfl) (a_cons (p_var 12 (pv 12)) a_nil) (aCons_len aNil_len)) p_int (fun _ _ => rfl)) (nomark _)) (pw_or1 (t_cmp (op_neD hr.units) ok_ne (p_call d_free_reach hr (by decide) (by rfl) (a_cons (p_sl (p_var 12 (pv 12)) o_none (o_some p_int)) a_nil) (aCons_len aNil_len)) (p_tup (a_cons (p_ix (hu_of hr) (p_var 12 (pv 12)) p_int (fun _ _ => rfl)) (a_cons (p_ix (hu_of hr) (p_var 12 (pv 12)) p_int (fun _ _ => rfl)) a_nil))) (nomark _))))) (ss_one (s_ret p_bl)) ss_nil)
  (ss_cons (s_set (i := 14) sc__law_right.nd rfl (by first | exact Or.inl rfl | exact Or.inr rfl) (p_tup (a_cons (p_bin op_sub ok_sub (p_ty call_int1 ok_int (by rfl) g.b_int bt_int (a_cons (p_call d__law_take hr (by decide) (by rfl) (a_cons (p_var 0 (pv 0)) (a_cons p_int a_nil)) (aCons_len (aCons_len aNil_len))) a_nil)) p_int) (a_cons (p_bin op_sub ok_sub (p_ty call_int1 ok_int (by rfl) g.b_int bt_int (a_cons (p_call d__law_take hr (by decide) (by rfl) (a_cons (p_var 0 (pv 0)) (a_cons p_int a_nil)) (aCons_len (aCons_len aNil_len))) a_nil)) p_int) a_nil))))
  (ss_cons (s_setLcZ (i := 15) (own := [("many", 20)]) rfl sc__law_right.nd rfl rfl rfl (i_rg2 (by rfl) g.b_range (a_cons p_int (a_cons (p_bin op_addAll ok_add (p_bi call_lenA ok_len (by rfl) g.b_len bt_len (a_cons (p_var 13 (pv 13)) a_nil)) p_int) a_nil))) (blkOk_by (by decide +kernel : blkC N__law_right (defScope (topS 47)) _ _ = true)) (by decide) (fun _ _ _ _ _ => (g_name (i := 20) sc__law_right.nd rfl (by first | exact Or.inl rfl | exact Or.inr rfl))) (fun _ _ _ _ _ => ts_nil) (fun _ _ _ _ _ => (p_call d_reached_freely hr (by decide) (by rfl) (a_cons (p_sl (p_var 13 (pv 13)) o_none (o_some (p_var 20 (pv 20)))) (a_cons (p_var 14 (pv 14)) a_nil)) (aCons_len (aCons_len aNil_len)))))
  (ss_cons (s_set (i := 16) sc__law_right.nd rfl (by first | exact Or.inl rfl | exact Or.inr rfl) (p_call d_fewest_free hr (by decide) (by rfl) (a_cons (p_var 13 (pv 13)) (a_cons (p_var 14 (pv 14)) a_nil)) (aCons_len (aCons_len aNil_len))))
  (ss_cons (s_if (PW.pt (t_or (t_cmp (op_neD hr.units) ok_ne (p_in (hu_of hr) p_str (p_var 15 (pv 15)) rfl) (p_cmp op_notA ok_not (p_var 16 (pv 16)) p_non (nomark _)) (nomark _)) (pw_or1 (PW.pt (t_and (t_cmp op_notA ok_not (p_var 16 (pv 16)) p_non (nomark _)) (pw_and1 (t_cmp (op_neD hr.units) ok_ne (p_bin op_addAll ok_add (p_index (p_var 15 (pv 15)) (a_cons p_str a_nil) rfl rfl rfl rfl rfl) p_int) (p_var 16 (pv 16)) (nomark _)))))))) (ss_one (s_ret p_bl)) ss_nil)
  (ss_one (s_if (t_cmp (op_neD hr.units) ok_ne (p_call d_reached_freely hr (by decide) (by rfl) (a_cons (p_var 13 (pv 13)) (a_cons (p_tup (a_cons (p_ix (hu_of hr) (p_var 14 (pv 14)) p_int (fun _ _ => rfl)) (a_cons (p_un un_neg ok_neg (p_ix (hu_of hr) (p_var 14 (pv 14)) p_int (fun _ _ => rfl))) a_nil))) a_nil)) (aCons_len (aCons_len aNil_len))) (p_ix (hu_of hr) (p_var 15 (pv 15)) (p_un un_neg ok_neg p_int) (fun _ _ => rfl)) (nomark _)) (ss_one (s_ret p_bl)) ss_nil)))))))))))))))))))))))))))))))
  (ss_one (s_ret p_bl)))

abbrev N_law : List Str := ["script", "place"]
theorem sc_law : FnScope N_law ["script"] (defScope (topS 48)) := ⟨rfl, rfl, rfl, by decide +kernel, rfl, by decide +kernel, by decide +kernel⟩
def c_law : SS :=
  (cRet (cBi fAll (aCons (cLC (iSeq (cCall f__law_cells (aCons (cVar 0) (aCons (cD (.int 3)) aNil)))) (gN 1) bYes (cPotCall f__law_pot f__law_right (aCons (cVar 0) (aCons (cVar 1) aNil))) [1]) aNil)))
def f_law : Fn := runF 2 c_law
theorem fn_law (g : G K mg) (d__law_cells : Def P w K mg base "_law_cells" 1 2 f__law_cells) (d__law_pot : DefP P w K mg base "_law_pot" 1 2 f__law_pot) (d__law_right : Def P w K mg base "_law_right" 8 1 f__law_right) {f : Addr} {fd : FuncData} (F : Fun K "law" "law" (topS 48) f fd) : FnOk P w K mg base CX0 9 f fd ["script"] (spF K 1 f_law) :=
  fn_ok (k := 8) F sc_law rfl fun cdv A outer s H E hr =>
  (ss_one (s_ret (p_bi (cr_all rfl) ok_all (by rfl) g.b_all bt_all (a_cons (p_lc (own := [("place", 1)]) rfl sc_law.nd (i_seq (p_call d__law_cells hr (by decide) (by rfl) (a_cons (p_var 0 (pv 0)) (a_cons p_int a_nil)) (aCons_len (aCons_len aNil_len)))) (blkOk_by (by decide +kernel : blkC N_law (defScope (topS 48)) _ _ = true)) (by decide) (fun _ _ _ _ _ => (g_name (i := 1) sc_law.nd rfl (by first | exact Or.inl rfl | exact Or.inr rfl))) (fun _ _ _ _ _ => ts_nil) (fun _ _ _ _ _ => (p_potCall d__law_pot d__law_right hr (by decide) (by decide) (by rfl) (by rfl) (a_cons (p_var 0 (pv 0)) (a_cons (p_var 1 (pv 1)) a_nil)) (aCons_len (aCons_len aNil_len))))) a_nil))))

end

theorem all_mk {l : PySem.W.OpenLaw} {w : World} {K : PySem.W.Frag} {h : Heap} {mg : Str → Option Value} {fa : Addr} (X : K.In h) (G0 : h.Ns mainGlobals mg) (hfa : mg "law" = some (.ref fa)) {od0 an0 od1 an1 od2 an2 od3 an3 od4 an4 od5 an5 od6 an6 od7 an7 od8 an8 od9 an9 od10 an10 od11 an11 od12 an12 od13 an13 od14 an14 od15 an15 od16 an16 od17 an17 od18 an18 od19 an19 od20 an20 od21 an21 od22 an22 od23 an23 od24 an24 od25 an25 od26 an26 : Option Addr} {sl0 sl1 sl2 sl3 sl4 sl5 sl6 sl7 sl8 sl9 sl10 sl11 sl12 sl13 sl14 sl15 sl16 sl17 sl18 sl19 sl20 sl21 sl22 sl23 sl24 sl25 sl26 : Array (Option Value)} {oc0 kV0 dc0 pm0 cd0 ct0 oc1 kV1 dc1 pm1 cd1 ct1 oc2 kV2 dc2 pm2 cd2 ct2 oc3 kV3 dc3 pm3 cd3 ct3 oc4 kV4 dc4 pm4 cd4 ct4 oc5 kV5 dc5 pm5 cd5 ct5 oc6 kV6 dc6 pm6 cd6 ct6 oc7 kV7 dc7 pm7 cd7 ct7 oc8 kV8 dc8 pm8 cd8 ct8 oc9 kV9 dc9 pm9 cd9 ct9 oc10 kV10 dc10 pm10 cd10 ct10 oc11 kV11 dc11 pm11 cd11 ct11 oc12 kV12 dc12 pm12 cd12 ct12 oc13 kV13 dc13 pm13 cd13 ct13 oc14 kV14 dc14 pm14 cd14 ct14 oc15 kV15 dc15 pm15 cd15 ct15 oc16 kV16 dc16 pm16 cd16 ct16 oc17 kV17 dc17 pm17 cd17 ct17 oc18 kV18 dc18 pm18 cd18 ct18 oc19 kV19 dc19 pm19 cd19 ct19 oc20 kV20 dc20 pm20 cd20 ct20 oc21 kV21 dc21 pm21 cd21 ct21 oc22 kV22 dc22 pm22 cd22 ct22 oc23 kV23 dc23 pm23 cd23 ct23 oc24 kV24 dc24 pm24 cd24 ct24 oc25 kV25 dc25 pm25 cd25 ct25 oc26 kV26 dc26 pm26 cd26 ct26 : Value} {f0 f1 f2 f3 f4 f5 f6 f7 f8 f9 f10 f11 f12 f13 f14 f15 f16 f17 f18 f19 f20 f21 f22 f23 f24 f25 f26 : Addr} {zt0 zt1 zt2 zt3 zt4 zt5 zt6 zt7 zt8 zt9 zt10 zt11 : Nat}
    (a0 : PySem.W.nsIn K mainGlobals "is_int" = some (some (.ref f0))) (l0 : K.lookup f0 = some ⟨oc0, od0, .func (PySem.W.fnOf "is_int" "is_int" (defArgs (topS 7)) (defBody (topS 7)) (defScope (topS 7)) .none kV0 dc0 pm0 an0 cd0 ct0), sl0⟩) (c0 : PySem.W.codeIn K cd0 "is_int" = true) (k0 : PySem.W.keepIn K (.ref f0) = true)
    (a1 : PySem.W.nsIn K mainGlobals "are_ints" = some (some (.ref f1))) (l1 : K.lookup f1 = some ⟨oc1, od1, .func (PySem.W.fnOf "are_ints" "are_ints" (defArgs (topS 8)) (defBody (topS 8)) (defScope (topS 8)) .none kV1 dc1 pm1 an1 cd1 ct1), sl1⟩) (c1 : PySem.W.codeIn K cd1 "are_ints" = true) (k1 : PySem.W.keepIn K (.ref f1) = true)
    (a2 : PySem.W.nsIn K mainGlobals "is_rods" = some (some (.ref f2))) (l2 : K.lookup f2 = some ⟨oc2, od2, .func (PySem.W.fnOf "is_rods" "is_rods" (defArgs (topS 13)) (defBody (topS 13)) (defScope (topS 13)) .none kV2 dc2 pm2 an2 cd2 ct2), sl2⟩) (c2 : PySem.W.codeIn K cd2 "is_rods" = true) (k2 : PySem.W.keepIn K (.ref f2) = true)
    (a3 : PySem.W.nsIn K mainGlobals "look_at_rods" = some (some (.ref f3))) (l3 : K.lookup f3 = some ⟨oc3, od3, .func (PySem.W.fnOf "look_at_rods" "look_at_rods" (defArgs (topS 14)) (defBody (topS 14)) (defScope (topS 14)) .none kV3 dc3 pm3 an3 cd3 ct3), sl3⟩) (c3 : PySem.W.codeIn K cd3 "look_at_rods" = true) (k3 : PySem.W.keepIn K (.ref f3) = true)
    (a4 : PySem.W.nsIn K mainGlobals "is_point" = some (some (.ref f4))) (l4 : K.lookup f4 = some ⟨oc4, od4, .func (PySem.W.fnOf "is_point" "is_point" (defArgs (topS 15)) (defBody (topS 15)) (defScope (topS 15)) .none kV4 dc4 pm4 an4 cd4 ct4), sl4⟩) (c4 : PySem.W.codeIn K cd4 "is_point" = true) (k4 : PySem.W.keepIn K (.ref f4) = true)
    (a5 : PySem.W.nsIn K mainGlobals "look_at_point" = some (some (.ref f5))) (l5 : K.lookup f5 = some ⟨oc5, od5, .func (PySem.W.fnOf "look_at_point" "look_at_point" (defArgs (topS 16)) (defBody (topS 16)) (defScope (topS 16)) .none kV5 dc5 pm5 an5 cd5 ct5), sl5⟩) (c5 : PySem.W.codeIn K cd5 "look_at_point" = true) (k5 : PySem.W.keepIn K (.ref f5) = true)
    (a6 : PySem.W.nsIn K mainGlobals "is_ring" = some (some (.ref f6))) (l6 : K.lookup f6 = some ⟨oc6, od6, .func (PySem.W.fnOf "is_ring" "is_ring" (defArgs (topS 27)) (defBody (topS 27)) (defScope (topS 27)) .none kV6 dc6 pm6 an6 cd6 ct6), sl6⟩) (c6 : PySem.W.codeIn K cd6 "is_ring" = true) (k6 : PySem.W.keepIn K (.ref f6) = true)
    (a7 : PySem.W.nsIn K mainGlobals "look_at_ring" = some (some (.ref f7))) (l7 : K.lookup f7 = some ⟨oc7, od7, .func (PySem.W.fnOf "look_at_ring" "look_at_ring" (defArgs (topS 28)) (defBody (topS 28)) (defScope (topS 28)) .none kV7 dc7 pm7 an7 cd7 ct7), sl7⟩) (c7 : PySem.W.codeIn K cd7 "look_at_ring" = true) (k7 : PySem.W.keepIn K (.ref f7) = true)
    (a8 : PySem.W.nsIn K mainGlobals "told_span" = some (some (.ref f8))) (l8 : K.lookup f8 = some ⟨oc8, od8, .func (PySem.W.fnOf "told_span" "told_span" (defArgs (topS 29)) (defBody (topS 29)) (defScope (topS 29)) .none kV8 dc8 pm8 an8 cd8 ct8), sl8⟩) (c8 : PySem.W.codeIn K cd8 "told_span" = true) (k8 : PySem.W.keepIn K (.ref f8) = true)
    (a9 : PySem.W.nsIn K mainGlobals "look_at_corner" = some (some (.ref f9))) (l9 : K.lookup f9 = some ⟨oc9, od9, .func (PySem.W.fnOf "look_at_corner" "look_at_corner" (defArgs (topS 30)) (defBody (topS 30)) (defScope (topS 30)) .none kV9 dc9 pm9 an9 cd9 ct9), sl9⟩) (c9 : PySem.W.codeIn K cd9 "look_at_corner" = true) (k9 : PySem.W.keepIn K (.ref f9) = true)
    (a10 : PySem.W.nsIn K mainGlobals "span_at" = some (some (.ref f10))) (l10 : K.lookup f10 = some ⟨oc10, od10, .func (PySem.W.fnOf "span_at" "span_at" (defArgs (topS 31)) (defBody (topS 31)) (defScope (topS 31)) .none kV10 dc10 pm10 an10 cd10 ct10), sl10⟩) (c10 : PySem.W.codeIn K cd10 "span_at" = true) (k10 : PySem.W.keepIn K (.ref f10) = true)
    (a11 : PySem.W.nsIn K mainGlobals "turns_round" = some (some (.ref f11))) (l11 : K.lookup f11 = some ⟨oc11, od11, .func (PySem.W.fnOf "turns_round" "turns_round" (defArgs (topS 32)) (defBody (topS 32)) (defScope (topS 32)) .none kV11 dc11 pm11 an11 cd11 ct11), sl11⟩) (c11 : PySem.W.codeIn K cd11 "turns_round" = true) (k11 : PySem.W.keepIn K (.ref f11) = true)
    (a12 : PySem.W.nsIn K mainGlobals "round_corners" = some (some (.ref f12))) (l12 : K.lookup f12 = some ⟨oc12, od12, .func (PySem.W.fnOf "round_corners" "round_corners" (defArgs (topS 33)) (defBody (topS 33)) (defScope (topS 33)) .none kV12 dc12 pm12 an12 cd12 ct12), sl12⟩) (c12 : PySem.W.codeIn K cd12 "round_corners" = true) (k12 : PySem.W.keepIn K (.ref f12) = true)
    (a13 : PySem.W.nsIn K mainGlobals "grashof" = some (some (.ref f13))) (l13 : K.lookup f13 = some ⟨oc13, od13, .func (PySem.W.fnOf "grashof" "grashof" (defArgs (topS 34)) (defBody (topS 34)) (defScope (topS 34)) .none kV13 dc13 pm13 an13 cd13 ct13), sl13⟩) (c13 : PySem.W.codeIn K cd13 "grashof" = true) (k13 : PySem.W.keepIn K (.ref f13) = true)
    (a14 : PySem.W.nsIn K mainGlobals "kind_of_ring" = some (some (.ref f14))) (l14 : K.lookup f14 = some ⟨oc14, od14, .func (PySem.W.fnOf "kind_of_ring" "kind_of_ring" (defArgs (topS 35)) (defBody (topS 35)) (defScope (topS 35)) .none kV14 dc14 pm14 an14 cd14 ct14), sl14⟩) (c14 : PySem.W.codeIn K cd14 "kind_of_ring" = true) (k14 : PySem.W.keepIn K (.ref f14) = true)
    (a15 : PySem.W.nsIn K mainGlobals "told_ring_of" = some (some (.ref f15))) (l15 : K.lookup f15 = some ⟨oc15, od15, .func (PySem.W.fnOf "told_ring_of" "told_ring_of" (defArgs (topS 36)) (defBody (topS 36)) (defScope (topS 36)) .none kV15 dc15 pm15 an15 cd15 ct15), sl15⟩) (c15 : PySem.W.codeIn K cd15 "told_ring_of" = true) (k15 : PySem.W.keepIn K (.ref f15) = true)
    (a16 : PySem.W.nsIn K mainGlobals "free_reach" = some (some (.ref f16))) (l16 : K.lookup f16 = some ⟨oc16, od16, .func (PySem.W.fnOf "free_reach" "free_reach" (defArgs (topS 37)) (defBody (topS 37)) (defScope (topS 37)) .none kV16 dc16 pm16 an16 cd16 ct16), sl16⟩) (c16 : PySem.W.codeIn K cd16 "free_reach" = true) (k16 : PySem.W.keepIn K (.ref f16) = true)
    (a17 : PySem.W.nsIn K mainGlobals "reached_freely" = some (some (.ref f17))) (l17 : K.lookup f17 = some ⟨oc17, od17, .func (PySem.W.fnOf "reached_freely" "reached_freely" (defArgs (topS 38)) (defBody (topS 38)) (defScope (topS 38)) .none kV17 dc17 pm17 an17 cd17 ct17), sl17⟩) (c17 : PySem.W.codeIn K cd17 "reached_freely" = true) (k17 : PySem.W.keepIn K (.ref f17) = true)
    (a18 : PySem.W.nsIn K mainGlobals "fewest_free" = some (some (.ref f18))) (l18 : K.lookup f18 = some ⟨oc18, od18, .func (PySem.W.fnOf "fewest_free" "fewest_free" (defArgs (topS 39)) (defBody (topS 39)) (defScope (topS 39)) .none kV18 dc18 pm18 an18 cd18 ct18), sl18⟩) (c18 : PySem.W.codeIn K cd18 "fewest_free" = true) (k18 : PySem.W.keepIn K (.ref f18) = true)
    (a19 : PySem.W.nsIn K mainGlobals "_law_pot" = some (some (.ref f19))) (l19 : K.lookup f19 = some ⟨oc19, od19, .func (PySem.W.fnOf "_law_pot" "_law_pot" (defArgs (topS 41)) (defBody (topS 41)) (defScope (topS 41)) .none kV19 dc19 pm19 an19 cd19 ct19), sl19⟩) (c19 : PySem.W.codeIn K cd19 "_law_pot" = true) (k19 : PySem.W.keepIn K (.ref f19) = true)
    (a20 : PySem.W.nsIn K mainGlobals "_law_take" = some (some (.ref f20))) (l20 : K.lookup f20 = some ⟨oc20, od20, .func (PySem.W.fnOf "_law_take" "_law_take" (defArgs (topS 42)) (defBody (topS 42)) (defScope (topS 42)) .none kV20 dc20 pm20 an20 cd20 ct20), sl20⟩) (c20 : PySem.W.codeIn K cd20 "_law_take" = true) (k20 : PySem.W.keepIn K (.ref f20) = true)
    (a21 : PySem.W.nsIn K mainGlobals "_law_of" = some (some (.ref f21))) (l21 : K.lookup f21 = some ⟨oc21, od21, .func (PySem.W.fnOf "_law_of" "_law_of" (defArgs (topS 43)) (defBody (topS 43)) (defScope (topS 43)) .none kV21 dc21 pm21 an21 cd21 ct21), sl21⟩) (c21 : PySem.W.codeIn K cd21 "_law_of" = true) (k21 : PySem.W.keepIn K (.ref f21) = true)
    (a22 : PySem.W.nsIn K mainGlobals "_law_cells" = some (some (.ref f22))) (l22 : K.lookup f22 = some ⟨oc22, od22, .func (PySem.W.fnOf "_law_cells" "_law_cells" (defArgs (topS 44)) (defBody (topS 44)) (defScope (topS 44)) .none kV22 dc22 pm22 an22 cd22 ct22), sl22⟩) (c22 : PySem.W.codeIn K cd22 "_law_cells" = true) (k22 : PySem.W.keepIn K (.ref f22) = true)
    (a23 : PySem.W.nsIn K mainGlobals "_law_some" = some (some (.ref f23))) (l23 : K.lookup f23 = some ⟨oc23, od23, .func (PySem.W.fnOf "_law_some" "_law_some" (defArgs (topS 45)) (defBody (topS 45)) (defScope (topS 45)) .none kV23 dc23 pm23 an23 cd23 ct23), sl23⟩) (c23 : PySem.W.codeIn K cd23 "_law_some" = true) (k23 : PySem.W.keepIn K (.ref f23) = true)
    (a24 : PySem.W.nsIn K mainGlobals "_law_rods_drawn" = some (some (.ref f24))) (l24 : K.lookup f24 = some ⟨oc24, od24, .func (PySem.W.fnOf "_law_rods_drawn" "_law_rods_drawn" (defArgs (topS 46)) (defBody (topS 46)) (defScope (topS 46)) .none kV24 dc24 pm24 an24 cd24 ct24), sl24⟩) (c24 : PySem.W.codeIn K cd24 "_law_rods_drawn" = true) (k24 : PySem.W.keepIn K (.ref f24) = true)
    (a25 : PySem.W.nsIn K mainGlobals "_law_right" = some (some (.ref f25))) (l25 : K.lookup f25 = some ⟨oc25, od25, .func (PySem.W.fnOf "_law_right" "_law_right" (defArgs (topS 47)) (defBody (topS 47)) (defScope (topS 47)) .none kV25 dc25 pm25 an25 cd25 ct25), sl25⟩) (c25 : PySem.W.codeIn K cd25 "_law_right" = true) (k25 : PySem.W.keepIn K (.ref f25) = true)
    (a26 : PySem.W.nsIn K mainGlobals "law" = some (some (.ref f26))) (l26 : K.lookup f26 = some ⟨oc26, od26, .func (PySem.W.fnOf "law" "law" (defArgs (topS 48)) (defBody (topS 48)) (defScope (topS 48)) .none kV26 dc26 pm26 an26 cd26 ct26), sl26⟩) (c26 : PySem.W.codeIn K cd26 "law" = true) (k26 : PySem.W.keepIn K (.ref f26) = true)
    (zb0 : PySem.W.nsIn K mainGlobals "isinstance" = some none)
    (zb1 : PySem.W.nsIn K mainGlobals "int" = some none)
    (zb2 : PySem.W.nsIn K mainGlobals "bool" = some none)
    (zb3 : PySem.W.nsIn K mainGlobals "tuple" = some none)
    (zb4 : PySem.W.nsIn K mainGlobals "all" = some none)
    (zb5 : PySem.W.nsIn K mainGlobals "len" = some none)
    (zb6 : PySem.W.nsIn K mainGlobals "max" = some none)
    (zb7 : PySem.W.nsIn K mainGlobals "sum" = some none)
    (zb8 : PySem.W.nsIn K mainGlobals "min" = some none)
    (zb9 : PySem.W.nsIn K mainGlobals "abs" = some none)
    (zb10 : PySem.W.nsIn K mainGlobals "range" = some none)
    (zb11 : PySem.W.nsIn K mainGlobals "sorted" = some none)
    (zb12 : PySem.W.nsIn K mainGlobals "list" = some none)
    (zc0 : PySem.W.nsIn K mainGlobals "MOST_ROD" = some (some (.int 60 zt0)))
    (zc1 : PySem.W.nsIn K mainGlobals "MOST_RODS" = some (some (.int 12 zt1)))
    (zc2 : PySem.W.nsIn K mainGlobals "MOST_PLACE" = some (some (.int 10000 zt2)))
    (zc3 : PySem.W.nsIn K mainGlobals "MOST_BAR" = some (some (.int 10000 zt3)))
    (zc4 : PySem.W.nsIn K mainGlobals "FOUR" = some (some (.int 4 zt4)))
    (zc5 : PySem.W.nsIn K mainGlobals "FLAT" = some (some (.str "flat" zt5)))
    (zc6 : PySem.W.nsIn K mainGlobals "CRANKS" = some (some (.str "cranks" zt6)))
    (zc7 : PySem.W.nsIn K mainGlobals "CRANK" = some (some (.str "crank" zt7)))
    (zc8 : PySem.W.nsIn K mainGlobals "ROCKERS" = some (some (.str "rockers" zt8)))
    (zc9 : PySem.W.nsIn K mainGlobals "FAR" = some (some (.str "far" zt9)))
    (zc10 : PySem.W.nsIn K mainGlobals "NEAR" = some (some (.str "near" zt10)))
    (zc11 : PySem.W.nsIn K mainGlobals "REACHED" = some (some (.str "reached" zt11)))
    : ∃ fd : FuncData, (∀ (s : Shared) (v : Value), BindsTo s fd ⟨[v], []⟩ [("script", v)]) ∧ ∀ base : Heap, K.In base → base.Ns mainGlobals mg → FnOk l.prog w K mg base CX0 9 fa fd ["script"] (spF K 1 f_law) := by

  have e := hfa.symm.trans (PySem.W.mg_of X G0 a26)
  cases e

  have g : G K mg := ⟨PySem.W.mg_none_of X G0 zb0, PySem.W.mg_none_of X G0 zb1, PySem.W.mg_none_of X G0 zb2, PySem.W.mg_none_of X G0 zb3, PySem.W.mg_none_of X G0 zb4, PySem.W.mg_none_of X G0 zb5, PySem.W.mg_none_of X G0 zb6, PySem.W.mg_none_of X G0 zb7, PySem.W.mg_none_of X G0 zb8, PySem.W.mg_none_of X G0 zb9, PySem.W.mg_none_of X G0 zb10, PySem.W.mg_none_of X G0 zb11, PySem.W.mg_none_of X G0 zb12, ⟨_, PySem.W.mg_of X G0 zc0, ⟨_, rfl⟩⟩, ⟨_, PySem.W.mg_of X G0 zc1, ⟨_, rfl⟩⟩, ⟨_, PySem.W.mg_of X G0 zc2, ⟨_, rfl⟩⟩, ⟨_, PySem.W.mg_of X G0 zc3, ⟨_, rfl⟩⟩, ⟨_, PySem.W.mg_of X G0 zc4, ⟨_, rfl⟩⟩, ⟨_, PySem.W.mg_of X G0 zc5, ⟨_, rfl⟩⟩, ⟨_, PySem.W.mg_of X G0 zc6, ⟨_, rfl⟩⟩, ⟨_, PySem.W.mg_of X G0 zc7, ⟨_, rfl⟩⟩, ⟨_, PySem.W.mg_of X G0 zc8, ⟨_, rfl⟩⟩, ⟨_, PySem.W.mg_of X G0 zc9, ⟨_, rfl⟩⟩, ⟨_, PySem.W.mg_of X G0 zc10, ⟨_, rfl⟩⟩, ⟨_, PySem.W.mg_of X G0 zc11, ⟨_, rfl⟩⟩⟩

  have F0 := fun_mk (st := topS 7) l0 c0 k0
  have b0 := F0.binds (ps := ["value", "low", "high"]) fun _ _ _ _ _ _ us hl => match us, hl with | [_, _, _], _ => rfl

  have F1 := fun_mk (st := topS 8) l1 c1 k1
  have b1 := F1.binds (ps := ["value", "low", "high"]) fun _ _ _ _ _ _ us hl => match us, hl with | [_, _, _], _ => rfl

  have F2 := fun_mk (st := topS 13) l2 c2 k2
  have b2 := F2.binds (ps := ["value"]) fun _ _ _ _ _ _ us hl => match us, hl with | [_], _ => rfl

  have F3 := fun_mk (st := topS 14) l3 c3 k3
  have b3 := F3.binds (ps := ["rods"]) fun _ _ _ _ _ _ us hl => match us, hl with | [_], _ => rfl

  have F4 := fun_mk (st := topS 15) l4 c4 k4
  have b4 := F4.binds (ps := ["value"]) fun _ _ _ _ _ _ us hl => match us, hl with | [_], _ => rfl

  have F5 := fun_mk (st := topS 16) l5 c5 k5
  have b5 := F5.binds (ps := ["point"]) fun _ _ _ _ _ _ us hl => match us, hl with | [_], _ => rfl

  have F6 := fun_mk (st := topS 27) l6 c6 k6
  have b6 := F6.binds (ps := ["value"]) fun _ _ _ _ _ _ us hl => match us, hl with | [_], _ => rfl

  have F7 := fun_mk (st := topS 28) l7 c7 k7
  have b7 := F7.binds (ps := ["ring"]) fun _ _ _ _ _ _ us hl => match us, hl with | [_], _ => rfl

  have F8 := fun_mk (st := topS 29) l8 c8 k8
  have b8 := F8.binds (ps := ["ring", "corner"]) fun _ _ _ _ _ _ us hl => match us, hl with | [_, _], _ => rfl

  have F9 := fun_mk (st := topS 30) l9 c9 k9
  have b9 := F9.binds (ps := ["ring", "corner"]) fun _ _ _ _ _ _ us hl => match us, hl with | [_, _], _ => rfl

  have F10 := fun_mk (st := topS 31) l10 c10 k10
  have b10 := F10.binds (ps := ["ring", "corner"]) fun _ _ _ _ _ _ us hl => match us, hl with | [_, _], _ => rfl

  have F11 := fun_mk (st := topS 32) l11 c11 k11
  have b11 := F11.binds (ps := ["ring", "corner"]) fun _ _ _ _ _ _ us hl => match us, hl with | [_, _], _ => rfl

  have F12 := fun_mk (st := topS 33) l12 c12 k12
  have b12 := F12.binds (ps := ["ring"]) fun _ _ _ _ _ _ us hl => match us, hl with | [_], _ => rfl

  have F13 := fun_mk (st := topS 34) l13 c13 k13
  have b13 := F13.binds (ps := ["ring"]) fun _ _ _ _ _ _ us hl => match us, hl with | [_], _ => rfl

  have F14 := fun_mk (st := topS 35) l14 c14 k14
  have b14 := F14.binds (ps := ["ring", "ground"]) fun _ _ _ _ _ _ us hl => match us, hl with | [_, _], _ => rfl

  have F15 := fun_mk (st := topS 36) l15 c15 k15
  have b15 := F15.binds (ps := ["rods"]) fun _ _ _ _ _ _ us hl => match us, hl with | [_], _ => rfl

  have F16 := fun_mk (st := topS 37) l16 c16 k16
  have b16 := F16.binds (ps := ["rods"]) fun _ _ _ _ _ _ us hl => match us, hl with | [_], _ => rfl

  have F17 := fun_mk (st := topS 38) l17 c17 k17
  have b17 := F17.binds (ps := ["rods", "point"]) fun _ _ _ _ _ _ us hl => match us, hl with | [_, _], _ => rfl

  have F18 := fun_mk (st := topS 39) l18 c18 k18
  have b18 := F18.binds (ps := ["rods", "point"]) fun _ _ _ _ _ _ us hl => match us, hl with | [_, _], _ => rfl

  have F19 := fun_mk (st := topS 41) l19 c19 k19
  have b19 := F19.binds (ps := ["script", "place"]) fun _ _ _ _ _ _ us hl => match us, hl with | [_, _], _ => rfl

  have F20 := fun_mk (st := topS 42) l20 c20 k20
  have b20 := F20.binds (ps := ["pot", "upto"]) fun _ _ _ _ _ _ us hl => match us, hl with | [_, _], _ => rfl

  have F21 := fun_mk (st := topS 43) l21 c21 k21
  have b21 := F21.binds (ps := ["pot", "some"]) fun _ _ _ _ _ _ us hl => match us, hl with | [_, _], _ => rfl

  have F22 := fun_mk (st := topS 44) l22 c22 k22
  have b22 := F22.binds (ps := ["script", "most"]) fun _ _ _ _ _ _ us hl => match us, hl with | [_, _], _ => rfl

  have F23 := fun_mk (st := topS 45) l23 c23 k23
  have b23 := F23.binds (ps := ["pot", "pool", "many"]) fun _ _ _ _ _ _ us hl => match us, hl with | [_, _, _], _ => rfl

  have F24 := fun_mk (st := topS 46) l24 c24 k24
  have b24 := F24.binds (ps := ["pot", "most", "long"]) fun _ _ _ _ _ _ us hl => match us, hl with | [_, _, _], _ => rfl

  have F25 := fun_mk (st := topS 47) l25 c25 k25
  have b25 := F25.binds (ps := ["pot"]) fun _ _ _ _ _ _ us hl => match us, hl with | [_], _ => rfl

  have F26 := fun_mk (st := topS 48) l26 c26 k26
  have b26 := F26.binds (ps := ["script"]) fun _ _ _ _ _ _ us hl => match us, hl with | [_], _ => rfl

  refine ⟨PySem.W.fnOf "law" "law" (defArgs (topS 48)) (defBody (topS 48)) (defScope (topS 48)) .none kV26 dc26 pm26 an26 cd26 ct26, fun s v => .of_eq rfl, fun base _ _ => ?_⟩

  have d_is_int : Def l.prog w K mg base "is_int" 1 3 f_is_int := Lk51.d_is_int g  (PySem.W.mg_of X G0 a0) F0 b0

  have d_are_ints : Def l.prog w K mg base "are_ints" 2 3 f_are_ints := Lk51.d_are_ints g d_is_int (PySem.W.mg_of X G0 a1) F1 b1

  have d_is_rods : Def l.prog w K mg base "is_rods" 3 1 f_is_rods := Lk51.d_is_rods g d_are_ints (PySem.W.mg_of X G0 a2) F2 b2

  have d_look_at_rods : Def l.prog w K mg base "look_at_rods" 4 1 f_look_at_rods := Lk51.d_look_at_rods g d_is_rods (PySem.W.mg_of X G0 a3) F3 b3

  have d_is_point : Def l.prog w K mg base "is_point" 3 1 f_is_point := Lk51.d_is_point g d_are_ints (PySem.W.mg_of X G0 a4) F4 b4

  have d_look_at_point : Def l.prog w K mg base "look_at_point" 4 1 f_look_at_point := Lk51.d_look_at_point g d_is_point (PySem.W.mg_of X G0 a5) F5 b5

  have d_is_ring : Def l.prog w K mg base "is_ring" 3 1 f_is_ring := Lk51.d_is_ring g d_are_ints (PySem.W.mg_of X G0 a6) F6 b6

  have d_look_at_ring : Def l.prog w K mg base "look_at_ring" 4 1 f_look_at_ring := Lk51.d_look_at_ring g d_is_ring (PySem.W.mg_of X G0 a7) F7 b7

  have d_told_span : Def l.prog w K mg base "told_span" 1 2 f_told_span := Lk51.d_told_span g  (PySem.W.mg_of X G0 a8) F8 b8

  have d_look_at_corner : Def l.prog w K mg base "look_at_corner" 5 2 f_look_at_corner := Lk51.d_look_at_corner g d_look_at_ring d_is_int (PySem.W.mg_of X G0 a9) F9 b9

  have d_span_at : Def l.prog w K mg base "span_at" 6 2 f_span_at := Lk51.d_span_at g d_look_at_corner d_told_span (PySem.W.mg_of X G0 a10) F10 b10

  have d_turns_round : Def l.prog w K mg base "turns_round" 6 2 f_turns_round := Lk51.d_turns_round g d_look_at_corner d_told_span (PySem.W.mg_of X G0 a11) F11 b11

  have d_round_corners : Def l.prog w K mg base "round_corners" 7 1 f_round_corners := Lk51.d_round_corners g d_look_at_ring d_turns_round (PySem.W.mg_of X G0 a12) F12 b12

  have d_grashof : Def l.prog w K mg base "grashof" 5 1 f_grashof := Lk51.d_grashof g d_look_at_ring (PySem.W.mg_of X G0 a13) F13 b13

  have d_kind_of_ring : Def l.prog w K mg base "kind_of_ring" 7 2 f_kind_of_ring := Lk51.d_kind_of_ring g d_look_at_ring d_is_int d_grashof d_turns_round (PySem.W.mg_of X G0 a14) F14 b14

  have d_told_ring_of : Def l.prog w K mg base "told_ring_of" 1 1 f_told_ring_of := Lk51.d_told_ring_of g  (PySem.W.mg_of X G0 a15) F15 b15

  have d_free_reach : Def l.prog w K mg base "free_reach" 5 1 f_free_reach := Lk51.d_free_reach g d_look_at_rods d_told_ring_of (PySem.W.mg_of X G0 a16) F16 b16

  have d_reached_freely : Def l.prog w K mg base "reached_freely" 5 2 f_reached_freely := Lk51.d_reached_freely g d_look_at_rods d_look_at_point d_told_ring_of (PySem.W.mg_of X G0 a17) F17 b17

  have d_fewest_free : Def l.prog w K mg base "fewest_free" 6 2 f_fewest_free := Lk51.d_fewest_free g d_look_at_rods d_look_at_point d_reached_freely (PySem.W.mg_of X G0 a18) F18 b18

  have d__law_pot : DefP l.prog w K mg base "_law_pot" 1 2 f__law_pot := Lk51.d__law_pot g  (PySem.W.mg_of X G0 a19) F19 b19

  have d__law_take : Def l.prog w K mg base "_law_take" 1 2 f__law_take := Lk51.d__law_take g  (PySem.W.mg_of X G0 a20) F20 b20

  have d__law_of : Def l.prog w K mg base "_law_of" 2 2 f__law_of := Lk51.d__law_of g d__law_take (PySem.W.mg_of X G0 a21) F21 b21

  have d__law_cells : Def l.prog w K mg base "_law_cells" 1 2 f__law_cells := Lk51.d__law_cells g  (PySem.W.mg_of X G0 a22) F22 b22

  have d__law_some : Def l.prog w K mg base "_law_some" 2 3 f__law_some := Lk51.d__law_some g d__law_take (PySem.W.mg_of X G0 a23) F23 b23

  have d__law_rods_drawn : Def l.prog w K mg base "_law_rods_drawn" 2 3 f__law_rods_drawn := Lk51.d__law_rods_drawn g d__law_take (PySem.W.mg_of X G0 a24) F24 b24

  have d__law_right : Def l.prog w K mg base "_law_right" 8 1 f__law_right := Lk51.d__law_right g d__law_of d__law_take d_span_at d_turns_round d_kind_of_ring d_grashof d_round_corners d__law_rods_drawn d__law_some d_free_reach d_reached_freely d_fewest_free (PySem.W.mg_of X G0 a25) F25 b25

  exact fn_law g d__law_cells d__law_pot d__law_right F26

end Lk51

namespace Lk51
open PySem PySem.Spec PyProof.Rows L2 Rb
/-! ### the checks -/
theorem is_int_ev {x lo hi : Int} {p : Pt} : f_is_int [.int x, .int lo, .int hi] p = some (.bl (decide (lo ≤ x) && decide (x ≤ hi)), p) := by
  by_cases h : lo ≤ x
  · simp only [cFz, at40, at41, at42, at43, at20, at21, at30, at31, at32, List.set, dMod_ev, Int.reduceMod, Int.reduceLT, Int.reduceSub, Int.reduceMul, Int.reduceToNat, Nat.reduceLT, Int.zero_add, Int.reduceLE, fAll_b, runF, cSeq, cIf, cSet, cRet, cRetN, cSkip, cCont, cBrk, cVar, cD, cBin, cUn, cBi, aNil, aCons, cTup, cLst, bT, bAnd, bOr, bNot, cAnd, cOr, cNot, cIte, cChain, cIsi, dTy, kb1, kb2, kb3, kb4, kb5, kb6, kb7, fAbs_ev, fMax_ev, fMin_ev, wipeS, Function.comp_apply, Function.comp_def, dIx, dGetAny, cPotGet, cPotSet, getP, setP, cCall, fInt, fLen, fTuple, fList, cLenV, dLt, dLe, dGt, dGe, dB2, dAdd, dSub_ev, dNeg, Nat.reduceLeDiff, cs0, cs1, cs2, cs3, cs4, cs5, cs6, cs7, cs8, cs9, cs10, cs11, cs12, Int.ofNat_eq_natCast, dEq_int, dNe_int, dEq_pair, dNe_pair, dIsN, dNotN, cPar, cPar3, cAsg, gN, gT, gsCons, gsNil, bdOf, cSl, oNone, oSome, dSl, iSeq, iRg1, iRg2, cExpr, dRev, List.map_cons, List.map_nil, List.length_cons, List.length_nil, List.cons_append, List.nil_append, List.append_nil, List.replicate, List.getElem?_cons_zero, List.getElem?_cons_succ, List.set_cons_zero, List.set_cons_succ, Option.bind_some, Option.map_some, Option.bind_none, Option.map_none, Nat.reduceAdd, Nat.reduceSub, Int.reduceAdd, Int.reduceNeg, decide_true, decide_false, Bool.not_true, Bool.not_false, if_true, if_false, Bool.false_eq_true, if_pos, reduceIte, reduceCtorEq, Option.some.injEq, Prod.mk.injEq, and_self, and_true, true_and, szOk, f_is_int, c_is_int, h]
    simp
  · simp only [cFz, at40, at41, at42, at43, at20, at21, at30, at31, at32, List.set, dMod_ev, Int.reduceMod, Int.reduceLT, Int.reduceSub, Int.reduceMul, Int.reduceToNat, Nat.reduceLT, Int.zero_add, Int.reduceLE, fAll_b, runF, cSeq, cIf, cSet, cRet, cRetN, cSkip, cCont, cBrk, cVar, cD, cBin, cUn, cBi, aNil, aCons, cTup, cLst, bT, bAnd, bOr, bNot, cAnd, cOr, cNot, cIte, cChain, cIsi, dTy, kb1, kb2, kb3, kb4, kb5, kb6, kb7, fAbs_ev, fMax_ev, fMin_ev, wipeS, Function.comp_apply, Function.comp_def, dIx, dGetAny, cPotGet, cPotSet, getP, setP, cCall, fInt, fLen, fTuple, fList, cLenV, dLt, dLe, dGt, dGe, dB2, dAdd, dSub_ev, dNeg, Nat.reduceLeDiff, cs0, cs1, cs2, cs3, cs4, cs5, cs6, cs7, cs8, cs9, cs10, cs11, cs12, Int.ofNat_eq_natCast, dEq_int, dNe_int, dEq_pair, dNe_pair, dIsN, dNotN, cPar, cPar3, cAsg, gN, gT, gsCons, gsNil, bdOf, cSl, oNone, oSome, dSl, iSeq, iRg1, iRg2, cExpr, dRev, List.map_cons, List.map_nil, List.length_cons, List.length_nil, List.cons_append, List.nil_append, List.append_nil, List.replicate, List.getElem?_cons_zero, List.getElem?_cons_succ, List.set_cons_zero, List.set_cons_succ, Option.bind_some, Option.map_some, Option.bind_none, Option.map_none, Nat.reduceAdd, Nat.reduceSub, Int.reduceAdd, Int.reduceNeg, decide_true, decide_false, Bool.not_true, Bool.not_false, if_true, if_false, Bool.false_eq_true, if_pos, reduceIte, reduceCtorEq, Option.some.injEq, Prod.mk.injEq, and_self, and_true, true_and, szOk, f_is_int, c_is_int, h]
    simp
theorem are_ints_ev {ns : List Int} {lo hi : Int} {p : Pt} (h : ∀ x ∈ ns, lo ≤ x ∧ x ≤ hi) (hz : ns.length ≤ 1000) : f_are_ints [.tup (ns.map .int), .int lo, .int hi] p = some (.bl true, p) := by
  have e := lc_map (it := iSeq (cVar 0)) (te := cCall f_is_int (aCons (cVar 3) (aCons (cVar 1) (aCons (cVar 2) aNil)))) (i := 3) (p := p) (r := [.val (.tup (ns.map .int)), .val (.int lo), .val (.int hi), .no]) (b0 := .no) (s0 := ⟨[.val (.tup (ns.map .int)), .val (.int lo), .val (.int hi), .no], p⟩) (ds := ns.map .int) (φ := fun _ => .bl true) rfl rfl rfl (fun d hd => by
    obtain ⟨x, hx, rfl⟩ := List.mem_map.1 hd
    obtain ⟨h1, h2⟩ := h x hx
    refine ⟨false, ?_⟩
    simp only [cFz, at40, at41, at42, at43, at20, at21, at30, at31, at32, List.set, dMod_ev, Int.reduceMod, Int.reduceLT, Int.reduceSub, Int.reduceMul, Int.reduceToNat, Nat.reduceLT, Int.zero_add, Int.reduceLE, fAll_b, runF, cSeq, cIf, cSet, cRet, cRetN, cSkip, cCont, cBrk, cVar, cD, cBin, cUn, cBi, aNil, aCons, cTup, cLst, bT, bAnd, bOr, bNot, cAnd, cOr, cNot, cIte, cChain, cIsi, dTy, kb1, kb2, kb3, kb4, kb5, kb6, kb7, fAbs_ev, fMax_ev, fMin_ev, wipeS, Function.comp_apply, Function.comp_def, dIx, dGetAny, cPotGet, cPotSet, getP, setP, cCall, fInt, fLen, fTuple, fList, cLenV, dLt, dLe, dGt, dGe, dB2, dAdd, dSub_ev, dNeg, Nat.reduceLeDiff, cs0, cs1, cs2, cs3, cs4, cs5, cs6, cs7, cs8, cs9, cs10, cs11, cs12, Int.ofNat_eq_natCast, dEq_int, dNe_int, dEq_pair, dNe_pair, dIsN, dNotN, cPar, cPar3, cAsg, gN, gT, gsCons, gsNil, bdOf, cSl, oNone, oSome, dSl, iSeq, iRg1, iRg2, cExpr, dRev, List.map_cons, List.map_nil, List.length_cons, List.length_nil, List.cons_append, List.nil_append, List.append_nil, List.replicate, List.getElem?_cons_zero, List.getElem?_cons_succ, List.set_cons_zero, List.set_cons_succ, Option.bind_some, Option.map_some, Option.bind_none, Option.map_none, Nat.reduceAdd, Nat.reduceSub, Int.reduceAdd, Int.reduceNeg, decide_true, decide_false, Bool.not_true, Bool.not_false, if_true, if_false, Bool.false_eq_true, if_pos, reduceIte, reduceCtorEq, Option.some.injEq, Prod.mk.injEq, and_self, and_true, true_and, szOk, is_int_ev, h1, h2, Bool.and_self]) (by rw [List.length_map]; omega)
  have e2 : (ns.map D.int).map (fun _ => D.bl true) = (ns.map fun _ => true).map D.bl := by simp
  rw [e2] at e
  simp only [cFz, at40, at41, at42, at43, at20, at21, at30, at31, at32, List.set, dMod_ev, Int.reduceMod, Int.reduceLT, Int.reduceSub, Int.reduceMul, Int.reduceToNat, Nat.reduceLT, Int.zero_add, Int.reduceLE, fAll_b, runF, cSeq, cIf, cSet, cRet, cRetN, cSkip, cCont, cBrk, cVar, cD, cBin, cUn, cBi, aNil, aCons, cTup, cLst, bT, bAnd, bOr, bNot, cAnd, cOr, cNot, cIte, cChain, cIsi, dTy, kb1, kb2, kb3, kb4, kb5, kb6, kb7, fAbs_ev, fMax_ev, fMin_ev, wipeS, Function.comp_apply, Function.comp_def, dIx, dGetAny, cPotGet, cPotSet, getP, setP, cCall, fInt, fLen, fTuple, fList, cLenV, dLt, dLe, dGt, dGe, dB2, dAdd, dSub_ev, dNeg, Nat.reduceLeDiff, cs0, cs1, cs2, cs3, cs4, cs5, cs6, cs7, cs8, cs9, cs10, cs11, cs12, Int.ofNat_eq_natCast, dEq_int, dNe_int, dEq_pair, dNe_pair, dIsN, dNotN, cPar, cPar3, cAsg, gN, gT, gsCons, gsNil, bdOf, cSl, oNone, oSome, dSl, iSeq, iRg1, iRg2, cExpr, dRev, List.map_cons, List.map_nil, List.length_cons, List.length_nil, List.cons_append, List.nil_append, List.append_nil, List.replicate, List.getElem?_cons_zero, List.getElem?_cons_succ, List.set_cons_zero, List.set_cons_succ, Option.bind_some, Option.map_some, Option.bind_none, Option.map_none, Nat.reduceAdd, Nat.reduceSub, Int.reduceAdd, Int.reduceNeg, decide_true, decide_false, Bool.not_true, Bool.not_false, if_true, if_false, Bool.false_eq_true, if_pos, reduceIte, reduceCtorEq, Option.some.injEq, Prod.mk.injEq, and_self, and_true, true_and, szOk, f_are_ints, c_are_ints, e, fAll_b]
  simp
/-! ### rings of four -/
structure Vr (M a b c d : Int) : Prop where
  a1 : 1 ≤ a ∧ a ≤ M
  b1 : 1 ≤ b ∧ b ≤ M
  c1 : 1 ≤ c ∧ c ≤ M
  d1 : 1 ≤ d ∧ d ≤ M
  a2 : 2 * a ≤ a + b + c + d
  b2 : 2 * b ≤ a + b + c + d
  c2 : 2 * c ≤ a + b + c + d
  d2 : 2 * d ≤ a + b + c + d
theorem Vr.rot {M a b c d : Int} (v : Vr M a b c d) : Vr M b c d a := ⟨v.b1, v.c1, v.d1, v.a1, by have := v.b2; omega, by have := v.c2; omega, by have := v.d2; omega, by have := v.a2; omega⟩
theorem Vr.back {M a b c d : Int} (v : Vr M a b c d) : Vr M d c b a := ⟨v.d1, v.c1, v.b1, v.a1, by have := v.d2; omega, by have := v.c2; omega, by have := v.b2; omega, by have := v.a2; omega⟩
theorem Vr.big {M N a b c d : Int} (v : Vr M a b c d) (h : M ≤ N) : Vr N a b c d := ⟨⟨v.a1.1, by have := v.a1; omega⟩, ⟨v.b1.1, by have := v.b1; omega⟩, ⟨v.c1.1, by have := v.c1; omega⟩, ⟨v.d1.1, by have := v.d1; omega⟩, v.a2, v.b2, v.c2, v.d2⟩
abbrev R (a b c d : Int) : D := .tup [.int a, .int b, .int c, .int d]
section
variable {a b c d : Int} {p : Pt}
theorem is_ring_ev (v : Vr 10000 a b c d) : f_is_ring [R a b c d] p = some (.bl true, p) := by
  have e := are_ints_ev (ns := [a, b, c, d]) (lo := 1) (hi := 10000) (p := p) (by
    intro x hx
    simp only [List.mem_cons, List.not_mem_nil, or_false] at hx
    rcases hx with rfl | rfl | rfl | rfl
    · exact v.a1
    · exact v.b1
    · exact v.c1
    · exact v.d1) (by simp)
  have e2 : fMax [.tup [.int a, .int b, .int c, .int d]] = some (.int (maxL [a, b, c, d]), false) := fMax_t (ns := [a, b, c, d]) (by simp)
  have e3 : fSum [.tup [.int a, .int b, .int c, .int d]] = some (.int (a + (b + (c + (d + 0)))), false) := fSum_t (ns := [a, b, c, d])
  have hm : 2 * maxL [a, b, c, d] ≤ a + (b + (c + (d + 0))) := by
    have := v.a2; have := v.b2; have := v.c2; have := v.d2
    simp only [maxL, List.foldl_cons, List.foldl_nil]
    omega
  have hb : -1180591620717411303424 ≤ maxL [a, b, c, d] ∧ maxL [a, b, c, d] ≤ 1180591620717411303424 := by
    have := v.a1; have := v.b1; have := v.c1; have := v.d1
    simp only [maxL, List.foldl_cons, List.foldl_nil]
    omega
  have e4 : dMulI (.int 2) (.int (maxL [a, b, c, d])) = some (.int (2 * maxL [a, b, c, d]), false) := dMul_i (by decide) hb
  simp only [List.map_cons, List.map_nil] at e
  simp only [cFz, at40, at41, at42, at43, at20, at21, at30, at31, at32, List.set, dMod_ev, Int.reduceMod, Int.reduceLT, Int.reduceSub, Int.reduceMul, Int.reduceToNat, Nat.reduceLT, Int.zero_add, Int.reduceLE, fAll_b, runF, cSeq, cIf, cSet, cRet, cRetN, cSkip, cCont, cBrk, cVar, cD, cBin, cUn, cBi, aNil, aCons, cTup, cLst, bT, bAnd, bOr, bNot, cAnd, cOr, cNot, cIte, cChain, cIsi, dTy, kb1, kb2, kb3, kb4, kb5, kb6, kb7, fAbs_ev, fMax_ev, fMin_ev, wipeS, Function.comp_apply, Function.comp_def, dIx, dGetAny, cPotGet, cPotSet, getP, setP, cCall, fInt, fLen, fTuple, fList, cLenV, dLt, dLe, dGt, dGe, dB2, dAdd, dSub_ev, dNeg, Nat.reduceLeDiff, cs0, cs1, cs2, cs3, cs4, cs5, cs6, cs7, cs8, cs9, cs10, cs11, cs12, Int.ofNat_eq_natCast, dEq_int, dNe_int, dEq_pair, dNe_pair, dIsN, dNotN, cPar, cPar3, cAsg, gN, gT, gsCons, gsNil, bdOf, cSl, oNone, oSome, dSl, iSeq, iRg1, iRg2, cExpr, dRev, List.map_cons, List.map_nil, List.length_cons, List.length_nil, List.cons_append, List.nil_append, List.append_nil, List.replicate, List.getElem?_cons_zero, List.getElem?_cons_succ, List.set_cons_zero, List.set_cons_succ, Option.bind_some, Option.map_some, Option.bind_none, Option.map_none, Nat.reduceAdd, Nat.reduceSub, Int.reduceAdd, Int.reduceNeg, decide_true, decide_false, Bool.not_true, Bool.not_false, if_true, if_false, Bool.false_eq_true, if_pos, reduceIte, reduceCtorEq, Option.some.injEq, Prod.mk.injEq, and_self, and_true, true_and, szOk, f_is_ring, c_is_ring, e, dNe_int, e2, e3, e4, hm]
theorem look_ring_ev (v : Vr 10000 a b c d) : f_look_at_ring [R a b c d] p = some (.non, p) := by
  simp only [cFz, at40, at41, at42, at43, at20, at21, at30, at31, at32, List.set, dMod_ev, Int.reduceMod, Int.reduceLT, Int.reduceSub, Int.reduceMul, Int.reduceToNat, Nat.reduceLT, Int.zero_add, Int.reduceLE, fAll_b, runF, cSeq, cIf, cSet, cRet, cRetN, cSkip, cCont, cBrk, cVar, cD, cBin, cUn, cBi, aNil, aCons, cTup, cLst, bT, bAnd, bOr, bNot, cAnd, cOr, cNot, cIte, cChain, cIsi, dTy, kb1, kb2, kb3, kb4, kb5, kb6, kb7, fAbs_ev, fMax_ev, fMin_ev, wipeS, Function.comp_apply, Function.comp_def, dIx, dGetAny, cPotGet, cPotSet, getP, setP, cCall, fInt, fLen, fTuple, fList, cLenV, dLt, dLe, dGt, dGe, dB2, dAdd, dSub_ev, dNeg, Nat.reduceLeDiff, cs0, cs1, cs2, cs3, cs4, cs5, cs6, cs7, cs8, cs9, cs10, cs11, cs12, Int.ofNat_eq_natCast, dEq_int, dNe_int, dEq_pair, dNe_pair, dIsN, dNotN, cPar, cPar3, cAsg, gN, gT, gsCons, gsNil, bdOf, cSl, oNone, oSome, dSl, iSeq, iRg1, iRg2, cExpr, dRev, List.map_cons, List.map_nil, List.length_cons, List.length_nil, List.cons_append, List.nil_append, List.append_nil, List.replicate, List.getElem?_cons_zero, List.getElem?_cons_succ, List.set_cons_zero, List.set_cons_succ, Option.bind_some, Option.map_some, Option.bind_none, Option.map_none, Nat.reduceAdd, Nat.reduceSub, Int.reduceAdd, Int.reduceNeg, decide_true, decide_false, Bool.not_true, Bool.not_false, if_true, if_false, Bool.false_eq_true, if_pos, reduceIte, reduceCtorEq, Option.some.injEq, Prod.mk.injEq, and_self, and_true, true_and, szOk, f_look_at_ring, c_look_at_ring, is_ring_ev v]
theorem look_corner_ev {k : Int} (v : Vr 10000 a b c d) (hk : 0 ≤ k ∧ k ≤ 3) : f_look_at_corner [R a b c d, .int k] p = some (.non, p) := by
  simp only [cFz, at40, at41, at42, at43, at20, at21, at30, at31, at32, List.set, dMod_ev, Int.reduceMod, Int.reduceLT, Int.reduceSub, Int.reduceMul, Int.reduceToNat, Nat.reduceLT, Int.zero_add, Int.reduceLE, fAll_b, runF, cSeq, cIf, cSet, cRet, cRetN, cSkip, cCont, cBrk, cVar, cD, cBin, cUn, cBi, aNil, aCons, cTup, cLst, bT, bAnd, bOr, bNot, cAnd, cOr, cNot, cIte, cChain, cIsi, dTy, kb1, kb2, kb3, kb4, kb5, kb6, kb7, fAbs_ev, fMax_ev, fMin_ev, wipeS, Function.comp_apply, Function.comp_def, dIx, dGetAny, cPotGet, cPotSet, getP, setP, cCall, fInt, fLen, fTuple, fList, cLenV, dLt, dLe, dGt, dGe, dB2, dAdd, dSub_ev, dNeg, Nat.reduceLeDiff, cs0, cs1, cs2, cs3, cs4, cs5, cs6, cs7, cs8, cs9, cs10, cs11, cs12, Int.ofNat_eq_natCast, dEq_int, dNe_int, dEq_pair, dNe_pair, dIsN, dNotN, cPar, cPar3, cAsg, gN, gT, gsCons, gsNil, bdOf, cSl, oNone, oSome, dSl, iSeq, iRg1, iRg2, cExpr, dRev, List.map_cons, List.map_nil, List.length_cons, List.length_nil, List.cons_append, List.nil_append, List.append_nil, List.replicate, List.getElem?_cons_zero, List.getElem?_cons_succ, List.set_cons_zero, List.set_cons_succ, Option.bind_some, Option.map_some, Option.bind_none, Option.map_none, Nat.reduceAdd, Nat.reduceSub, Int.reduceAdd, Int.reduceNeg, decide_true, decide_false, Bool.not_true, Bool.not_false, if_true, if_false, Bool.false_eq_true, if_pos, reduceIte, reduceCtorEq, Option.some.injEq, Prod.mk.injEq, and_self, and_true, true_and, szOk, f_look_at_corner, c_look_at_corner, look_ring_ev v, is_int_ev, hk.1, hk.2, Bool.and_self]
abbrev spX (a b c d : Int) : Int := mx (ab (a - b)) (ab (c - d))
abbrev spY (a b c d : Int) : Int := mn (a + b) (c + d)
abbrev Sp (a b c d : Int) : D := .tup [.int (spX a b c d), .int (spY a b c d)]
theorem told0 : f_told_span [R a b c d, .int 0] p = some (Sp a b c d, p) := by simp only [cFz, at40, at41, at42, at43, at20, at21, at30, at31, at32, List.set, dMod_ev, Int.reduceMod, Int.reduceLT, Int.reduceSub, Int.reduceMul, Int.reduceToNat, Nat.reduceLT, Int.zero_add, Int.reduceLE, fAll_b, runF, cSeq, cIf, cSet, cRet, cRetN, cSkip, cCont, cBrk, cVar, cD, cBin, cUn, cBi, aNil, aCons, cTup, cLst, bT, bAnd, bOr, bNot, cAnd, cOr, cNot, cIte, cChain, cIsi, dTy, kb1, kb2, kb3, kb4, kb5, kb6, kb7, fAbs_ev, fMax_ev, fMin_ev, wipeS, Function.comp_apply, Function.comp_def, dIx, dGetAny, cPotGet, cPotSet, getP, setP, cCall, fInt, fLen, fTuple, fList, cLenV, dLt, dLe, dGt, dGe, dB2, dAdd, dSub_ev, dNeg, Nat.reduceLeDiff, cs0, cs1, cs2, cs3, cs4, cs5, cs6, cs7, cs8, cs9, cs10, cs11, cs12, Int.ofNat_eq_natCast, dEq_int, dNe_int, dEq_pair, dNe_pair, dIsN, dNotN, cPar, cPar3, cAsg, gN, gT, gsCons, gsNil, bdOf, cSl, oNone, oSome, dSl, iSeq, iRg1, iRg2, cExpr, dRev, List.map_cons, List.map_nil, List.length_cons, List.length_nil, List.cons_append, List.nil_append, List.append_nil, List.replicate, List.getElem?_cons_zero, List.getElem?_cons_succ, List.set_cons_zero, List.set_cons_succ, Option.bind_some, Option.map_some, Option.bind_none, Option.map_none, Nat.reduceAdd, Nat.reduceSub, Int.reduceAdd, Int.reduceNeg, decide_true, decide_false, Bool.not_true, Bool.not_false, if_true, if_false, Bool.false_eq_true, if_pos, reduceIte, reduceCtorEq, Option.some.injEq, Prod.mk.injEq, and_self, and_true, true_and, szOk, f_told_span, c_told_span]
theorem told1 : f_told_span [R a b c d, .int 1] p = some (Sp b c d a, p) := by simp only [cFz, at40, at41, at42, at43, at20, at21, at30, at31, at32, List.set, dMod_ev, Int.reduceMod, Int.reduceLT, Int.reduceSub, Int.reduceMul, Int.reduceToNat, Nat.reduceLT, Int.zero_add, Int.reduceLE, fAll_b, runF, cSeq, cIf, cSet, cRet, cRetN, cSkip, cCont, cBrk, cVar, cD, cBin, cUn, cBi, aNil, aCons, cTup, cLst, bT, bAnd, bOr, bNot, cAnd, cOr, cNot, cIte, cChain, cIsi, dTy, kb1, kb2, kb3, kb4, kb5, kb6, kb7, fAbs_ev, fMax_ev, fMin_ev, wipeS, Function.comp_apply, Function.comp_def, dIx, dGetAny, cPotGet, cPotSet, getP, setP, cCall, fInt, fLen, fTuple, fList, cLenV, dLt, dLe, dGt, dGe, dB2, dAdd, dSub_ev, dNeg, Nat.reduceLeDiff, cs0, cs1, cs2, cs3, cs4, cs5, cs6, cs7, cs8, cs9, cs10, cs11, cs12, Int.ofNat_eq_natCast, dEq_int, dNe_int, dEq_pair, dNe_pair, dIsN, dNotN, cPar, cPar3, cAsg, gN, gT, gsCons, gsNil, bdOf, cSl, oNone, oSome, dSl, iSeq, iRg1, iRg2, cExpr, dRev, List.map_cons, List.map_nil, List.length_cons, List.length_nil, List.cons_append, List.nil_append, List.append_nil, List.replicate, List.getElem?_cons_zero, List.getElem?_cons_succ, List.set_cons_zero, List.set_cons_succ, Option.bind_some, Option.map_some, Option.bind_none, Option.map_none, Nat.reduceAdd, Nat.reduceSub, Int.reduceAdd, Int.reduceNeg, decide_true, decide_false, Bool.not_true, Bool.not_false, if_true, if_false, Bool.false_eq_true, if_pos, reduceIte, reduceCtorEq, Option.some.injEq, Prod.mk.injEq, and_self, and_true, true_and, szOk, f_told_span, c_told_span]
theorem told2 : f_told_span [R a b c d, .int 2] p = some (Sp c d a b, p) := by simp only [cFz, at40, at41, at42, at43, at20, at21, at30, at31, at32, List.set, dMod_ev, Int.reduceMod, Int.reduceLT, Int.reduceSub, Int.reduceMul, Int.reduceToNat, Nat.reduceLT, Int.zero_add, Int.reduceLE, fAll_b, runF, cSeq, cIf, cSet, cRet, cRetN, cSkip, cCont, cBrk, cVar, cD, cBin, cUn, cBi, aNil, aCons, cTup, cLst, bT, bAnd, bOr, bNot, cAnd, cOr, cNot, cIte, cChain, cIsi, dTy, kb1, kb2, kb3, kb4, kb5, kb6, kb7, fAbs_ev, fMax_ev, fMin_ev, wipeS, Function.comp_apply, Function.comp_def, dIx, dGetAny, cPotGet, cPotSet, getP, setP, cCall, fInt, fLen, fTuple, fList, cLenV, dLt, dLe, dGt, dGe, dB2, dAdd, dSub_ev, dNeg, Nat.reduceLeDiff, cs0, cs1, cs2, cs3, cs4, cs5, cs6, cs7, cs8, cs9, cs10, cs11, cs12, Int.ofNat_eq_natCast, dEq_int, dNe_int, dEq_pair, dNe_pair, dIsN, dNotN, cPar, cPar3, cAsg, gN, gT, gsCons, gsNil, bdOf, cSl, oNone, oSome, dSl, iSeq, iRg1, iRg2, cExpr, dRev, List.map_cons, List.map_nil, List.length_cons, List.length_nil, List.cons_append, List.nil_append, List.append_nil, List.replicate, List.getElem?_cons_zero, List.getElem?_cons_succ, List.set_cons_zero, List.set_cons_succ, Option.bind_some, Option.map_some, Option.bind_none, Option.map_none, Nat.reduceAdd, Nat.reduceSub, Int.reduceAdd, Int.reduceNeg, decide_true, decide_false, Bool.not_true, Bool.not_false, if_true, if_false, Bool.false_eq_true, if_pos, reduceIte, reduceCtorEq, Option.some.injEq, Prod.mk.injEq, and_self, and_true, true_and, szOk, f_told_span, c_told_span]
theorem told3 : f_told_span [R a b c d, .int 3] p = some (Sp d a b c, p) := by simp only [cFz, at40, at41, at42, at43, at20, at21, at30, at31, at32, List.set, dMod_ev, Int.reduceMod, Int.reduceLT, Int.reduceSub, Int.reduceMul, Int.reduceToNat, Nat.reduceLT, Int.zero_add, Int.reduceLE, fAll_b, runF, cSeq, cIf, cSet, cRet, cRetN, cSkip, cCont, cBrk, cVar, cD, cBin, cUn, cBi, aNil, aCons, cTup, cLst, bT, bAnd, bOr, bNot, cAnd, cOr, cNot, cIte, cChain, cIsi, dTy, kb1, kb2, kb3, kb4, kb5, kb6, kb7, fAbs_ev, fMax_ev, fMin_ev, wipeS, Function.comp_apply, Function.comp_def, dIx, dGetAny, cPotGet, cPotSet, getP, setP, cCall, fInt, fLen, fTuple, fList, cLenV, dLt, dLe, dGt, dGe, dB2, dAdd, dSub_ev, dNeg, Nat.reduceLeDiff, cs0, cs1, cs2, cs3, cs4, cs5, cs6, cs7, cs8, cs9, cs10, cs11, cs12, Int.ofNat_eq_natCast, dEq_int, dNe_int, dEq_pair, dNe_pair, dIsN, dNotN, cPar, cPar3, cAsg, gN, gT, gsCons, gsNil, bdOf, cSl, oNone, oSome, dSl, iSeq, iRg1, iRg2, cExpr, dRev, List.map_cons, List.map_nil, List.length_cons, List.length_nil, List.cons_append, List.nil_append, List.append_nil, List.replicate, List.getElem?_cons_zero, List.getElem?_cons_succ, List.set_cons_zero, List.set_cons_succ, Option.bind_some, Option.map_some, Option.bind_none, Option.map_none, Nat.reduceAdd, Nat.reduceSub, Int.reduceAdd, Int.reduceNeg, decide_true, decide_false, Bool.not_true, Bool.not_false, if_true, if_false, Bool.false_eq_true, if_pos, reduceIte, reduceCtorEq, Option.some.injEq, Prod.mk.injEq, and_self, and_true, true_and, szOk, f_told_span, c_told_span]
theorem span0 (v : Vr 10000 a b c d) : f_span_at [R a b c d, .int 0] p = some (Sp a b c d, p) := by simp only [cFz, at40, at41, at42, at43, at20, at21, at30, at31, at32, List.set, dMod_ev, Int.reduceMod, Int.reduceLT, Int.reduceSub, Int.reduceMul, Int.reduceToNat, Nat.reduceLT, Int.zero_add, Int.reduceLE, fAll_b, runF, cSeq, cIf, cSet, cRet, cRetN, cSkip, cCont, cBrk, cVar, cD, cBin, cUn, cBi, aNil, aCons, cTup, cLst, bT, bAnd, bOr, bNot, cAnd, cOr, cNot, cIte, cChain, cIsi, dTy, kb1, kb2, kb3, kb4, kb5, kb6, kb7, fAbs_ev, fMax_ev, fMin_ev, wipeS, Function.comp_apply, Function.comp_def, dIx, dGetAny, cPotGet, cPotSet, getP, setP, cCall, fInt, fLen, fTuple, fList, cLenV, dLt, dLe, dGt, dGe, dB2, dAdd, dSub_ev, dNeg, Nat.reduceLeDiff, cs0, cs1, cs2, cs3, cs4, cs5, cs6, cs7, cs8, cs9, cs10, cs11, cs12, Int.ofNat_eq_natCast, dEq_int, dNe_int, dEq_pair, dNe_pair, dIsN, dNotN, cPar, cPar3, cAsg, gN, gT, gsCons, gsNil, bdOf, cSl, oNone, oSome, dSl, iSeq, iRg1, iRg2, cExpr, dRev, List.map_cons, List.map_nil, List.length_cons, List.length_nil, List.cons_append, List.nil_append, List.append_nil, List.replicate, List.getElem?_cons_zero, List.getElem?_cons_succ, List.set_cons_zero, List.set_cons_succ, Option.bind_some, Option.map_some, Option.bind_none, Option.map_none, Nat.reduceAdd, Nat.reduceSub, Int.reduceAdd, Int.reduceNeg, decide_true, decide_false, Bool.not_true, Bool.not_false, if_true, if_false, Bool.false_eq_true, if_pos, reduceIte, reduceCtorEq, Option.some.injEq, Prod.mk.injEq, and_self, and_true, true_and, szOk, f_span_at, c_span_at, look_corner_ev v (k := 0) (by decide), told0]
theorem span1 (v : Vr 10000 a b c d) : f_span_at [R a b c d, .int 1] p = some (Sp b c d a, p) := by simp only [cFz, at40, at41, at42, at43, at20, at21, at30, at31, at32, List.set, dMod_ev, Int.reduceMod, Int.reduceLT, Int.reduceSub, Int.reduceMul, Int.reduceToNat, Nat.reduceLT, Int.zero_add, Int.reduceLE, fAll_b, runF, cSeq, cIf, cSet, cRet, cRetN, cSkip, cCont, cBrk, cVar, cD, cBin, cUn, cBi, aNil, aCons, cTup, cLst, bT, bAnd, bOr, bNot, cAnd, cOr, cNot, cIte, cChain, cIsi, dTy, kb1, kb2, kb3, kb4, kb5, kb6, kb7, fAbs_ev, fMax_ev, fMin_ev, wipeS, Function.comp_apply, Function.comp_def, dIx, dGetAny, cPotGet, cPotSet, getP, setP, cCall, fInt, fLen, fTuple, fList, cLenV, dLt, dLe, dGt, dGe, dB2, dAdd, dSub_ev, dNeg, Nat.reduceLeDiff, cs0, cs1, cs2, cs3, cs4, cs5, cs6, cs7, cs8, cs9, cs10, cs11, cs12, Int.ofNat_eq_natCast, dEq_int, dNe_int, dEq_pair, dNe_pair, dIsN, dNotN, cPar, cPar3, cAsg, gN, gT, gsCons, gsNil, bdOf, cSl, oNone, oSome, dSl, iSeq, iRg1, iRg2, cExpr, dRev, List.map_cons, List.map_nil, List.length_cons, List.length_nil, List.cons_append, List.nil_append, List.append_nil, List.replicate, List.getElem?_cons_zero, List.getElem?_cons_succ, List.set_cons_zero, List.set_cons_succ, Option.bind_some, Option.map_some, Option.bind_none, Option.map_none, Nat.reduceAdd, Nat.reduceSub, Int.reduceAdd, Int.reduceNeg, decide_true, decide_false, Bool.not_true, Bool.not_false, if_true, if_false, Bool.false_eq_true, if_pos, reduceIte, reduceCtorEq, Option.some.injEq, Prod.mk.injEq, and_self, and_true, true_and, szOk, f_span_at, c_span_at, look_corner_ev v (k := 1) (by decide), told1]
theorem span2 (v : Vr 10000 a b c d) : f_span_at [R a b c d, .int 2] p = some (Sp c d a b, p) := by simp only [cFz, at40, at41, at42, at43, at20, at21, at30, at31, at32, List.set, dMod_ev, Int.reduceMod, Int.reduceLT, Int.reduceSub, Int.reduceMul, Int.reduceToNat, Nat.reduceLT, Int.zero_add, Int.reduceLE, fAll_b, runF, cSeq, cIf, cSet, cRet, cRetN, cSkip, cCont, cBrk, cVar, cD, cBin, cUn, cBi, aNil, aCons, cTup, cLst, bT, bAnd, bOr, bNot, cAnd, cOr, cNot, cIte, cChain, cIsi, dTy, kb1, kb2, kb3, kb4, kb5, kb6, kb7, fAbs_ev, fMax_ev, fMin_ev, wipeS, Function.comp_apply, Function.comp_def, dIx, dGetAny, cPotGet, cPotSet, getP, setP, cCall, fInt, fLen, fTuple, fList, cLenV, dLt, dLe, dGt, dGe, dB2, dAdd, dSub_ev, dNeg, Nat.reduceLeDiff, cs0, cs1, cs2, cs3, cs4, cs5, cs6, cs7, cs8, cs9, cs10, cs11, cs12, Int.ofNat_eq_natCast, dEq_int, dNe_int, dEq_pair, dNe_pair, dIsN, dNotN, cPar, cPar3, cAsg, gN, gT, gsCons, gsNil, bdOf, cSl, oNone, oSome, dSl, iSeq, iRg1, iRg2, cExpr, dRev, List.map_cons, List.map_nil, List.length_cons, List.length_nil, List.cons_append, List.nil_append, List.append_nil, List.replicate, List.getElem?_cons_zero, List.getElem?_cons_succ, List.set_cons_zero, List.set_cons_succ, Option.bind_some, Option.map_some, Option.bind_none, Option.map_none, Nat.reduceAdd, Nat.reduceSub, Int.reduceAdd, Int.reduceNeg, decide_true, decide_false, Bool.not_true, Bool.not_false, if_true, if_false, Bool.false_eq_true, if_pos, reduceIte, reduceCtorEq, Option.some.injEq, Prod.mk.injEq, and_self, and_true, true_and, szOk, f_span_at, c_span_at, look_corner_ev v (k := 2) (by decide), told2]
theorem span3 (v : Vr 10000 a b c d) : f_span_at [R a b c d, .int 3] p = some (Sp d a b c, p) := by simp only [cFz, at40, at41, at42, at43, at20, at21, at30, at31, at32, List.set, dMod_ev, Int.reduceMod, Int.reduceLT, Int.reduceSub, Int.reduceMul, Int.reduceToNat, Nat.reduceLT, Int.zero_add, Int.reduceLE, fAll_b, runF, cSeq, cIf, cSet, cRet, cRetN, cSkip, cCont, cBrk, cVar, cD, cBin, cUn, cBi, aNil, aCons, cTup, cLst, bT, bAnd, bOr, bNot, cAnd, cOr, cNot, cIte, cChain, cIsi, dTy, kb1, kb2, kb3, kb4, kb5, kb6, kb7, fAbs_ev, fMax_ev, fMin_ev, wipeS, Function.comp_apply, Function.comp_def, dIx, dGetAny, cPotGet, cPotSet, getP, setP, cCall, fInt, fLen, fTuple, fList, cLenV, dLt, dLe, dGt, dGe, dB2, dAdd, dSub_ev, dNeg, Nat.reduceLeDiff, cs0, cs1, cs2, cs3, cs4, cs5, cs6, cs7, cs8, cs9, cs10, cs11, cs12, Int.ofNat_eq_natCast, dEq_int, dNe_int, dEq_pair, dNe_pair, dIsN, dNotN, cPar, cPar3, cAsg, gN, gT, gsCons, gsNil, bdOf, cSl, oNone, oSome, dSl, iSeq, iRg1, iRg2, cExpr, dRev, List.map_cons, List.map_nil, List.length_cons, List.length_nil, List.cons_append, List.nil_append, List.append_nil, List.replicate, List.getElem?_cons_zero, List.getElem?_cons_succ, List.set_cons_zero, List.set_cons_succ, Option.bind_some, Option.map_some, Option.bind_none, Option.map_none, Nat.reduceAdd, Nat.reduceSub, Int.reduceAdd, Int.reduceNeg, decide_true, decide_false, Bool.not_true, Bool.not_false, if_true, if_false, Bool.false_eq_true, if_pos, reduceIte, reduceCtorEq, Option.some.injEq, Prod.mk.injEq, and_self, and_true, true_and, szOk, f_span_at, c_span_at, look_corner_ev v (k := 3) (by decide), told3]
abbrev T (a b c d : Int) : Bool := decide (spX a b c d = ab (a - b)) && decide (spY a b c d = a + b)
theorem turns0 (v : Vr 10000 a b c d) : f_turns_round [R a b c d, .int 0] p = some (.bl (T a b c d), p) := by simp only [cFz, at40, at41, at42, at43, at20, at21, at30, at31, at32, List.set, dMod_ev, Int.reduceMod, Int.reduceLT, Int.reduceSub, Int.reduceMul, Int.reduceToNat, Nat.reduceLT, Int.zero_add, Int.reduceLE, fAll_b, runF, cSeq, cIf, cSet, cRet, cRetN, cSkip, cCont, cBrk, cVar, cD, cBin, cUn, cBi, aNil, aCons, cTup, cLst, bT, bAnd, bOr, bNot, cAnd, cOr, cNot, cIte, cChain, cIsi, dTy, kb1, kb2, kb3, kb4, kb5, kb6, kb7, fAbs_ev, fMax_ev, fMin_ev, wipeS, Function.comp_apply, Function.comp_def, dIx, dGetAny, cPotGet, cPotSet, getP, setP, cCall, fInt, fLen, fTuple, fList, cLenV, dLt, dLe, dGt, dGe, dB2, dAdd, dSub_ev, dNeg, Nat.reduceLeDiff, cs0, cs1, cs2, cs3, cs4, cs5, cs6, cs7, cs8, cs9, cs10, cs11, cs12, Int.ofNat_eq_natCast, dEq_int, dNe_int, dEq_pair, dNe_pair, dIsN, dNotN, cPar, cPar3, cAsg, gN, gT, gsCons, gsNil, bdOf, cSl, oNone, oSome, dSl, iSeq, iRg1, iRg2, cExpr, dRev, List.map_cons, List.map_nil, List.length_cons, List.length_nil, List.cons_append, List.nil_append, List.append_nil, List.replicate, List.getElem?_cons_zero, List.getElem?_cons_succ, List.set_cons_zero, List.set_cons_succ, Option.bind_some, Option.map_some, Option.bind_none, Option.map_none, Nat.reduceAdd, Nat.reduceSub, Int.reduceAdd, Int.reduceNeg, decide_true, decide_false, Bool.not_true, Bool.not_false, if_true, if_false, Bool.false_eq_true, if_pos, reduceIte, reduceCtorEq, Option.some.injEq, Prod.mk.injEq, and_self, and_true, true_and, szOk, f_turns_round, c_turns_round, look_corner_ev v (k := 0) (by decide), told0, dEq_pair]
theorem turns1 (v : Vr 10000 a b c d) : f_turns_round [R a b c d, .int 1] p = some (.bl (T b c d a), p) := by simp only [cFz, at40, at41, at42, at43, at20, at21, at30, at31, at32, List.set, dMod_ev, Int.reduceMod, Int.reduceLT, Int.reduceSub, Int.reduceMul, Int.reduceToNat, Nat.reduceLT, Int.zero_add, Int.reduceLE, fAll_b, runF, cSeq, cIf, cSet, cRet, cRetN, cSkip, cCont, cBrk, cVar, cD, cBin, cUn, cBi, aNil, aCons, cTup, cLst, bT, bAnd, bOr, bNot, cAnd, cOr, cNot, cIte, cChain, cIsi, dTy, kb1, kb2, kb3, kb4, kb5, kb6, kb7, fAbs_ev, fMax_ev, fMin_ev, wipeS, Function.comp_apply, Function.comp_def, dIx, dGetAny, cPotGet, cPotSet, getP, setP, cCall, fInt, fLen, fTuple, fList, cLenV, dLt, dLe, dGt, dGe, dB2, dAdd, dSub_ev, dNeg, Nat.reduceLeDiff, cs0, cs1, cs2, cs3, cs4, cs5, cs6, cs7, cs8, cs9, cs10, cs11, cs12, Int.ofNat_eq_natCast, dEq_int, dNe_int, dEq_pair, dNe_pair, dIsN, dNotN, cPar, cPar3, cAsg, gN, gT, gsCons, gsNil, bdOf, cSl, oNone, oSome, dSl, iSeq, iRg1, iRg2, cExpr, dRev, List.map_cons, List.map_nil, List.length_cons, List.length_nil, List.cons_append, List.nil_append, List.append_nil, List.replicate, List.getElem?_cons_zero, List.getElem?_cons_succ, List.set_cons_zero, List.set_cons_succ, Option.bind_some, Option.map_some, Option.bind_none, Option.map_none, Nat.reduceAdd, Nat.reduceSub, Int.reduceAdd, Int.reduceNeg, decide_true, decide_false, Bool.not_true, Bool.not_false, if_true, if_false, Bool.false_eq_true, if_pos, reduceIte, reduceCtorEq, Option.some.injEq, Prod.mk.injEq, and_self, and_true, true_and, szOk, f_turns_round, c_turns_round, look_corner_ev v (k := 1) (by decide), told1, dEq_pair]
theorem turns2 (v : Vr 10000 a b c d) : f_turns_round [R a b c d, .int 2] p = some (.bl (T c d a b), p) := by simp only [cFz, at40, at41, at42, at43, at20, at21, at30, at31, at32, List.set, dMod_ev, Int.reduceMod, Int.reduceLT, Int.reduceSub, Int.reduceMul, Int.reduceToNat, Nat.reduceLT, Int.zero_add, Int.reduceLE, fAll_b, runF, cSeq, cIf, cSet, cRet, cRetN, cSkip, cCont, cBrk, cVar, cD, cBin, cUn, cBi, aNil, aCons, cTup, cLst, bT, bAnd, bOr, bNot, cAnd, cOr, cNot, cIte, cChain, cIsi, dTy, kb1, kb2, kb3, kb4, kb5, kb6, kb7, fAbs_ev, fMax_ev, fMin_ev, wipeS, Function.comp_apply, Function.comp_def, dIx, dGetAny, cPotGet, cPotSet, getP, setP, cCall, fInt, fLen, fTuple, fList, cLenV, dLt, dLe, dGt, dGe, dB2, dAdd, dSub_ev, dNeg, Nat.reduceLeDiff, cs0, cs1, cs2, cs3, cs4, cs5, cs6, cs7, cs8, cs9, cs10, cs11, cs12, Int.ofNat_eq_natCast, dEq_int, dNe_int, dEq_pair, dNe_pair, dIsN, dNotN, cPar, cPar3, cAsg, gN, gT, gsCons, gsNil, bdOf, cSl, oNone, oSome, dSl, iSeq, iRg1, iRg2, cExpr, dRev, List.map_cons, List.map_nil, List.length_cons, List.length_nil, List.cons_append, List.nil_append, List.append_nil, List.replicate, List.getElem?_cons_zero, List.getElem?_cons_succ, List.set_cons_zero, List.set_cons_succ, Option.bind_some, Option.map_some, Option.bind_none, Option.map_none, Nat.reduceAdd, Nat.reduceSub, Int.reduceAdd, Int.reduceNeg, decide_true, decide_false, Bool.not_true, Bool.not_false, if_true, if_false, Bool.false_eq_true, if_pos, reduceIte, reduceCtorEq, Option.some.injEq, Prod.mk.injEq, and_self, and_true, true_and, szOk, f_turns_round, c_turns_round, look_corner_ev v (k := 2) (by decide), told2, dEq_pair]
theorem turns3 (v : Vr 10000 a b c d) : f_turns_round [R a b c d, .int 3] p = some (.bl (T d a b c), p) := by simp only [cFz, at40, at41, at42, at43, at20, at21, at30, at31, at32, List.set, dMod_ev, Int.reduceMod, Int.reduceLT, Int.reduceSub, Int.reduceMul, Int.reduceToNat, Nat.reduceLT, Int.zero_add, Int.reduceLE, fAll_b, runF, cSeq, cIf, cSet, cRet, cRetN, cSkip, cCont, cBrk, cVar, cD, cBin, cUn, cBi, aNil, aCons, cTup, cLst, bT, bAnd, bOr, bNot, cAnd, cOr, cNot, cIte, cChain, cIsi, dTy, kb1, kb2, kb3, kb4, kb5, kb6, kb7, fAbs_ev, fMax_ev, fMin_ev, wipeS, Function.comp_apply, Function.comp_def, dIx, dGetAny, cPotGet, cPotSet, getP, setP, cCall, fInt, fLen, fTuple, fList, cLenV, dLt, dLe, dGt, dGe, dB2, dAdd, dSub_ev, dNeg, Nat.reduceLeDiff, cs0, cs1, cs2, cs3, cs4, cs5, cs6, cs7, cs8, cs9, cs10, cs11, cs12, Int.ofNat_eq_natCast, dEq_int, dNe_int, dEq_pair, dNe_pair, dIsN, dNotN, cPar, cPar3, cAsg, gN, gT, gsCons, gsNil, bdOf, cSl, oNone, oSome, dSl, iSeq, iRg1, iRg2, cExpr, dRev, List.map_cons, List.map_nil, List.length_cons, List.length_nil, List.cons_append, List.nil_append, List.append_nil, List.replicate, List.getElem?_cons_zero, List.getElem?_cons_succ, List.set_cons_zero, List.set_cons_succ, Option.bind_some, Option.map_some, Option.bind_none, Option.map_none, Nat.reduceAdd, Nat.reduceSub, Int.reduceAdd, Int.reduceNeg, decide_true, decide_false, Bool.not_true, Bool.not_false, if_true, if_false, Bool.false_eq_true, if_pos, reduceIte, reduceCtorEq, Option.some.injEq, Prod.mk.injEq, and_self, and_true, true_and, szOk, f_turns_round, c_turns_round, look_corner_ev v (k := 3) (by decide), told3, dEq_pair]
end

/-! ### comprehensions over range(4) -/
theorem rng4 : rngL 0 (4 : Int).toNat = [.int 0, .int 1, .int 2, .int 3] := rfl
theorem it4 {s : S} : iRg1 (aCons (cD (.int 4)) aNil) s = some ([.int 0, .int 1, .int 2, .int 3], s) := rfl
theorem lc4 {te : SE} {i : Nat} {r : List Bd} {p : Pt} {b0 : Bd} {φ0 φ1 φ2 φ3 : D} (hi : r[i]? = some b0) (hb : notOwn b0 = true)
    (h0 : te ⟨r.set i (.val (.int 0)), p⟩ = some ((φ0, false), ⟨r.set i (.val (.int 0)), p⟩)) (h1 : te ⟨r.set i (.val (.int 1)), p⟩ = some ((φ1, false), ⟨r.set i (.val (.int 1)), p⟩))
    (h2 : te ⟨r.set i (.val (.int 2)), p⟩ = some ((φ2, false), ⟨r.set i (.val (.int 2)), p⟩)) (h3 : te ⟨r.set i (.val (.int 3)), p⟩ = some ((φ3, false), ⟨r.set i (.val (.int 3)), p⟩)) :
    cLC (iRg1 (aCons (cD (.int 4)) aNil)) (gN i) bYes te [i] ⟨r, p⟩ = some ((.lst [φ0, φ1, φ2, φ3], true), ⟨r, p⟩) := by
  have := lc_map (te := te) (p := p) (r := r) (φ := fun d => match d with | .int 0 => φ0 | .int 1 => φ1 | .int 2 => φ2 | _ => φ3) it4 hi hb (fun d hd => by
    simp only [List.mem_cons, List.not_mem_nil, or_false] at hd
    rcases hd with rfl | rfl | rfl | rfl
    · exact ⟨_, h0⟩
    · exact ⟨_, h1⟩
    · exact ⟨_, h2⟩
    · exact ⟨_, h3⟩) (by simp)
  rw [this]; rfl
def rc (b0 b1 b2 b3 : Bool) : List D := (if b0 then [.int 0] else []) ++ ((if b1 then [.int 1] else []) ++ ((if b2 then [.int 2] else []) ++ (if b3 then [.int 3] else [])))
theorem lc4f {tt : ST} {i : Nat} {r : List Bd} {p : Pt} {b0 : Bd} {β0 β1 β2 β3 : Bool} (hi : r[i]? = some b0) (hb : notOwn b0 = true)
    (h0 : tt ⟨r.set i (.val (.int 0)), p⟩ = some (β0, ⟨r.set i (.val (.int 0)), p⟩)) (h1 : tt ⟨r.set i (.val (.int 1)), p⟩ = some (β1, ⟨r.set i (.val (.int 1)), p⟩))
    (h2 : tt ⟨r.set i (.val (.int 2)), p⟩ = some (β2, ⟨r.set i (.val (.int 2)), p⟩)) (h3 : tt ⟨r.set i (.val (.int 3)), p⟩ = some (β3, ⟨r.set i (.val (.int 3)), p⟩)) :
    cLC (iRg1 (aCons (cD (.int 4)) aNil)) (gN i) tt (cVar i) [i] ⟨r, p⟩ = some ((.lst (rc β0 β1 β2 β3), true), ⟨r, p⟩) := by
  have hil : i < r.length := (List.getElem?_eq_some_iff.1 hi).1
  have hv : ∀ d : D, cVar i ⟨r.set i (.val d), p⟩ = some ((d, false), ⟨r.set i (.val d), p⟩) := fun d => by
    unfold cVar
    simp only [List.getElem?_set_self hil]
  have := lc_pure (te := cVar i) (tt := tt) (p := p) (r := r) (β := fun d => match d with | .int 0 => β0 | .int 1 => β1 | .int 2 => β2 | _ => β3) (φ := fun d => d) it4 hi hb (fun d hd => by
    simp only [List.mem_cons, List.not_mem_nil, or_false] at hd
    rcases hd with rfl | rfl | rfl | rfl
    · exact h0
    · exact h1
    · exact h2
    · exact h3) (fun d _ _ => ⟨false, hv d⟩) (by simp)
  rw [this]
  cases β0 <;> cases β1 <;> cases β2 <;> cases β3 <;> rfl
theorem lc2n {tt : ST} {i : Nat} {r : List Bd} {p : Pt} {b0 : Bd} {x y : D} {it : SI} {s0 : S} {β0 β1 : Bool} (hit : it s0 = some ([x, y], ⟨r, p⟩)) (hi : r[i]? = some b0) (hb : notOwn b0 = true)
    (h0 : tt ⟨r.set i (.val x), p⟩ = some (β0, ⟨r.set i (.val x), p⟩)) (h1 : tt ⟨r.set i (.val y), p⟩ = some (β1, ⟨r.set i (.val y), p⟩)) :
    ∃ ds, cLC it (gN i) tt (cVar i) [i] s0 = some ((.lst ds, true), ⟨r, p⟩) ∧ ds.length = (if β0 then 1 else 0) + (if β1 then 1 else 0) := by
  have hil : i < r.length := (List.getElem?_eq_some_iff.1 hi).1
  have hv : ∀ d : D, cVar i ⟨r.set i (.val d), p⟩ = some ((d, false), ⟨r.set i (.val d), p⟩) := fun d => by
    unfold cVar
    simp only [List.getElem?_set_self hil]
  refine ⟨(if β0 then [x] else []) ++ (if β1 then [y] else []), ?_, by cases β0 <;> cases β1 <;> rfl⟩
  simp only [cLC, hit, Option.bind_some, noOwn1 (s := ⟨r, p⟩) hi hb, if_true, wipeS, wipe1]
  cases β0 <;> cases β1 <;> simp [lcL, gN, set_set, h0, h1, hv, wipeS, wipe1, rest1 hi, szOk]
/-! ### grashof, kinds, round corners -/
def gr : List Int → Int
  | [w, x, y, z] => x + y - w - z
  | _ => 0
abbrev Gr (a b c d : Int) : Int := gr (srt [a, b, c, d])
theorem srt4 (a b c d : Int) : ∃ w x y z, srt [a, b, c, d] = [w, x, y, z] := by
  have h : (srt [a, b, c, d]).length = 4 := srt_len
  match hs : srt [a, b, c, d], h with
  | [w, x, y, z], _ => exact ⟨w, x, y, z, rfl⟩
def kd (g : Int) (t1 t2 : Bool) : Str := if g = 0 then "flat" else match t1, t2 with
  | true, true => "cranks"
  | false, false => "rockers"
  | _, _ => "crank"
section
variable {a b c d : Int} {p : Pt}
theorem grashof_ev (v : Vr 10000 a b c d) : f_grashof [R a b c d] p = some (.int (Gr a b c d), p) := by
  obtain ⟨w, x, y, z, e⟩ := srt4 a b c d
  have e2 : fSorted [R a b c d] = some (.lst [.int w, .int x, .int y, .int z], true) := by
    have := fSorted_t (ns := [a, b, c, d])
    rw [e] at this; exact this
  have e3 : Gr a b c d = x + y - w - z := by unfold Gr; rw [e]; rfl
  rw [e3]
  simp only [cFz, at40, at41, at42, at43, at20, at21, at30, at31, at32, List.set, dMod_ev, Int.reduceMod, Int.reduceLT, Int.reduceSub, Int.reduceMul, Int.reduceToNat, Nat.reduceLT, Int.zero_add, Int.reduceLE, fAll_b, runF, cSeq, cIf, cSet, cRet, cRetN, cSkip, cCont, cBrk, cVar, cD, cBin, cUn, cBi, aNil, aCons, cTup, cLst, bT, bAnd, bOr, bNot, cAnd, cOr, cNot, cIte, cChain, cIsi, dTy, kb1, kb2, kb3, kb4, kb5, kb6, kb7, fAbs_ev, fMax_ev, fMin_ev, wipeS, Function.comp_apply, Function.comp_def, dIx, dGetAny, cPotGet, cPotSet, getP, setP, cCall, fInt, fLen, fTuple, fList, cLenV, dLt, dLe, dGt, dGe, dB2, dAdd, dSub_ev, dNeg, Nat.reduceLeDiff, cs0, cs1, cs2, cs3, cs4, cs5, cs6, cs7, cs8, cs9, cs10, cs11, cs12, Int.ofNat_eq_natCast, dEq_int, dNe_int, dEq_pair, dNe_pair, dIsN, dNotN, cPar, cPar3, cAsg, gN, gT, gsCons, gsNil, bdOf, cSl, oNone, oSome, dSl, iSeq, iRg1, iRg2, cExpr, dRev, List.map_cons, List.map_nil, List.length_cons, List.length_nil, List.cons_append, List.nil_append, List.append_nil, List.replicate, List.getElem?_cons_zero, List.getElem?_cons_succ, List.set_cons_zero, List.set_cons_succ, Option.bind_some, Option.map_some, Option.bind_none, Option.map_none, Nat.reduceAdd, Nat.reduceSub, Int.reduceAdd, Int.reduceNeg, decide_true, decide_false, Bool.not_true, Bool.not_false, if_true, if_false, Bool.false_eq_true, if_pos, reduceIte, reduceCtorEq, Option.some.injEq, Prod.mk.injEq, and_self, and_true, true_and, szOk, f_grashof, c_grashof, look_ring_ev v, e2]
theorem kind_aux {k k' : Int} {t1 t2 : Bool} (v : Vr 10000 a b c d) (hk : 0 ≤ k ∧ k ≤ 3) (hk' : (k - 1) % 4 = k') (h1 : f_turns_round [R a b c d, .int k] p = some (.bl t1, p)) (h2 : f_turns_round [R a b c d, .int k'] p = some (.bl t2, p)) : f_kind_of_ring [R a b c d, .int k] p = some (.str (kd (Gr a b c d) t1 t2), p) := by
  by_cases hg : Gr a b c d = 0
  · have : kd (Gr a b c d) t1 t2 = "flat" := by unfold kd; rw [if_pos hg]
    rw [this]
    simp only [cFz, at40, at41, at42, at43, at20, at21, at30, at31, at32, List.set, dMod_ev, Int.reduceMod, Int.reduceLT, Int.reduceSub, Int.reduceMul, Int.reduceToNat, Nat.reduceLT, Int.zero_add, Int.reduceLE, fAll_b, runF, cSeq, cIf, cSet, cRet, cRetN, cSkip, cCont, cBrk, cVar, cD, cBin, cUn, cBi, aNil, aCons, cTup, cLst, bT, bAnd, bOr, bNot, cAnd, cOr, cNot, cIte, cChain, cIsi, dTy, kb1, kb2, kb3, kb4, kb5, kb6, kb7, fAbs_ev, fMax_ev, fMin_ev, wipeS, Function.comp_apply, Function.comp_def, dIx, dGetAny, cPotGet, cPotSet, getP, setP, cCall, fInt, fLen, fTuple, fList, cLenV, dLt, dLe, dGt, dGe, dB2, dAdd, dSub_ev, dNeg, Nat.reduceLeDiff, cs0, cs1, cs2, cs3, cs4, cs5, cs6, cs7, cs8, cs9, cs10, cs11, cs12, Int.ofNat_eq_natCast, dEq_int, dNe_int, dEq_pair, dNe_pair, dIsN, dNotN, cPar, cPar3, cAsg, gN, gT, gsCons, gsNil, bdOf, cSl, oNone, oSome, dSl, iSeq, iRg1, iRg2, cExpr, dRev, List.map_cons, List.map_nil, List.length_cons, List.length_nil, List.cons_append, List.nil_append, List.append_nil, List.replicate, List.getElem?_cons_zero, List.getElem?_cons_succ, List.set_cons_zero, List.set_cons_succ, Option.bind_some, Option.map_some, Option.bind_none, Option.map_none, Nat.reduceAdd, Nat.reduceSub, Int.reduceAdd, Int.reduceNeg, decide_true, decide_false, Bool.not_true, Bool.not_false, if_true, if_false, Bool.false_eq_true, if_pos, reduceIte, reduceCtorEq, Option.some.injEq, Prod.mk.injEq, and_self, and_true, true_and, szOk, f_kind_of_ring, c_kind_of_ring, look_ring_ev v, is_int_ev, hk.1, hk.2, Bool.and_self, grashof_ev v, hg]
  · obtain ⟨ds, e, hl⟩ := lc2n (it := iSeq (cTup (aCons (cVar 1) (aCons (cBin dMod (cBin dSub (cVar 1) (cD (.int 1))) (cD (.int 4))) aNil)))) (tt := bT (cCall f_turns_round (aCons (cVar 0) (aCons (cVar 3) aNil)))) (i := 3) (r := [.val (R a b c d), .val (.int k), .no, .no]) (p := p) (s0 := ⟨[.val (R a b c d), .val (.int k), .no, .no], p⟩) (b0 := .no) (x := .int k) (y := .int k') (β0 := t1) (β1 := t2) (by simp only [cFz, at40, at41, at42, at43, at20, at21, at30, at31, at32, List.set, dMod_ev, Int.reduceMod, Int.reduceLT, Int.reduceSub, Int.reduceMul, Int.reduceToNat, Nat.reduceLT, Int.zero_add, Int.reduceLE, fAll_b, runF, cSeq, cIf, cSet, cRet, cRetN, cSkip, cCont, cBrk, cVar, cD, cBin, cUn, cBi, aNil, aCons, cTup, cLst, bT, bAnd, bOr, bNot, cAnd, cOr, cNot, cIte, cChain, cIsi, dTy, kb1, kb2, kb3, kb4, kb5, kb6, kb7, fAbs_ev, fMax_ev, fMin_ev, wipeS, Function.comp_apply, Function.comp_def, dIx, dGetAny, cPotGet, cPotSet, getP, setP, cCall, fInt, fLen, fTuple, fList, cLenV, dLt, dLe, dGt, dGe, dB2, dAdd, dSub_ev, dNeg, Nat.reduceLeDiff, cs0, cs1, cs2, cs3, cs4, cs5, cs6, cs7, cs8, cs9, cs10, cs11, cs12, Int.ofNat_eq_natCast, dEq_int, dNe_int, dEq_pair, dNe_pair, dIsN, dNotN, cPar, cPar3, cAsg, gN, gT, gsCons, gsNil, bdOf, cSl, oNone, oSome, dSl, iSeq, iRg1, iRg2, cExpr, dRev, List.map_cons, List.map_nil, List.length_cons, List.length_nil, List.cons_append, List.nil_append, List.append_nil, List.replicate, List.getElem?_cons_zero, List.getElem?_cons_succ, List.set_cons_zero, List.set_cons_succ, Option.bind_some, Option.map_some, Option.bind_none, Option.map_none, Nat.reduceAdd, Nat.reduceSub, Int.reduceAdd, Int.reduceNeg, decide_true, decide_false, Bool.not_true, Bool.not_false, if_true, if_false, Bool.false_eq_true, if_pos, reduceIte, reduceCtorEq, Option.some.injEq, Prod.mk.injEq, and_self, and_true, true_and, szOk, hk']) rfl rfl (by simp only [cFz, at40, at41, at42, at43, at20, at21, at30, at31, at32, List.set, dMod_ev, Int.reduceMod, Int.reduceLT, Int.reduceSub, Int.reduceMul, Int.reduceToNat, Nat.reduceLT, Int.zero_add, Int.reduceLE, fAll_b, runF, cSeq, cIf, cSet, cRet, cRetN, cSkip, cCont, cBrk, cVar, cD, cBin, cUn, cBi, aNil, aCons, cTup, cLst, bT, bAnd, bOr, bNot, cAnd, cOr, cNot, cIte, cChain, cIsi, dTy, kb1, kb2, kb3, kb4, kb5, kb6, kb7, fAbs_ev, fMax_ev, fMin_ev, wipeS, Function.comp_apply, Function.comp_def, dIx, dGetAny, cPotGet, cPotSet, getP, setP, cCall, fInt, fLen, fTuple, fList, cLenV, dLt, dLe, dGt, dGe, dB2, dAdd, dSub_ev, dNeg, Nat.reduceLeDiff, cs0, cs1, cs2, cs3, cs4, cs5, cs6, cs7, cs8, cs9, cs10, cs11, cs12, Int.ofNat_eq_natCast, dEq_int, dNe_int, dEq_pair, dNe_pair, dIsN, dNotN, cPar, cPar3, cAsg, gN, gT, gsCons, gsNil, bdOf, cSl, oNone, oSome, dSl, iSeq, iRg1, iRg2, cExpr, dRev, List.map_cons, List.map_nil, List.length_cons, List.length_nil, List.cons_append, List.nil_append, List.append_nil, List.replicate, List.getElem?_cons_zero, List.getElem?_cons_succ, List.set_cons_zero, List.set_cons_succ, Option.bind_some, Option.map_some, Option.bind_none, Option.map_none, Nat.reduceAdd, Nat.reduceSub, Int.reduceAdd, Int.reduceNeg, decide_true, decide_false, Bool.not_true, Bool.not_false, if_true, if_false, Bool.false_eq_true, if_pos, reduceIte, reduceCtorEq, Option.some.injEq, Prod.mk.injEq, and_self, and_true, true_and, szOk, h1]) (by simp only [cFz, at40, at41, at42, at43, at20, at21, at30, at31, at32, List.set, dMod_ev, Int.reduceMod, Int.reduceLT, Int.reduceSub, Int.reduceMul, Int.reduceToNat, Nat.reduceLT, Int.zero_add, Int.reduceLE, fAll_b, runF, cSeq, cIf, cSet, cRet, cRetN, cSkip, cCont, cBrk, cVar, cD, cBin, cUn, cBi, aNil, aCons, cTup, cLst, bT, bAnd, bOr, bNot, cAnd, cOr, cNot, cIte, cChain, cIsi, dTy, kb1, kb2, kb3, kb4, kb5, kb6, kb7, fAbs_ev, fMax_ev, fMin_ev, wipeS, Function.comp_apply, Function.comp_def, dIx, dGetAny, cPotGet, cPotSet, getP, setP, cCall, fInt, fLen, fTuple, fList, cLenV, dLt, dLe, dGt, dGe, dB2, dAdd, dSub_ev, dNeg, Nat.reduceLeDiff, cs0, cs1, cs2, cs3, cs4, cs5, cs6, cs7, cs8, cs9, cs10, cs11, cs12, Int.ofNat_eq_natCast, dEq_int, dNe_int, dEq_pair, dNe_pair, dIsN, dNotN, cPar, cPar3, cAsg, gN, gT, gsCons, gsNil, bdOf, cSl, oNone, oSome, dSl, iSeq, iRg1, iRg2, cExpr, dRev, List.map_cons, List.map_nil, List.length_cons, List.length_nil, List.cons_append, List.nil_append, List.append_nil, List.replicate, List.getElem?_cons_zero, List.getElem?_cons_succ, List.set_cons_zero, List.set_cons_succ, Option.bind_some, Option.map_some, Option.bind_none, Option.map_none, Nat.reduceAdd, Nat.reduceSub, Int.reduceAdd, Int.reduceNeg, decide_true, decide_false, Bool.not_true, Bool.not_false, if_true, if_false, Bool.false_eq_true, if_pos, reduceIte, reduceCtorEq, Option.some.injEq, Prod.mk.injEq, and_self, and_true, true_and, szOk, h2])
    have hf : decide (Gr a b c d = 0) = false := decide_eq_false hg
    have : f_kind_of_ring [R a b c d, .int k] p = (L2.atI [D.str "rockers", .str "crank", .str "cranks"] (ds.length : Int)).map fun z => (z, p) := by
      simp only [cFz, at40, at41, at42, at43, at20, at21, at30, at31, at32, List.set, dMod_ev, Int.reduceMod, Int.reduceLT, Int.reduceSub, Int.reduceMul, Int.reduceToNat, Nat.reduceLT, Int.zero_add, Int.reduceLE, fAll_b, runF, cSeq, cIf, cSet, cRet, cRetN, cSkip, cCont, cBrk, cVar, cD, cBin, cUn, cBi, aNil, aCons, cTup, cLst, bT, bAnd, bOr, bNot, cAnd, cOr, cNot, cIte, cChain, cIsi, dTy, kb1, kb2, kb3, kb4, kb5, kb6, kb7, fAbs_ev, fMax_ev, fMin_ev, wipeS, Function.comp_apply, Function.comp_def, dIx, dGetAny, cPotGet, cPotSet, getP, setP, cCall, fInt, fLen, fTuple, fList, cLenV, dLt, dLe, dGt, dGe, dB2, dAdd, dSub_ev, dNeg, Nat.reduceLeDiff, cs0, cs1, cs2, cs3, cs4, cs5, cs6, cs7, cs8, cs9, cs10, cs11, cs12, Int.ofNat_eq_natCast, dEq_int, dNe_int, dEq_pair, dNe_pair, dIsN, dNotN, cPar, cPar3, cAsg, gN, gT, gsCons, gsNil, bdOf, cSl, oNone, oSome, dSl, iSeq, iRg1, iRg2, cExpr, dRev, List.map_cons, List.map_nil, List.length_cons, List.length_nil, List.cons_append, List.nil_append, List.append_nil, List.replicate, List.getElem?_cons_zero, List.getElem?_cons_succ, List.set_cons_zero, List.set_cons_succ, Option.bind_some, Option.map_some, Option.bind_none, Option.map_none, Nat.reduceAdd, Nat.reduceSub, Int.reduceAdd, Int.reduceNeg, decide_true, decide_false, Bool.not_true, Bool.not_false, if_true, if_false, Bool.false_eq_true, if_pos, reduceIte, reduceCtorEq, Option.some.injEq, Prod.mk.injEq, and_self, and_true, true_and, szOk, f_kind_of_ring, c_kind_of_ring, look_ring_ev v, is_int_ev, hk.1, hk.2, Bool.and_self, grashof_ev v, hg, e]
      cases L2.atI [D.str "rockers", .str "crank", .str "cranks"] (ds.length : Int) <;> rfl
    rw [this, hl]
    unfold kd
    rw [if_neg hg]
    cases t1 <;> cases t2 <;> rfl
theorem kind0 (v : Vr 10000 a b c d) : f_kind_of_ring [R a b c d, .int 0] p = some (.str (kd (Gr a b c d) (T a b c d) (T d a b c)), p) := kind_aux v (by decide) (k' := 3) (by decide) (turns0 v) (turns3 v)
theorem kind1 (v : Vr 10000 a b c d) : f_kind_of_ring [R a b c d, .int 1] p = some (.str (kd (Gr a b c d) (T b c d a) (T a b c d)), p) := kind_aux v (by decide) (k' := 0) (by decide) (turns1 v) (turns0 v)
theorem kind2 (v : Vr 10000 a b c d) : f_kind_of_ring [R a b c d, .int 2] p = some (.str (kd (Gr a b c d) (T c d a b) (T b c d a)), p) := kind_aux v (by decide) (k' := 1) (by decide) (turns2 v) (turns1 v)
theorem kind3 (v : Vr 10000 a b c d) : f_kind_of_ring [R a b c d, .int 3] p = some (.str (kd (Gr a b c d) (T d a b c) (T c d a b)), p) := kind_aux v (by decide) (k' := 2) (by decide) (turns3 v) (turns2 v)
theorem round_ev (v : Vr 10000 a b c d) : f_round_corners [R a b c d] p = some (.tup (rc (T a b c d) (T b c d a) (T c d a b) (T d a b c)), p) := by
  have e := lc4f (tt := bT (cCall f_turns_round (aCons (cVar 0) (aCons (cVar 1) aNil)))) (i := 1) (r := [.val (R a b c d), .no]) (p := p) (b0 := .no) (β0 := T a b c d) (β1 := T b c d a) (β2 := T c d a b) (β3 := T d a b c) rfl rfl (by simp only [cFz, at40, at41, at42, at43, at20, at21, at30, at31, at32, List.set, dMod_ev, Int.reduceMod, Int.reduceLT, Int.reduceSub, Int.reduceMul, Int.reduceToNat, Nat.reduceLT, Int.zero_add, Int.reduceLE, fAll_b, runF, cSeq, cIf, cSet, cRet, cRetN, cSkip, cCont, cBrk, cVar, cD, cBin, cUn, cBi, aNil, aCons, cTup, cLst, bT, bAnd, bOr, bNot, cAnd, cOr, cNot, cIte, cChain, cIsi, dTy, kb1, kb2, kb3, kb4, kb5, kb6, kb7, fAbs_ev, fMax_ev, fMin_ev, wipeS, Function.comp_apply, Function.comp_def, dIx, dGetAny, cPotGet, cPotSet, getP, setP, cCall, fInt, fLen, fTuple, fList, cLenV, dLt, dLe, dGt, dGe, dB2, dAdd, dSub_ev, dNeg, Nat.reduceLeDiff, cs0, cs1, cs2, cs3, cs4, cs5, cs6, cs7, cs8, cs9, cs10, cs11, cs12, Int.ofNat_eq_natCast, dEq_int, dNe_int, dEq_pair, dNe_pair, dIsN, dNotN, cPar, cPar3, cAsg, gN, gT, gsCons, gsNil, bdOf, cSl, oNone, oSome, dSl, iSeq, iRg1, iRg2, cExpr, dRev, List.map_cons, List.map_nil, List.length_cons, List.length_nil, List.cons_append, List.nil_append, List.append_nil, List.replicate, List.getElem?_cons_zero, List.getElem?_cons_succ, List.set_cons_zero, List.set_cons_succ, Option.bind_some, Option.map_some, Option.bind_none, Option.map_none, Nat.reduceAdd, Nat.reduceSub, Int.reduceAdd, Int.reduceNeg, decide_true, decide_false, Bool.not_true, Bool.not_false, if_true, if_false, Bool.false_eq_true, if_pos, reduceIte, reduceCtorEq, Option.some.injEq, Prod.mk.injEq, and_self, and_true, true_and, szOk, turns0 v]) (by simp only [cFz, at40, at41, at42, at43, at20, at21, at30, at31, at32, List.set, dMod_ev, Int.reduceMod, Int.reduceLT, Int.reduceSub, Int.reduceMul, Int.reduceToNat, Nat.reduceLT, Int.zero_add, Int.reduceLE, fAll_b, runF, cSeq, cIf, cSet, cRet, cRetN, cSkip, cCont, cBrk, cVar, cD, cBin, cUn, cBi, aNil, aCons, cTup, cLst, bT, bAnd, bOr, bNot, cAnd, cOr, cNot, cIte, cChain, cIsi, dTy, kb1, kb2, kb3, kb4, kb5, kb6, kb7, fAbs_ev, fMax_ev, fMin_ev, wipeS, Function.comp_apply, Function.comp_def, dIx, dGetAny, cPotGet, cPotSet, getP, setP, cCall, fInt, fLen, fTuple, fList, cLenV, dLt, dLe, dGt, dGe, dB2, dAdd, dSub_ev, dNeg, Nat.reduceLeDiff, cs0, cs1, cs2, cs3, cs4, cs5, cs6, cs7, cs8, cs9, cs10, cs11, cs12, Int.ofNat_eq_natCast, dEq_int, dNe_int, dEq_pair, dNe_pair, dIsN, dNotN, cPar, cPar3, cAsg, gN, gT, gsCons, gsNil, bdOf, cSl, oNone, oSome, dSl, iSeq, iRg1, iRg2, cExpr, dRev, List.map_cons, List.map_nil, List.length_cons, List.length_nil, List.cons_append, List.nil_append, List.append_nil, List.replicate, List.getElem?_cons_zero, List.getElem?_cons_succ, List.set_cons_zero, List.set_cons_succ, Option.bind_some, Option.map_some, Option.bind_none, Option.map_none, Nat.reduceAdd, Nat.reduceSub, Int.reduceAdd, Int.reduceNeg, decide_true, decide_false, Bool.not_true, Bool.not_false, if_true, if_false, Bool.false_eq_true, if_pos, reduceIte, reduceCtorEq, Option.some.injEq, Prod.mk.injEq, and_self, and_true, true_and, szOk, turns1 v]) (by simp only [cFz, at40, at41, at42, at43, at20, at21, at30, at31, at32, List.set, dMod_ev, Int.reduceMod, Int.reduceLT, Int.reduceSub, Int.reduceMul, Int.reduceToNat, Nat.reduceLT, Int.zero_add, Int.reduceLE, fAll_b, runF, cSeq, cIf, cSet, cRet, cRetN, cSkip, cCont, cBrk, cVar, cD, cBin, cUn, cBi, aNil, aCons, cTup, cLst, bT, bAnd, bOr, bNot, cAnd, cOr, cNot, cIte, cChain, cIsi, dTy, kb1, kb2, kb3, kb4, kb5, kb6, kb7, fAbs_ev, fMax_ev, fMin_ev, wipeS, Function.comp_apply, Function.comp_def, dIx, dGetAny, cPotGet, cPotSet, getP, setP, cCall, fInt, fLen, fTuple, fList, cLenV, dLt, dLe, dGt, dGe, dB2, dAdd, dSub_ev, dNeg, Nat.reduceLeDiff, cs0, cs1, cs2, cs3, cs4, cs5, cs6, cs7, cs8, cs9, cs10, cs11, cs12, Int.ofNat_eq_natCast, dEq_int, dNe_int, dEq_pair, dNe_pair, dIsN, dNotN, cPar, cPar3, cAsg, gN, gT, gsCons, gsNil, bdOf, cSl, oNone, oSome, dSl, iSeq, iRg1, iRg2, cExpr, dRev, List.map_cons, List.map_nil, List.length_cons, List.length_nil, List.cons_append, List.nil_append, List.append_nil, List.replicate, List.getElem?_cons_zero, List.getElem?_cons_succ, List.set_cons_zero, List.set_cons_succ, Option.bind_some, Option.map_some, Option.bind_none, Option.map_none, Nat.reduceAdd, Nat.reduceSub, Int.reduceAdd, Int.reduceNeg, decide_true, decide_false, Bool.not_true, Bool.not_false, if_true, if_false, Bool.false_eq_true, if_pos, reduceIte, reduceCtorEq, Option.some.injEq, Prod.mk.injEq, and_self, and_true, true_and, szOk, turns2 v]) (by simp only [cFz, at40, at41, at42, at43, at20, at21, at30, at31, at32, List.set, dMod_ev, Int.reduceMod, Int.reduceLT, Int.reduceSub, Int.reduceMul, Int.reduceToNat, Nat.reduceLT, Int.zero_add, Int.reduceLE, fAll_b, runF, cSeq, cIf, cSet, cRet, cRetN, cSkip, cCont, cBrk, cVar, cD, cBin, cUn, cBi, aNil, aCons, cTup, cLst, bT, bAnd, bOr, bNot, cAnd, cOr, cNot, cIte, cChain, cIsi, dTy, kb1, kb2, kb3, kb4, kb5, kb6, kb7, fAbs_ev, fMax_ev, fMin_ev, wipeS, Function.comp_apply, Function.comp_def, dIx, dGetAny, cPotGet, cPotSet, getP, setP, cCall, fInt, fLen, fTuple, fList, cLenV, dLt, dLe, dGt, dGe, dB2, dAdd, dSub_ev, dNeg, Nat.reduceLeDiff, cs0, cs1, cs2, cs3, cs4, cs5, cs6, cs7, cs8, cs9, cs10, cs11, cs12, Int.ofNat_eq_natCast, dEq_int, dNe_int, dEq_pair, dNe_pair, dIsN, dNotN, cPar, cPar3, cAsg, gN, gT, gsCons, gsNil, bdOf, cSl, oNone, oSome, dSl, iSeq, iRg1, iRg2, cExpr, dRev, List.map_cons, List.map_nil, List.length_cons, List.length_nil, List.cons_append, List.nil_append, List.append_nil, List.replicate, List.getElem?_cons_zero, List.getElem?_cons_succ, List.set_cons_zero, List.set_cons_succ, Option.bind_some, Option.map_some, Option.bind_none, Option.map_none, Nat.reduceAdd, Nat.reduceSub, Int.reduceAdd, Int.reduceNeg, decide_true, decide_false, Bool.not_true, Bool.not_false, if_true, if_false, Bool.false_eq_true, if_pos, reduceIte, reduceCtorEq, Option.some.injEq, Prod.mk.injEq, and_self, and_true, true_and, szOk, turns3 v])
  simp only [cFz, at40, at41, at42, at43, at20, at21, at30, at31, at32, List.set, dMod_ev, Int.reduceMod, Int.reduceLT, Int.reduceSub, Int.reduceMul, Int.reduceToNat, Nat.reduceLT, Int.zero_add, Int.reduceLE, fAll_b, runF, cSeq, cIf, cSet, cRet, cRetN, cSkip, cCont, cBrk, cVar, cD, cBin, cUn, cBi, aNil, aCons, cTup, cLst, bT, bAnd, bOr, bNot, cAnd, cOr, cNot, cIte, cChain, cIsi, dTy, kb1, kb2, kb3, kb4, kb5, kb6, kb7, fAbs_ev, fMax_ev, fMin_ev, wipeS, Function.comp_apply, Function.comp_def, dIx, dGetAny, cPotGet, cPotSet, getP, setP, cCall, fInt, fLen, fTuple, fList, cLenV, dLt, dLe, dGt, dGe, dB2, dAdd, dSub_ev, dNeg, Nat.reduceLeDiff, cs0, cs1, cs2, cs3, cs4, cs5, cs6, cs7, cs8, cs9, cs10, cs11, cs12, Int.ofNat_eq_natCast, dEq_int, dNe_int, dEq_pair, dNe_pair, dIsN, dNotN, cPar, cPar3, cAsg, gN, gT, gsCons, gsNil, bdOf, cSl, oNone, oSome, dSl, iSeq, iRg1, iRg2, cExpr, dRev, List.map_cons, List.map_nil, List.length_cons, List.length_nil, List.cons_append, List.nil_append, List.append_nil, List.replicate, List.getElem?_cons_zero, List.getElem?_cons_succ, List.set_cons_zero, List.set_cons_succ, Option.bind_some, Option.map_some, Option.bind_none, Option.map_none, Nat.reduceAdd, Nat.reduceSub, Int.reduceAdd, Int.reduceNeg, decide_true, decide_false, Bool.not_true, Bool.not_false, if_true, if_false, Bool.false_eq_true, if_pos, reduceIte, reduceCtorEq, Option.some.injEq, Prod.mk.injEq, and_self, and_true, true_and, szOk, f_round_corners, c_round_corners, look_ring_ev v, e]
end
/-! ### arms -/
structure Vd (ns : List Int) : Prop where
  l0 : 1 ≤ ns.length
  l1 : ns.length ≤ 12
  b : ∀ x ∈ ns, 1 ≤ x ∧ x ≤ 60
theorem sum_bd {ns : List Int} {m : Int} (h : ∀ x ∈ ns, 1 ≤ x ∧ x ≤ m) : (ns.length : Int) ≤ ns.sum ∧ ns.sum ≤ m * ns.length := by
  induction ns with
  | nil => simp
  | cons x xs ih =>
    obtain ⟨h1, h2⟩ := ih fun y hy => h y (.tail _ hy)
    have := h x (.head _)
    rw [List.sum_cons, List.length_cons]
    constructor
    · omega
    · have e : m * ((xs.length + 1 : Nat) : Int) = m * xs.length + m := by rw [Int.natCast_add, Int.mul_add]; simp
      omega
abbrev lowN (ns : List Int) : Int := mx 0 (2 * maxL ns - ns.sum)
section
variable {ns : List Int} {p : Pt}
theorem Vd.mx (v : Vd ns) : 1 ≤ maxL ns ∧ maxL ns ≤ 60 := v.b _ (maxL_mem (by have := v.l0; omega))
theorem Vd.sm (v : Vd ns) : 1 ≤ ns.sum ∧ ns.sum ≤ 720 := by
  have := sum_bd v.b
  have := v.l0; have := v.l1
  omega
theorem told_ring_ev (v : Vd ns) : f_told_ring_of [.tup (ns.map .int)] p = some (.tup [.int (lowN ns), .int ns.sum], p) := by
  have e1 := fMax_t (ns := ns) (by have := v.l0; omega)
  have e2 := dMul_i (a := 2) (b := maxL ns) (by decide) (by have := v.mx; omega)
  simp only [cFz, at40, at41, at42, at43, at20, at21, at30, at31, at32, List.set, dMod_ev, Int.reduceMod, Int.reduceLT, Int.reduceSub, Int.reduceMul, Int.reduceToNat, Nat.reduceLT, Int.zero_add, Int.reduceLE, fAll_b, runF, cSeq, cIf, cSet, cRet, cRetN, cSkip, cCont, cBrk, cVar, cD, cBin, cUn, cBi, aNil, aCons, cTup, cLst, bT, bAnd, bOr, bNot, cAnd, cOr, cNot, cIte, cChain, cIsi, dTy, kb1, kb2, kb3, kb4, kb5, kb6, kb7, fAbs_ev, fMax_ev, fMin_ev, wipeS, Function.comp_apply, Function.comp_def, dIx, dGetAny, cPotGet, cPotSet, getP, setP, cCall, fInt, fLen, fTuple, fList, cLenV, dLt, dLe, dGt, dGe, dB2, dAdd, dSub_ev, dNeg, Nat.reduceLeDiff, cs0, cs1, cs2, cs3, cs4, cs5, cs6, cs7, cs8, cs9, cs10, cs11, cs12, Int.ofNat_eq_natCast, dEq_int, dNe_int, dEq_pair, dNe_pair, dIsN, dNotN, cPar, cPar3, cAsg, gN, gT, gsCons, gsNil, bdOf, cSl, oNone, oSome, dSl, iSeq, iRg1, iRg2, cExpr, dRev, List.map_cons, List.map_nil, List.length_cons, List.length_nil, List.cons_append, List.nil_append, List.append_nil, List.replicate, List.getElem?_cons_zero, List.getElem?_cons_succ, List.set_cons_zero, List.set_cons_succ, Option.bind_some, Option.map_some, Option.bind_none, Option.map_none, Nat.reduceAdd, Nat.reduceSub, Int.reduceAdd, Int.reduceNeg, decide_true, decide_false, Bool.not_true, Bool.not_false, if_true, if_false, Bool.false_eq_true, if_pos, reduceIte, reduceCtorEq, Option.some.injEq, Prod.mk.injEq, and_self, and_true, true_and, szOk, f_told_ring_of, c_told_ring_of, e1, e2, fSum_t]
theorem look_rods_ev (v : Vd ns) : f_look_at_rods [.tup (ns.map .int)] p = some (.non, p) := by
  have e := are_ints_ev (p := p) v.b (by have := v.l1; omega)
  have h0 : (1 : Int) ≤ (ns.length : Int) := by have := v.l0; omega
  have h1 : (ns.length : Int) ≤ 12 := by have := v.l1; omega
  simp only [cFz, at40, at41, at42, at43, at20, at21, at30, at31, at32, List.set, dMod_ev, Int.reduceMod, Int.reduceLT, Int.reduceSub, Int.reduceMul, Int.reduceToNat, Nat.reduceLT, Int.zero_add, Int.reduceLE, fAll_b, runF, cSeq, cIf, cSet, cRet, cRetN, cSkip, cCont, cBrk, cVar, cD, cBin, cUn, cBi, aNil, aCons, cTup, cLst, bT, bAnd, bOr, bNot, cAnd, cOr, cNot, cIte, cChain, cIsi, dTy, kb1, kb2, kb3, kb4, kb5, kb6, kb7, fAbs_ev, fMax_ev, fMin_ev, wipeS, Function.comp_apply, Function.comp_def, dIx, dGetAny, cPotGet, cPotSet, getP, setP, cCall, fInt, fLen, fTuple, fList, cLenV, dLt, dLe, dGt, dGe, dB2, dAdd, dSub_ev, dNeg, Nat.reduceLeDiff, cs0, cs1, cs2, cs3, cs4, cs5, cs6, cs7, cs8, cs9, cs10, cs11, cs12, Int.ofNat_eq_natCast, dEq_int, dNe_int, dEq_pair, dNe_pair, dIsN, dNotN, cPar, cPar3, cAsg, gN, gT, gsCons, gsNil, bdOf, cSl, oNone, oSome, dSl, iSeq, iRg1, iRg2, cExpr, dRev, List.map_cons, List.map_nil, List.length_cons, List.length_nil, List.cons_append, List.nil_append, List.append_nil, List.replicate, List.getElem?_cons_zero, List.getElem?_cons_succ, List.set_cons_zero, List.set_cons_succ, Option.bind_some, Option.map_some, Option.bind_none, Option.map_none, Nat.reduceAdd, Nat.reduceSub, Int.reduceAdd, Int.reduceNeg, decide_true, decide_false, Bool.not_true, Bool.not_false, if_true, if_false, Bool.false_eq_true, if_pos, reduceIte, reduceCtorEq, Option.some.injEq, Prod.mk.injEq, and_self, and_true, true_and, szOk, f_look_at_rods, c_look_at_rods, f_is_rods, c_is_rods, e, List.length_map, h0, h1]
theorem free_ev (v : Vd ns) : f_free_reach [.tup (ns.map .int)] p = some (.tup [.int (lowN ns), .int ns.sum], p) := by
  simp only [cFz, at40, at41, at42, at43, at20, at21, at30, at31, at32, List.set, dMod_ev, Int.reduceMod, Int.reduceLT, Int.reduceSub, Int.reduceMul, Int.reduceToNat, Nat.reduceLT, Int.zero_add, Int.reduceLE, fAll_b, runF, cSeq, cIf, cSet, cRet, cRetN, cSkip, cCont, cBrk, cVar, cD, cBin, cUn, cBi, aNil, aCons, cTup, cLst, bT, bAnd, bOr, bNot, cAnd, cOr, cNot, cIte, cChain, cIsi, dTy, kb1, kb2, kb3, kb4, kb5, kb6, kb7, fAbs_ev, fMax_ev, fMin_ev, wipeS, Function.comp_apply, Function.comp_def, dIx, dGetAny, cPotGet, cPotSet, getP, setP, cCall, fInt, fLen, fTuple, fList, cLenV, dLt, dLe, dGt, dGe, dB2, dAdd, dSub_ev, dNeg, Nat.reduceLeDiff, cs0, cs1, cs2, cs3, cs4, cs5, cs6, cs7, cs8, cs9, cs10, cs11, cs12, Int.ofNat_eq_natCast, dEq_int, dNe_int, dEq_pair, dNe_pair, dIsN, dNotN, cPar, cPar3, cAsg, gN, gT, gsCons, gsNil, bdOf, cSl, oNone, oSome, dSl, iSeq, iRg1, iRg2, cExpr, dRev, List.map_cons, List.map_nil, List.length_cons, List.length_nil, List.cons_append, List.nil_append, List.append_nil, List.replicate, List.getElem?_cons_zero, List.getElem?_cons_succ, List.set_cons_zero, List.set_cons_succ, Option.bind_some, Option.map_some, Option.bind_none, Option.map_none, Nat.reduceAdd, Nat.reduceSub, Int.reduceAdd, Int.reduceNeg, decide_true, decide_false, Bool.not_true, Bool.not_false, if_true, if_false, Bool.false_eq_true, if_pos, reduceIte, reduceCtorEq, Option.some.injEq, Prod.mk.injEq, and_self, and_true, true_and, szOk, f_free_reach, c_free_reach, look_rods_ev v, told_ring_ev v]
structure Vp (x y : Int) : Prop where
  x1 : -10000 ≤ x ∧ x ≤ 10000
  y1 : -10000 ≤ y ∧ y ≤ 10000
theorem look_point_ev {x y : Int} (v : Vp x y) : f_look_at_point [.tup [.int x, .int y]] p = some (.non, p) := by
  have e := are_ints_ev (ns := [x, y]) (lo := -10000) (hi := 10000) (p := p) (by
    intro z hz
    simp only [List.mem_cons, List.not_mem_nil, or_false] at hz
    rcases hz with rfl | rfl
    · exact v.x1
    · exact v.y1) (by simp)
  simp only [List.map_cons, List.map_nil] at e
  simp only [cFz, at40, at41, at42, at43, at20, at21, at30, at31, at32, List.set, dMod_ev, Int.reduceMod, Int.reduceLT, Int.reduceSub, Int.reduceMul, Int.reduceToNat, Nat.reduceLT, Int.zero_add, Int.reduceLE, fAll_b, runF, cSeq, cIf, cSet, cRet, cRetN, cSkip, cCont, cBrk, cVar, cD, cBin, cUn, cBi, aNil, aCons, cTup, cLst, bT, bAnd, bOr, bNot, cAnd, cOr, cNot, cIte, cChain, cIsi, dTy, kb1, kb2, kb3, kb4, kb5, kb6, kb7, fAbs_ev, fMax_ev, fMin_ev, wipeS, Function.comp_apply, Function.comp_def, dIx, dGetAny, cPotGet, cPotSet, getP, setP, cCall, fInt, fLen, fTuple, fList, cLenV, dLt, dLe, dGt, dGe, dB2, dAdd, dSub_ev, dNeg, Nat.reduceLeDiff, cs0, cs1, cs2, cs3, cs4, cs5, cs6, cs7, cs8, cs9, cs10, cs11, cs12, Int.ofNat_eq_natCast, dEq_int, dNe_int, dEq_pair, dNe_pair, dIsN, dNotN, cPar, cPar3, cAsg, gN, gT, gsCons, gsNil, bdOf, cSl, oNone, oSome, dSl, iSeq, iRg1, iRg2, cExpr, dRev, List.map_cons, List.map_nil, List.length_cons, List.length_nil, List.cons_append, List.nil_append, List.append_nil, List.replicate, List.getElem?_cons_zero, List.getElem?_cons_succ, List.set_cons_zero, List.set_cons_succ, Option.bind_some, Option.map_some, Option.bind_none, Option.map_none, Nat.reduceAdd, Nat.reduceSub, Int.reduceAdd, Int.reduceNeg, decide_true, decide_false, Bool.not_true, Bool.not_false, if_true, if_false, Bool.false_eq_true, if_pos, reduceIte, reduceCtorEq, Option.some.injEq, Prod.mk.injEq, and_self, and_true, true_and, szOk, f_look_at_point, c_look_at_point, f_is_point, c_is_point, e]
def wd (ns : List Int) (x y : Int) : Str := if ns.sum * ns.sum < x * x + y * y then "far" else if x * x + y * y < lowN ns * lowN ns then "near" else "reached"
theorem reached_ev {x y : Int} (v : Vd ns) (vp : Vp x y) : f_reached_freely [.tup (ns.map .int), .tup [.int x, .int y]] p = some (.str (wd ns x y), p) := by
  have hs := v.sm
  have hm := v.mx
  have hlo : 0 ≤ lowN ns ∧ lowN ns ≤ 120 := by unfold lowN Rb.mx; split <;> omega
  have e1 := dMul_i (a := x) (b := x) (by have := vp.x1; omega) (by have := vp.x1; omega)
  have e2 := dMul_i (a := y) (b := y) (by have := vp.y1; omega) (by have := vp.y1; omega)
  have e3 := dMul_i (a := ns.sum) (b := ns.sum) (by omega) (by omega)
  have e4 := dMul_i (a := lowN ns) (b := lowN ns) (by omega) (by omega)
  unfold wd
  by_cases h1 : ns.sum * ns.sum < x * x + y * y
  · simp only [cFz, at40, at41, at42, at43, at20, at21, at30, at31, at32, List.set, dMod_ev, Int.reduceMod, Int.reduceLT, Int.reduceSub, Int.reduceMul, Int.reduceToNat, Nat.reduceLT, Int.zero_add, Int.reduceLE, fAll_b, runF, cSeq, cIf, cSet, cRet, cRetN, cSkip, cCont, cBrk, cVar, cD, cBin, cUn, cBi, aNil, aCons, cTup, cLst, bT, bAnd, bOr, bNot, cAnd, cOr, cNot, cIte, cChain, cIsi, dTy, kb1, kb2, kb3, kb4, kb5, kb6, kb7, fAbs_ev, fMax_ev, fMin_ev, wipeS, Function.comp_apply, Function.comp_def, dIx, dGetAny, cPotGet, cPotSet, getP, setP, cCall, fInt, fLen, fTuple, fList, cLenV, dLt, dLe, dGt, dGe, dB2, dAdd, dSub_ev, dNeg, Nat.reduceLeDiff, cs0, cs1, cs2, cs3, cs4, cs5, cs6, cs7, cs8, cs9, cs10, cs11, cs12, Int.ofNat_eq_natCast, dEq_int, dNe_int, dEq_pair, dNe_pair, dIsN, dNotN, cPar, cPar3, cAsg, gN, gT, gsCons, gsNil, bdOf, cSl, oNone, oSome, dSl, iSeq, iRg1, iRg2, cExpr, dRev, List.map_cons, List.map_nil, List.length_cons, List.length_nil, List.cons_append, List.nil_append, List.append_nil, List.replicate, List.getElem?_cons_zero, List.getElem?_cons_succ, List.set_cons_zero, List.set_cons_succ, Option.bind_some, Option.map_some, Option.bind_none, Option.map_none, Nat.reduceAdd, Nat.reduceSub, Int.reduceAdd, Int.reduceNeg, decide_true, decide_false, Bool.not_true, Bool.not_false, if_true, if_false, Bool.false_eq_true, if_pos, reduceIte, reduceCtorEq, Option.some.injEq, Prod.mk.injEq, and_self, and_true, true_and, szOk, f_reached_freely, c_reached_freely, look_rods_ev v, look_point_ev vp, told_ring_ev v, e1, e2, e3, e4, h1]
  · by_cases h2 : x * x + y * y < lowN ns * lowN ns
    · simp only [cFz, at40, at41, at42, at43, at20, at21, at30, at31, at32, List.set, dMod_ev, Int.reduceMod, Int.reduceLT, Int.reduceSub, Int.reduceMul, Int.reduceToNat, Nat.reduceLT, Int.zero_add, Int.reduceLE, fAll_b, runF, cSeq, cIf, cSet, cRet, cRetN, cSkip, cCont, cBrk, cVar, cD, cBin, cUn, cBi, aNil, aCons, cTup, cLst, bT, bAnd, bOr, bNot, cAnd, cOr, cNot, cIte, cChain, cIsi, dTy, kb1, kb2, kb3, kb4, kb5, kb6, kb7, fAbs_ev, fMax_ev, fMin_ev, wipeS, Function.comp_apply, Function.comp_def, dIx, dGetAny, cPotGet, cPotSet, getP, setP, cCall, fInt, fLen, fTuple, fList, cLenV, dLt, dLe, dGt, dGe, dB2, dAdd, dSub_ev, dNeg, Nat.reduceLeDiff, cs0, cs1, cs2, cs3, cs4, cs5, cs6, cs7, cs8, cs9, cs10, cs11, cs12, Int.ofNat_eq_natCast, dEq_int, dNe_int, dEq_pair, dNe_pair, dIsN, dNotN, cPar, cPar3, cAsg, gN, gT, gsCons, gsNil, bdOf, cSl, oNone, oSome, dSl, iSeq, iRg1, iRg2, cExpr, dRev, List.map_cons, List.map_nil, List.length_cons, List.length_nil, List.cons_append, List.nil_append, List.append_nil, List.replicate, List.getElem?_cons_zero, List.getElem?_cons_succ, List.set_cons_zero, List.set_cons_succ, Option.bind_some, Option.map_some, Option.bind_none, Option.map_none, Nat.reduceAdd, Nat.reduceSub, Int.reduceAdd, Int.reduceNeg, decide_true, decide_false, Bool.not_true, Bool.not_false, if_true, if_false, Bool.false_eq_true, if_pos, reduceIte, reduceCtorEq, Option.some.injEq, Prod.mk.injEq, and_self, and_true, true_and, szOk, f_reached_freely, c_reached_freely, look_rods_ev v, look_point_ev vp, told_ring_ev v, e1, e2, e3, e4, h1, h2]
    · simp only [cFz, at40, at41, at42, at43, at20, at21, at30, at31, at32, List.set, dMod_ev, Int.reduceMod, Int.reduceLT, Int.reduceSub, Int.reduceMul, Int.reduceToNat, Nat.reduceLT, Int.zero_add, Int.reduceLE, fAll_b, runF, cSeq, cIf, cSet, cRet, cRetN, cSkip, cCont, cBrk, cVar, cD, cBin, cUn, cBi, aNil, aCons, cTup, cLst, bT, bAnd, bOr, bNot, cAnd, cOr, cNot, cIte, cChain, cIsi, dTy, kb1, kb2, kb3, kb4, kb5, kb6, kb7, fAbs_ev, fMax_ev, fMin_ev, wipeS, Function.comp_apply, Function.comp_def, dIx, dGetAny, cPotGet, cPotSet, getP, setP, cCall, fInt, fLen, fTuple, fList, cLenV, dLt, dLe, dGt, dGe, dB2, dAdd, dSub_ev, dNeg, Nat.reduceLeDiff, cs0, cs1, cs2, cs3, cs4, cs5, cs6, cs7, cs8, cs9, cs10, cs11, cs12, Int.ofNat_eq_natCast, dEq_int, dNe_int, dEq_pair, dNe_pair, dIsN, dNotN, cPar, cPar3, cAsg, gN, gT, gsCons, gsNil, bdOf, cSl, oNone, oSome, dSl, iSeq, iRg1, iRg2, cExpr, dRev, List.map_cons, List.map_nil, List.length_cons, List.length_nil, List.cons_append, List.nil_append, List.append_nil, List.replicate, List.getElem?_cons_zero, List.getElem?_cons_succ, List.set_cons_zero, List.set_cons_succ, Option.bind_some, Option.map_some, Option.bind_none, Option.map_none, Nat.reduceAdd, Nat.reduceSub, Int.reduceAdd, Int.reduceNeg, decide_true, decide_false, Bool.not_true, Bool.not_false, if_true, if_false, Bool.false_eq_true, if_pos, reduceIte, reduceCtorEq, Option.some.injEq, Prod.mk.injEq, and_self, and_true, true_and, szOk, f_reached_freely, c_reached_freely, look_rods_ev v, look_point_ev vp, told_ring_ev v, e1, e2, e3, e4, h1, h2]
end
end Lk51

namespace Lk51
open PySem PySem.Spec PyProof.Rows L2 Rb
theorem if_skip {t : ST} {s : S} (h : t s = some (false, s)) : cIf t (cRet (cD (.bl false))) cSkip s = some (.nx, s) := if_f h rfl
theorem ne_skip {X Y : SE} {s : S} {x y : D} {b b' : Bool} (h : X s = some ((x, b), s)) (h' : Y s = some ((y, b'), s)) (hd : dNe x y = some (.bl false, false)) : cIf (bT (cBin dNe X Y)) (cRet (cD (.bl false))) cSkip s = some (.nx, s) := by
  refine if_skip ?_
  simp only [bT, cBin, h, h', hd, Option.bind_some, Option.map_some]
section
variable {α : Type} {a b c d : α}
theorem ca0 : cut [a, b, c, d] (some 0) none = [a, b, c, d] := rfl
theorem ca1 : cut [a, b, c, d] (some 1) none = [b, c, d] := rfl
theorem ca2 : cut [a, b, c, d] (some 2) none = [c, d] := rfl
theorem ca3 : cut [a, b, c, d] (some 3) none = [d] := rfl
theorem cb0 : cut [a, b, c, d] none (some 0) = [] := rfl
theorem cb1 : cut [a, b, c, d] none (some 1) = [a] := rfl
theorem cb2 : cut [a, b, c, d] none (some 2) = [a, b] := rfl
theorem cb3 : cut [a, b, c, d] none (some 3) = [a, b, c] := rfl
theorem rev4 : [a, b, c, d].reverse = [d, c, b, a] := rfl
end
theorem set_fz {c : SE} {s : S} {d : D} {b : Bool} {r : List Bd} {p : Pt} {i : Nat} (h : c s = some ((d, b), ⟨r, p⟩)) : cSet i (cFz c) s = some (.nx, ⟨r.set i (.val d), p⟩) := by
  simp only [cSet, cFz, h, Option.map_some]; rfl
/-- begun at k -/
def Rot {α : Type} (k : Int) (a b c d a' b' c' d' : α) : Prop := (k = 0 ∧ a' = a ∧ b' = b ∧ c' = c ∧ d' = d) ∨ (k = 1 ∧ a' = b ∧ b' = c ∧ c' = d ∧ d' = a) ∨ (k = 2 ∧ a' = c ∧ b' = d ∧ c' = a ∧ d' = b) ∨ (k = 3 ∧ a' = d ∧ b' = a ∧ c' = b ∧ d' = c)
section
variable {x1 x2 x3 x4 x5 x6 x7 x8 x9 x10 x11 x12 x13 x14 x15 x16 : Bd} {p : Pt} {a b c d a' b' c' d' k t : Int}
abbrev spsD (a b c d : Int) : D := .lst [Sp a b c d, Sp b c d a, Sp c d a b, Sp d a b c]
abbrev evsD (a b c d : Int) : D := .lst [.bl (T a b c d), .bl (T b c d a), .bl (T c d a b), .bl (T d a b c)]
abbrev kdsD (a b c d : Int) : D := .lst [.str (kd (Gr a b c d) (T a b c d) (T d a b c)), .str (kd (Gr a b c d) (T b c d a) (T a b c d)), .str (kd (Gr a b c d) (T c d a b) (T b c d a)), .str (kd (Gr a b c d) (T d a b c) (T c d a b))]
theorem lcs {i j : Nat} {r : List Bd} {b0 : Bd} (v : Vr 10000 a b c d) (hi : r[i]? = some b0) (hb : notOwn b0 = true) (hij : i ≠ j) (hj : r[j]? = some (.val (R a b c d))) :
    cLC (iRg1 (aCons (cD (.int 4)) aNil)) (gN i) bYes (cCall f_span_at (aCons (cVar j) (aCons (cVar i) aNil))) [i] ⟨r, p⟩ = some ((spsD a b c d, true), ⟨r, p⟩) := by
  have hil : i < r.length := (List.getElem?_eq_some_iff.1 hi).1
  refine lc4 hi hb ?_ ?_ ?_ ?_
  all_goals simp only [cFz, at40, at41, at42, at43, at20, at21, at30, at31, at32, List.set, dMod_ev, Int.reduceMod, Int.reduceLT, Int.reduceSub, Int.reduceMul, Int.reduceToNat, Nat.reduceLT, Int.zero_add, Int.reduceLE, fAll_b, runF, cSeq, cIf, cSet, cRet, cRetN, cSkip, cCont, cBrk, cVar, cD, cBin, cUn, cBi, aNil, aCons, cTup, cLst, bT, bAnd, bOr, bNot, cAnd, cOr, cNot, cIte, cChain, cIsi, dTy, kb1, kb2, kb3, kb4, kb5, kb6, kb7, fAbs_ev, fMax_ev, fMin_ev, wipeS, Function.comp_apply, Function.comp_def, dIx, dGetAny, cPotGet, cPotSet, getP, setP, cCall, fInt, fLen, fTuple, fList, cLenV, dLt, dLe, dGt, dGe, dB2, dAdd, dSub_ev, dNeg, Nat.reduceLeDiff, cs0, cs1, cs2, cs3, cs4, cs5, cs6, cs7, cs8, cs9, cs10, cs11, cs12, Int.ofNat_eq_natCast, dEq_int, dNe_int, dEq_pair, dNe_pair, dIsN, dNotN, cPar, cPar3, cAsg, gN, gT, gsCons, gsNil, bdOf, cSl, oNone, oSome, dSl, iSeq, iRg1, iRg2, cExpr, dRev, List.map_cons, List.map_nil, List.length_cons, List.length_nil, List.cons_append, List.nil_append, List.append_nil, List.replicate, List.getElem?_cons_zero, List.getElem?_cons_succ, List.set_cons_zero, List.set_cons_succ, Option.bind_some, Option.map_some, Option.bind_none, Option.map_none, Nat.reduceAdd, Nat.reduceSub, Int.reduceAdd, Int.reduceNeg, decide_true, decide_false, Bool.not_true, Bool.not_false, if_true, if_false, Bool.false_eq_true, if_pos, reduceIte, reduceCtorEq, Option.some.injEq, Prod.mk.injEq, and_self, and_true, true_and, szOk, List.getElem?_set_self hil, List.getElem?_set_ne hij, hj, span0 v, span1 v, span2 v, span3 v]
theorem lct {i j : Nat} {r : List Bd} {b0 : Bd} (v : Vr 10000 a b c d) (hi : r[i]? = some b0) (hb : notOwn b0 = true) (hij : i ≠ j) (hj : r[j]? = some (.val (R a b c d))) :
    cLC (iRg1 (aCons (cD (.int 4)) aNil)) (gN i) bYes (cCall f_turns_round (aCons (cVar j) (aCons (cVar i) aNil))) [i] ⟨r, p⟩ = some ((evsD a b c d, true), ⟨r, p⟩) := by
  have hil : i < r.length := (List.getElem?_eq_some_iff.1 hi).1
  refine lc4 hi hb ?_ ?_ ?_ ?_
  all_goals simp only [cFz, at40, at41, at42, at43, at20, at21, at30, at31, at32, List.set, dMod_ev, Int.reduceMod, Int.reduceLT, Int.reduceSub, Int.reduceMul, Int.reduceToNat, Nat.reduceLT, Int.zero_add, Int.reduceLE, fAll_b, runF, cSeq, cIf, cSet, cRet, cRetN, cSkip, cCont, cBrk, cVar, cD, cBin, cUn, cBi, aNil, aCons, cTup, cLst, bT, bAnd, bOr, bNot, cAnd, cOr, cNot, cIte, cChain, cIsi, dTy, kb1, kb2, kb3, kb4, kb5, kb6, kb7, fAbs_ev, fMax_ev, fMin_ev, wipeS, Function.comp_apply, Function.comp_def, dIx, dGetAny, cPotGet, cPotSet, getP, setP, cCall, fInt, fLen, fTuple, fList, cLenV, dLt, dLe, dGt, dGe, dB2, dAdd, dSub_ev, dNeg, Nat.reduceLeDiff, cs0, cs1, cs2, cs3, cs4, cs5, cs6, cs7, cs8, cs9, cs10, cs11, cs12, Int.ofNat_eq_natCast, dEq_int, dNe_int, dEq_pair, dNe_pair, dIsN, dNotN, cPar, cPar3, cAsg, gN, gT, gsCons, gsNil, bdOf, cSl, oNone, oSome, dSl, iSeq, iRg1, iRg2, cExpr, dRev, List.map_cons, List.map_nil, List.length_cons, List.length_nil, List.cons_append, List.nil_append, List.append_nil, List.replicate, List.getElem?_cons_zero, List.getElem?_cons_succ, List.set_cons_zero, List.set_cons_succ, Option.bind_some, Option.map_some, Option.bind_none, Option.map_none, Nat.reduceAdd, Nat.reduceSub, Int.reduceAdd, Int.reduceNeg, decide_true, decide_false, Bool.not_true, Bool.not_false, if_true, if_false, Bool.false_eq_true, if_pos, reduceIte, reduceCtorEq, Option.some.injEq, Prod.mk.injEq, and_self, and_true, true_and, szOk, List.getElem?_set_self hil, List.getElem?_set_ne hij, hj, turns0 v, turns1 v, turns2 v, turns3 v]
theorem lck {i j : Nat} {r : List Bd} {b0 : Bd} (v : Vr 10000 a b c d) (hi : r[i]? = some b0) (hb : notOwn b0 = true) (hij : i ≠ j) (hj : r[j]? = some (.val (R a b c d))) :
    cLC (iRg1 (aCons (cD (.int 4)) aNil)) (gN i) bYes (cCall f_kind_of_ring (aCons (cVar j) (aCons (cVar i) aNil))) [i] ⟨r, p⟩ = some ((kdsD a b c d, true), ⟨r, p⟩) := by
  have hil : i < r.length := (List.getElem?_eq_some_iff.1 hi).1
  refine lc4 hi hb ?_ ?_ ?_ ?_
  all_goals simp only [cFz, at40, at41, at42, at43, at20, at21, at30, at31, at32, List.set, dMod_ev, Int.reduceMod, Int.reduceLT, Int.reduceSub, Int.reduceMul, Int.reduceToNat, Nat.reduceLT, Int.zero_add, Int.reduceLE, fAll_b, runF, cSeq, cIf, cSet, cRet, cRetN, cSkip, cCont, cBrk, cVar, cD, cBin, cUn, cBi, aNil, aCons, cTup, cLst, bT, bAnd, bOr, bNot, cAnd, cOr, cNot, cIte, cChain, cIsi, dTy, kb1, kb2, kb3, kb4, kb5, kb6, kb7, fAbs_ev, fMax_ev, fMin_ev, wipeS, Function.comp_apply, Function.comp_def, dIx, dGetAny, cPotGet, cPotSet, getP, setP, cCall, fInt, fLen, fTuple, fList, cLenV, dLt, dLe, dGt, dGe, dB2, dAdd, dSub_ev, dNeg, Nat.reduceLeDiff, cs0, cs1, cs2, cs3, cs4, cs5, cs6, cs7, cs8, cs9, cs10, cs11, cs12, Int.ofNat_eq_natCast, dEq_int, dNe_int, dEq_pair, dNe_pair, dIsN, dNotN, cPar, cPar3, cAsg, gN, gT, gsCons, gsNil, bdOf, cSl, oNone, oSome, dSl, iSeq, iRg1, iRg2, cExpr, dRev, List.map_cons, List.map_nil, List.length_cons, List.length_nil, List.cons_append, List.nil_append, List.append_nil, List.replicate, List.getElem?_cons_zero, List.getElem?_cons_succ, List.set_cons_zero, List.set_cons_succ, Option.bind_some, Option.map_some, Option.bind_none, Option.map_none, Nat.reduceAdd, Nat.reduceSub, Int.reduceAdd, Int.reduceNeg, decide_true, decide_false, Bool.not_true, Bool.not_false, if_true, if_false, Bool.false_eq_true, if_pos, reduceIte, reduceCtorEq, Option.some.injEq, Prod.mk.injEq, and_self, and_true, true_and, szOk, List.getElem?_set_self hil, List.getElem?_set_ne hij, hj, kind0 v, kind1 v, kind2 v, kind3 v]
theorem e5 (v : Vr 10000 a b c d) : s__law_right_5 (⟨[.val .pot, x1, x2, .val (R a b c d), .val (.int k), .val (.int t), x6, x7, x8, x9, x10, x11, x12, x13, x14, x15, x16, .no, .no, .no, .no], p⟩ : S) = some (.nx, (⟨[.val .pot, x1, x2, .val (R a b c d), .val (.int k), .val (.int t), .val (spsD a b c d), x7, x8, x9, x10, x11, x12, x13, x14, x15, x16, .no, .no, .no, .no], p⟩ : S)) := by
  exact set_fz (lcs (i := 18) (j := 3) v rfl rfl (by decide) rfl)
theorem e6 (v : Vr 10000 a b c d) : s__law_right_6 (⟨[.val .pot, x1, x2, .val (R a b c d), .val (.int k), .val (.int t), .val (spsD a b c d), x7, x8, x9, x10, x11, x12, x13, x14, x15, x16, .no, .no, .no, .no], p⟩ : S) = some (.nx, (⟨[.val .pot, x1, x2, .val (R a b c d), .val (.int k), .val (.int t), .val (spsD a b c d), .val (evsD a b c d), x8, x9, x10, x11, x12, x13, x14, x15, x16, .no, .no, .no, .no], p⟩ : S)) := by
  exact set_fz (lct (i := 18) (j := 3) v rfl rfl (by decide) rfl)
theorem e7 (v : Vr 10000 a b c d) : s__law_right_7 (⟨[.val .pot, x1, x2, .val (R a b c d), .val (.int k), .val (.int t), .val (spsD a b c d), .val (evsD a b c d), x8, x9, x10, x11, x12, x13, x14, x15, x16, .no, .no, .no, .no], p⟩ : S) = some (.nx, (⟨[.val .pot, x1, x2, .val (R a b c d), .val (.int k), .val (.int t), .val (spsD a b c d), .val (evsD a b c d), .val (kdsD a b c d), x9, x10, x11, x12, x13, x14, x15, x16, .no, .no, .no, .no], p⟩ : S)) := by
  exact set_fz (lck (i := 19) (j := 3) v rfl rfl (by decide) rfl)
theorem e8 (h : Rot k a b c d a' b' c' d') : s__law_right_8 (⟨[.val .pot, x1, x2, .val (R a b c d), .val (.int k), .val (.int t), .val (spsD a b c d), .val (evsD a b c d), .val (kdsD a b c d), x9, x10, x11, x12, x13, x14, x15, x16, .no, .no, .no, .no], p⟩ : S) = some (.nx, (⟨[.val .pot, x1, x2, .val (R a b c d), .val (.int k), .val (.int t), .val (spsD a b c d), .val (evsD a b c d), .val (kdsD a b c d), .val (R a' b' c' d'), x10, x11, x12, x13, x14, x15, x16, .no, .no, .no, .no], p⟩ : S)) := by
  rcases h with ⟨rfl, rfl, rfl, rfl, rfl⟩ | ⟨rfl, rfl, rfl, rfl, rfl⟩ | ⟨rfl, rfl, rfl, rfl, rfl⟩ | ⟨rfl, rfl, rfl, rfl, rfl⟩
  all_goals simp only [cFz, at40, at41, at42, at43, at20, at21, at30, at31, at32, List.set, dMod_ev, Int.reduceMod, Int.reduceLT, Int.reduceSub, Int.reduceMul, Int.reduceToNat, Nat.reduceLT, Int.zero_add, Int.reduceLE, fAll_b, runF, cSeq, cIf, cSet, cRet, cRetN, cSkip, cCont, cBrk, cVar, cD, cBin, cUn, cBi, aNil, aCons, cTup, cLst, bT, bAnd, bOr, bNot, cAnd, cOr, cNot, cIte, cChain, cIsi, dTy, kb1, kb2, kb3, kb4, kb5, kb6, kb7, fAbs_ev, fMax_ev, fMin_ev, wipeS, Function.comp_apply, Function.comp_def, dIx, dGetAny, cPotGet, cPotSet, getP, setP, cCall, fInt, fLen, fTuple, fList, cLenV, dLt, dLe, dGt, dGe, dB2, dAdd, dSub_ev, dNeg, Nat.reduceLeDiff, cs0, cs1, cs2, cs3, cs4, cs5, cs6, cs7, cs8, cs9, cs10, cs11, cs12, Int.ofNat_eq_natCast, dEq_int, dNe_int, dEq_pair, dNe_pair, dIsN, dNotN, cPar, cPar3, cAsg, gN, gT, gsCons, gsNil, bdOf, cSl, oNone, oSome, dSl, iSeq, iRg1, iRg2, cExpr, dRev, List.map_cons, List.map_nil, List.length_cons, List.length_nil, List.cons_append, List.nil_append, List.append_nil, List.replicate, List.getElem?_cons_zero, List.getElem?_cons_succ, List.set_cons_zero, List.set_cons_succ, Option.bind_some, Option.map_some, Option.bind_none, Option.map_none, Nat.reduceAdd, Nat.reduceSub, Int.reduceAdd, Int.reduceNeg, decide_true, decide_false, Bool.not_true, Bool.not_false, if_true, if_false, Bool.false_eq_true, if_pos, reduceIte, reduceCtorEq, Option.some.injEq, Prod.mk.injEq, and_self, and_true, true_and, szOk, s__law_right_8, ca0, ca1, ca2, ca3, cb0, cb1, cb2, cb3]
theorem sh_sps : D.sh 64 (spsD a b c d) = true := by simp only [sh_lst64, shL_cons, shL_nil, sh_tup63, sh_int, Bool.and_self]
theorem sh_kd {n : Nat} {g : Int} {t1 t2 : Bool} : D.sh n (.str (kd g t1 t2)) = true := by
  have h : D.sh n (.str (kd g t1 t2)) = PyData.canLay0 (.str (kd g t1 t2)) := by cases n <;> rfl
  rw [h]
  unfold kd
  split
  · decide +kernel
  · cases t1 <;> cases t2 <;> decide +kernel
theorem sh_kds : D.sh 64 (kdsD a b c d) = true := by simp only [sh_lst64, shL_cons, shL_nil, sh_kd, Bool.and_self]
theorem sh_evs : D.sh 64 (evsD a b c d) = true := by simp only [sh_lst64, shL_cons, shL_nil, sh_bl, Bool.and_self]
theorem sh_rc {t0 t1 t2 t3 : Bool} : D.sh 64 (.tup (rc t0 t1 t2 t3)) = true := by
  cases t0 <;> cases t1 <;> cases t2 <;> cases t3 <;> rfl
theorem e9 (v : Vr 10000 a' b' c' d') (h : Rot k a b c d a' b' c' d') : s__law_right_9 (⟨[.val .pot, x1, x2, .val (R a b c d), .val (.int k), .val (.int t), .val (spsD a b c d), .val (evsD a b c d), .val (kdsD a b c d), .val (R a' b' c' d'), x10, x11, x12, x13, x14, x15, x16, .no, .no, .no, .no], p⟩ : S) = some (.nx, (⟨[.val .pot, x1, x2, .val (R a b c d), .val (.int k), .val (.int t), .val (spsD a b c d), .val (evsD a b c d), .val (kdsD a b c d), .val (R a' b' c' d'), x10, x11, x12, x13, x14, x15, x16, .no, .no, .no, .no], p⟩ : S)) := by
  refine ne_skip (lcs (i := 18) (j := 9) v rfl rfl (by decide) rfl) (y := spsD a' b' c' d') (b' := true) ?_ (dNe_rfl sh_sps rfl)
  rcases h with ⟨rfl, rfl, rfl, rfl, rfl⟩ | ⟨rfl, rfl, rfl, rfl, rfl⟩ | ⟨rfl, rfl, rfl, rfl, rfl⟩ | ⟨rfl, rfl, rfl, rfl, rfl⟩
  all_goals simp only [cFz, at40, at41, at42, at43, at20, at21, at30, at31, at32, List.set, dMod_ev, Int.reduceMod, Int.reduceLT, Int.reduceSub, Int.reduceMul, Int.reduceToNat, Nat.reduceLT, Int.zero_add, Int.reduceLE, fAll_b, runF, cSeq, cIf, cSet, cRet, cRetN, cSkip, cCont, cBrk, cVar, cD, cBin, cUn, cBi, aNil, aCons, cTup, cLst, bT, bAnd, bOr, bNot, cAnd, cOr, cNot, cIte, cChain, cIsi, dTy, kb1, kb2, kb3, kb4, kb5, kb6, kb7, fAbs_ev, fMax_ev, fMin_ev, wipeS, Function.comp_apply, Function.comp_def, dIx, dGetAny, cPotGet, cPotSet, getP, setP, cCall, fInt, fLen, fTuple, fList, cLenV, dLt, dLe, dGt, dGe, dB2, dAdd, dSub_ev, dNeg, Nat.reduceLeDiff, cs0, cs1, cs2, cs3, cs4, cs5, cs6, cs7, cs8, cs9, cs10, cs11, cs12, Int.ofNat_eq_natCast, dEq_int, dNe_int, dEq_pair, dNe_pair, dIsN, dNotN, cPar, cPar3, cAsg, gN, gT, gsCons, gsNil, bdOf, cSl, oNone, oSome, dSl, iSeq, iRg1, iRg2, cExpr, dRev, List.map_cons, List.map_nil, List.length_cons, List.length_nil, List.cons_append, List.nil_append, List.append_nil, List.replicate, List.getElem?_cons_zero, List.getElem?_cons_succ, List.set_cons_zero, List.set_cons_succ, Option.bind_some, Option.map_some, Option.bind_none, Option.map_none, Nat.reduceAdd, Nat.reduceSub, Int.reduceAdd, Int.reduceNeg, decide_true, decide_false, Bool.not_true, Bool.not_false, if_true, if_false, Bool.false_eq_true, if_pos, reduceIte, reduceCtorEq, Option.some.injEq, Prod.mk.injEq, and_self, and_true, true_and, szOk, ca0, ca1, ca2, ca3, cb0, cb1, cb2, cb3]
theorem gr_rot (h : Rot k a b c d a' b' c' d') : Gr a' b' c' d' = Gr a b c d := by
  unfold Gr
  rcases h with ⟨rfl, rfl, rfl, rfl, rfl⟩ | ⟨rfl, rfl, rfl, rfl, rfl⟩ | ⟨rfl, rfl, rfl, rfl, rfl⟩ | ⟨rfl, rfl, rfl, rfl, rfl⟩
  · rfl
  · exact congrArg gr (srt_eq (show List.Perm [a', b', c', d'] [d', a', b', c'] from List.perm_append_comm (l₁ := [a', b', c']) (l₂ := [d'])))
  · exact congrArg gr (srt_eq (show List.Perm [a', b', c', d'] [c', d', a', b'] from List.perm_append_comm (l₁ := [a', b']) (l₂ := [c', d'])))
  · exact congrArg gr (srt_eq (show List.Perm [a', b', c', d'] [b', c', d', a'] from List.perm_append_comm (l₁ := [a']) (l₂ := [b', c', d'])))
theorem e10 (v : Vr 10000 a b c d) (v' : Vr 10000 a' b' c' d') (h : Rot k a b c d a' b' c' d') : s__law_right_10 (⟨[.val .pot, x1, x2, .val (R a b c d), .val (.int k), .val (.int t), .val (spsD a b c d), .val (evsD a b c d), .val (kdsD a b c d), .val (R a' b' c' d'), x10, x11, x12, x13, x14, x15, x16, .no, .no, .no, .no], p⟩ : S) = some (.nx, (⟨[.val .pot, x1, x2, .val (R a b c d), .val (.int k), .val (.int t), .val (spsD a b c d), .val (evsD a b c d), .val (kdsD a b c d), .val (R a' b' c' d'), x10, x11, x12, x13, x14, x15, x16, .no, .no, .no, .no], p⟩ : S)) := by
  have hg := gr_rot h
  simp only [cFz, at40, at41, at42, at43, at20, at21, at30, at31, at32, List.set, dMod_ev, Int.reduceMod, Int.reduceLT, Int.reduceSub, Int.reduceMul, Int.reduceToNat, Nat.reduceLT, Int.zero_add, Int.reduceLE, fAll_b, runF, cSeq, cIf, cSet, cRet, cRetN, cSkip, cCont, cBrk, cVar, cD, cBin, cUn, cBi, aNil, aCons, cTup, cLst, bT, bAnd, bOr, bNot, cAnd, cOr, cNot, cIte, cChain, cIsi, dTy, kb1, kb2, kb3, kb4, kb5, kb6, kb7, fAbs_ev, fMax_ev, fMin_ev, wipeS, Function.comp_apply, Function.comp_def, dIx, dGetAny, cPotGet, cPotSet, getP, setP, cCall, fInt, fLen, fTuple, fList, cLenV, dLt, dLe, dGt, dGe, dB2, dAdd, dSub_ev, dNeg, Nat.reduceLeDiff, cs0, cs1, cs2, cs3, cs4, cs5, cs6, cs7, cs8, cs9, cs10, cs11, cs12, Int.ofNat_eq_natCast, dEq_int, dNe_int, dEq_pair, dNe_pair, dIsN, dNotN, cPar, cPar3, cAsg, gN, gT, gsCons, gsNil, bdOf, cSl, oNone, oSome, dSl, iSeq, iRg1, iRg2, cExpr, dRev, List.map_cons, List.map_nil, List.length_cons, List.length_nil, List.cons_append, List.nil_append, List.append_nil, List.replicate, List.getElem?_cons_zero, List.getElem?_cons_succ, List.set_cons_zero, List.set_cons_succ, Option.bind_some, Option.map_some, Option.bind_none, Option.map_none, Nat.reduceAdd, Nat.reduceSub, Int.reduceAdd, Int.reduceNeg, decide_true, decide_false, Bool.not_true, Bool.not_false, if_true, if_false, Bool.false_eq_true, if_pos, reduceIte, reduceCtorEq, Option.some.injEq, Prod.mk.injEq, and_self, and_true, true_and, szOk, s__law_right_10, grashof_ev v, grashof_ev v', hg]
theorem e11 (v : Vr 10000 a' b' c' d') (h : Rot k a b c d a' b' c' d') : s__law_right_11 (⟨[.val .pot, x1, x2, .val (R a b c d), .val (.int k), .val (.int t), .val (spsD a b c d), .val (evsD a b c d), .val (kdsD a b c d), .val (R a' b' c' d'), x10, x11, x12, x13, x14, x15, x16, .no, .no, .no, .no], p⟩ : S) = some (.nx, (⟨[.val .pot, x1, x2, .val (R a b c d), .val (.int k), .val (.int t), .val (spsD a b c d), .val (evsD a b c d), .val (kdsD a b c d), .val (R a' b' c' d'), x10, x11, x12, x13, x14, x15, x16, .no, .no, .no, .no], p⟩ : S)) := by
  refine ne_skip (lck (i := 19) (j := 9) v rfl rfl (by decide) rfl) (y := kdsD a' b' c' d') (b' := true) ?_ (dNe_rfl sh_kds rfl)
  have hg := gr_rot h
  rcases h with ⟨rfl, rfl, rfl, rfl, rfl⟩ | ⟨rfl, rfl, rfl, rfl, rfl⟩ | ⟨rfl, rfl, rfl, rfl, rfl⟩ | ⟨rfl, rfl, rfl, rfl, rfl⟩
  all_goals simp only [cFz, at40, at41, at42, at43, at20, at21, at30, at31, at32, List.set, dMod_ev, Int.reduceMod, Int.reduceLT, Int.reduceSub, Int.reduceMul, Int.reduceToNat, Nat.reduceLT, Int.zero_add, Int.reduceLE, fAll_b, runF, cSeq, cIf, cSet, cRet, cRetN, cSkip, cCont, cBrk, cVar, cD, cBin, cUn, cBi, aNil, aCons, cTup, cLst, bT, bAnd, bOr, bNot, cAnd, cOr, cNot, cIte, cChain, cIsi, dTy, kb1, kb2, kb3, kb4, kb5, kb6, kb7, fAbs_ev, fMax_ev, fMin_ev, wipeS, Function.comp_apply, Function.comp_def, dIx, dGetAny, cPotGet, cPotSet, getP, setP, cCall, fInt, fLen, fTuple, fList, cLenV, dLt, dLe, dGt, dGe, dB2, dAdd, dSub_ev, dNeg, Nat.reduceLeDiff, cs0, cs1, cs2, cs3, cs4, cs5, cs6, cs7, cs8, cs9, cs10, cs11, cs12, Int.ofNat_eq_natCast, dEq_int, dNe_int, dEq_pair, dNe_pair, dIsN, dNotN, cPar, cPar3, cAsg, gN, gT, gsCons, gsNil, bdOf, cSl, oNone, oSome, dSl, iSeq, iRg1, iRg2, cExpr, dRev, List.map_cons, List.map_nil, List.length_cons, List.length_nil, List.cons_append, List.nil_append, List.append_nil, List.replicate, List.getElem?_cons_zero, List.getElem?_cons_succ, List.set_cons_zero, List.set_cons_succ, Option.bind_some, Option.map_some, Option.bind_none, Option.map_none, Nat.reduceAdd, Nat.reduceSub, Int.reduceAdd, Int.reduceNeg, decide_true, decide_false, Bool.not_true, Bool.not_false, if_true, if_false, Bool.false_eq_true, if_pos, reduceIte, reduceCtorEq, Option.some.injEq, Prod.mk.injEq, and_self, and_true, true_and, szOk, kdsD, ca0, ca1, ca2, ca3, cb0, cb1, cb2, cb3, hg]
theorem e12 (v : Vr 10000 a' b' c' d') (h : Rot k a b c d a' b' c' d') : s__law_right_12 (⟨[.val .pot, x1, x2, .val (R a b c d), .val (.int k), .val (.int t), .val (spsD a b c d), .val (evsD a b c d), .val (kdsD a b c d), .val (R a' b' c' d'), x10, x11, x12, x13, x14, x15, x16, .no, .no, .no, .no], p⟩ : S) = some (.nx, (⟨[.val .pot, x1, x2, .val (R a b c d), .val (.int k), .val (.int t), .val (spsD a b c d), .val (evsD a b c d), .val (kdsD a b c d), .val (R a' b' c' d'), x10, x11, x12, x13, x14, x15, x16, .no, .no, .no, .no], p⟩ : S)) := by
  refine ne_skip (x := .tup (rc (T a' b' c' d') (T b' c' d' a') (T c' d' a' b') (T d' a' b' c'))) (b := false) (by simp only [cFz, at40, at41, at42, at43, at20, at21, at30, at31, at32, List.set, dMod_ev, Int.reduceMod, Int.reduceLT, Int.reduceSub, Int.reduceMul, Int.reduceToNat, Nat.reduceLT, Int.zero_add, Int.reduceLE, fAll_b, runF, cSeq, cIf, cSet, cRet, cRetN, cSkip, cCont, cBrk, cVar, cD, cBin, cUn, cBi, aNil, aCons, cTup, cLst, bT, bAnd, bOr, bNot, cAnd, cOr, cNot, cIte, cChain, cIsi, dTy, kb1, kb2, kb3, kb4, kb5, kb6, kb7, fAbs_ev, fMax_ev, fMin_ev, wipeS, Function.comp_apply, Function.comp_def, dIx, dGetAny, cPotGet, cPotSet, getP, setP, cCall, fInt, fLen, fTuple, fList, cLenV, dLt, dLe, dGt, dGe, dB2, dAdd, dSub_ev, dNeg, Nat.reduceLeDiff, cs0, cs1, cs2, cs3, cs4, cs5, cs6, cs7, cs8, cs9, cs10, cs11, cs12, Int.ofNat_eq_natCast, dEq_int, dNe_int, dEq_pair, dNe_pair, dIsN, dNotN, cPar, cPar3, cAsg, gN, gT, gsCons, gsNil, bdOf, cSl, oNone, oSome, dSl, iSeq, iRg1, iRg2, cExpr, dRev, List.map_cons, List.map_nil, List.length_cons, List.length_nil, List.cons_append, List.nil_append, List.append_nil, List.replicate, List.getElem?_cons_zero, List.getElem?_cons_succ, List.set_cons_zero, List.set_cons_succ, Option.bind_some, Option.map_some, Option.bind_none, Option.map_none, Nat.reduceAdd, Nat.reduceSub, Int.reduceAdd, Int.reduceNeg, decide_true, decide_false, Bool.not_true, Bool.not_false, if_true, if_false, Bool.false_eq_true, if_pos, reduceIte, reduceCtorEq, Option.some.injEq, Prod.mk.injEq, and_self, and_true, true_and, szOk, round_ev v]) (y := .tup (rc (T a' b' c' d') (T b' c' d' a') (T c' d' a' b') (T d' a' b' c'))) (b' := false) ?_ (dNe_rfl sh_rc rfl)
  have e := lc4f (tt := bT (cBin dGetAny (cBin dAdd (cSl (cVar 7) (oSome (cVar 4)) oNone) (cSl (cVar 7) oNone (oSome (cVar 4)))) (cVar 18))) (i := 18) (r := ((⟨[.val .pot, x1, x2, .val (R a b c d), .val (.int k), .val (.int t), .val (spsD a b c d), .val (evsD a b c d), .val (kdsD a b c d), .val (R a' b' c' d'), x10, x11, x12, x13, x14, x15, x16, .no, .no, .no, .no], p⟩ : S)).r) (p := p) (b0 := .no) (β0 := T a' b' c' d') (β1 := T b' c' d' a') (β2 := T c' d' a' b') (β3 := T d' a' b' c') rfl rfl
    (by rcases h with ⟨rfl, rfl, rfl, rfl, rfl⟩ | ⟨rfl, rfl, rfl, rfl, rfl⟩ | ⟨rfl, rfl, rfl, rfl, rfl⟩ | ⟨rfl, rfl, rfl, rfl, rfl⟩
        all_goals simp only [cFz, at40, at41, at42, at43, at20, at21, at30, at31, at32, List.set, dMod_ev, Int.reduceMod, Int.reduceLT, Int.reduceSub, Int.reduceMul, Int.reduceToNat, Nat.reduceLT, Int.zero_add, Int.reduceLE, fAll_b, runF, cSeq, cIf, cSet, cRet, cRetN, cSkip, cCont, cBrk, cVar, cD, cBin, cUn, cBi, aNil, aCons, cTup, cLst, bT, bAnd, bOr, bNot, cAnd, cOr, cNot, cIte, cChain, cIsi, dTy, kb1, kb2, kb3, kb4, kb5, kb6, kb7, fAbs_ev, fMax_ev, fMin_ev, wipeS, Function.comp_apply, Function.comp_def, dIx, dGetAny, cPotGet, cPotSet, getP, setP, cCall, fInt, fLen, fTuple, fList, cLenV, dLt, dLe, dGt, dGe, dB2, dAdd, dSub_ev, dNeg, Nat.reduceLeDiff, cs0, cs1, cs2, cs3, cs4, cs5, cs6, cs7, cs8, cs9, cs10, cs11, cs12, Int.ofNat_eq_natCast, dEq_int, dNe_int, dEq_pair, dNe_pair, dIsN, dNotN, cPar, cPar3, cAsg, gN, gT, gsCons, gsNil, bdOf, cSl, oNone, oSome, dSl, iSeq, iRg1, iRg2, cExpr, dRev, List.map_cons, List.map_nil, List.length_cons, List.length_nil, List.cons_append, List.nil_append, List.append_nil, List.replicate, List.getElem?_cons_zero, List.getElem?_cons_succ, List.set_cons_zero, List.set_cons_succ, Option.bind_some, Option.map_some, Option.bind_none, Option.map_none, Nat.reduceAdd, Nat.reduceSub, Int.reduceAdd, Int.reduceNeg, decide_true, decide_false, Bool.not_true, Bool.not_false, if_true, if_false, Bool.false_eq_true, if_pos, reduceIte, reduceCtorEq, Option.some.injEq, Prod.mk.injEq, and_self, and_true, true_and, szOk, evsD, ca0, ca1, ca2, ca3, cb0, cb1, cb2, cb3])
    (by rcases h with ⟨rfl, rfl, rfl, rfl, rfl⟩ | ⟨rfl, rfl, rfl, rfl, rfl⟩ | ⟨rfl, rfl, rfl, rfl, rfl⟩ | ⟨rfl, rfl, rfl, rfl, rfl⟩
        all_goals simp only [cFz, at40, at41, at42, at43, at20, at21, at30, at31, at32, List.set, dMod_ev, Int.reduceMod, Int.reduceLT, Int.reduceSub, Int.reduceMul, Int.reduceToNat, Nat.reduceLT, Int.zero_add, Int.reduceLE, fAll_b, runF, cSeq, cIf, cSet, cRet, cRetN, cSkip, cCont, cBrk, cVar, cD, cBin, cUn, cBi, aNil, aCons, cTup, cLst, bT, bAnd, bOr, bNot, cAnd, cOr, cNot, cIte, cChain, cIsi, dTy, kb1, kb2, kb3, kb4, kb5, kb6, kb7, fAbs_ev, fMax_ev, fMin_ev, wipeS, Function.comp_apply, Function.comp_def, dIx, dGetAny, cPotGet, cPotSet, getP, setP, cCall, fInt, fLen, fTuple, fList, cLenV, dLt, dLe, dGt, dGe, dB2, dAdd, dSub_ev, dNeg, Nat.reduceLeDiff, cs0, cs1, cs2, cs3, cs4, cs5, cs6, cs7, cs8, cs9, cs10, cs11, cs12, Int.ofNat_eq_natCast, dEq_int, dNe_int, dEq_pair, dNe_pair, dIsN, dNotN, cPar, cPar3, cAsg, gN, gT, gsCons, gsNil, bdOf, cSl, oNone, oSome, dSl, iSeq, iRg1, iRg2, cExpr, dRev, List.map_cons, List.map_nil, List.length_cons, List.length_nil, List.cons_append, List.nil_append, List.append_nil, List.replicate, List.getElem?_cons_zero, List.getElem?_cons_succ, List.set_cons_zero, List.set_cons_succ, Option.bind_some, Option.map_some, Option.bind_none, Option.map_none, Nat.reduceAdd, Nat.reduceSub, Int.reduceAdd, Int.reduceNeg, decide_true, decide_false, Bool.not_true, Bool.not_false, if_true, if_false, Bool.false_eq_true, if_pos, reduceIte, reduceCtorEq, Option.some.injEq, Prod.mk.injEq, and_self, and_true, true_and, szOk, evsD, ca0, ca1, ca2, ca3, cb0, cb1, cb2, cb3])
    (by rcases h with ⟨rfl, rfl, rfl, rfl, rfl⟩ | ⟨rfl, rfl, rfl, rfl, rfl⟩ | ⟨rfl, rfl, rfl, rfl, rfl⟩ | ⟨rfl, rfl, rfl, rfl, rfl⟩
        all_goals simp only [cFz, at40, at41, at42, at43, at20, at21, at30, at31, at32, List.set, dMod_ev, Int.reduceMod, Int.reduceLT, Int.reduceSub, Int.reduceMul, Int.reduceToNat, Nat.reduceLT, Int.zero_add, Int.reduceLE, fAll_b, runF, cSeq, cIf, cSet, cRet, cRetN, cSkip, cCont, cBrk, cVar, cD, cBin, cUn, cBi, aNil, aCons, cTup, cLst, bT, bAnd, bOr, bNot, cAnd, cOr, cNot, cIte, cChain, cIsi, dTy, kb1, kb2, kb3, kb4, kb5, kb6, kb7, fAbs_ev, fMax_ev, fMin_ev, wipeS, Function.comp_apply, Function.comp_def, dIx, dGetAny, cPotGet, cPotSet, getP, setP, cCall, fInt, fLen, fTuple, fList, cLenV, dLt, dLe, dGt, dGe, dB2, dAdd, dSub_ev, dNeg, Nat.reduceLeDiff, cs0, cs1, cs2, cs3, cs4, cs5, cs6, cs7, cs8, cs9, cs10, cs11, cs12, Int.ofNat_eq_natCast, dEq_int, dNe_int, dEq_pair, dNe_pair, dIsN, dNotN, cPar, cPar3, cAsg, gN, gT, gsCons, gsNil, bdOf, cSl, oNone, oSome, dSl, iSeq, iRg1, iRg2, cExpr, dRev, List.map_cons, List.map_nil, List.length_cons, List.length_nil, List.cons_append, List.nil_append, List.append_nil, List.replicate, List.getElem?_cons_zero, List.getElem?_cons_succ, List.set_cons_zero, List.set_cons_succ, Option.bind_some, Option.map_some, Option.bind_none, Option.map_none, Nat.reduceAdd, Nat.reduceSub, Int.reduceAdd, Int.reduceNeg, decide_true, decide_false, Bool.not_true, Bool.not_false, if_true, if_false, Bool.false_eq_true, if_pos, reduceIte, reduceCtorEq, Option.some.injEq, Prod.mk.injEq, and_self, and_true, true_and, szOk, evsD, ca0, ca1, ca2, ca3, cb0, cb1, cb2, cb3])
    (by rcases h with ⟨rfl, rfl, rfl, rfl, rfl⟩ | ⟨rfl, rfl, rfl, rfl, rfl⟩ | ⟨rfl, rfl, rfl, rfl, rfl⟩ | ⟨rfl, rfl, rfl, rfl, rfl⟩
        all_goals simp only [cFz, at40, at41, at42, at43, at20, at21, at30, at31, at32, List.set, dMod_ev, Int.reduceMod, Int.reduceLT, Int.reduceSub, Int.reduceMul, Int.reduceToNat, Nat.reduceLT, Int.zero_add, Int.reduceLE, fAll_b, runF, cSeq, cIf, cSet, cRet, cRetN, cSkip, cCont, cBrk, cVar, cD, cBin, cUn, cBi, aNil, aCons, cTup, cLst, bT, bAnd, bOr, bNot, cAnd, cOr, cNot, cIte, cChain, cIsi, dTy, kb1, kb2, kb3, kb4, kb5, kb6, kb7, fAbs_ev, fMax_ev, fMin_ev, wipeS, Function.comp_apply, Function.comp_def, dIx, dGetAny, cPotGet, cPotSet, getP, setP, cCall, fInt, fLen, fTuple, fList, cLenV, dLt, dLe, dGt, dGe, dB2, dAdd, dSub_ev, dNeg, Nat.reduceLeDiff, cs0, cs1, cs2, cs3, cs4, cs5, cs6, cs7, cs8, cs9, cs10, cs11, cs12, Int.ofNat_eq_natCast, dEq_int, dNe_int, dEq_pair, dNe_pair, dIsN, dNotN, cPar, cPar3, cAsg, gN, gT, gsCons, gsNil, bdOf, cSl, oNone, oSome, dSl, iSeq, iRg1, iRg2, cExpr, dRev, List.map_cons, List.map_nil, List.length_cons, List.length_nil, List.cons_append, List.nil_append, List.append_nil, List.replicate, List.getElem?_cons_zero, List.getElem?_cons_succ, List.set_cons_zero, List.set_cons_succ, Option.bind_some, Option.map_some, Option.bind_none, Option.map_none, Nat.reduceAdd, Nat.reduceSub, Int.reduceAdd, Int.reduceNeg, decide_true, decide_false, Bool.not_true, Bool.not_false, if_true, if_false, Bool.false_eq_true, if_pos, reduceIte, reduceCtorEq, Option.some.injEq, Prod.mk.injEq, and_self, and_true, true_and, szOk, evsD, ca0, ca1, ca2, ca3, cb0, cb1, cb2, cb3])
  simp only [cFz, at40, at41, at42, at43, at20, at21, at30, at31, at32, List.set, dMod_ev, Int.reduceMod, Int.reduceLT, Int.reduceSub, Int.reduceMul, Int.reduceToNat, Nat.reduceLT, Int.zero_add, Int.reduceLE, fAll_b, runF, cSeq, cIf, cSet, cRet, cRetN, cSkip, cCont, cBrk, cVar, cD, cBin, cUn, cBi, aNil, aCons, cTup, cLst, bT, bAnd, bOr, bNot, cAnd, cOr, cNot, cIte, cChain, cIsi, dTy, kb1, kb2, kb3, kb4, kb5, kb6, kb7, fAbs_ev, fMax_ev, fMin_ev, wipeS, Function.comp_apply, Function.comp_def, dIx, dGetAny, cPotGet, cPotSet, getP, setP, cCall, fInt, fLen, fTuple, fList, cLenV, dLt, dLe, dGt, dGe, dB2, dAdd, dSub_ev, dNeg, Nat.reduceLeDiff, cs0, cs1, cs2, cs3, cs4, cs5, cs6, cs7, cs8, cs9, cs10, cs11, cs12, Int.ofNat_eq_natCast, dEq_int, dNe_int, dEq_pair, dNe_pair, dIsN, dNotN, cPar, cPar3, cAsg, gN, gT, gsCons, gsNil, bdOf, cSl, oNone, oSome, dSl, iSeq, iRg1, iRg2, cExpr, dRev, List.map_cons, List.map_nil, List.length_cons, List.length_nil, List.cons_append, List.nil_append, List.append_nil, List.replicate, List.getElem?_cons_zero, List.getElem?_cons_succ, List.set_cons_zero, List.set_cons_succ, Option.bind_some, Option.map_some, Option.bind_none, Option.map_none, Nat.reduceAdd, Nat.reduceSub, Int.reduceAdd, Int.reduceNeg, decide_true, decide_false, Bool.not_true, Bool.not_false, if_true, if_false, Bool.false_eq_true, if_pos, reduceIte, reduceCtorEq, Option.some.injEq, Prod.mk.injEq, and_self, and_true, true_and, szOk, e]
theorem e13 : s__law_right_13 (⟨[.val .pot, x1, x2, .val (R a b c d), .val (.int k), .val (.int t), .val (spsD a b c d), .val (evsD a b c d), .val (kdsD a b c d), .val (R a' b' c' d'), x10, x11, x12, x13, x14, x15, x16, .no, .no, .no, .no], p⟩ : S) = some (.nx, (⟨[.val .pot, x1, x2, .val (R a b c d), .val (.int k), .val (.int t), .val (spsD a b c d), .val (evsD a b c d), .val (kdsD a b c d), .val (R a' b' c' d'), .val (R d c b a), x11, x12, x13, x14, x15, x16, .no, .no, .no, .no], p⟩ : S)) := by
  simp only [cFz, at40, at41, at42, at43, at20, at21, at30, at31, at32, List.set, dMod_ev, Int.reduceMod, Int.reduceLT, Int.reduceSub, Int.reduceMul, Int.reduceToNat, Nat.reduceLT, Int.zero_add, Int.reduceLE, fAll_b, runF, cSeq, cIf, cSet, cRet, cRetN, cSkip, cCont, cBrk, cVar, cD, cBin, cUn, cBi, aNil, aCons, cTup, cLst, bT, bAnd, bOr, bNot, cAnd, cOr, cNot, cIte, cChain, cIsi, dTy, kb1, kb2, kb3, kb4, kb5, kb6, kb7, fAbs_ev, fMax_ev, fMin_ev, wipeS, Function.comp_apply, Function.comp_def, dIx, dGetAny, cPotGet, cPotSet, getP, setP, cCall, fInt, fLen, fTuple, fList, cLenV, dLt, dLe, dGt, dGe, dB2, dAdd, dSub_ev, dNeg, Nat.reduceLeDiff, cs0, cs1, cs2, cs3, cs4, cs5, cs6, cs7, cs8, cs9, cs10, cs11, cs12, Int.ofNat_eq_natCast, dEq_int, dNe_int, dEq_pair, dNe_pair, dIsN, dNotN, cPar, cPar3, cAsg, gN, gT, gsCons, gsNil, bdOf, cSl, oNone, oSome, dSl, iSeq, iRg1, iRg2, cExpr, dRev, List.map_cons, List.map_nil, List.length_cons, List.length_nil, List.cons_append, List.nil_append, List.append_nil, List.replicate, List.getElem?_cons_zero, List.getElem?_cons_succ, List.set_cons_zero, List.set_cons_succ, Option.bind_some, Option.map_some, Option.bind_none, Option.map_none, Nat.reduceAdd, Nat.reduceSub, Int.reduceAdd, Int.reduceNeg, decide_true, decide_false, Bool.not_true, Bool.not_false, if_true, if_false, Bool.false_eq_true, if_pos, reduceIte, reduceCtorEq, Option.some.injEq, Prod.mk.injEq, and_self, and_true, true_and, szOk, s__law_right_13, rev4]
theorem ab_comm (x y : Int) : ab (x - y) = ab (y - x) := by unfold ab; split <;> split <;> omega
theorem T_sym : T b a d c = T a b c d := by
  unfold T spX spY
  rw [ab_comm b a, ab_comm d c, Int.add_comm b a, Int.add_comm d c]
theorem kd_comm {g : Int} {t1 t2 : Bool} : kd g t1 t2 = kd g t2 t1 := by unfold kd; cases t1 <;> cases t2 <;> rfl
theorem gr_back : Gr d c b a = Gr a b c d := congrArg gr (srt_eq (show List.Perm [d, c, b, a] [a, b, c, d] from List.reverse_perm [a, b, c, d]))
theorem e14 (v : Vr 10000 a b c d) : s__law_right_14 (⟨[.val .pot, x1, x2, .val (R a b c d), .val (.int k), .val (.int t), .val (spsD a b c d), .val (evsD a b c d), .val (kdsD a b c d), .val (R a' b' c' d'), .val (R d c b a), x11, x12, x13, x14, x15, x16, .no, .no, .no, .no], p⟩ : S) = some (.nx, (⟨[.val .pot, x1, x2, .val (R a b c d), .val (.int k), .val (.int t), .val (spsD a b c d), .val (evsD a b c d), .val (kdsD a b c d), .val (R a' b' c' d'), .val (R d c b a), x11, x12, x13, x14, x15, x16, .no, .no, .no, .no], p⟩ : S)) := by
  have e := lc4 (te := cBin dGetAny (cVar 7) (cBin dMod (cBin dSub (cD (.int 2)) (cVar 18)) (cD (.int 4)))) (i := 18) (r := ((⟨[.val .pot, x1, x2, .val (R a b c d), .val (.int k), .val (.int t), .val (spsD a b c d), .val (evsD a b c d), .val (kdsD a b c d), .val (R a' b' c' d'), .val (R d c b a), x11, x12, x13, x14, x15, x16, .no, .no, .no, .no], p⟩ : S)).r) (p := p) (b0 := .no) (φ0 := .bl (T c d a b)) (φ1 := .bl (T b c d a)) (φ2 := .bl (T a b c d)) (φ3 := .bl (T d a b c)) rfl rfl (by simp only [cFz, at40, at41, at42, at43, at20, at21, at30, at31, at32, List.set, dMod_ev, Int.reduceMod, Int.reduceLT, Int.reduceSub, Int.reduceMul, Int.reduceToNat, Nat.reduceLT, Int.zero_add, Int.reduceLE, fAll_b, runF, cSeq, cIf, cSet, cRet, cRetN, cSkip, cCont, cBrk, cVar, cD, cBin, cUn, cBi, aNil, aCons, cTup, cLst, bT, bAnd, bOr, bNot, cAnd, cOr, cNot, cIte, cChain, cIsi, dTy, kb1, kb2, kb3, kb4, kb5, kb6, kb7, fAbs_ev, fMax_ev, fMin_ev, wipeS, Function.comp_apply, Function.comp_def, dIx, dGetAny, cPotGet, cPotSet, getP, setP, cCall, fInt, fLen, fTuple, fList, cLenV, dLt, dLe, dGt, dGe, dB2, dAdd, dSub_ev, dNeg, Nat.reduceLeDiff, cs0, cs1, cs2, cs3, cs4, cs5, cs6, cs7, cs8, cs9, cs10, cs11, cs12, Int.ofNat_eq_natCast, dEq_int, dNe_int, dEq_pair, dNe_pair, dIsN, dNotN, cPar, cPar3, cAsg, gN, gT, gsCons, gsNil, bdOf, cSl, oNone, oSome, dSl, iSeq, iRg1, iRg2, cExpr, dRev, List.map_cons, List.map_nil, List.length_cons, List.length_nil, List.cons_append, List.nil_append, List.append_nil, List.replicate, List.getElem?_cons_zero, List.getElem?_cons_succ, List.set_cons_zero, List.set_cons_succ, Option.bind_some, Option.map_some, Option.bind_none, Option.map_none, Nat.reduceAdd, Nat.reduceSub, Int.reduceAdd, Int.reduceNeg, decide_true, decide_false, Bool.not_true, Bool.not_false, if_true, if_false, Bool.false_eq_true, if_pos, reduceIte, reduceCtorEq, Option.some.injEq, Prod.mk.injEq, and_self, and_true, true_and, szOk, evsD, Int.sub_zero]) (by simp only [cFz, at40, at41, at42, at43, at20, at21, at30, at31, at32, List.set, dMod_ev, Int.reduceMod, Int.reduceLT, Int.reduceSub, Int.reduceMul, Int.reduceToNat, Nat.reduceLT, Int.zero_add, Int.reduceLE, fAll_b, runF, cSeq, cIf, cSet, cRet, cRetN, cSkip, cCont, cBrk, cVar, cD, cBin, cUn, cBi, aNil, aCons, cTup, cLst, bT, bAnd, bOr, bNot, cAnd, cOr, cNot, cIte, cChain, cIsi, dTy, kb1, kb2, kb3, kb4, kb5, kb6, kb7, fAbs_ev, fMax_ev, fMin_ev, wipeS, Function.comp_apply, Function.comp_def, dIx, dGetAny, cPotGet, cPotSet, getP, setP, cCall, fInt, fLen, fTuple, fList, cLenV, dLt, dLe, dGt, dGe, dB2, dAdd, dSub_ev, dNeg, Nat.reduceLeDiff, cs0, cs1, cs2, cs3, cs4, cs5, cs6, cs7, cs8, cs9, cs10, cs11, cs12, Int.ofNat_eq_natCast, dEq_int, dNe_int, dEq_pair, dNe_pair, dIsN, dNotN, cPar, cPar3, cAsg, gN, gT, gsCons, gsNil, bdOf, cSl, oNone, oSome, dSl, iSeq, iRg1, iRg2, cExpr, dRev, List.map_cons, List.map_nil, List.length_cons, List.length_nil, List.cons_append, List.nil_append, List.append_nil, List.replicate, List.getElem?_cons_zero, List.getElem?_cons_succ, List.set_cons_zero, List.set_cons_succ, Option.bind_some, Option.map_some, Option.bind_none, Option.map_none, Nat.reduceAdd, Nat.reduceSub, Int.reduceAdd, Int.reduceNeg, decide_true, decide_false, Bool.not_true, Bool.not_false, if_true, if_false, Bool.false_eq_true, if_pos, reduceIte, reduceCtorEq, Option.some.injEq, Prod.mk.injEq, and_self, and_true, true_and, szOk, evsD]) (by simp only [cFz, at40, at41, at42, at43, at20, at21, at30, at31, at32, List.set, dMod_ev, Int.reduceMod, Int.reduceLT, Int.reduceSub, Int.reduceMul, Int.reduceToNat, Nat.reduceLT, Int.zero_add, Int.reduceLE, fAll_b, runF, cSeq, cIf, cSet, cRet, cRetN, cSkip, cCont, cBrk, cVar, cD, cBin, cUn, cBi, aNil, aCons, cTup, cLst, bT, bAnd, bOr, bNot, cAnd, cOr, cNot, cIte, cChain, cIsi, dTy, kb1, kb2, kb3, kb4, kb5, kb6, kb7, fAbs_ev, fMax_ev, fMin_ev, wipeS, Function.comp_apply, Function.comp_def, dIx, dGetAny, cPotGet, cPotSet, getP, setP, cCall, fInt, fLen, fTuple, fList, cLenV, dLt, dLe, dGt, dGe, dB2, dAdd, dSub_ev, dNeg, Nat.reduceLeDiff, cs0, cs1, cs2, cs3, cs4, cs5, cs6, cs7, cs8, cs9, cs10, cs11, cs12, Int.ofNat_eq_natCast, dEq_int, dNe_int, dEq_pair, dNe_pair, dIsN, dNotN, cPar, cPar3, cAsg, gN, gT, gsCons, gsNil, bdOf, cSl, oNone, oSome, dSl, iSeq, iRg1, iRg2, cExpr, dRev, List.map_cons, List.map_nil, List.length_cons, List.length_nil, List.cons_append, List.nil_append, List.append_nil, List.replicate, List.getElem?_cons_zero, List.getElem?_cons_succ, List.set_cons_zero, List.set_cons_succ, Option.bind_some, Option.map_some, Option.bind_none, Option.map_none, Nat.reduceAdd, Nat.reduceSub, Int.reduceAdd, Int.reduceNeg, decide_true, decide_false, Bool.not_true, Bool.not_false, if_true, if_false, Bool.false_eq_true, if_pos, reduceIte, reduceCtorEq, Option.some.injEq, Prod.mk.injEq, and_self, and_true, true_and, szOk, evsD]) (by simp only [cFz, at40, at41, at42, at43, at20, at21, at30, at31, at32, List.set, dMod_ev, Int.reduceMod, Int.reduceLT, Int.reduceSub, Int.reduceMul, Int.reduceToNat, Nat.reduceLT, Int.zero_add, Int.reduceLE, fAll_b, runF, cSeq, cIf, cSet, cRet, cRetN, cSkip, cCont, cBrk, cVar, cD, cBin, cUn, cBi, aNil, aCons, cTup, cLst, bT, bAnd, bOr, bNot, cAnd, cOr, cNot, cIte, cChain, cIsi, dTy, kb1, kb2, kb3, kb4, kb5, kb6, kb7, fAbs_ev, fMax_ev, fMin_ev, wipeS, Function.comp_apply, Function.comp_def, dIx, dGetAny, cPotGet, cPotSet, getP, setP, cCall, fInt, fLen, fTuple, fList, cLenV, dLt, dLe, dGt, dGe, dB2, dAdd, dSub_ev, dNeg, Nat.reduceLeDiff, cs0, cs1, cs2, cs3, cs4, cs5, cs6, cs7, cs8, cs9, cs10, cs11, cs12, Int.ofNat_eq_natCast, dEq_int, dNe_int, dEq_pair, dNe_pair, dIsN, dNotN, cPar, cPar3, cAsg, gN, gT, gsCons, gsNil, bdOf, cSl, oNone, oSome, dSl, iSeq, iRg1, iRg2, cExpr, dRev, List.map_cons, List.map_nil, List.length_cons, List.length_nil, List.cons_append, List.nil_append, List.append_nil, List.replicate, List.getElem?_cons_zero, List.getElem?_cons_succ, List.set_cons_zero, List.set_cons_succ, Option.bind_some, Option.map_some, Option.bind_none, Option.map_none, Nat.reduceAdd, Nat.reduceSub, Int.reduceAdd, Int.reduceNeg, decide_true, decide_false, Bool.not_true, Bool.not_false, if_true, if_false, Bool.false_eq_true, if_pos, reduceIte, reduceCtorEq, Option.some.injEq, Prod.mk.injEq, and_self, and_true, true_and, szOk, evsD])
  refine ne_skip (lct (i := 18) (j := 10) v.back rfl rfl (by decide) rfl) e (dNe_rfl sh_evs ?_)
  have h0 : T d c b a = T c d a b := T_sym
  have h1 : T c b a d = T b c d a := T_sym
  have h2 : T b a d c = T a b c d := T_sym
  have h3 : T a d c b = T d a b c := T_sym
  unfold evsD
  rw [h0, h1, h2, h3]
theorem e15 (v : Vr 10000 a b c d) : s__law_right_15 (⟨[.val .pot, x1, x2, .val (R a b c d), .val (.int k), .val (.int t), .val (spsD a b c d), .val (evsD a b c d), .val (kdsD a b c d), .val (R a' b' c' d'), .val (R d c b a), x11, x12, x13, x14, x15, x16, .no, .no, .no, .no], p⟩ : S) = some (.nx, (⟨[.val .pot, x1, x2, .val (R a b c d), .val (.int k), .val (.int t), .val (spsD a b c d), .val (evsD a b c d), .val (kdsD a b c d), .val (R a' b' c' d'), .val (R d c b a), x11, x12, x13, x14, x15, x16, .no, .no, .no, .no], p⟩ : S)) := by
  refine ne_skip (lck (i := 19) (j := 10) v.back rfl rfl (by decide) rfl) (y := .lst [.str (kd (Gr a b c d) (T d a b c) (T c d a b)), .str (kd (Gr a b c d) (T c d a b) (T b c d a)), .str (kd (Gr a b c d) (T b c d a) (T a b c d)), .str (kd (Gr a b c d) (T a b c d) (T d a b c))]) (b' := true) (by simp only [cFz, at40, at41, at42, at43, at20, at21, at30, at31, at32, List.set, dMod_ev, Int.reduceMod, Int.reduceLT, Int.reduceSub, Int.reduceMul, Int.reduceToNat, Nat.reduceLT, Int.zero_add, Int.reduceLE, fAll_b, runF, cSeq, cIf, cSet, cRet, cRetN, cSkip, cCont, cBrk, cVar, cD, cBin, cUn, cBi, aNil, aCons, cTup, cLst, bT, bAnd, bOr, bNot, cAnd, cOr, cNot, cIte, cChain, cIsi, dTy, kb1, kb2, kb3, kb4, kb5, kb6, kb7, fAbs_ev, fMax_ev, fMin_ev, wipeS, Function.comp_apply, Function.comp_def, dIx, dGetAny, cPotGet, cPotSet, getP, setP, cCall, fInt, fLen, fTuple, fList, cLenV, dLt, dLe, dGt, dGe, dB2, dAdd, dSub_ev, dNeg, Nat.reduceLeDiff, cs0, cs1, cs2, cs3, cs4, cs5, cs6, cs7, cs8, cs9, cs10, cs11, cs12, Int.ofNat_eq_natCast, dEq_int, dNe_int, dEq_pair, dNe_pair, dIsN, dNotN, cPar, cPar3, cAsg, gN, gT, gsCons, gsNil, bdOf, cSl, oNone, oSome, dSl, iSeq, iRg1, iRg2, cExpr, dRev, List.map_cons, List.map_nil, List.length_cons, List.length_nil, List.cons_append, List.nil_append, List.append_nil, List.replicate, List.getElem?_cons_zero, List.getElem?_cons_succ, List.set_cons_zero, List.set_cons_succ, Option.bind_some, Option.map_some, Option.bind_none, Option.map_none, Nat.reduceAdd, Nat.reduceSub, Int.reduceAdd, Int.reduceNeg, decide_true, decide_false, Bool.not_true, Bool.not_false, if_true, if_false, Bool.false_eq_true, if_pos, reduceIte, reduceCtorEq, Option.some.injEq, Prod.mk.injEq, and_self, and_true, true_and, szOk, kdsD, rev4]) (dNe_rfl sh_kds ?_)
  have h0 : T d c b a = T c d a b := T_sym
  have h1 : T c b a d = T b c d a := T_sym
  have h2 : T b a d c = T a b c d := T_sym
  have h3 : T a d c b = T d a b c := T_sym
  unfold kdsD
  rw [gr_back, h0, h1, h2, h3, kd_comm (t1 := T c d a b) (t2 := T d a b c), kd_comm (t1 := T b c d a) (t2 := T c d a b), kd_comm (t1 := T a b c d) (t2 := T b c d a), kd_comm (t1 := T d a b c) (t2 := T a b c d)]

theorem lcE4 {te : SE} {it : SI} {s0 : S} {i : Nat} {r : List Bd} {p : Pt} {b0 : Bd} {x y z w φ0 φ1 φ2 φ3 : D} (hit : it s0 = some ([x, y, z, w], ⟨r, p⟩)) (hi : r[i]? = some b0) (hb : notOwn b0 = true)
    (h0 : te ⟨r.set i (.val x), p⟩ = some ((φ0, false), ⟨r.set i (.val x), p⟩)) (h1 : te ⟨r.set i (.val y), p⟩ = some ((φ1, false), ⟨r.set i (.val y), p⟩))
    (h2 : te ⟨r.set i (.val z), p⟩ = some ((φ2, false), ⟨r.set i (.val z), p⟩)) (h3 : te ⟨r.set i (.val w), p⟩ = some ((φ3, false), ⟨r.set i (.val w), p⟩)) :
    cLC it (gN i) bYes te [i] s0 = some ((.lst [φ0, φ1, φ2, φ3], true), ⟨r, p⟩) := by
  simp only [cLC, hit, Option.bind_some, noOwn1 (s := ⟨r, p⟩) hi hb, if_true, wipeS, wipe1]
  simp [lcL, gN, bYes, set_set, h0, h1, h2, h3, wipeS, wipe1, rest1 hi, szOk]
theorem Vr.mul (v : Vr 3000 a b c d) (ht : t = 2 ∨ t = 3) : Vr 10000 (t * a) (t * b) (t * c) (t * d) := by
  have := v.a1; have := v.b1; have := v.c1; have := v.d1; have := v.a2; have := v.b2; have := v.c2; have := v.d2
  rcases ht with rfl | rfl <;> exact ⟨⟨by omega, by omega⟩, ⟨by omega, by omega⟩, ⟨by omega, by omega⟩, ⟨by omega, by omega⟩, by omega, by omega, by omega, by omega⟩
theorem e16 (v : Vr 3000 a b c d) (ht : t = 2 ∨ t = 3) : s__law_right_16 (⟨[.val .pot, x1, x2, .val (R a b c d), .val (.int k), .val (.int t), .val (spsD a b c d), .val (evsD a b c d), .val (kdsD a b c d), .val (R a' b' c' d'), .val (R d c b a), x11, x12, x13, x14, x15, x16, .no, .no, .no, .no], p⟩ : S) = some (.nx, (⟨[.val .pot, x1, x2, .val (R a b c d), .val (.int k), .val (.int t), .val (spsD a b c d), .val (evsD a b c d), .val (kdsD a b c d), .val (R a' b' c' d'), .val (R d c b a), .val (R (t * a) (t * b) (t * c) (t * d)), x12, x13, x14, x15, x16, .no, .no, .no, .no], p⟩ : S)) := by
  have := v.a1; have := v.b1; have := v.c1; have := v.d1
  have ea := dMul_i (a := t) (b := a) (by omega) (by omega)
  have eb := dMul_i (a := t) (b := b) (by omega) (by omega)
  have ec := dMul_i (a := t) (b := c) (by omega) (by omega)
  have ed := dMul_i (a := t) (b := d) (by omega) (by omega)
  have e := lcE4 (it := iSeq (cVar 3)) (te := cBin dMulI (cVar 5) (cVar 17)) (i := 17) (r := ((⟨[.val .pot, x1, x2, .val (R a b c d), .val (.int k), .val (.int t), .val (spsD a b c d), .val (evsD a b c d), .val (kdsD a b c d), .val (R a' b' c' d'), .val (R d c b a), x11, x12, x13, x14, x15, x16, .no, .no, .no, .no], p⟩ : S)).r) (p := p) (s0 := (⟨[.val .pot, x1, x2, .val (R a b c d), .val (.int k), .val (.int t), .val (spsD a b c d), .val (evsD a b c d), .val (kdsD a b c d), .val (R a' b' c' d'), .val (R d c b a), x11, x12, x13, x14, x15, x16, .no, .no, .no, .no], p⟩ : S)) (b0 := .no) (x := .int a) (y := .int b) (z := .int c) (w := .int d) (φ0 := .int (t * a)) (φ1 := .int (t * b)) (φ2 := .int (t * c)) (φ3 := .int (t * d)) rfl rfl rfl (by simp only [cFz, at40, at41, at42, at43, at20, at21, at30, at31, at32, List.set, dMod_ev, Int.reduceMod, Int.reduceLT, Int.reduceSub, Int.reduceMul, Int.reduceToNat, Nat.reduceLT, Int.zero_add, Int.reduceLE, fAll_b, runF, cSeq, cIf, cSet, cRet, cRetN, cSkip, cCont, cBrk, cVar, cD, cBin, cUn, cBi, aNil, aCons, cTup, cLst, bT, bAnd, bOr, bNot, cAnd, cOr, cNot, cIte, cChain, cIsi, dTy, kb1, kb2, kb3, kb4, kb5, kb6, kb7, fAbs_ev, fMax_ev, fMin_ev, wipeS, Function.comp_apply, Function.comp_def, dIx, dGetAny, cPotGet, cPotSet, getP, setP, cCall, fInt, fLen, fTuple, fList, cLenV, dLt, dLe, dGt, dGe, dB2, dAdd, dSub_ev, dNeg, Nat.reduceLeDiff, cs0, cs1, cs2, cs3, cs4, cs5, cs6, cs7, cs8, cs9, cs10, cs11, cs12, Int.ofNat_eq_natCast, dEq_int, dNe_int, dEq_pair, dNe_pair, dIsN, dNotN, cPar, cPar3, cAsg, gN, gT, gsCons, gsNil, bdOf, cSl, oNone, oSome, dSl, iSeq, iRg1, iRg2, cExpr, dRev, List.map_cons, List.map_nil, List.length_cons, List.length_nil, List.cons_append, List.nil_append, List.append_nil, List.replicate, List.getElem?_cons_zero, List.getElem?_cons_succ, List.set_cons_zero, List.set_cons_succ, Option.bind_some, Option.map_some, Option.bind_none, Option.map_none, Nat.reduceAdd, Nat.reduceSub, Int.reduceAdd, Int.reduceNeg, decide_true, decide_false, Bool.not_true, Bool.not_false, if_true, if_false, Bool.false_eq_true, if_pos, reduceIte, reduceCtorEq, Option.some.injEq, Prod.mk.injEq, and_self, and_true, true_and, szOk, ea]) (by simp only [cFz, at40, at41, at42, at43, at20, at21, at30, at31, at32, List.set, dMod_ev, Int.reduceMod, Int.reduceLT, Int.reduceSub, Int.reduceMul, Int.reduceToNat, Nat.reduceLT, Int.zero_add, Int.reduceLE, fAll_b, runF, cSeq, cIf, cSet, cRet, cRetN, cSkip, cCont, cBrk, cVar, cD, cBin, cUn, cBi, aNil, aCons, cTup, cLst, bT, bAnd, bOr, bNot, cAnd, cOr, cNot, cIte, cChain, cIsi, dTy, kb1, kb2, kb3, kb4, kb5, kb6, kb7, fAbs_ev, fMax_ev, fMin_ev, wipeS, Function.comp_apply, Function.comp_def, dIx, dGetAny, cPotGet, cPotSet, getP, setP, cCall, fInt, fLen, fTuple, fList, cLenV, dLt, dLe, dGt, dGe, dB2, dAdd, dSub_ev, dNeg, Nat.reduceLeDiff, cs0, cs1, cs2, cs3, cs4, cs5, cs6, cs7, cs8, cs9, cs10, cs11, cs12, Int.ofNat_eq_natCast, dEq_int, dNe_int, dEq_pair, dNe_pair, dIsN, dNotN, cPar, cPar3, cAsg, gN, gT, gsCons, gsNil, bdOf, cSl, oNone, oSome, dSl, iSeq, iRg1, iRg2, cExpr, dRev, List.map_cons, List.map_nil, List.length_cons, List.length_nil, List.cons_append, List.nil_append, List.append_nil, List.replicate, List.getElem?_cons_zero, List.getElem?_cons_succ, List.set_cons_zero, List.set_cons_succ, Option.bind_some, Option.map_some, Option.bind_none, Option.map_none, Nat.reduceAdd, Nat.reduceSub, Int.reduceAdd, Int.reduceNeg, decide_true, decide_false, Bool.not_true, Bool.not_false, if_true, if_false, Bool.false_eq_true, if_pos, reduceIte, reduceCtorEq, Option.some.injEq, Prod.mk.injEq, and_self, and_true, true_and, szOk, eb]) (by simp only [cFz, at40, at41, at42, at43, at20, at21, at30, at31, at32, List.set, dMod_ev, Int.reduceMod, Int.reduceLT, Int.reduceSub, Int.reduceMul, Int.reduceToNat, Nat.reduceLT, Int.zero_add, Int.reduceLE, fAll_b, runF, cSeq, cIf, cSet, cRet, cRetN, cSkip, cCont, cBrk, cVar, cD, cBin, cUn, cBi, aNil, aCons, cTup, cLst, bT, bAnd, bOr, bNot, cAnd, cOr, cNot, cIte, cChain, cIsi, dTy, kb1, kb2, kb3, kb4, kb5, kb6, kb7, fAbs_ev, fMax_ev, fMin_ev, wipeS, Function.comp_apply, Function.comp_def, dIx, dGetAny, cPotGet, cPotSet, getP, setP, cCall, fInt, fLen, fTuple, fList, cLenV, dLt, dLe, dGt, dGe, dB2, dAdd, dSub_ev, dNeg, Nat.reduceLeDiff, cs0, cs1, cs2, cs3, cs4, cs5, cs6, cs7, cs8, cs9, cs10, cs11, cs12, Int.ofNat_eq_natCast, dEq_int, dNe_int, dEq_pair, dNe_pair, dIsN, dNotN, cPar, cPar3, cAsg, gN, gT, gsCons, gsNil, bdOf, cSl, oNone, oSome, dSl, iSeq, iRg1, iRg2, cExpr, dRev, List.map_cons, List.map_nil, List.length_cons, List.length_nil, List.cons_append, List.nil_append, List.append_nil, List.replicate, List.getElem?_cons_zero, List.getElem?_cons_succ, List.set_cons_zero, List.set_cons_succ, Option.bind_some, Option.map_some, Option.bind_none, Option.map_none, Nat.reduceAdd, Nat.reduceSub, Int.reduceAdd, Int.reduceNeg, decide_true, decide_false, Bool.not_true, Bool.not_false, if_true, if_false, Bool.false_eq_true, if_pos, reduceIte, reduceCtorEq, Option.some.injEq, Prod.mk.injEq, and_self, and_true, true_and, szOk, ec]) (by simp only [cFz, at40, at41, at42, at43, at20, at21, at30, at31, at32, List.set, dMod_ev, Int.reduceMod, Int.reduceLT, Int.reduceSub, Int.reduceMul, Int.reduceToNat, Nat.reduceLT, Int.zero_add, Int.reduceLE, fAll_b, runF, cSeq, cIf, cSet, cRet, cRetN, cSkip, cCont, cBrk, cVar, cD, cBin, cUn, cBi, aNil, aCons, cTup, cLst, bT, bAnd, bOr, bNot, cAnd, cOr, cNot, cIte, cChain, cIsi, dTy, kb1, kb2, kb3, kb4, kb5, kb6, kb7, fAbs_ev, fMax_ev, fMin_ev, wipeS, Function.comp_apply, Function.comp_def, dIx, dGetAny, cPotGet, cPotSet, getP, setP, cCall, fInt, fLen, fTuple, fList, cLenV, dLt, dLe, dGt, dGe, dB2, dAdd, dSub_ev, dNeg, Nat.reduceLeDiff, cs0, cs1, cs2, cs3, cs4, cs5, cs6, cs7, cs8, cs9, cs10, cs11, cs12, Int.ofNat_eq_natCast, dEq_int, dNe_int, dEq_pair, dNe_pair, dIsN, dNotN, cPar, cPar3, cAsg, gN, gT, gsCons, gsNil, bdOf, cSl, oNone, oSome, dSl, iSeq, iRg1, iRg2, cExpr, dRev, List.map_cons, List.map_nil, List.length_cons, List.length_nil, List.cons_append, List.nil_append, List.append_nil, List.replicate, List.getElem?_cons_zero, List.getElem?_cons_succ, List.set_cons_zero, List.set_cons_succ, Option.bind_some, Option.map_some, Option.bind_none, Option.map_none, Nat.reduceAdd, Nat.reduceSub, Int.reduceAdd, Int.reduceNeg, decide_true, decide_false, Bool.not_true, Bool.not_false, if_true, if_false, Bool.false_eq_true, if_pos, reduceIte, reduceCtorEq, Option.some.injEq, Prod.mk.injEq, and_self, and_true, true_and, szOk, ed])
  simp only [cFz, at40, at41, at42, at43, at20, at21, at30, at31, at32, List.set, dMod_ev, Int.reduceMod, Int.reduceLT, Int.reduceSub, Int.reduceMul, Int.reduceToNat, Nat.reduceLT, Int.zero_add, Int.reduceLE, fAll_b, runF, cSeq, cIf, cSet, cRet, cRetN, cSkip, cCont, cBrk, cVar, cD, cBin, cUn, cBi, aNil, aCons, cTup, cLst, bT, bAnd, bOr, bNot, cAnd, cOr, cNot, cIte, cChain, cIsi, dTy, kb1, kb2, kb3, kb4, kb5, kb6, kb7, fAbs_ev, fMax_ev, fMin_ev, wipeS, Function.comp_apply, Function.comp_def, dIx, dGetAny, cPotGet, cPotSet, getP, setP, cCall, fInt, fLen, fTuple, fList, cLenV, dLt, dLe, dGt, dGe, dB2, dAdd, dSub_ev, dNeg, Nat.reduceLeDiff, cs0, cs1, cs2, cs3, cs4, cs5, cs6, cs7, cs8, cs9, cs10, cs11, cs12, Int.ofNat_eq_natCast, dEq_int, dNe_int, dEq_pair, dNe_pair, dIsN, dNotN, cPar, cPar3, cAsg, gN, gT, gsCons, gsNil, bdOf, cSl, oNone, oSome, dSl, iSeq, iRg1, iRg2, cExpr, dRev, List.map_cons, List.map_nil, List.length_cons, List.length_nil, List.cons_append, List.nil_append, List.append_nil, List.replicate, List.getElem?_cons_zero, List.getElem?_cons_succ, List.set_cons_zero, List.set_cons_succ, Option.bind_some, Option.map_some, Option.bind_none, Option.map_none, Nat.reduceAdd, Nat.reduceSub, Int.reduceAdd, Int.reduceNeg, decide_true, decide_false, Bool.not_true, Bool.not_false, if_true, if_false, Bool.false_eq_true, if_pos, reduceIte, reduceCtorEq, Option.some.injEq, Prod.mk.injEq, and_self, and_true, true_and, szOk, s__law_right_16, e]
theorem spX_mul (ht : t = 2 ∨ t = 3) : spX (t * a) (t * b) (t * c) (t * d) = t * spX a b c d := by
  unfold spX mx ab
  rcases ht with rfl | rfl <;> (repeat' split) <;> omega
theorem spY_mul (ht : t = 2 ∨ t = 3) : spY (t * a) (t * b) (t * c) (t * d) = t * spY a b c d := by
  unfold spY mn
  rcases ht with rfl | rfl <;> (repeat' split) <;> omega
theorem ab_mul (ht : t = 2 ∨ t = 3) : ab (t * a - t * b) = t * ab (a - b) := by
  unfold ab
  rcases ht with rfl | rfl <;> (repeat' split) <;> omega
theorem T_mul (ht : t = 2 ∨ t = 3) : T (t * a) (t * b) (t * c) (t * d) = T a b c d := by
  unfold T
  rw [spX_mul ht, spY_mul ht, ab_mul ht]
  have h1 : decide (t * spX a b c d = t * ab (a - b)) = decide (spX a b c d = ab (a - b)) := decide_eq_decide.2 (by rcases ht with rfl | rfl <;> omega)
  have h2 : decide (t * spY a b c d = t * a + t * b) = decide (spY a b c d = a + b) := decide_eq_decide.2 (by rcases ht with rfl | rfl <;> omega)
  rw [h1, h2]
theorem Gr_mul (ht : t = 2 ∨ t = 3) : Gr (t * a) (t * b) (t * c) (t * d) = t * Gr a b c d := by
  unfold Gr
  have h : srt [t * a, t * b, t * c, t * d] = (srt [a, b, c, d]).map (t * ·) := srt_mul (ns := [a, b, c, d]) (by omega)
  rw [h]
  obtain ⟨w, x, y, z, e⟩ := srt4 a b c d
  rw [e]
  show t * x + t * y - t * w - t * z = t * (x + y - w - z)
  rcases ht with rfl | rfl <;> omega
theorem Gr_bd (v : Vr 3000 a b c d) : -10000 ≤ Gr a b c d ∧ Gr a b c d ≤ 10000 := by
  have hm : ∀ q ∈ srt [a, b, c, d], 1 ≤ q ∧ q ≤ 3000 := fun q hq => by
    have := (srt_perm [a, b, c, d]).mem_iff.1 hq
    simp only [List.mem_cons, List.not_mem_nil, or_false] at this
    rcases this with rfl | rfl | rfl | rfl
    · exact v.a1
    · exact v.b1
    · exact v.c1
    · exact v.d1
  obtain ⟨w, x, y, z, e⟩ := srt4 a b c d
  unfold Gr
  rw [e] at hm ⊢
  have := hm w (by simp); have := hm x (by simp); have := hm y (by simp); have := hm z (by simp)
  show -10000 ≤ x + y - w - z ∧ x + y - w - z ≤ 10000
  omega
theorem e17 (v : Vr 3000 a b c d) (ht : t = 2 ∨ t = 3) : s__law_right_17 (⟨[.val .pot, x1, x2, .val (R a b c d), .val (.int k), .val (.int t), .val (spsD a b c d), .val (evsD a b c d), .val (kdsD a b c d), .val (R a' b' c' d'), .val (R d c b a), .val (R (t * a) (t * b) (t * c) (t * d)), x12, x13, x14, x15, x16, .no, .no, .no, .no], p⟩ : S) = some (.nx, (⟨[.val .pot, x1, x2, .val (R a b c d), .val (.int k), .val (.int t), .val (spsD a b c d), .val (evsD a b c d), .val (kdsD a b c d), .val (R a' b' c' d'), .val (R d c b a), .val (R (t * a) (t * b) (t * c) (t * d)), x12, x13, x14, x15, x16, .no, .no, .no, .no], p⟩ : S)) := by
  have v1 : Vr 10000 a b c d := v.big (by decide)
  have hd : dNe (.tup (rc (T a b c d) (T b c d a) (T c d a b) (T d a b c))) (.tup (rc (T a b c d) (T b c d a) (T c d a b) (T d a b c))) = some (.bl false, false) := dNe_rfl sh_rc rfl
  have hg := Gr_bd v
  have e := dMul_i (a := t) (b := Gr a b c d) (by omega) (by omega)
  refine if_skip ?_
  simp only [cFz, at40, at41, at42, at43, at20, at21, at30, at31, at32, List.set, dMod_ev, Int.reduceMod, Int.reduceLT, Int.reduceSub, Int.reduceMul, Int.reduceToNat, Nat.reduceLT, Int.zero_add, Int.reduceLE, fAll_b, runF, cSeq, cIf, cSet, cRet, cRetN, cSkip, cCont, cBrk, cVar, cD, cBin, cUn, cBi, aNil, aCons, cTup, cLst, bT, bAnd, bOr, bNot, cAnd, cOr, cNot, cIte, cChain, cIsi, dTy, kb1, kb2, kb3, kb4, kb5, kb6, kb7, fAbs_ev, fMax_ev, fMin_ev, wipeS, Function.comp_apply, Function.comp_def, dIx, dGetAny, cPotGet, cPotSet, getP, setP, cCall, fInt, fLen, fTuple, fList, cLenV, dLt, dLe, dGt, dGe, dB2, dAdd, dSub_ev, dNeg, Nat.reduceLeDiff, cs0, cs1, cs2, cs3, cs4, cs5, cs6, cs7, cs8, cs9, cs10, cs11, cs12, Int.ofNat_eq_natCast, dEq_int, dNe_int, dEq_pair, dNe_pair, dIsN, dNotN, cPar, cPar3, cAsg, gN, gT, gsCons, gsNil, bdOf, cSl, oNone, oSome, dSl, iSeq, iRg1, iRg2, cExpr, dRev, List.map_cons, List.map_nil, List.length_cons, List.length_nil, List.cons_append, List.nil_append, List.append_nil, List.replicate, List.getElem?_cons_zero, List.getElem?_cons_succ, List.set_cons_zero, List.set_cons_succ, Option.bind_some, Option.map_some, Option.bind_none, Option.map_none, Nat.reduceAdd, Nat.reduceSub, Int.reduceAdd, Int.reduceNeg, decide_true, decide_false, Bool.not_true, Bool.not_false, if_true, if_false, Bool.false_eq_true, if_pos, reduceIte, reduceCtorEq, Option.some.injEq, Prod.mk.injEq, and_self, and_true, true_and, szOk, round_ev v1, round_ev (v.mul ht), T_mul ht, hd, grashof_ev v1, grashof_ev (v.mul ht), Gr_mul ht, e]
theorem sp_bd (v : Vr 3000 a b c d) : 0 ≤ spX a b c d ∧ spX a b c d ≤ 10000 ∧ 0 ≤ spY a b c d ∧ spY a b c d ≤ 10000 := by
  have := v.a1; have := v.b1; have := v.c1; have := v.d1
  unfold spX spY mx mn ab
  repeat' split
  all_goals omega
theorem Vr.to (v : Vr 3000 a b c d) (h : Rot k a b c d a' b' c' d') : Vr 3000 a' b' c' d' := by
  rcases h with ⟨rfl, rfl, rfl, rfl, rfl⟩ | ⟨rfl, rfl, rfl, rfl, rfl⟩ | ⟨rfl, rfl, rfl, rfl, rfl⟩ | ⟨rfl, rfl, rfl, rfl, rfl⟩
  · exact v
  · exact v.rot
  · exact v.rot.rot
  · exact v.rot.rot.rot
theorem e18 (v : Vr 3000 a b c d) (ht : t = 2 ∨ t = 3) (h : Rot k a b c d a' b' c' d') : s__law_right_18 (⟨[.val .pot, x1, x2, .val (R a b c d), .val (.int k), .val (.int t), .val (spsD a b c d), .val (evsD a b c d), .val (kdsD a b c d), .val (R a' b' c' d'), .val (R d c b a), .val (R (t * a) (t * b) (t * c) (t * d)), x12, x13, x14, x15, x16, .no, .no, .no, .no], p⟩ : S) = some (.nx, (⟨[.val .pot, x1, x2, .val (R a b c d), .val (.int k), .val (.int t), .val (spsD a b c d), .val (evsD a b c d), .val (kdsD a b c d), .val (R a' b' c' d'), .val (R d c b a), .val (R (t * a) (t * b) (t * c) (t * d)), x12, x13, x14, x15, x16, .no, .no, .no, .no], p⟩ : S)) := by
  have v1 := v.mul ht
  have hb := sp_bd (v.to h)
  have ea := dMul_i (a := t) (b := spX a' b' c' d') (by omega) (by omega)
  have eb := dMul_i (a := t) (b := spY a' b' c' d') (by omega) (by omega)
  refine ne_skip (x := Sp (t * a') (t * b') (t * c') (t * d')) (b := false) (y := .tup [.int (t * spX a' b' c' d'), .int (t * spY a' b' c' d')]) (b' := false) ?_ ?_ (by unfold Sp; rw [spX_mul ht, spY_mul ht]; exact dNe_rfl (by simp only [sh_tup64, shL_cons, shL_nil, sh_int, Bool.and_self]) rfl)
  · rcases h with ⟨rfl, rfl, rfl, rfl, rfl⟩ | ⟨rfl, rfl, rfl, rfl, rfl⟩ | ⟨rfl, rfl, rfl, rfl, rfl⟩ | ⟨rfl, rfl, rfl, rfl, rfl⟩
    all_goals simp only [cFz, at40, at41, at42, at43, at20, at21, at30, at31, at32, List.set, dMod_ev, Int.reduceMod, Int.reduceLT, Int.reduceSub, Int.reduceMul, Int.reduceToNat, Nat.reduceLT, Int.zero_add, Int.reduceLE, fAll_b, runF, cSeq, cIf, cSet, cRet, cRetN, cSkip, cCont, cBrk, cVar, cD, cBin, cUn, cBi, aNil, aCons, cTup, cLst, bT, bAnd, bOr, bNot, cAnd, cOr, cNot, cIte, cChain, cIsi, dTy, kb1, kb2, kb3, kb4, kb5, kb6, kb7, fAbs_ev, fMax_ev, fMin_ev, wipeS, Function.comp_apply, Function.comp_def, dIx, dGetAny, cPotGet, cPotSet, getP, setP, cCall, fInt, fLen, fTuple, fList, cLenV, dLt, dLe, dGt, dGe, dB2, dAdd, dSub_ev, dNeg, Nat.reduceLeDiff, cs0, cs1, cs2, cs3, cs4, cs5, cs6, cs7, cs8, cs9, cs10, cs11, cs12, Int.ofNat_eq_natCast, dEq_int, dNe_int, dEq_pair, dNe_pair, dIsN, dNotN, cPar, cPar3, cAsg, gN, gT, gsCons, gsNil, bdOf, cSl, oNone, oSome, dSl, iSeq, iRg1, iRg2, cExpr, dRev, List.map_cons, List.map_nil, List.length_cons, List.length_nil, List.cons_append, List.nil_append, List.append_nil, List.replicate, List.getElem?_cons_zero, List.getElem?_cons_succ, List.set_cons_zero, List.set_cons_succ, Option.bind_some, Option.map_some, Option.bind_none, Option.map_none, Nat.reduceAdd, Nat.reduceSub, Int.reduceAdd, Int.reduceNeg, decide_true, decide_false, Bool.not_true, Bool.not_false, if_true, if_false, Bool.false_eq_true, if_pos, reduceIte, reduceCtorEq, Option.some.injEq, Prod.mk.injEq, and_self, and_true, true_and, szOk, span0 v1, span1 v1, span2 v1, span3 v1]
  · rcases h with ⟨rfl, rfl, rfl, rfl, rfl⟩ | ⟨rfl, rfl, rfl, rfl, rfl⟩ | ⟨rfl, rfl, rfl, rfl, rfl⟩ | ⟨rfl, rfl, rfl, rfl, rfl⟩
    all_goals simp only [cFz, at40, at41, at42, at43, at20, at21, at30, at31, at32, List.set, dMod_ev, Int.reduceMod, Int.reduceLT, Int.reduceSub, Int.reduceMul, Int.reduceToNat, Nat.reduceLT, Int.zero_add, Int.reduceLE, fAll_b, runF, cSeq, cIf, cSet, cRet, cRetN, cSkip, cCont, cBrk, cVar, cD, cBin, cUn, cBi, aNil, aCons, cTup, cLst, bT, bAnd, bOr, bNot, cAnd, cOr, cNot, cIte, cChain, cIsi, dTy, kb1, kb2, kb3, kb4, kb5, kb6, kb7, fAbs_ev, fMax_ev, fMin_ev, wipeS, Function.comp_apply, Function.comp_def, dIx, dGetAny, cPotGet, cPotSet, getP, setP, cCall, fInt, fLen, fTuple, fList, cLenV, dLt, dLe, dGt, dGe, dB2, dAdd, dSub_ev, dNeg, Nat.reduceLeDiff, cs0, cs1, cs2, cs3, cs4, cs5, cs6, cs7, cs8, cs9, cs10, cs11, cs12, Int.ofNat_eq_natCast, dEq_int, dNe_int, dEq_pair, dNe_pair, dIsN, dNotN, cPar, cPar3, cAsg, gN, gT, gsCons, gsNil, bdOf, cSl, oNone, oSome, dSl, iSeq, iRg1, iRg2, cExpr, dRev, List.map_cons, List.map_nil, List.length_cons, List.length_nil, List.cons_append, List.nil_append, List.append_nil, List.replicate, List.getElem?_cons_zero, List.getElem?_cons_succ, List.set_cons_zero, List.set_cons_succ, Option.bind_some, Option.map_some, Option.bind_none, Option.map_none, Nat.reduceAdd, Nat.reduceSub, Int.reduceAdd, Int.reduceNeg, decide_true, decide_false, Bool.not_true, Bool.not_false, if_true, if_false, Bool.false_eq_true, if_pos, reduceIte, reduceCtorEq, Option.some.injEq, Prod.mk.injEq, and_self, and_true, true_and, szOk, spsD, Sp, ea, eb]
theorem sp_flip : Sp c d a b = Sp a b c d := by
  have h1 : spX c d a b = spX a b c d := by unfold spX mx; split <;> split <;> omega
  have h2 : spY c d a b = spY a b c d := by unfold spY mn; split <;> split <;> omega
  unfold Sp
  rw [h1, h2]
theorem sp_le (v : Vr 3000 a b c d) : ¬ spY a b c d < spX a b c d := by
  have := v.a1; have := v.b1; have := v.c1; have := v.d1; have := v.a2; have := v.b2; have := v.c2; have := v.d2
  unfold spX spY mx mn ab
  repeat' split
  all_goals omega
theorem e19 (v : Vr 3000 a b c d) : s__law_right_19 (⟨[.val .pot, x1, x2, .val (R a b c d), .val (.int k), .val (.int t), .val (spsD a b c d), .val (evsD a b c d), .val (kdsD a b c d), .val (R a' b' c' d'), .val (R d c b a), .val (R (t * a) (t * b) (t * c) (t * d)), x12, x13, x14, x15, x16, .no, .no, .no, .no], p⟩ : S) = some (.nx, (⟨[.val .pot, x1, x2, .val (R a b c d), .val (.int k), .val (.int t), .val (spsD a b c d), .val (evsD a b c d), .val (kdsD a b c d), .val (R a' b' c' d'), .val (R d c b a), .val (R (t * a) (t * b) (t * c) (t * d)), x12, x13, x14, x15, x16, .no, .no, .no, .no], p⟩ : S)) := by
  have h1 : dNe (Sp a b c d) (Sp a b c d) = some (.bl false, false) := dNe_rfl (by simp only [sh_tup64, shL_cons, shL_nil, sh_int, Bool.and_self]) rfl
  have h2 : dNe (Sp b c d a) (Sp b c d a) = some (.bl false, false) := dNe_rfl (by simp only [sh_tup64, shL_cons, shL_nil, sh_int, Bool.and_self]) rfl
  have h3 := sp_le v
  have f1 : Sp c d a b = Sp a b c d := sp_flip
  have f2 : Sp d a b c = Sp b c d a := sp_flip
  have e1 : spsD a b c d = .lst [Sp a b c d, Sp b c d a, Sp a b c d, Sp b c d a] := by unfold spsD; rw [f1, f2]
  rw [e1]
  refine if_skip ?_
  simp only [bOr, bT, cBin, cVar, cD, List.getElem?_cons_zero, List.getElem?_cons_succ, Option.bind_some, Option.map_some, dGetAny, dIx, at40, at41, at42, at43, h1, h2, Bool.false_eq_true, if_false]
  simp only [cFz, at40, at41, at42, at43, at20, at21, at30, at31, at32, List.set, dMod_ev, Int.reduceMod, Int.reduceLT, Int.reduceSub, Int.reduceMul, Int.reduceToNat, Nat.reduceLT, Int.zero_add, Int.reduceLE, fAll_b, runF, cSeq, cIf, cSet, cRet, cRetN, cSkip, cCont, cBrk, cVar, cD, cBin, cUn, cBi, aNil, aCons, cTup, cLst, bT, bAnd, bOr, bNot, cAnd, cOr, cNot, cIte, cChain, cIsi, dTy, kb1, kb2, kb3, kb4, kb5, kb6, kb7, fAbs_ev, fMax_ev, fMin_ev, wipeS, Function.comp_apply, Function.comp_def, dIx, dGetAny, cPotGet, cPotSet, getP, setP, cCall, fInt, fLen, fTuple, fList, cLenV, dLt, dLe, dGt, dGe, dB2, dAdd, dSub_ev, dNeg, Nat.reduceLeDiff, cs0, cs1, cs2, cs3, cs4, cs5, cs6, cs7, cs8, cs9, cs10, cs11, cs12, Int.ofNat_eq_natCast, dEq_int, dNe_int, dEq_pair, dNe_pair, dIsN, dNotN, cPar, cPar3, cAsg, gN, gT, gsCons, gsNil, bdOf, cSl, oNone, oSome, dSl, iSeq, iRg1, iRg2, cExpr, dRev, List.map_cons, List.map_nil, List.length_cons, List.length_nil, List.cons_append, List.nil_append, List.append_nil, List.replicate, List.getElem?_cons_zero, List.getElem?_cons_succ, List.set_cons_zero, List.set_cons_succ, Option.bind_some, Option.map_some, Option.bind_none, Option.map_none, Nat.reduceAdd, Nat.reduceSub, Int.reduceAdd, Int.reduceNeg, decide_true, decide_false, Bool.not_true, Bool.not_false, if_true, if_false, Bool.false_eq_true, if_pos, reduceIte, reduceCtorEq, Option.some.injEq, Prod.mk.injEq, and_self, and_true, true_and, szOk, Sp, h3]
end
end Lk51

namespace Lk51
open PySem PySem.Spec PyProof.Rows L2 Rb
/-! ### lists -/
theorem cut_to {α : Type} {xs : List α} {m : Nat} (h : m ≤ xs.length) : cut xs none (some (m : Int)) = xs.take m := by
  unfold cut
  rw [HT.sIx_none, HT.sIx_nat, List.drop_zero, Nat.sub_zero, Nat.min_eq_left h]
theorem perm_sum {ns ms : List Int} (h : ns.Perm ms) : ns.sum = ms.sum := by
  induction h with
  | nil => rfl
  | cons x _ ih => rw [List.sum_cons, List.sum_cons, ih]
  | swap x y l => rw [List.sum_cons, List.sum_cons, List.sum_cons, List.sum_cons]; omega
  | trans _ _ h1 h2 => rw [h1, h2]
theorem perm_max {ns ms : List Int} (h : ns.Perm ms) (h0 : 0 < ns.length) : maxL ns = maxL ms := by
  have h1 := h.length_eq
  have a := le_maxL (h.mem_iff.1 (maxL_mem h0))
  have b := le_maxL (h.mem_iff.2 (maxL_mem (ns := ms) (by omega)))
  omega
def toI : D → Int
  | .int i => i
  | _ => 0
theorem toI_map (ns : List Int) : (ns.map D.int).map toI = ns := by
  rw [List.map_map]
  exact List.map_id'' (fun _ => rfl) ns
theorem perm_ints {ns : List Int} {ds : List D} (h : ds.Perm (ns.map .int)) : ∃ ms : List Int, ds = ms.map .int ∧ ms.Perm ns := by
  have hi : ∀ d ∈ ds, ∃ i, d = D.int i := fun d hd => by
    obtain ⟨i, _, e⟩ := List.mem_map.1 (h.mem_iff.1 hd)
    exact ⟨i, e.symm⟩
  have hd : ds = (ds.map toI).map .int := by
    clear h
    induction ds with
    | nil => rfl
    | cons d ds ih =>
      obtain ⟨i, rfl⟩ := hi d (.head _)
      rw [List.map_cons, List.map_cons, ← ih fun e he => hi e (.tail _ he)]
      rfl
  refine ⟨ds.map toI, hd, ?_⟩
  have := h.map toI
  rwa [toI_map] at this
theorem find_range (n : Nat) (q : Nat → Bool) : (List.range n).findIdx? q = (List.range n).find? q := by
  cases h : (List.range n).findIdx? q with
  | none =>
    refine (List.find?_eq_none.2 ?_).symm
    exact fun x hx => by simpa using List.findIdx?_eq_none_iff.1 h x hx
  | some i =>
    obtain ⟨hl, h1, h2⟩ := List.findIdx?_eq_some_iff_getElem.1 h
    refine (List.find?_range_eq_some.2 ⟨by simpa using h1, by simpa using hl, fun j hj => ?_⟩).symm
    have := h2 j hj
    simpa using this
/-! ### the arms' words -/
section
variable {ms : List Int} {p : Pt} {x y : Int}
theorem Vd.take (v : Vd ms) (i : Nat) : Vd (ms.take (i + 1)) := by
  have := v.l0; have := v.l1
  refine ⟨by rw [List.length_take]; omega, by rw [List.length_take]; omega, fun z hz => v.b z (List.mem_of_mem_take hz)⟩
abbrev wN (ms : List Int) (x y : Int) (i : Nat) : Str := wd (ms.take (i + 1)) x y
abbrev hit (ms : List Int) (x y : Int) (i : Nat) : Bool := wN ms x y i == "reached"
theorem reach_step {i : Nat} (v : Vd ms) (vp : Vp x y) (hi : i < ms.length) : f_reached_freely [.tup (cut (ms.map .int) none (some (1 + (i : Int)))), .tup [.int x, .int y]] p = some (.str (wN ms x y i), p) := by
  have h : (1 + (i : Int)) = ((i + 1 : Nat) : Int) := by omega
  rw [h, cut_to (by rw [List.length_map]; omega), ← List.map_take]
  exact reached_ev (v.take i) vp
theorem sh_wd {n : Nat} : D.sh n (.str (wd ms x y)) = true := by
  have h : D.sh n (.str (wd ms x y)) = PyData.canLay0 (.str (wd ms x y)) := by cases n <;> rfl
  rw [h]
  unfold wd
  split
  · decide +kernel
  · split <;> decide +kernel
theorem sh_reached {n : Nat} : D.sh n (.str "reached") = true := by
  have h : D.sh n (.str "reached") = PyData.canLay0 (.str "reached") := by cases n <;> rfl
  rw [h]
  decide +kernel
theorem dEq_wd {i : Nat} : dEq (.str (wN ms x y i)) (.str "reached") = some (.bl (hit ms x y i), false) := by
  simp only [dEq, sh_wd, sh_reached, Bool.and_self, if_true, eqB_str]
theorem rg2 {s : S} {c : SE} {z : Int} {r : List Bd} {p : Pt} (hc : c s = some ((.int z, false), s)) (h : rgOk (z + 1) = true) : iRg2 (aCons (cD (.int 1)) (aCons (cBin dAdd c (cD (.int 1))) aNil)) s = some (rngL 1 (z + 1 - 1).toNat, s) := by
  have h1 : rgOk 1 = true := by decide
  simp only [cFz, at40, at41, at42, at43, at20, at21, at30, at31, at32, List.set, dMod_ev, Int.reduceMod, Int.reduceLT, Int.reduceSub, Int.reduceMul, Int.reduceToNat, Nat.reduceLT, Int.zero_add, Int.reduceLE, fAll_b, runF, cSeq, cIf, cSet, cRet, cRetN, cSkip, cCont, cBrk, cVar, cD, cBin, cUn, cBi, aNil, aCons, cTup, cLst, bT, bAnd, bOr, bNot, cAnd, cOr, cNot, cIte, cChain, cIsi, dTy, kb1, kb2, kb3, kb4, kb5, kb6, kb7, fAbs_ev, fMax_ev, fMin_ev, wipeS, Function.comp_apply, Function.comp_def, dIx, dGetAny, cPotGet, cPotSet, getP, setP, cCall, fInt, fLen, fTuple, fList, cLenV, dLt, dLe, dGt, dGe, dB2, dAdd, dSub_ev, dNeg, Nat.reduceLeDiff, cs0, cs1, cs2, cs3, cs4, cs5, cs6, cs7, cs8, cs9, cs10, cs11, cs12, Int.ofNat_eq_natCast, dEq_int, dNe_int, dEq_pair, dNe_pair, dIsN, dNotN, cPar, cPar3, cAsg, gN, gT, gsCons, gsNil, bdOf, cSl, oNone, oSome, dSl, iSeq, iRg1, iRg2, cExpr, dRev, List.map_cons, List.map_nil, List.length_cons, List.length_nil, List.cons_append, List.nil_append, List.append_nil, List.replicate, List.getElem?_cons_zero, List.getElem?_cons_succ, List.set_cons_zero, List.set_cons_succ, Option.bind_some, Option.map_some, Option.bind_none, Option.map_none, Nat.reduceAdd, Nat.reduceSub, Int.reduceAdd, Int.reduceNeg, decide_true, decide_false, Bool.not_true, Bool.not_false, if_true, if_false, Bool.false_eq_true, if_pos, reduceIte, reduceCtorEq, Option.some.injEq, Prod.mk.injEq, and_self, and_true, true_and, szOk, hc, h, h1, Bool.and_self]
def told (ms : List Int) (x y : Int) : D := match (List.range ms.length).find? (hit ms x y) with
  | some i => .int (1 + (i : Int))
  | none => .non
theorem for_find {g : D → S → Option S} {body : SS} (J : S → Prop) (β : D → Bool) (ρ : D → D) : ∀ (ds : List D) (s : S), (∀ d ∈ ds, ∀ s, J s → ∃ s1, g d s = some s1 ∧ ∃ s2, J s2 ∧ body s1 = some (if β d then .rt (ρ d) else .nx, s2)) → J s → ∃ s', J s' ∧ forL g body ds s = some (match ds.find? β with | some d => .rt (ρ d) | none => .nx, s')
  | [], s, _, j => ⟨s, j, rfl⟩
  | d :: ds, s, h, j => by
    obtain ⟨s1, e1, s2, j2, e2⟩ := h d (.head _) s j
    cases hb : β d with
    | true =>
      refine ⟨s2, j2, ?_⟩
      simp only [forL, e1, Option.bind_some, e2, hb, if_true, List.find?_cons_of_pos]
    | false =>
      obtain ⟨s', j', e3⟩ := for_find J β ρ ds s2 (fun e he => h e (.tail _ he)) j2
      refine ⟨s', j', ?_⟩
      simp only [forL, e1, Option.bind_some, e2, hb, Bool.false_eq_true, if_false, e3]
      rw [List.find?_cons_of_neg (by simp [hb])]
theorem fewest_ev (v : Vd ms) (vp : Vp x y) : f_fewest_free [.tup (ms.map .int), .tup [.int x, .int y]] p = some (told ms x y, p) := by
  have hl := v.l1
  generalize hz : (ms.length : Int) = z
  have hz1 : z ≤ 12 := by omega
  have hz0 : 0 ≤ z := by omega
  have hn : (z + 1 - 1).toNat = ms.length := by omega
  have hr : rgOk (z + 1) = true := rgOk_of (by omega) (by omega)
  have hlen : fLen [.tup (ms.map .int)] = some (.int z, false) := by rw [← hz, ← List.length_map (f := D.int)]; rfl
  obtain ⟨s', ⟨b, rfl⟩, e⟩ := for_find (g := gN 2) (body := (cIf (bT (cBin dEq (cCall f_reached_freely (aCons (cSl (cVar 0) oNone (oSome (cVar 2))) (aCons (cVar 1) aNil))) (cD (.str "reached")))) (cRet (cVar 2)) cSkip))
    (fun s => ∃ b, s = ⟨[.val (.tup (ms.map .int)), .val (.tup [.int x, .int y]), b], p⟩) (fun d => match d with | .int i => hit ms x y (i - 1).toNat | _ => false) id (rngL 1 ms.length) ⟨[.val (.tup (ms.map .int)), .val (.tup [.int x, .int y]), .no], p⟩ (fun d hd s ⟨b, hs⟩ => by
      subst hs
      obtain ⟨i, hi⟩ := List.getElem?_of_mem hd
      obtain ⟨hil, rfl⟩ := rngL_get hi
      have e := reach_step (p := p) v vp hil
      refine ⟨_, rfl, ⟨[.val (.tup (ms.map .int)), .val (.tup [.int x, .int y]), .val (.int (1 + (i : Int)))], p⟩, ⟨_, rfl⟩, ?_⟩
      have hi2 : (1 + (i : Int) - 1).toNat = i := by omega
      simp only [hi2]
      cases hh : hit ms x y i with
      | true => simp only [cFz, at40, at41, at42, at43, at20, at21, at30, at31, at32, List.set, dMod_ev, Int.reduceMod, Int.reduceLT, Int.reduceSub, Int.reduceMul, Int.reduceToNat, Nat.reduceLT, Int.zero_add, Int.reduceLE, fAll_b, runF, cSeq, cIf, cSet, cRet, cRetN, cSkip, cCont, cBrk, cVar, cD, cBin, cUn, cBi, aNil, aCons, cTup, cLst, bT, bAnd, bOr, bNot, cAnd, cOr, cNot, cIte, cChain, cIsi, dTy, kb1, kb2, kb3, kb4, kb5, kb6, kb7, fAbs_ev, fMax_ev, fMin_ev, wipeS, Function.comp_apply, Function.comp_def, dIx, dGetAny, cPotGet, cPotSet, getP, setP, cCall, fInt, fLen, fTuple, fList, cLenV, dLt, dLe, dGt, dGe, dB2, dAdd, dSub_ev, dNeg, Nat.reduceLeDiff, cs0, cs1, cs2, cs3, cs4, cs5, cs6, cs7, cs8, cs9, cs10, cs11, cs12, Int.ofNat_eq_natCast, dEq_int, dNe_int, dEq_pair, dNe_pair, dIsN, dNotN, cPar, cPar3, cAsg, gN, gT, gsCons, gsNil, bdOf, cSl, oNone, oSome, dSl, iSeq, iRg1, iRg2, cExpr, dRev, List.map_cons, List.map_nil, List.length_cons, List.length_nil, List.cons_append, List.nil_append, List.append_nil, List.replicate, List.getElem?_cons_zero, List.getElem?_cons_succ, List.set_cons_zero, List.set_cons_succ, Option.bind_some, Option.map_some, Option.bind_none, Option.map_none, Nat.reduceAdd, Nat.reduceSub, Int.reduceAdd, Int.reduceNeg, decide_true, decide_false, Bool.not_true, Bool.not_false, if_true, if_false, Bool.false_eq_true, if_pos, reduceIte, reduceCtorEq, Option.some.injEq, Prod.mk.injEq, and_self, and_true, true_and, szOk, e, dEq_wd, hh, id]
      | false => simp only [cFz, at40, at41, at42, at43, at20, at21, at30, at31, at32, List.set, dMod_ev, Int.reduceMod, Int.reduceLT, Int.reduceSub, Int.reduceMul, Int.reduceToNat, Nat.reduceLT, Int.zero_add, Int.reduceLE, fAll_b, runF, cSeq, cIf, cSet, cRet, cRetN, cSkip, cCont, cBrk, cVar, cD, cBin, cUn, cBi, aNil, aCons, cTup, cLst, bT, bAnd, bOr, bNot, cAnd, cOr, cNot, cIte, cChain, cIsi, dTy, kb1, kb2, kb3, kb4, kb5, kb6, kb7, fAbs_ev, fMax_ev, fMin_ev, wipeS, Function.comp_apply, Function.comp_def, dIx, dGetAny, cPotGet, cPotSet, getP, setP, cCall, fInt, fLen, fTuple, fList, cLenV, dLt, dLe, dGt, dGe, dB2, dAdd, dSub_ev, dNeg, Nat.reduceLeDiff, cs0, cs1, cs2, cs3, cs4, cs5, cs6, cs7, cs8, cs9, cs10, cs11, cs12, Int.ofNat_eq_natCast, dEq_int, dNe_int, dEq_pair, dNe_pair, dIsN, dNotN, cPar, cPar3, cAsg, gN, gT, gsCons, gsNil, bdOf, cSl, oNone, oSome, dSl, iSeq, iRg1, iRg2, cExpr, dRev, List.map_cons, List.map_nil, List.length_cons, List.length_nil, List.cons_append, List.nil_append, List.append_nil, List.replicate, List.getElem?_cons_zero, List.getElem?_cons_succ, List.set_cons_zero, List.set_cons_succ, Option.bind_some, Option.map_some, Option.bind_none, Option.map_none, Nat.reduceAdd, Nat.reduceSub, Int.reduceAdd, Int.reduceNeg, decide_true, decide_false, Bool.not_true, Bool.not_false, if_true, if_false, Bool.false_eq_true, if_pos, reduceIte, reduceCtorEq, Option.some.injEq, Prod.mk.injEq, and_self, and_true, true_and, szOk, e, dEq_wd, hh, id]) ⟨.no, rfl⟩
  have hf : (rngL 1 ms.length).find? (fun d => match d with | .int i => hit ms x y (i - 1).toNat | _ => false) = ((List.range ms.length).find? (hit ms x y)).map fun (i : Nat) => D.int (1 + (i : Int)) := by
    unfold rngL
    rw [List.find?_map]
    have : ((fun d => match d with | D.int i => hit ms x y (i - 1).toNat | _ => false) ∘ fun (i : Nat) => D.int (1 + (i : Int))) = hit ms x y := by
      funext i
      show hit ms x y (1 + (i : Int) - 1).toNat = _
      rw [show (1 + (i : Int) - 1).toNat = i by omega]
    rw [this]
  rw [hf] at e
  unfold told
  cases hc : (List.range ms.length).find? (hit ms x y) with
  | none =>
    rw [hc] at e
    simp only [Option.map_none] at e
    simp only [cFz, at40, at41, at42, at43, at20, at21, at30, at31, at32, List.set, dMod_ev, Int.reduceMod, Int.reduceLT, Int.reduceSub, Int.reduceMul, Int.reduceToNat, Nat.reduceLT, Int.zero_add, Int.reduceLE, fAll_b, runF, cSeq, cIf, cSet, cRet, cRetN, cSkip, cCont, cBrk, cVar, cD, cBin, cUn, cBi, aNil, aCons, cTup, cLst, bT, bAnd, bOr, bNot, cAnd, cOr, cNot, cIte, cChain, cIsi, dTy, kb1, kb2, kb3, kb4, kb5, kb6, kb7, fAbs_ev, fMax_ev, fMin_ev, wipeS, Function.comp_apply, Function.comp_def, dIx, dGetAny, cPotGet, cPotSet, getP, setP, cCall, fInt, fLen, fTuple, fList, cLenV, dLt, dLe, dGt, dGe, dB2, dAdd, dSub_ev, dNeg, Nat.reduceLeDiff, cs0, cs1, cs2, cs3, cs4, cs5, cs6, cs7, cs8, cs9, cs10, cs11, cs12, Int.ofNat_eq_natCast, dEq_int, dNe_int, dEq_pair, dNe_pair, dIsN, dNotN, cPar, cPar3, cAsg, gN, gT, gsCons, gsNil, bdOf, cSl, oNone, oSome, dSl, iSeq, iRg1, iRg2, cExpr, dRev, List.map_cons, List.map_nil, List.length_cons, List.length_nil, List.cons_append, List.nil_append, List.append_nil, List.replicate, List.getElem?_cons_zero, List.getElem?_cons_succ, List.set_cons_zero, List.set_cons_succ, Option.bind_some, Option.map_some, Option.bind_none, Option.map_none, Nat.reduceAdd, Nat.reduceSub, Int.reduceAdd, Int.reduceNeg, decide_true, decide_false, Bool.not_true, Bool.not_false, if_true, if_false, Bool.false_eq_true, if_pos, reduceIte, reduceCtorEq, Option.some.injEq, Prod.mk.injEq, and_self, and_true, true_and, szOk, f_fewest_free, c_fewest_free, look_rods_ev v, look_point_ev vp, cFor, List.length_map, hz, hr, hn, e, Bool.and_self, (by decide : rgOk 1 = true)]
  | some i =>
    rw [hc] at e
    simp only [Option.map_some] at e
    simp only [cFz, at40, at41, at42, at43, at20, at21, at30, at31, at32, List.set, dMod_ev, Int.reduceMod, Int.reduceLT, Int.reduceSub, Int.reduceMul, Int.reduceToNat, Nat.reduceLT, Int.zero_add, Int.reduceLE, fAll_b, runF, cSeq, cIf, cSet, cRet, cRetN, cSkip, cCont, cBrk, cVar, cD, cBin, cUn, cBi, aNil, aCons, cTup, cLst, bT, bAnd, bOr, bNot, cAnd, cOr, cNot, cIte, cChain, cIsi, dTy, kb1, kb2, kb3, kb4, kb5, kb6, kb7, fAbs_ev, fMax_ev, fMin_ev, wipeS, Function.comp_apply, Function.comp_def, dIx, dGetAny, cPotGet, cPotSet, getP, setP, cCall, fInt, fLen, fTuple, fList, cLenV, dLt, dLe, dGt, dGe, dB2, dAdd, dSub_ev, dNeg, Nat.reduceLeDiff, cs0, cs1, cs2, cs3, cs4, cs5, cs6, cs7, cs8, cs9, cs10, cs11, cs12, Int.ofNat_eq_natCast, dEq_int, dNe_int, dEq_pair, dNe_pair, dIsN, dNotN, cPar, cPar3, cAsg, gN, gT, gsCons, gsNil, bdOf, cSl, oNone, oSome, dSl, iSeq, iRg1, iRg2, cExpr, dRev, List.map_cons, List.map_nil, List.length_cons, List.length_nil, List.cons_append, List.nil_append, List.append_nil, List.replicate, List.getElem?_cons_zero, List.getElem?_cons_succ, List.set_cons_zero, List.set_cons_succ, Option.bind_some, Option.map_some, Option.bind_none, Option.map_none, Nat.reduceAdd, Nat.reduceSub, Int.reduceAdd, Int.reduceNeg, decide_true, decide_false, Bool.not_true, Bool.not_false, if_true, if_false, Bool.false_eq_true, if_pos, reduceIte, reduceCtorEq, Option.some.injEq, Prod.mk.injEq, and_self, and_true, true_and, szOk, f_fewest_free, c_fewest_free, look_rods_ev v, look_point_ev vp, cFor, List.length_map, hz, hr, hn, e, Bool.and_self, (by decide : rgOk 1 = true), id]
end
end Lk51

namespace Lk51
open PySem PySem.Spec PyProof.Rows L2 Rb
/-! ### what is drawn -/
theorem takeK : Take f__law_take := take_ev (A := 95257) (B := 3163) (q0 := 2147483647) (q1 := 2147483629) (q2 := 2147483587) (q3 := 2147483579) (q4 := 2147483563) (C := 13441) (E := 419) (M := 2305843009213693907) (W := 229) (by decide)
theorem of_is : f__law_of = runF 2 (ofC f__law_take) := rfl
theorem some_is : f__law_some = runF 6 (someC f__law_take) := rfl
theorem rods_is : f__law_rods_drawn = runF 4 (rodsC f__law_take) := rfl
section
variable {x1 x2 x3 x4 x5 x6 x7 x8 x9 x10 x11 x12 x13 x14 x15 x16 : Bd} {a b c d a' b' c' d' k t m z x y : Int} {ns : List Int} {u : Int × Int × Int} {n : Nat}
theorem e0 (h : Pk n u) (hn : n ≤ 1000000) : ∃ m u', 1 ≤ m ∧ m ≤ 3000 ∧ Pk (n + 1) u' ∧ s__law_right_0 (⟨[.val .pot, x1, x2, x3, x4, x5, x6, x7, x8, x9, x10, x11, x12, x13, x14, x15, x16, .no, .no, .no, .no], some u⟩ : S) = some (.nx, (⟨[.val .pot, x1, .val (.int m), x3, x4, x5, x6, x7, x8, x9, x10, x11, x12, x13, x14, x15, x16, .no, .no, .no, .no], some u'⟩ : S)) := by
  obtain ⟨d, u', e, hd, h'⟩ := of_ev takeK (ds := [.int 6, .int 40, .int 3000]) h (by omega) (by simp) (by simp) (.inl rfl)
  rw [← of_is] at e
  simp only [List.mem_cons, List.not_mem_nil, or_false] at hd
  rcases hd with rfl | rfl | rfl
  · exact ⟨6, u', by decide, by decide, h', by simp only [cFz, at40, at41, at42, at43, at20, at21, at30, at31, at32, List.set, dMod_ev, Int.reduceMod, Int.reduceLT, Int.reduceSub, Int.reduceMul, Int.reduceToNat, Nat.reduceLT, Int.zero_add, Int.reduceLE, fAll_b, runF, cSeq, cIf, cSet, cRet, cRetN, cSkip, cCont, cBrk, cVar, cD, cBin, cUn, cBi, aNil, aCons, cTup, cLst, bT, bAnd, bOr, bNot, cAnd, cOr, cNot, cIte, cChain, cIsi, dTy, kb1, kb2, kb3, kb4, kb5, kb6, kb7, fAbs_ev, fMax_ev, fMin_ev, wipeS, Function.comp_apply, Function.comp_def, dIx, dGetAny, cPotGet, cPotSet, getP, setP, cCall, fInt, fLen, fTuple, fList, cLenV, dLt, dLe, dGt, dGe, dB2, dAdd, dSub_ev, dNeg, Nat.reduceLeDiff, cs0, cs1, cs2, cs3, cs4, cs5, cs6, cs7, cs8, cs9, cs10, cs11, cs12, Int.ofNat_eq_natCast, dEq_int, dNe_int, dEq_pair, dNe_pair, dIsN, dNotN, cPar, cPar3, cAsg, gN, gT, gsCons, gsNil, bdOf, cSl, oNone, oSome, dSl, iSeq, iRg1, iRg2, cExpr, dRev, List.map_cons, List.map_nil, List.length_cons, List.length_nil, List.cons_append, List.nil_append, List.append_nil, List.replicate, List.getElem?_cons_zero, List.getElem?_cons_succ, List.set_cons_zero, List.set_cons_succ, Option.bind_some, Option.map_some, Option.bind_none, Option.map_none, Nat.reduceAdd, Nat.reduceSub, Int.reduceAdd, Int.reduceNeg, decide_true, decide_false, Bool.not_true, Bool.not_false, if_true, if_false, Bool.false_eq_true, if_pos, reduceIte, reduceCtorEq, Option.some.injEq, Prod.mk.injEq, and_self, and_true, true_and, szOk, s__law_right_0, e]⟩
  · exact ⟨40, u', by decide, by decide, h', by simp only [cFz, at40, at41, at42, at43, at20, at21, at30, at31, at32, List.set, dMod_ev, Int.reduceMod, Int.reduceLT, Int.reduceSub, Int.reduceMul, Int.reduceToNat, Nat.reduceLT, Int.zero_add, Int.reduceLE, fAll_b, runF, cSeq, cIf, cSet, cRet, cRetN, cSkip, cCont, cBrk, cVar, cD, cBin, cUn, cBi, aNil, aCons, cTup, cLst, bT, bAnd, bOr, bNot, cAnd, cOr, cNot, cIte, cChain, cIsi, dTy, kb1, kb2, kb3, kb4, kb5, kb6, kb7, fAbs_ev, fMax_ev, fMin_ev, wipeS, Function.comp_apply, Function.comp_def, dIx, dGetAny, cPotGet, cPotSet, getP, setP, cCall, fInt, fLen, fTuple, fList, cLenV, dLt, dLe, dGt, dGe, dB2, dAdd, dSub_ev, dNeg, Nat.reduceLeDiff, cs0, cs1, cs2, cs3, cs4, cs5, cs6, cs7, cs8, cs9, cs10, cs11, cs12, Int.ofNat_eq_natCast, dEq_int, dNe_int, dEq_pair, dNe_pair, dIsN, dNotN, cPar, cPar3, cAsg, gN, gT, gsCons, gsNil, bdOf, cSl, oNone, oSome, dSl, iSeq, iRg1, iRg2, cExpr, dRev, List.map_cons, List.map_nil, List.length_cons, List.length_nil, List.cons_append, List.nil_append, List.append_nil, List.replicate, List.getElem?_cons_zero, List.getElem?_cons_succ, List.set_cons_zero, List.set_cons_succ, Option.bind_some, Option.map_some, Option.bind_none, Option.map_none, Nat.reduceAdd, Nat.reduceSub, Int.reduceAdd, Int.reduceNeg, decide_true, decide_false, Bool.not_true, Bool.not_false, if_true, if_false, Bool.false_eq_true, if_pos, reduceIte, reduceCtorEq, Option.some.injEq, Prod.mk.injEq, and_self, and_true, true_and, szOk, s__law_right_0, e]⟩
  · exact ⟨3000, u', by decide, by decide, h', by simp only [cFz, at40, at41, at42, at43, at20, at21, at30, at31, at32, List.set, dMod_ev, Int.reduceMod, Int.reduceLT, Int.reduceSub, Int.reduceMul, Int.reduceToNat, Nat.reduceLT, Int.zero_add, Int.reduceLE, fAll_b, runF, cSeq, cIf, cSet, cRet, cRetN, cSkip, cCont, cBrk, cVar, cD, cBin, cUn, cBi, aNil, aCons, cTup, cLst, bT, bAnd, bOr, bNot, cAnd, cOr, cNot, cIte, cChain, cIsi, dTy, kb1, kb2, kb3, kb4, kb5, kb6, kb7, fAbs_ev, fMax_ev, fMin_ev, wipeS, Function.comp_apply, Function.comp_def, dIx, dGetAny, cPotGet, cPotSet, getP, setP, cCall, fInt, fLen, fTuple, fList, cLenV, dLt, dLe, dGt, dGe, dB2, dAdd, dSub_ev, dNeg, Nat.reduceLeDiff, cs0, cs1, cs2, cs3, cs4, cs5, cs6, cs7, cs8, cs9, cs10, cs11, cs12, Int.ofNat_eq_natCast, dEq_int, dNe_int, dEq_pair, dNe_pair, dIsN, dNotN, cPar, cPar3, cAsg, gN, gT, gsCons, gsNil, bdOf, cSl, oNone, oSome, dSl, iSeq, iRg1, iRg2, cExpr, dRev, List.map_cons, List.map_nil, List.length_cons, List.length_nil, List.cons_append, List.nil_append, List.append_nil, List.replicate, List.getElem?_cons_zero, List.getElem?_cons_succ, List.set_cons_zero, List.set_cons_succ, Option.bind_some, Option.map_some, Option.bind_none, Option.map_none, Nat.reduceAdd, Nat.reduceSub, Int.reduceAdd, Int.reduceNeg, decide_true, decide_false, Bool.not_true, Bool.not_false, if_true, if_false, Bool.false_eq_true, if_pos, reduceIte, reduceCtorEq, Option.some.injEq, Prod.mk.injEq, and_self, and_true, true_and, szOk, s__law_right_0, e]⟩
theorem e1 (h : Pk n u) (hn : n ≤ 1000000) (hm : 1 ≤ m ∧ m ≤ 3000) : ∃ (a b c d : Int) (u' : Int × Int × Int), (1 ≤ a ∧ a ≤ 3000) ∧ (1 ≤ b ∧ b ≤ 3000) ∧ (1 ≤ c ∧ c ≤ 3000) ∧ (1 ≤ d ∧ d ≤ 3000) ∧ Pk (n + 4) u' ∧ s__law_right_1 (⟨[.val .pot, x1, .val (.int m), x3, x4, x5, x6, x7, x8, x9, x10, x11, x12, x13, x14, x15, x16, .no, .no, .no, .no], some u⟩ : S) = some (.nx, (⟨[.val .pot, x1, .val (.int m), .val (.lst [.int a, .int b, .int c, .int d]), x4, x5, x6, x7, x8, x9, x10, x11, x12, x13, x14, x15, x16, .no, .no, .no, .no], some u'⟩ : S)) := by
  obtain ⟨xs, p', e, l, hx, u', rfl, hj⟩ := lc_pot (te := cBi fInt (aCons (cBin dAdd (cD (.int 1)) (cCall f__law_take (aCons (cVar 0) (aCons (cVar 2) aNil)))) aNil)) (i := 17) (p := some u) (r := ((⟨[.val .pot, x1, .val (.int m), x3, x4, x5, x6, x7, x8, x9, x10, x11, x12, x13, x14, x15, x16, .no, .no, .no, .no], some u⟩ : S)).r) (b0 := .no) (s0 := (⟨[.val .pot, x1, .val (.int m), x3, x4, x5, x6, x7, x8, x9, x10, x11, x12, x13, x14, x15, x16, .no, .no, .no, .no], some u⟩ : S))
    (fun j p => ∃ t', p = some t' ∧ Pk j t') (fun q => ∃ i, q = .int i ∧ 1 ≤ i ∧ i ≤ 3000) n it4 rfl rfl (fun j d p hd hj ⟨u1, ep, hp1⟩ => by
      subst ep
      have hj : j < 4 := hj
      obtain ⟨r', u2, e', r0', r1', hp2⟩ := takeK m u1 (n + j) hp1 (by omega) (by omega) (by omega)
      refine ⟨.int (1 + r'), false, some u2, ?_, ⟨u2, rfl, hp2⟩, 1 + r', rfl, by omega, by omega⟩
      simp only [cFz, at40, at41, at42, at43, at20, at21, at30, at31, at32, List.set, dMod_ev, Int.reduceMod, Int.reduceLT, Int.reduceSub, Int.reduceMul, Int.reduceToNat, Nat.reduceLT, Int.zero_add, Int.reduceLE, fAll_b, runF, cSeq, cIf, cSet, cRet, cRetN, cSkip, cCont, cBrk, cVar, cD, cBin, cUn, cBi, aNil, aCons, cTup, cLst, bT, bAnd, bOr, bNot, cAnd, cOr, cNot, cIte, cChain, cIsi, dTy, kb1, kb2, kb3, kb4, kb5, kb6, kb7, fAbs_ev, fMax_ev, fMin_ev, wipeS, Function.comp_apply, Function.comp_def, dIx, dGetAny, cPotGet, cPotSet, getP, setP, cCall, fInt, fLen, fTuple, fList, cLenV, dLt, dLe, dGt, dGe, dB2, dAdd, dSub_ev, dNeg, Nat.reduceLeDiff, cs0, cs1, cs2, cs3, cs4, cs5, cs6, cs7, cs8, cs9, cs10, cs11, cs12, Int.ofNat_eq_natCast, dEq_int, dNe_int, dEq_pair, dNe_pair, dIsN, dNotN, cPar, cPar3, cAsg, gN, gT, gsCons, gsNil, bdOf, cSl, oNone, oSome, dSl, iSeq, iRg1, iRg2, cExpr, dRev, List.map_cons, List.map_nil, List.length_cons, List.length_nil, List.cons_append, List.nil_append, List.append_nil, List.replicate, List.getElem?_cons_zero, List.getElem?_cons_succ, List.set_cons_zero, List.set_cons_succ, Option.bind_some, Option.map_some, Option.bind_none, Option.map_none, Nat.reduceAdd, Nat.reduceSub, Int.reduceAdd, Int.reduceNeg, decide_true, decide_false, Bool.not_true, Bool.not_false, if_true, if_false, Bool.false_eq_true, if_pos, reduceIte, reduceCtorEq, Option.some.injEq, Prod.mk.injEq, and_self, and_true, true_and, szOk, e']) ⟨u, rfl, h⟩ (by simp)
  match xs, l with
  | [q0, q1, q2, q3], _ =>
    obtain ⟨a, rfl, ha⟩ := hx q0 (by simp)
    obtain ⟨b, rfl, hb⟩ := hx q1 (by simp)
    obtain ⟨c, rfl, hc⟩ := hx q2 (by simp)
    obtain ⟨d, rfl, hd⟩ := hx q3 (by simp)
    exact ⟨a, b, c, d, u', ha, hb, hc, hd, hj, set_fz e⟩
theorem e2 (ha : 1 ≤ a ∧ a ≤ 3000) (hb : 1 ≤ b ∧ b ≤ 3000) (hc : 1 ≤ c ∧ c ≤ 3000) (hd : 1 ≤ d ∧ d ≤ 3000) : ∃ a' b' c' d' : Int, (1 ≤ a' ∧ a' ≤ 3000) ∧ (1 ≤ b' ∧ b' ≤ 3000) ∧ (1 ≤ c' ∧ c' ≤ 3000) ∧ (1 ≤ d' ∧ d' ≤ 3000) ∧ s__law_right_2 (⟨[.val .pot, x1, .val (.int m), .val (.lst [.int a, .int b, .int c, .int d]), x4, x5, x6, x7, x8, x9, x10, x11, x12, x13, x14, x15, x16, .no, .no, .no, .no], some u⟩ : S) = some (.nx, (⟨[.val .pot, x1, .val (.int m), .val (R a' b' c' d'), x4, x5, x6, x7, x8, x9, x10, x11, x12, x13, x14, x15, x16, .no, .no, .no, .no], some u⟩ : S)) := by
  have es : fSum [.lst [.int a, .int b, .int c, .int d]] = some (.int (a + (b + (c + (d + 0)))), false) := fSum_l (ns := [a, b, c, d])
  have e := lcE4 (it := iSeq (cVar 3)) (te := cBi fMin (aCons (cVar 17) (aCons (cBin dSub (cBi fSum (aCons (cVar 3) aNil)) (cVar 17)) aNil))) (i := 17) (r := ((⟨[.val .pot, x1, .val (.int m), .val (.lst [.int a, .int b, .int c, .int d]), x4, x5, x6, x7, x8, x9, x10, x11, x12, x13, x14, x15, x16, .no, .no, .no, .no], some u⟩ : S)).r) (p := some u) (s0 := (⟨[.val .pot, x1, .val (.int m), .val (.lst [.int a, .int b, .int c, .int d]), x4, x5, x6, x7, x8, x9, x10, x11, x12, x13, x14, x15, x16, .no, .no, .no, .no], some u⟩ : S)) (b0 := .no) (x := .int a) (y := .int b) (z := .int c) (w := .int d)
    (φ0 := .int (mn a (a + (b + (c + (d + 0))) - a))) (φ1 := .int (mn b (a + (b + (c + (d + 0))) - b))) (φ2 := .int (mn c (a + (b + (c + (d + 0))) - c))) (φ3 := .int (mn d (a + (b + (c + (d + 0))) - d))) rfl rfl rfl (by simp only [cFz, at40, at41, at42, at43, at20, at21, at30, at31, at32, List.set, dMod_ev, Int.reduceMod, Int.reduceLT, Int.reduceSub, Int.reduceMul, Int.reduceToNat, Nat.reduceLT, Int.zero_add, Int.reduceLE, fAll_b, runF, cSeq, cIf, cSet, cRet, cRetN, cSkip, cCont, cBrk, cVar, cD, cBin, cUn, cBi, aNil, aCons, cTup, cLst, bT, bAnd, bOr, bNot, cAnd, cOr, cNot, cIte, cChain, cIsi, dTy, kb1, kb2, kb3, kb4, kb5, kb6, kb7, fAbs_ev, fMax_ev, fMin_ev, wipeS, Function.comp_apply, Function.comp_def, dIx, dGetAny, cPotGet, cPotSet, getP, setP, cCall, fInt, fLen, fTuple, fList, cLenV, dLt, dLe, dGt, dGe, dB2, dAdd, dSub_ev, dNeg, Nat.reduceLeDiff, cs0, cs1, cs2, cs3, cs4, cs5, cs6, cs7, cs8, cs9, cs10, cs11, cs12, Int.ofNat_eq_natCast, dEq_int, dNe_int, dEq_pair, dNe_pair, dIsN, dNotN, cPar, cPar3, cAsg, gN, gT, gsCons, gsNil, bdOf, cSl, oNone, oSome, dSl, iSeq, iRg1, iRg2, cExpr, dRev, List.map_cons, List.map_nil, List.length_cons, List.length_nil, List.cons_append, List.nil_append, List.append_nil, List.replicate, List.getElem?_cons_zero, List.getElem?_cons_succ, List.set_cons_zero, List.set_cons_succ, Option.bind_some, Option.map_some, Option.bind_none, Option.map_none, Nat.reduceAdd, Nat.reduceSub, Int.reduceAdd, Int.reduceNeg, decide_true, decide_false, Bool.not_true, Bool.not_false, if_true, if_false, Bool.false_eq_true, if_pos, reduceIte, reduceCtorEq, Option.some.injEq, Prod.mk.injEq, and_self, and_true, true_and, szOk, es]) (by simp only [cFz, at40, at41, at42, at43, at20, at21, at30, at31, at32, List.set, dMod_ev, Int.reduceMod, Int.reduceLT, Int.reduceSub, Int.reduceMul, Int.reduceToNat, Nat.reduceLT, Int.zero_add, Int.reduceLE, fAll_b, runF, cSeq, cIf, cSet, cRet, cRetN, cSkip, cCont, cBrk, cVar, cD, cBin, cUn, cBi, aNil, aCons, cTup, cLst, bT, bAnd, bOr, bNot, cAnd, cOr, cNot, cIte, cChain, cIsi, dTy, kb1, kb2, kb3, kb4, kb5, kb6, kb7, fAbs_ev, fMax_ev, fMin_ev, wipeS, Function.comp_apply, Function.comp_def, dIx, dGetAny, cPotGet, cPotSet, getP, setP, cCall, fInt, fLen, fTuple, fList, cLenV, dLt, dLe, dGt, dGe, dB2, dAdd, dSub_ev, dNeg, Nat.reduceLeDiff, cs0, cs1, cs2, cs3, cs4, cs5, cs6, cs7, cs8, cs9, cs10, cs11, cs12, Int.ofNat_eq_natCast, dEq_int, dNe_int, dEq_pair, dNe_pair, dIsN, dNotN, cPar, cPar3, cAsg, gN, gT, gsCons, gsNil, bdOf, cSl, oNone, oSome, dSl, iSeq, iRg1, iRg2, cExpr, dRev, List.map_cons, List.map_nil, List.length_cons, List.length_nil, List.cons_append, List.nil_append, List.append_nil, List.replicate, List.getElem?_cons_zero, List.getElem?_cons_succ, List.set_cons_zero, List.set_cons_succ, Option.bind_some, Option.map_some, Option.bind_none, Option.map_none, Nat.reduceAdd, Nat.reduceSub, Int.reduceAdd, Int.reduceNeg, decide_true, decide_false, Bool.not_true, Bool.not_false, if_true, if_false, Bool.false_eq_true, if_pos, reduceIte, reduceCtorEq, Option.some.injEq, Prod.mk.injEq, and_self, and_true, true_and, szOk, es]) (by simp only [cFz, at40, at41, at42, at43, at20, at21, at30, at31, at32, List.set, dMod_ev, Int.reduceMod, Int.reduceLT, Int.reduceSub, Int.reduceMul, Int.reduceToNat, Nat.reduceLT, Int.zero_add, Int.reduceLE, fAll_b, runF, cSeq, cIf, cSet, cRet, cRetN, cSkip, cCont, cBrk, cVar, cD, cBin, cUn, cBi, aNil, aCons, cTup, cLst, bT, bAnd, bOr, bNot, cAnd, cOr, cNot, cIte, cChain, cIsi, dTy, kb1, kb2, kb3, kb4, kb5, kb6, kb7, fAbs_ev, fMax_ev, fMin_ev, wipeS, Function.comp_apply, Function.comp_def, dIx, dGetAny, cPotGet, cPotSet, getP, setP, cCall, fInt, fLen, fTuple, fList, cLenV, dLt, dLe, dGt, dGe, dB2, dAdd, dSub_ev, dNeg, Nat.reduceLeDiff, cs0, cs1, cs2, cs3, cs4, cs5, cs6, cs7, cs8, cs9, cs10, cs11, cs12, Int.ofNat_eq_natCast, dEq_int, dNe_int, dEq_pair, dNe_pair, dIsN, dNotN, cPar, cPar3, cAsg, gN, gT, gsCons, gsNil, bdOf, cSl, oNone, oSome, dSl, iSeq, iRg1, iRg2, cExpr, dRev, List.map_cons, List.map_nil, List.length_cons, List.length_nil, List.cons_append, List.nil_append, List.append_nil, List.replicate, List.getElem?_cons_zero, List.getElem?_cons_succ, List.set_cons_zero, List.set_cons_succ, Option.bind_some, Option.map_some, Option.bind_none, Option.map_none, Nat.reduceAdd, Nat.reduceSub, Int.reduceAdd, Int.reduceNeg, decide_true, decide_false, Bool.not_true, Bool.not_false, if_true, if_false, Bool.false_eq_true, if_pos, reduceIte, reduceCtorEq, Option.some.injEq, Prod.mk.injEq, and_self, and_true, true_and, szOk, es]) (by simp only [cFz, at40, at41, at42, at43, at20, at21, at30, at31, at32, List.set, dMod_ev, Int.reduceMod, Int.reduceLT, Int.reduceSub, Int.reduceMul, Int.reduceToNat, Nat.reduceLT, Int.zero_add, Int.reduceLE, fAll_b, runF, cSeq, cIf, cSet, cRet, cRetN, cSkip, cCont, cBrk, cVar, cD, cBin, cUn, cBi, aNil, aCons, cTup, cLst, bT, bAnd, bOr, bNot, cAnd, cOr, cNot, cIte, cChain, cIsi, dTy, kb1, kb2, kb3, kb4, kb5, kb6, kb7, fAbs_ev, fMax_ev, fMin_ev, wipeS, Function.comp_apply, Function.comp_def, dIx, dGetAny, cPotGet, cPotSet, getP, setP, cCall, fInt, fLen, fTuple, fList, cLenV, dLt, dLe, dGt, dGe, dB2, dAdd, dSub_ev, dNeg, Nat.reduceLeDiff, cs0, cs1, cs2, cs3, cs4, cs5, cs6, cs7, cs8, cs9, cs10, cs11, cs12, Int.ofNat_eq_natCast, dEq_int, dNe_int, dEq_pair, dNe_pair, dIsN, dNotN, cPar, cPar3, cAsg, gN, gT, gsCons, gsNil, bdOf, cSl, oNone, oSome, dSl, iSeq, iRg1, iRg2, cExpr, dRev, List.map_cons, List.map_nil, List.length_cons, List.length_nil, List.cons_append, List.nil_append, List.append_nil, List.replicate, List.getElem?_cons_zero, List.getElem?_cons_succ, List.set_cons_zero, List.set_cons_succ, Option.bind_some, Option.map_some, Option.bind_none, Option.map_none, Nat.reduceAdd, Nat.reduceSub, Int.reduceAdd, Int.reduceNeg, decide_true, decide_false, Bool.not_true, Bool.not_false, if_true, if_false, Bool.false_eq_true, if_pos, reduceIte, reduceCtorEq, Option.some.injEq, Prod.mk.injEq, and_self, and_true, true_and, szOk, es])
  refine ⟨mn a (a + (b + (c + (d + 0))) - a), mn b (a + (b + (c + (d + 0))) - b), mn c (a + (b + (c + (d + 0))) - c), mn d (a + (b + (c + (d + 0))) - d), ?_, ?_, ?_, ?_, by simp only [cFz, at40, at41, at42, at43, at20, at21, at30, at31, at32, List.set, dMod_ev, Int.reduceMod, Int.reduceLT, Int.reduceSub, Int.reduceMul, Int.reduceToNat, Nat.reduceLT, Int.zero_add, Int.reduceLE, fAll_b, runF, cSeq, cIf, cSet, cRet, cRetN, cSkip, cCont, cBrk, cVar, cD, cBin, cUn, cBi, aNil, aCons, cTup, cLst, bT, bAnd, bOr, bNot, cAnd, cOr, cNot, cIte, cChain, cIsi, dTy, kb1, kb2, kb3, kb4, kb5, kb6, kb7, fAbs_ev, fMax_ev, fMin_ev, wipeS, Function.comp_apply, Function.comp_def, dIx, dGetAny, cPotGet, cPotSet, getP, setP, cCall, fInt, fLen, fTuple, fList, cLenV, dLt, dLe, dGt, dGe, dB2, dAdd, dSub_ev, dNeg, Nat.reduceLeDiff, cs0, cs1, cs2, cs3, cs4, cs5, cs6, cs7, cs8, cs9, cs10, cs11, cs12, Int.ofNat_eq_natCast, dEq_int, dNe_int, dEq_pair, dNe_pair, dIsN, dNotN, cPar, cPar3, cAsg, gN, gT, gsCons, gsNil, bdOf, cSl, oNone, oSome, dSl, iSeq, iRg1, iRg2, cExpr, dRev, List.map_cons, List.map_nil, List.length_cons, List.length_nil, List.cons_append, List.nil_append, List.append_nil, List.replicate, List.getElem?_cons_zero, List.getElem?_cons_succ, List.set_cons_zero, List.set_cons_succ, Option.bind_some, Option.map_some, Option.bind_none, Option.map_none, Nat.reduceAdd, Nat.reduceSub, Int.reduceAdd, Int.reduceNeg, decide_true, decide_false, Bool.not_true, Bool.not_false, if_true, if_false, Bool.false_eq_true, if_pos, reduceIte, reduceCtorEq, Option.some.injEq, Prod.mk.injEq, and_self, and_true, true_and, szOk, s__law_right_2, e]⟩
  all_goals (unfold mn; split <;> omega)
theorem e3 (ha : 1 ≤ a ∧ a ≤ 3000) (hb : 1 ≤ b ∧ b ≤ 3000) (hc : 1 ≤ c ∧ c ≤ 3000) (hd : 1 ≤ d ∧ d ≤ 3000) : s__law_right_3 (⟨[.val .pot, x1, .val (.int m), .val (R a b c d), x4, x5, x6, x7, x8, x9, x10, x11, x12, x13, x14, x15, x16, .no, .no, .no, .no], some u⟩ : S) = some (.ct, (⟨[.val .pot, x1, .val (.int m), .val (R a b c d), x4, x5, x6, x7, x8, x9, x10, x11, x12, x13, x14, x15, x16, .no, .no, .no, .no], some u⟩ : S)) ∨ (Vr 3000 a b c d ∧ s__law_right_3 (⟨[.val .pot, x1, .val (.int m), .val (R a b c d), x4, x5, x6, x7, x8, x9, x10, x11, x12, x13, x14, x15, x16, .no, .no, .no, .no], some u⟩ : S) = some (.nx, (⟨[.val .pot, x1, .val (.int m), .val (R a b c d), x4, x5, x6, x7, x8, x9, x10, x11, x12, x13, x14, x15, x16, .no, .no, .no, .no], some u⟩ : S))) := by
  have e2 : fMax [R a b c d] = some (.int (maxL [a, b, c, d]), false) := fMax_t (ns := [a, b, c, d]) (by simp)
  have e3 : fSum [R a b c d] = some (.int (a + (b + (c + (d + 0)))), false) := fSum_t (ns := [a, b, c, d])
  have hm : a ≤ maxL [a, b, c, d] ∧ b ≤ maxL [a, b, c, d] ∧ c ≤ maxL [a, b, c, d] ∧ d ≤ maxL [a, b, c, d] ∧ maxL [a, b, c, d] ≤ 3000 := by
    simp only [maxL, List.foldl_cons, List.foldl_nil]
    omega
  have e4 := dMul_i (a := 2) (b := maxL [a, b, c, d]) (by decide) (by omega)
  by_cases hg : a + (b + (c + (d + 0))) < 2 * maxL [a, b, c, d]
  · left
    simp only [cFz, at40, at41, at42, at43, at20, at21, at30, at31, at32, List.set, dMod_ev, Int.reduceMod, Int.reduceLT, Int.reduceSub, Int.reduceMul, Int.reduceToNat, Nat.reduceLT, Int.zero_add, Int.reduceLE, fAll_b, runF, cSeq, cIf, cSet, cRet, cRetN, cSkip, cCont, cBrk, cVar, cD, cBin, cUn, cBi, aNil, aCons, cTup, cLst, bT, bAnd, bOr, bNot, cAnd, cOr, cNot, cIte, cChain, cIsi, dTy, kb1, kb2, kb3, kb4, kb5, kb6, kb7, fAbs_ev, fMax_ev, fMin_ev, wipeS, Function.comp_apply, Function.comp_def, dIx, dGetAny, cPotGet, cPotSet, getP, setP, cCall, fInt, fLen, fTuple, fList, cLenV, dLt, dLe, dGt, dGe, dB2, dAdd, dSub_ev, dNeg, Nat.reduceLeDiff, cs0, cs1, cs2, cs3, cs4, cs5, cs6, cs7, cs8, cs9, cs10, cs11, cs12, Int.ofNat_eq_natCast, dEq_int, dNe_int, dEq_pair, dNe_pair, dIsN, dNotN, cPar, cPar3, cAsg, gN, gT, gsCons, gsNil, bdOf, cSl, oNone, oSome, dSl, iSeq, iRg1, iRg2, cExpr, dRev, List.map_cons, List.map_nil, List.length_cons, List.length_nil, List.cons_append, List.nil_append, List.append_nil, List.replicate, List.getElem?_cons_zero, List.getElem?_cons_succ, List.set_cons_zero, List.set_cons_succ, Option.bind_some, Option.map_some, Option.bind_none, Option.map_none, Nat.reduceAdd, Nat.reduceSub, Int.reduceAdd, Int.reduceNeg, decide_true, decide_false, Bool.not_true, Bool.not_false, if_true, if_false, Bool.false_eq_true, if_pos, reduceIte, reduceCtorEq, Option.some.injEq, Prod.mk.injEq, and_self, and_true, true_and, szOk, s__law_right_3, e2, e3, e4, hg]
  · refine .inr ⟨⟨ha, hb, hc, hd, by omega, by omega, by omega, by omega⟩, ?_⟩
    simp only [cFz, at40, at41, at42, at43, at20, at21, at30, at31, at32, List.set, dMod_ev, Int.reduceMod, Int.reduceLT, Int.reduceSub, Int.reduceMul, Int.reduceToNat, Nat.reduceLT, Int.zero_add, Int.reduceLE, fAll_b, runF, cSeq, cIf, cSet, cRet, cRetN, cSkip, cCont, cBrk, cVar, cD, cBin, cUn, cBi, aNil, aCons, cTup, cLst, bT, bAnd, bOr, bNot, cAnd, cOr, cNot, cIte, cChain, cIsi, dTy, kb1, kb2, kb3, kb4, kb5, kb6, kb7, fAbs_ev, fMax_ev, fMin_ev, wipeS, Function.comp_apply, Function.comp_def, dIx, dGetAny, cPotGet, cPotSet, getP, setP, cCall, fInt, fLen, fTuple, fList, cLenV, dLt, dLe, dGt, dGe, dB2, dAdd, dSub_ev, dNeg, Nat.reduceLeDiff, cs0, cs1, cs2, cs3, cs4, cs5, cs6, cs7, cs8, cs9, cs10, cs11, cs12, Int.ofNat_eq_natCast, dEq_int, dNe_int, dEq_pair, dNe_pair, dIsN, dNotN, cPar, cPar3, cAsg, gN, gT, gsCons, gsNil, bdOf, cSl, oNone, oSome, dSl, iSeq, iRg1, iRg2, cExpr, dRev, List.map_cons, List.map_nil, List.length_cons, List.length_nil, List.cons_append, List.nil_append, List.append_nil, List.replicate, List.getElem?_cons_zero, List.getElem?_cons_succ, List.set_cons_zero, List.set_cons_succ, Option.bind_some, Option.map_some, Option.bind_none, Option.map_none, Nat.reduceAdd, Nat.reduceSub, Int.reduceAdd, Int.reduceNeg, decide_true, decide_false, Bool.not_true, Bool.not_false, if_true, if_false, Bool.false_eq_true, if_pos, reduceIte, reduceCtorEq, Option.some.injEq, Prod.mk.injEq, and_self, and_true, true_and, szOk, s__law_right_3, e2, e3, e4, hg]
theorem e4 (h : Pk n u) (hn : n ≤ 1000000) : ∃ (k t : Int) (u' : Int × Int × Int), (0 ≤ k ∧ k < 4) ∧ (t = 2 ∨ t = 3) ∧ Pk (n + 2) u' ∧ s__law_right_4 (⟨[.val .pot, x1, .val (.int m), .val (R a b c d), x4, x5, x6, x7, x8, x9, x10, x11, x12, x13, x14, x15, x16, .no, .no, .no, .no], some u⟩ : S) = some (.nx, (⟨[.val .pot, x1, .val (.int m), .val (R a b c d), .val (.int k), .val (.int t), x6, x7, x8, x9, x10, x11, x12, x13, x14, x15, x16, .no, .no, .no, .no], some u'⟩ : S)) := by
  obtain ⟨k, u1, e1, k0, k1, h1⟩ := takeK 4 u n h (by omega) (by decide) (by decide)
  obtain ⟨t, u2, e2, t0, t1, h2⟩ := takeK 2 u1 (n + 1) h1 (by omega) (by decide) (by decide)
  refine ⟨k, 2 + t, u2, ⟨k0, k1⟩, by omega, h2, ?_⟩
  simp only [cFz, at40, at41, at42, at43, at20, at21, at30, at31, at32, List.set, dMod_ev, Int.reduceMod, Int.reduceLT, Int.reduceSub, Int.reduceMul, Int.reduceToNat, Nat.reduceLT, Int.zero_add, Int.reduceLE, fAll_b, runF, cSeq, cIf, cSet, cRet, cRetN, cSkip, cCont, cBrk, cVar, cD, cBin, cUn, cBi, aNil, aCons, cTup, cLst, bT, bAnd, bOr, bNot, cAnd, cOr, cNot, cIte, cChain, cIsi, dTy, kb1, kb2, kb3, kb4, kb5, kb6, kb7, fAbs_ev, fMax_ev, fMin_ev, wipeS, Function.comp_apply, Function.comp_def, dIx, dGetAny, cPotGet, cPotSet, getP, setP, cCall, fInt, fLen, fTuple, fList, cLenV, dLt, dLe, dGt, dGe, dB2, dAdd, dSub_ev, dNeg, Nat.reduceLeDiff, cs0, cs1, cs2, cs3, cs4, cs5, cs6, cs7, cs8, cs9, cs10, cs11, cs12, Int.ofNat_eq_natCast, dEq_int, dNe_int, dEq_pair, dNe_pair, dIsN, dNotN, cPar, cPar3, cAsg, gN, gT, gsCons, gsNil, bdOf, cSl, oNone, oSome, dSl, iSeq, iRg1, iRg2, cExpr, dRev, List.map_cons, List.map_nil, List.length_cons, List.length_nil, List.cons_append, List.nil_append, List.append_nil, List.replicate, List.getElem?_cons_zero, List.getElem?_cons_succ, List.set_cons_zero, List.set_cons_succ, Option.bind_some, Option.map_some, Option.bind_none, Option.map_none, Nat.reduceAdd, Nat.reduceSub, Int.reduceAdd, Int.reduceNeg, decide_true, decide_false, Bool.not_true, Bool.not_false, if_true, if_false, Bool.false_eq_true, if_pos, reduceIte, reduceCtorEq, Option.some.injEq, Prod.mk.injEq, and_self, and_true, true_and, szOk, s__law_right_4, e1, e2]
theorem e20 (h : Pk n u) (hn : n ≤ 1000000) : ∃ (ns : List Int) (u' : Int × Int × Int), Vd ns ∧ ns.length ≤ 7 ∧ Pk (n + 1001) u' ∧ s__law_right_20 (⟨[.val .pot, x1, x2, .val (R a b c d), .val (.int k), .val (.int t), .val (spsD a b c d), .val (evsD a b c d), .val (kdsD a b c d), .val (R a' b' c' d'), .val (R d c b a), .val (R (t * a) (t * b) (t * c) (t * d)), x12, x13, x14, x15, x16, .no, .no, .no, .no], some u⟩ : S) = some (.nx, (⟨[.val .pot, x1, x2, .val (R a b c d), .val (.int k), .val (.int t), .val (spsD a b c d), .val (evsD a b c d), .val (kdsD a b c d), .val (R a' b' c' d'), .val (R d c b a), .val (R (t * a) (t * b) (t * c) (t * d)), .val (.tup (ns.map .int)), x13, x14, x15, x16, .no, .no, .no, .no], some u'⟩ : S)) := by
  obtain ⟨ns, u', e, l0, l1, hb, h'⟩ := rods_ev takeK (most := 7) (long := 60) h (by omega) (by decide) (by decide) (by decide) (by decide)
  rw [← rods_is] at e
  exact ⟨ns, u', ⟨l0, by omega, hb⟩, by omega, h', by simp only [cFz, at40, at41, at42, at43, at20, at21, at30, at31, at32, List.set, dMod_ev, Int.reduceMod, Int.reduceLT, Int.reduceSub, Int.reduceMul, Int.reduceToNat, Nat.reduceLT, Int.zero_add, Int.reduceLE, fAll_b, runF, cSeq, cIf, cSet, cRet, cRetN, cSkip, cCont, cBrk, cVar, cD, cBin, cUn, cBi, aNil, aCons, cTup, cLst, bT, bAnd, bOr, bNot, cAnd, cOr, cNot, cIte, cChain, cIsi, dTy, kb1, kb2, kb3, kb4, kb5, kb6, kb7, fAbs_ev, fMax_ev, fMin_ev, wipeS, Function.comp_apply, Function.comp_def, dIx, dGetAny, cPotGet, cPotSet, getP, setP, cCall, fInt, fLen, fTuple, fList, cLenV, dLt, dLe, dGt, dGe, dB2, dAdd, dSub_ev, dNeg, Nat.reduceLeDiff, cs0, cs1, cs2, cs3, cs4, cs5, cs6, cs7, cs8, cs9, cs10, cs11, cs12, Int.ofNat_eq_natCast, dEq_int, dNe_int, dEq_pair, dNe_pair, dIsN, dNotN, cPar, cPar3, cAsg, gN, gT, gsCons, gsNil, bdOf, cSl, oNone, oSome, dSl, iSeq, iRg1, iRg2, cExpr, dRev, List.map_cons, List.map_nil, List.length_cons, List.length_nil, List.cons_append, List.nil_append, List.append_nil, List.replicate, List.getElem?_cons_zero, List.getElem?_cons_succ, List.set_cons_zero, List.set_cons_succ, Option.bind_some, Option.map_some, Option.bind_none, Option.map_none, Nat.reduceAdd, Nat.reduceSub, Int.reduceAdd, Int.reduceNeg, decide_true, decide_false, Bool.not_true, Bool.not_false, if_true, if_false, Bool.false_eq_true, if_pos, reduceIte, reduceCtorEq, Option.some.injEq, Prod.mk.injEq, and_self, and_true, true_and, szOk, s__law_right_20, e]⟩
theorem e21 (h : Pk n u) (hn : n ≤ 1000000) (v : Vd ns) : ∃ u' : Int × Int × Int, Pk (n + 12) u' ∧ s__law_right_21 (⟨[.val .pot, x1, x2, .val (R a b c d), .val (.int k), .val (.int t), .val (spsD a b c d), .val (evsD a b c d), .val (kdsD a b c d), .val (R a' b' c' d'), .val (R d c b a), .val (R (t * a) (t * b) (t * c) (t * d)), .val (.tup (ns.map .int)), x13, x14, x15, x16, .no, .no, .no, .no], some u⟩ : S) = some (.nx, (⟨[.val .pot, x1, x2, .val (R a b c d), .val (.int k), .val (.int t), .val (spsD a b c d), .val (evsD a b c d), .val (kdsD a b c d), .val (R a' b' c' d'), .val (R d c b a), .val (R (t * a) (t * b) (t * c) (t * d)), .val (.tup (ns.map .int)), x13, x14, x15, x16, .no, .no, .no, .no], some u'⟩ : S)) := by
  have hl := v.l1
  obtain ⟨rem, fnd, u', e, l, hp, h'⟩ := some_ev takeK (ds := ns.map .int) h (by omega) (by rw [List.length_map]; omega) (many := (ns.map D.int).length) (Nat.le_refl _) (.inl rfl)
  rw [← some_is] at e
  have hr : rem = [] := by
    have := hp.length_eq
    rw [List.length_append, l] at this
    exact List.eq_nil_of_length_eq_zero (by omega)
  subst hr
  obtain ⟨ms, rfl, hq⟩ := perm_ints (by simpa using hp)
  have hv : Vd ms := ⟨by rw [hq.length_eq]; exact v.l0, by rw [hq.length_eq]; exact v.l1, fun q hq' => v.b q (hq.mem_iff.1 hq')⟩
  have f1 := free_ev (p := some u') v
  have f2 := free_ev (p := some u') hv
  have hs := perm_sum hq
  have hm := perm_max hq hv.l0
  have hd : dNe (.tup [.int (lowN ms), .int ms.sum]) (.tup [.int (lowN ns), .int ns.sum]) = some (.bl false, false) := by
    unfold lowN
    rw [hs, hm]
    exact dNe_rfl (by simp only [sh_tup64, shL_cons, shL_nil, sh_int, Bool.and_self]) rfl
  rw [List.length_map] at h'
  refine ⟨u', h'.mono (by omega), ?_⟩
  simp only [cFz, at40, at41, at42, at43, at20, at21, at30, at31, at32, List.set, dMod_ev, Int.reduceMod, Int.reduceLT, Int.reduceSub, Int.reduceMul, Int.reduceToNat, Nat.reduceLT, Int.zero_add, Int.reduceLE, fAll_b, runF, cSeq, cIf, cSet, cRet, cRetN, cSkip, cCont, cBrk, cVar, cD, cBin, cUn, cBi, aNil, aCons, cTup, cLst, bT, bAnd, bOr, bNot, cAnd, cOr, cNot, cIte, cChain, cIsi, dTy, kb1, kb2, kb3, kb4, kb5, kb6, kb7, fAbs_ev, fMax_ev, fMin_ev, wipeS, Function.comp_apply, Function.comp_def, dIx, dGetAny, cPotGet, cPotSet, getP, setP, cCall, fInt, fLen, fTuple, fList, cLenV, dLt, dLe, dGt, dGe, dB2, dAdd, dSub_ev, dNeg, Nat.reduceLeDiff, cs0, cs1, cs2, cs3, cs4, cs5, cs6, cs7, cs8, cs9, cs10, cs11, cs12, Int.ofNat_eq_natCast, dEq_int, dNe_int, dEq_pair, dNe_pair, dIsN, dNotN, cPar, cPar3, cAsg, gN, gT, gsCons, gsNil, bdOf, cSl, oNone, oSome, dSl, iSeq, iRg1, iRg2, cExpr, dRev, List.map_cons, List.map_nil, List.length_cons, List.length_nil, List.cons_append, List.nil_append, List.append_nil, List.replicate, List.getElem?_cons_zero, List.getElem?_cons_succ, List.set_cons_zero, List.set_cons_succ, Option.bind_some, Option.map_some, Option.bind_none, Option.map_none, Nat.reduceAdd, Nat.reduceSub, Int.reduceAdd, Int.reduceNeg, decide_true, decide_false, Bool.not_true, Bool.not_false, if_true, if_false, Bool.false_eq_true, if_pos, reduceIte, reduceCtorEq, Option.some.injEq, Prod.mk.injEq, and_self, and_true, true_and, szOk, s__law_right_21, e, f1, f2, hd]
theorem e22 (h : Pk n u) (hn : n ≤ 1000000) (hl : ns.length ≤ 7) : ∃ (z : Int) (u' : Int × Int × Int), (1 ≤ z ∧ z ≤ 60) ∧ Pk (n + 1) u' ∧ s__law_right_22 (⟨[.val .pot, x1, x2, .val (R a b c d), .val (.int k), .val (.int t), .val (spsD a b c d), .val (evsD a b c d), .val (kdsD a b c d), .val (R a' b' c' d'), .val (R d c b a), .val (R (t * a) (t * b) (t * c) (t * d)), .val (.tup (ns.map .int)), x13, x14, x15, x16, .no, .no, .no, .no], some u⟩ : S) = some (.nx, (⟨[.val .pot, x1, x2, .val (R a b c d), .val (.int k), .val (.int t), .val (spsD a b c d), .val (evsD a b c d), .val (kdsD a b c d), .val (R a' b' c' d'), .val (R d c b a), .val (R (t * a) (t * b) (t * c) (t * d)), .val (.tup (ns.map .int)), .val (.tup ((ns ++ [z]).map .int)), x14, x15, x16, .no, .no, .no, .no], some u'⟩ : S)) := by
  obtain ⟨r, u', e, r0, r1, h'⟩ := takeK 60 u n h (by omega) (by decide) (by decide)
  have hz : decide ((ns.map D.int).length + 1 ≤ 16777216) = true := decide_eq_true (by rw [List.length_map]; omega)
  refine ⟨1 + r, u', by omega, h', ?_⟩
  rw [List.map_append]
  have hz' : (ns.map D.int).length ≤ 16777215 := by rw [List.length_map]; omega
  simp only [cFz, at40, at41, at42, at43, at20, at21, at30, at31, at32, List.set, dMod_ev, Int.reduceMod, Int.reduceLT, Int.reduceSub, Int.reduceMul, Int.reduceToNat, Nat.reduceLT, Int.zero_add, Int.reduceLE, fAll_b, runF, cSeq, cIf, cSet, cRet, cRetN, cSkip, cCont, cBrk, cVar, cD, cBin, cUn, cBi, aNil, aCons, cTup, cLst, bT, bAnd, bOr, bNot, cAnd, cOr, cNot, cIte, cChain, cIsi, dTy, kb1, kb2, kb3, kb4, kb5, kb6, kb7, fAbs_ev, fMax_ev, fMin_ev, wipeS, Function.comp_apply, Function.comp_def, dIx, dGetAny, cPotGet, cPotSet, getP, setP, cCall, fInt, fLen, fTuple, fList, cLenV, dLt, dLe, dGt, dGe, dB2, dAdd, dSub_ev, dNeg, Nat.reduceLeDiff, cs0, cs1, cs2, cs3, cs4, cs5, cs6, cs7, cs8, cs9, cs10, cs11, cs12, Int.ofNat_eq_natCast, dEq_int, dNe_int, dEq_pair, dNe_pair, dIsN, dNotN, cPar, cPar3, cAsg, gN, gT, gsCons, gsNil, bdOf, cSl, oNone, oSome, dSl, iSeq, iRg1, iRg2, cExpr, dRev, List.map_cons, List.map_nil, List.length_cons, List.length_nil, List.cons_append, List.nil_append, List.append_nil, List.replicate, List.getElem?_cons_zero, List.getElem?_cons_succ, List.set_cons_zero, List.set_cons_succ, Option.bind_some, Option.map_some, Option.bind_none, Option.map_none, Nat.reduceAdd, Nat.reduceSub, Int.reduceAdd, Int.reduceNeg, decide_true, decide_false, Bool.not_true, Bool.not_false, if_true, if_false, Bool.false_eq_true, if_pos, reduceIte, reduceCtorEq, Option.some.injEq, Prod.mk.injEq, and_self, and_true, true_and, szOk, s__law_right_22, e, hz']
theorem Vd.more (v : Vd ns) (hl : ns.length ≤ 7) (hz : 1 ≤ z ∧ z ≤ 60) : Vd (ns ++ [z]) := by
  refine ⟨by rw [List.length_append]; simp, by rw [List.length_append]; simp; omega, fun q hq => ?_⟩
  rcases List.mem_append.1 hq with hq | hq
  · exact v.b q hq
  · rw [List.mem_singleton] at hq; subst hq; exact hz
theorem cut_one {α : Type} {a : α} {r : List α} : cut (a :: r) none (some 1) = [a] := by
  have : cut (a :: r) none (some ((1 : Nat) : Int)) = _ := cut_to (by simp)
  simpa using this
theorem at_zero {α : Type} {a : α} {r : List α} : L2.atI (a :: r) 0 = some a := atI_nat (j := 0) rfl
theorem sum_app : (ns ++ [z]).sum = ns.sum + z := by
  induction ns with
  | nil => simp
  | cons q r ih => rw [List.cons_append, List.sum_cons, List.sum_cons, ih]; omega
theorem bOr_ff {ta tb : ST} {s : S} (h1 : ta s = some (false, s)) (h2 : tb s = some (false, s)) : bOr ta tb s = some (false, s) := by
  simp only [bOr, h1, h2, Option.bind_some, Bool.false_eq_true, if_false]
theorem le_skip {X Y : SE} {s : S} {i j : Int} {b b' : Bool} (h : X s = some ((.int i, b), s)) (h' : Y s = some ((.int j, b'), s)) (hd : ¬ i ≤ j) : bT (cBin dLe X Y) s = some (false, s) := by
  simp only [bT, cBin, h, h', dLe, dB2, hd, decide_false, Option.bind_some, Option.map_some]
theorem ne_test {X Y : SE} {s : S} {x y : D} {b b' : Bool} (h : X s = some ((x, b), s)) (h' : Y s = some ((y, b'), s)) (hd : dNe x y = some (.bl false, false)) : bT (cBin dNe X Y) s = some (false, s) := by
  simp only [bT, cBin, h, h', hd, Option.bind_some, Option.map_some]
theorem free1 {i : Nat} {s : S} {lo up : Int} {ds : List D} (hi : s.r[i]? = some (.val (.tup ds))) (e : f_free_reach [.tup ds] s.p = some (.tup [.int lo, .int up], s.p)) : cBin dGetAny (cCall f_free_reach (aCons (cVar i) aNil)) (cD (.int 1)) s = some ((.int up, false), s) := by
  obtain ⟨r, p⟩ := s
  simp only [cBin, cCall, aCons, aNil, cVar, cD, hi, Option.bind_some, Option.map_some, e, dGetAny, dIx, at21]
theorem first_ev {q : Int} {r : List Int} {s : S} {i : Nat} (hi : s.r[i]? = some (.val (.tup ((q :: r).map .int)))) : cBin dGetAny (cVar i) (cD (.int 0)) s = some ((.int q, false), s) := by
  simp only [cBin, cVar, cD, hi, Option.bind_some, Option.map_some, dGetAny, dIx, List.map_cons, at_zero]
theorem one_ev {q : Int} {r : List Int} {s : S} {i : Nat} (hi : s.r[i]? = some (.val (.tup ((q :: r).map .int)))) (e : f_free_reach [.tup [.int q]] s.p = some (.tup [.int q, .int q], s.p)) : cCall f_free_reach (aCons (cSl (cVar i) oNone (oSome (cD (.int 1)))) aNil) s = some ((.tup [.int q, .int q], false), s) := by
  obtain ⟨rr, p⟩ := s
  simp only [cCall, aCons, aNil, cSl, cVar, cD, oNone, oSome, hi, Option.bind_some, Option.map_some, dSl, List.map_cons, cut_one, e]
theorem e23 (v : Vd ns) (hl : ns.length ≤ 7) (hz : 1 ≤ z ∧ z ≤ 60) : s__law_right_23 (⟨[.val .pot, x1, x2, .val (R a b c d), .val (.int k), .val (.int t), .val (spsD a b c d), .val (evsD a b c d), .val (kdsD a b c d), .val (R a' b' c' d'), .val (R d c b a), .val (R (t * a) (t * b) (t * c) (t * d)), .val (.tup (ns.map .int)), .val (.tup ((ns ++ [z]).map .int)), x14, x15, x16, .no, .no, .no, .no], some u⟩ : S) = some (.nx, (⟨[.val .pot, x1, x2, .val (R a b c d), .val (.int k), .val (.int t), .val (spsD a b c d), .val (evsD a b c d), .val (kdsD a b c d), .val (R a' b' c' d'), .val (R d c b a), .val (R (t * a) (t * b) (t * c) (t * d)), .val (.tup (ns.map .int)), .val (.tup ((ns ++ [z]).map .int)), x14, x15, x16, .no, .no, .no, .no], some u⟩ : S)) := by
  have f1 := free_ev (p := some u) v
  have f2 := free_ev (p := some u) (v.more hl hz)
  have hg : ¬ (ns ++ [z]).sum ≤ ns.sum := by rw [sum_app]; omega
  have ho : ∃ q r, ns = q :: r := by
    cases ns with
    | nil => exact absurd v.l0 (by simp)
    | cons q r => exact ⟨q, r, rfl⟩
  obtain ⟨q, r, hns⟩ := ho
  have hq : 1 ≤ q ∧ q ≤ 60 := v.b q (by rw [hns]; exact .head _)
  have f3 := free_ev (p := some u) (ns := [q]) ⟨by simp, by simp, fun w hw => by rw [List.mem_singleton] at hw; subst hw; exact hq⟩
  have hlow : lowN [q] = q := by
    have h1 : maxL [q] = q := rfl
    have h2 : [q].sum = q := by simp
    unfold lowN
    rw [h1, h2]
    unfold mx
    rw [if_pos (by omega)]; omega
  have hsum : [q].sum = q := by simp
  rw [hlow, hsum] at f3
  simp only [List.map_cons, List.map_nil] at f3
  have hd : dNe (.tup [.int q, .int q]) (.tup [.int q, .int q]) = some (.bl false, false) := dNe_rfl (by simp only [sh_tup64, shL_cons, shL_nil, sh_int, Bool.and_self]) rfl
  generalize hs : (⟨[.val .pot, x1, x2, .val (R a b c d), .val (.int k), .val (.int t), .val (spsD a b c d), .val (evsD a b c d), .val (kdsD a b c d), .val (R a' b' c' d'), .val (R d c b a), .val (R (t * a) (t * b) (t * c) (t * d)), .val (.tup (ns.map .int)), .val (.tup ((ns ++ [z]).map .int)), x14, x15, x16, .no, .no, .no, .no], some u⟩ : S) = s
  have h12 : s.r[12]? = some (.val (.tup ((q :: r).map .int))) := by subst hs; rw [hns]; rfl
  have h12' : s.r[12]? = some (.val (.tup (ns.map .int))) := by subst hs; rfl
  have h13 : s.r[13]? = some (.val (.tup ((ns ++ [z]).map .int))) := by subst hs; rfl
  have hp : s.p = some u := by subst hs; rfl
  rw [← hp] at f1 f2 f3
  have g1 := first_ev h12
  have t2 : cTup (aCons (cBin dGetAny (cVar 12) (cD (.int 0))) (aCons (cBin dGetAny (cVar 12) (cD (.int 0))) aNil)) s = some ((.tup [.int q, .int q], false), s) := by
    simp only [cTup, aCons, aNil, g1, Option.bind_some, Option.map_some, szOk, List.length_cons, List.length_nil]
    rfl
  exact if_skip (bOr_ff (le_skip (free1 h13 f2) (free1 h12' f1) hg) (ne_test (one_ev h12 f3) t2 hd))
theorem e24 (h : Pk n u) (hn : n ≤ 1000000) : ∃ (x y : Int) (u' : Int × Int × Int), Vp x y ∧ Vp y (-x) ∧ Pk (n + 2) u' ∧ s__law_right_24 (⟨[.val .pot, x1, x2, .val (R a b c d), .val (.int k), .val (.int t), .val (spsD a b c d), .val (evsD a b c d), .val (kdsD a b c d), .val (R a' b' c' d'), .val (R d c b a), .val (R (t * a) (t * b) (t * c) (t * d)), .val (.tup (ns.map .int)), .val (.tup ((ns ++ [z]).map .int)), x14, x15, x16, .no, .no, .no, .no], some u⟩ : S) = some (.nx, (⟨[.val .pot, x1, x2, .val (R a b c d), .val (.int k), .val (.int t), .val (spsD a b c d), .val (evsD a b c d), .val (kdsD a b c d), .val (R a' b' c' d'), .val (R d c b a), .val (R (t * a) (t * b) (t * c) (t * d)), .val (.tup (ns.map .int)), .val (.tup ((ns ++ [z]).map .int)), .val (.tup [.int x, .int y]), x15, x16, .no, .no, .no, .no], some u'⟩ : S)) := by
  obtain ⟨r1, u1, e1, a0, a1, h1⟩ := takeK 120 u n h (by omega) (by decide) (by decide)
  obtain ⟨r2, u2, e2, b0, b1, h2⟩ := takeK 120 u1 (n + 1) h1 (by omega) (by decide) (by decide)
  refine ⟨r1 - 60, r2 - 60, u2, ⟨by omega, by omega⟩, ⟨by omega, by omega⟩, h2, ?_⟩
  simp only [cFz, at40, at41, at42, at43, at20, at21, at30, at31, at32, List.set, dMod_ev, Int.reduceMod, Int.reduceLT, Int.reduceSub, Int.reduceMul, Int.reduceToNat, Nat.reduceLT, Int.zero_add, Int.reduceLE, fAll_b, runF, cSeq, cIf, cSet, cRet, cRetN, cSkip, cCont, cBrk, cVar, cD, cBin, cUn, cBi, aNil, aCons, cTup, cLst, bT, bAnd, bOr, bNot, cAnd, cOr, cNot, cIte, cChain, cIsi, dTy, kb1, kb2, kb3, kb4, kb5, kb6, kb7, fAbs_ev, fMax_ev, fMin_ev, wipeS, Function.comp_apply, Function.comp_def, dIx, dGetAny, cPotGet, cPotSet, getP, setP, cCall, fInt, fLen, fTuple, fList, cLenV, dLt, dLe, dGt, dGe, dB2, dAdd, dSub_ev, dNeg, Nat.reduceLeDiff, cs0, cs1, cs2, cs3, cs4, cs5, cs6, cs7, cs8, cs9, cs10, cs11, cs12, Int.ofNat_eq_natCast, dEq_int, dNe_int, dEq_pair, dNe_pair, dIsN, dNotN, cPar, cPar3, cAsg, gN, gT, gsCons, gsNil, bdOf, cSl, oNone, oSome, dSl, iSeq, iRg1, iRg2, cExpr, dRev, List.map_cons, List.map_nil, List.length_cons, List.length_nil, List.cons_append, List.nil_append, List.append_nil, List.replicate, List.getElem?_cons_zero, List.getElem?_cons_succ, List.set_cons_zero, List.set_cons_succ, Option.bind_some, Option.map_some, Option.bind_none, Option.map_none, Nat.reduceAdd, Nat.reduceSub, Int.reduceAdd, Int.reduceNeg, decide_true, decide_false, Bool.not_true, Bool.not_false, if_true, if_false, Bool.false_eq_true, if_pos, reduceIte, reduceCtorEq, Option.some.injEq, Prod.mk.injEq, and_self, and_true, true_and, szOk, s__law_right_24, e1, e2]
def wordsD (ms : List Int) (x y : Int) : D := .lst ((List.range ms.length).map fun (i : Nat) => .str (wN ms x y i))
theorem e25 (v : Vd (ns ++ [z])) (vp : Vp x y) : s__law_right_25 (⟨[.val .pot, x1, x2, .val (R a b c d), .val (.int k), .val (.int t), .val (spsD a b c d), .val (evsD a b c d), .val (kdsD a b c d), .val (R a' b' c' d'), .val (R d c b a), .val (R (t * a) (t * b) (t * c) (t * d)), .val (.tup (ns.map .int)), .val (.tup ((ns ++ [z]).map .int)), .val (.tup [.int x, .int y]), x15, x16, .no, .no, .no, .no], some u⟩ : S) = some (.nx, (⟨[.val .pot, x1, x2, .val (R a b c d), .val (.int k), .val (.int t), .val (spsD a b c d), .val (evsD a b c d), .val (kdsD a b c d), .val (R a' b' c' d'), .val (R d c b a), .val (R (t * a) (t * b) (t * c) (t * d)), .val (.tup (ns.map .int)), .val (.tup ((ns ++ [z]).map .int)), .val (.tup [.int x, .int y]), .val (wordsD (ns ++ [z]) x y), x16, .no, .no, .no, .no], some u⟩ : S)) := by
  have hl := v.l1
  generalize hms : ns ++ [z] = ms at *
  generalize hq : (ms.length : Int) = q
  have hr : rgOk (q + 1) = true := rgOk_of (by omega) (by omega)
  have hn : (q + 1 - 1).toNat = ms.length := by omega
  have hS : ∀ s : S, s = (⟨[.val .pot, x1, x2, .val (R a b c d), .val (.int k), .val (.int t), .val (spsD a b c d), .val (evsD a b c d), .val (kdsD a b c d), .val (R a' b' c' d'), .val (R d c b a), .val (R (t * a) (t * b) (t * c) (t * d)), .val (.tup (ns.map .int)), .val (.tup (ms.map .int)), .val (.tup [.int x, .int y]), x15, x16, .no, .no, .no, .no], some u⟩ : S) → cLC (iRg2 (aCons (cD (.int 1)) (aCons (cBin dAdd (cBi fLen (aCons (cVar 13) aNil)) (cD (.int 1))) aNil))) (gN 20) bYes (cCall f_reached_freely (aCons (cSl (cVar 13) oNone (oSome (cVar 20))) (aCons (cVar 14) aNil))) [20] s = some ((wordsD ms x y, true), s) := fun s hs => by
    have e := lc_map (it := iRg2 (aCons (cD (.int 1)) (aCons (cBin dAdd (cBi fLen (aCons (cVar 13) aNil)) (cD (.int 1))) aNil))) (te := cCall f_reached_freely (aCons (cSl (cVar 13) oNone (oSome (cVar 20))) (aCons (cVar 14) aNil))) (i := 20) (p := some u) (r := s.r) (b0 := .no) (s0 := s) (ds := rngL 1 ms.length) (φ := fun d => match d with | .int i => .str (wN ms x y (i - 1).toNat) | _ => .non)
      (by subst hs; simp only [cFz, at40, at41, at42, at43, at20, at21, at30, at31, at32, List.set, dMod_ev, Int.reduceMod, Int.reduceLT, Int.reduceSub, Int.reduceMul, Int.reduceToNat, Nat.reduceLT, Int.zero_add, Int.reduceLE, fAll_b, runF, cSeq, cIf, cSet, cRet, cRetN, cSkip, cCont, cBrk, cVar, cD, cBin, cUn, cBi, aNil, aCons, cTup, cLst, bT, bAnd, bOr, bNot, cAnd, cOr, cNot, cIte, cChain, cIsi, dTy, kb1, kb2, kb3, kb4, kb5, kb6, kb7, fAbs_ev, fMax_ev, fMin_ev, wipeS, Function.comp_apply, Function.comp_def, dIx, dGetAny, cPotGet, cPotSet, getP, setP, cCall, fInt, fLen, fTuple, fList, cLenV, dLt, dLe, dGt, dGe, dB2, dAdd, dSub_ev, dNeg, Nat.reduceLeDiff, cs0, cs1, cs2, cs3, cs4, cs5, cs6, cs7, cs8, cs9, cs10, cs11, cs12, Int.ofNat_eq_natCast, dEq_int, dNe_int, dEq_pair, dNe_pair, dIsN, dNotN, cPar, cPar3, cAsg, gN, gT, gsCons, gsNil, bdOf, cSl, oNone, oSome, dSl, iSeq, iRg1, iRg2, cExpr, dRev, List.map_cons, List.map_nil, List.length_cons, List.length_nil, List.cons_append, List.nil_append, List.append_nil, List.replicate, List.getElem?_cons_zero, List.getElem?_cons_succ, List.set_cons_zero, List.set_cons_succ, Option.bind_some, Option.map_some, Option.bind_none, Option.map_none, Nat.reduceAdd, Nat.reduceSub, Int.reduceAdd, Int.reduceNeg, decide_true, decide_false, Bool.not_true, Bool.not_false, if_true, if_false, Bool.false_eq_true, if_pos, reduceIte, reduceCtorEq, Option.some.injEq, Prod.mk.injEq, and_self, and_true, true_and, szOk, List.length_map, hq, hr, hn, Bool.and_self, (by decide : rgOk 1 = true)]) (by subst hs; rfl) rfl (fun d hd => by
        obtain ⟨i, hi⟩ := List.getElem?_of_mem hd
        obtain ⟨hil, rfl⟩ := rngL_get hi
        have e := reach_step (p := some u) v vp hil
        have hi2 : (1 + (i : Int) - 1).toNat = i := by omega
        refine ⟨false, ?_⟩
        subst hs
        simp only [hi2]
        simp only [cFz, at40, at41, at42, at43, at20, at21, at30, at31, at32, List.set, dMod_ev, Int.reduceMod, Int.reduceLT, Int.reduceSub, Int.reduceMul, Int.reduceToNat, Nat.reduceLT, Int.zero_add, Int.reduceLE, fAll_b, runF, cSeq, cIf, cSet, cRet, cRetN, cSkip, cCont, cBrk, cVar, cD, cBin, cUn, cBi, aNil, aCons, cTup, cLst, bT, bAnd, bOr, bNot, cAnd, cOr, cNot, cIte, cChain, cIsi, dTy, kb1, kb2, kb3, kb4, kb5, kb6, kb7, fAbs_ev, fMax_ev, fMin_ev, wipeS, Function.comp_apply, Function.comp_def, dIx, dGetAny, cPotGet, cPotSet, getP, setP, cCall, fInt, fLen, fTuple, fList, cLenV, dLt, dLe, dGt, dGe, dB2, dAdd, dSub_ev, dNeg, Nat.reduceLeDiff, cs0, cs1, cs2, cs3, cs4, cs5, cs6, cs7, cs8, cs9, cs10, cs11, cs12, Int.ofNat_eq_natCast, dEq_int, dNe_int, dEq_pair, dNe_pair, dIsN, dNotN, cPar, cPar3, cAsg, gN, gT, gsCons, gsNil, bdOf, cSl, oNone, oSome, dSl, iSeq, iRg1, iRg2, cExpr, dRev, List.map_cons, List.map_nil, List.length_cons, List.length_nil, List.cons_append, List.nil_append, List.append_nil, List.replicate, List.getElem?_cons_zero, List.getElem?_cons_succ, List.set_cons_zero, List.set_cons_succ, Option.bind_some, Option.map_some, Option.bind_none, Option.map_none, Nat.reduceAdd, Nat.reduceSub, Int.reduceAdd, Int.reduceNeg, decide_true, decide_false, Bool.not_true, Bool.not_false, if_true, if_false, Bool.false_eq_true, if_pos, reduceIte, reduceCtorEq, Option.some.injEq, Prod.mk.injEq, and_self, and_true, true_and, szOk, e]) (by rw [rngL_len]; omega)
    have hw : (rngL 1 ms.length).map (fun d => match d with | .int i => D.str (wN ms x y (i - 1).toNat) | _ => .non) = (List.range ms.length).map fun (i : Nat) => D.str (wN ms x y i) := by
      unfold rngL
      rw [List.map_map]
      refine List.map_congr_left fun i _ => ?_
      show D.str (wN ms x y (1 + (i : Int) - 1).toNat) = _
      rw [show (1 + (i : Int) - 1).toNat = i by omega]
    rw [hw] at e
    rw [e]
    subst hs
    rfl
  exact set_fz (hS _ rfl)
theorem e26 (v : Vd (ns ++ [z])) (vp : Vp x y) : s__law_right_26 (⟨[.val .pot, x1, x2, .val (R a b c d), .val (.int k), .val (.int t), .val (spsD a b c d), .val (evsD a b c d), .val (kdsD a b c d), .val (R a' b' c' d'), .val (R d c b a), .val (R (t * a) (t * b) (t * c) (t * d)), .val (.tup (ns.map .int)), .val (.tup ((ns ++ [z]).map .int)), .val (.tup [.int x, .int y]), .val (wordsD (ns ++ [z]) x y), x16, .no, .no, .no, .no], some u⟩ : S) = some (.nx, (⟨[.val .pot, x1, x2, .val (R a b c d), .val (.int k), .val (.int t), .val (spsD a b c d), .val (evsD a b c d), .val (kdsD a b c d), .val (R a' b' c' d'), .val (R d c b a), .val (R (t * a) (t * b) (t * c) (t * d)), .val (.tup (ns.map .int)), .val (.tup ((ns ++ [z]).map .int)), .val (.tup [.int x, .int y]), .val (wordsD (ns ++ [z]) x y), .val (told (ns ++ [z]) x y), .no, .no, .no, .no], some u⟩ : S)) := by
  simp only [cFz, at40, at41, at42, at43, at20, at21, at30, at31, at32, List.set, dMod_ev, Int.reduceMod, Int.reduceLT, Int.reduceSub, Int.reduceMul, Int.reduceToNat, Nat.reduceLT, Int.zero_add, Int.reduceLE, fAll_b, runF, cSeq, cIf, cSet, cRet, cRetN, cSkip, cCont, cBrk, cVar, cD, cBin, cUn, cBi, aNil, aCons, cTup, cLst, bT, bAnd, bOr, bNot, cAnd, cOr, cNot, cIte, cChain, cIsi, dTy, kb1, kb2, kb3, kb4, kb5, kb6, kb7, fAbs_ev, fMax_ev, fMin_ev, wipeS, Function.comp_apply, Function.comp_def, dIx, dGetAny, cPotGet, cPotSet, getP, setP, cCall, fInt, fLen, fTuple, fList, cLenV, dLt, dLe, dGt, dGe, dB2, dAdd, dSub_ev, dNeg, Nat.reduceLeDiff, cs0, cs1, cs2, cs3, cs4, cs5, cs6, cs7, cs8, cs9, cs10, cs11, cs12, Int.ofNat_eq_natCast, dEq_int, dNe_int, dEq_pair, dNe_pair, dIsN, dNotN, cPar, cPar3, cAsg, gN, gT, gsCons, gsNil, bdOf, cSl, oNone, oSome, dSl, iSeq, iRg1, iRg2, cExpr, dRev, List.map_cons, List.map_nil, List.length_cons, List.length_nil, List.cons_append, List.nil_append, List.append_nil, List.replicate, List.getElem?_cons_zero, List.getElem?_cons_succ, List.set_cons_zero, List.set_cons_succ, Option.bind_some, Option.map_some, Option.bind_none, Option.map_none, Nat.reduceAdd, Nat.reduceSub, Int.reduceAdd, Int.reduceNeg, decide_true, decide_false, Bool.not_true, Bool.not_false, if_true, if_false, Bool.false_eq_true, if_pos, reduceIte, reduceCtorEq, Option.some.injEq, Prod.mk.injEq, and_self, and_true, true_and, szOk, s__law_right_26, fewest_ev v vp]
theorem e27 : s__law_right_27 (⟨[.val .pot, x1, x2, .val (R a b c d), .val (.int k), .val (.int t), .val (spsD a b c d), .val (evsD a b c d), .val (kdsD a b c d), .val (R a' b' c' d'), .val (R d c b a), .val (R (t * a) (t * b) (t * c) (t * d)), .val (.tup (ns.map .int)), .val (.tup ((ns ++ [z]).map .int)), .val (.tup [.int x, .int y]), .val (wordsD (ns ++ [z]) x y), .val (told (ns ++ [z]) x y), .no, .no, .no, .no], some u⟩ : S) = some (.nx, (⟨[.val .pot, x1, x2, .val (R a b c d), .val (.int k), .val (.int t), .val (spsD a b c d), .val (evsD a b c d), .val (kdsD a b c d), .val (R a' b' c' d'), .val (R d c b a), .val (R (t * a) (t * b) (t * c) (t * d)), .val (.tup (ns.map .int)), .val (.tup ((ns ++ [z]).map .int)), .val (.tup [.int x, .int y]), .val (wordsD (ns ++ [z]) x y), .val (told (ns ++ [z]) x y), .no, .no, .no, .no], some u⟩ : S)) := by
  generalize ns ++ [z] = ms
  have hf : (flatD (.str "reached") && ((List.range ms.length).map fun (i : Nat) => D.str (wN ms x y i)).all flatD) = true := by
    rw [Bool.and_eq_true]
    refine ⟨rfl, ?_⟩
    rw [List.all_map, List.all_eq_true]
    intro q _
    rfl
  have hin : inD (.str "reached") ((List.range ms.length).map fun (i : Nat) => D.str (wN ms x y i)) = (List.range ms.length).any (hit ms x y) := by
    unfold inD
    rw [List.any_map]
    rfl
  have e1 : dIn (.str "reached") (wordsD ms x y) = some (.bl ((List.range ms.length).any (hit ms x y)), false) := by
    simp only [dIn, wordsD, hf, if_true, hin]
  have e2 : dIndex (wordsD ms x y) [.str "reached"] = ((List.range ms.length).findIdx? (hit ms x y)).map fun (j : Nat) => (D.int j, false) := by
    simp only [dIndex, wordsD, hf, if_true]
    rw [List.findIdx?_map]
    rfl
  rw [find_range] at e2
  refine if_skip ?_
  unfold told
  cases hc : (List.range ms.length).find? (hit ms x y) with
  | none =>
    have ha : (List.range ms.length).any (hit ms x y) = false := by
      rw [List.any_eq_false]
      exact fun i hi => by simpa using List.find?_eq_none.1 hc i hi
    simp only [cFz, at40, at41, at42, at43, at20, at21, at30, at31, at32, List.set, dMod_ev, Int.reduceMod, Int.reduceLT, Int.reduceSub, Int.reduceMul, Int.reduceToNat, Nat.reduceLT, Int.zero_add, Int.reduceLE, fAll_b, runF, cSeq, cIf, cSet, cRet, cRetN, cSkip, cCont, cBrk, cVar, cD, cBin, cUn, cBi, aNil, aCons, cTup, cLst, bT, bAnd, bOr, bNot, cAnd, cOr, cNot, cIte, cChain, cIsi, dTy, kb1, kb2, kb3, kb4, kb5, kb6, kb7, fAbs_ev, fMax_ev, fMin_ev, wipeS, Function.comp_apply, Function.comp_def, dIx, dGetAny, cPotGet, cPotSet, getP, setP, cCall, fInt, fLen, fTuple, fList, cLenV, dLt, dLe, dGt, dGe, dB2, dAdd, dSub_ev, dNeg, Nat.reduceLeDiff, cs0, cs1, cs2, cs3, cs4, cs5, cs6, cs7, cs8, cs9, cs10, cs11, cs12, Int.ofNat_eq_natCast, dEq_int, dNe_int, dEq_pair, dNe_pair, dIsN, dNotN, cPar, cPar3, cAsg, gN, gT, gsCons, gsNil, bdOf, cSl, oNone, oSome, dSl, iSeq, iRg1, iRg2, cExpr, dRev, List.map_cons, List.map_nil, List.length_cons, List.length_nil, List.cons_append, List.nil_append, List.append_nil, List.replicate, List.getElem?_cons_zero, List.getElem?_cons_succ, List.set_cons_zero, List.set_cons_succ, Option.bind_some, Option.map_some, Option.bind_none, Option.map_none, Nat.reduceAdd, Nat.reduceSub, Int.reduceAdd, Int.reduceNeg, decide_true, decide_false, Bool.not_true, Bool.not_false, if_true, if_false, Bool.false_eq_true, if_pos, reduceIte, reduceCtorEq, Option.some.injEq, Prod.mk.injEq, and_self, and_true, true_and, szOk, e1, ha, dNe_bl, beq_self_eq_true]
  | some i =>
    have ha : (List.range ms.length).any (hit ms x y) = true := by
      rw [List.any_eq_true]
      exact ⟨i, List.mem_of_find?_eq_some hc, List.find?_some hc⟩
    rw [hc] at e2
    have hc : (i : Int) + 1 = 1 + (i : Int) := by omega
    simp only [cFz, at40, at41, at42, at43, at20, at21, at30, at31, at32, List.set, dMod_ev, Int.reduceMod, Int.reduceLT, Int.reduceSub, Int.reduceMul, Int.reduceToNat, Nat.reduceLT, Int.zero_add, Int.reduceLE, fAll_b, runF, cSeq, cIf, cSet, cRet, cRetN, cSkip, cCont, cBrk, cVar, cD, cBin, cUn, cBi, aNil, aCons, cTup, cLst, bT, bAnd, bOr, bNot, cAnd, cOr, cNot, cIte, cChain, cIsi, dTy, kb1, kb2, kb3, kb4, kb5, kb6, kb7, fAbs_ev, fMax_ev, fMin_ev, wipeS, Function.comp_apply, Function.comp_def, dIx, dGetAny, cPotGet, cPotSet, getP, setP, cCall, fInt, fLen, fTuple, fList, cLenV, dLt, dLe, dGt, dGe, dB2, dAdd, dSub_ev, dNeg, Nat.reduceLeDiff, cs0, cs1, cs2, cs3, cs4, cs5, cs6, cs7, cs8, cs9, cs10, cs11, cs12, Int.ofNat_eq_natCast, dEq_int, dNe_int, dEq_pair, dNe_pair, dIsN, dNotN, cPar, cPar3, cAsg, gN, gT, gsCons, gsNil, bdOf, cSl, oNone, oSome, dSl, iSeq, iRg1, iRg2, cExpr, dRev, List.map_cons, List.map_nil, List.length_cons, List.length_nil, List.cons_append, List.nil_append, List.append_nil, List.replicate, List.getElem?_cons_zero, List.getElem?_cons_succ, List.set_cons_zero, List.set_cons_succ, Option.bind_some, Option.map_some, Option.bind_none, Option.map_none, Nat.reduceAdd, Nat.reduceSub, Int.reduceAdd, Int.reduceNeg, decide_true, decide_false, Bool.not_true, Bool.not_false, if_true, if_false, Bool.false_eq_true, if_pos, reduceIte, reduceCtorEq, Option.some.injEq, Prod.mk.injEq, and_self, and_true, true_and, szOk, e1, ha, dNe_bl, beq_self_eq_true, cMeth, e2, hc]
theorem wd_turn {ms : List Int} : wd ms y (-x) = wd ms x y := by
  unfold wd
  rw [Int.neg_mul_neg, Int.add_comm (y * y)]
theorem e28 (v : Vd (ns ++ [z])) (vp : Vp y (-x)) : s__law_right_28 (⟨[.val .pot, x1, x2, .val (R a b c d), .val (.int k), .val (.int t), .val (spsD a b c d), .val (evsD a b c d), .val (kdsD a b c d), .val (R a' b' c' d'), .val (R d c b a), .val (R (t * a) (t * b) (t * c) (t * d)), .val (.tup (ns.map .int)), .val (.tup ((ns ++ [z]).map .int)), .val (.tup [.int x, .int y]), .val (wordsD (ns ++ [z]) x y), .val (told (ns ++ [z]) x y), .no, .no, .no, .no], some u⟩ : S) = some (.nx, (⟨[.val .pot, x1, x2, .val (R a b c d), .val (.int k), .val (.int t), .val (spsD a b c d), .val (evsD a b c d), .val (kdsD a b c d), .val (R a' b' c' d'), .val (R d c b a), .val (R (t * a) (t * b) (t * c) (t * d)), .val (.tup (ns.map .int)), .val (.tup ((ns ++ [z]).map .int)), .val (.tup [.int x, .int y]), .val (wordsD (ns ++ [z]) x y), .val (told (ns ++ [z]) x y), .no, .no, .no, .no], some u⟩ : S)) := by
  have e := reached_ev (p := some u) v vp
  rw [wd_turn] at e
  have hl : (ns ++ [z]).length = ns.length + 1 := by simp
  generalize ns ++ [z] = ms at *
  have e2 : L2.atI ((List.range ms.length).map fun (i : Nat) => D.str (wN ms x y i)) (-1) = some (.str (wd ms x y)) := by
    rw [hl, List.range_succ, List.map_append]
    have : wN ms x y ns.length = wd ms x y := by unfold wN; rw [← hl, List.take_length]
    rw [← this]
    exact atI_last _ _
  have hd : dNe (.str (wd ms x y)) (.str (wd ms x y)) = some (.bl false, false) := dNe_rfl sh_wd rfl
  simp only [cFz, at40, at41, at42, at43, at20, at21, at30, at31, at32, List.set, dMod_ev, Int.reduceMod, Int.reduceLT, Int.reduceSub, Int.reduceMul, Int.reduceToNat, Nat.reduceLT, Int.zero_add, Int.reduceLE, fAll_b, runF, cSeq, cIf, cSet, cRet, cRetN, cSkip, cCont, cBrk, cVar, cD, cBin, cUn, cBi, aNil, aCons, cTup, cLst, bT, bAnd, bOr, bNot, cAnd, cOr, cNot, cIte, cChain, cIsi, dTy, kb1, kb2, kb3, kb4, kb5, kb6, kb7, fAbs_ev, fMax_ev, fMin_ev, wipeS, Function.comp_apply, Function.comp_def, dIx, dGetAny, cPotGet, cPotSet, getP, setP, cCall, fInt, fLen, fTuple, fList, cLenV, dLt, dLe, dGt, dGe, dB2, dAdd, dSub_ev, dNeg, Nat.reduceLeDiff, cs0, cs1, cs2, cs3, cs4, cs5, cs6, cs7, cs8, cs9, cs10, cs11, cs12, Int.ofNat_eq_natCast, dEq_int, dNe_int, dEq_pair, dNe_pair, dIsN, dNotN, cPar, cPar3, cAsg, gN, gT, gsCons, gsNil, bdOf, cSl, oNone, oSome, dSl, iSeq, iRg1, iRg2, cExpr, dRev, List.map_cons, List.map_nil, List.length_cons, List.length_nil, List.cons_append, List.nil_append, List.append_nil, List.replicate, List.getElem?_cons_zero, List.getElem?_cons_succ, List.set_cons_zero, List.set_cons_succ, Option.bind_some, Option.map_some, Option.bind_none, Option.map_none, Nat.reduceAdd, Nat.reduceSub, Int.reduceAdd, Int.reduceNeg, decide_true, decide_false, Bool.not_true, Bool.not_false, if_true, if_false, Bool.false_eq_true, if_pos, reduceIte, reduceCtorEq, Option.some.injEq, Prod.mk.injEq, and_self, and_true, true_and, szOk, s__law_right_28, e, wordsD, e2, hd]
end
end Lk51

namespace Lk51
open PySem PySem.Spec PyProof.Rows L2 Rb
def lapC : SS := (cSeq s__law_right_0 (cSeq s__law_right_1 (cSeq s__law_right_2 (cSeq s__law_right_3 (cSeq s__law_right_4 (cSeq s__law_right_5 (cSeq s__law_right_6 (cSeq s__law_right_7 (cSeq s__law_right_8 (cSeq s__law_right_9 (cSeq s__law_right_10 (cSeq s__law_right_11 (cSeq s__law_right_12 (cSeq s__law_right_13 (cSeq s__law_right_14 (cSeq s__law_right_15 (cSeq s__law_right_16 (cSeq s__law_right_17 (cSeq s__law_right_18 (cSeq s__law_right_19 (cSeq s__law_right_20 (cSeq s__law_right_21 (cSeq s__law_right_22 (cSeq s__law_right_23 (cSeq s__law_right_24 (cSeq s__law_right_25 (cSeq s__law_right_26 (cSeq s__law_right_27 s__law_right_28))))))))))))))))))))))))))))
theorem rot_ex {a b c d k : Int} (h : 0 ≤ k ∧ k < 4) : ∃ a' b' c' d', Rot k a b c d a' b' c' d' := by
  have : k = 0 ∨ k = 1 ∨ k = 2 ∨ k = 3 := by omega
  rcases this with rfl | rfl | rfl | rfl
  · exact ⟨a, b, c, d, .inl ⟨rfl, rfl, rfl, rfl, rfl⟩⟩
  · exact ⟨b, c, d, a, .inr (.inl ⟨rfl, rfl, rfl, rfl, rfl⟩)⟩
  · exact ⟨c, d, a, b, .inr (.inr (.inl ⟨rfl, rfl, rfl, rfl, rfl⟩))⟩
  · exact ⟨d, a, b, c, .inr (.inr (.inr ⟨rfl, rfl, rfl, rfl, rfl⟩))⟩
theorem lap {x1 x2 x3 x4 x5 x6 x7 x8 x9 x10 x11 x12 x13 x14 x15 x16 : Bd} {u : Int × Int × Int} {n : Nat} (h : Pk n u) (hn : n ≤ 100000) :
    ∃ (f : Fl) (s : S), lapC (⟨[.val .pot, x1, x2, x3, x4, x5, x6, x7, x8, x9, x10, x11, x12, x13, x14, x15, x16, .no, .no, .no, .no], some u⟩ : S) = some (f, s) ∧ (f = .nx ∨ f = .ct) ∧ ∃ (x1 x2 x3 x4 x5 x6 x7 x8 x9 x10 x11 x12 x13 x14 x15 x16 : Bd) (u' : Int × Int × Int), s = (⟨[.val .pot, x1, x2, x3, x4, x5, x6, x7, x8, x9, x10, x11, x12, x13, x14, x15, x16, .no, .no, .no, .no], some u'⟩ : S) ∧ Pk (n + 2000) u' := by
  obtain ⟨m, u0, m0, m1, k0, h0⟩ := e0 (x1 := x1) (x2 := x2) (x3 := x3) (x4 := x4) (x5 := x5) (x6 := x6) (x7 := x7) (x8 := x8) (x9 := x9) (x10 := x10) (x11 := x11) (x12 := x12) (x13 := x13) (x14 := x14) (x15 := x15) (x16 := x16) h (by omega)
  obtain ⟨qa, qb, qc, qd, u1, ha, hb, hc, hd, k1, h1⟩ := e1 (x1 := x1) (x3 := x3) (x4 := x4) (x5 := x5) (x6 := x6) (x7 := x7) (x8 := x8) (x9 := x9) (x10 := x10) (x11 := x11) (x12 := x12) (x13 := x13) (x14 := x14) (x15 := x15) (x16 := x16) k0 (by omega) ⟨m0, m1⟩
  obtain ⟨a, b, c, d, ha, hb, hc, hd, h2⟩ := e2 (m := m) (u := u1) (x1 := x1) (x4 := x4) (x5 := x5) (x6 := x6) (x7 := x7) (x8 := x8) (x9 := x9) (x10 := x10) (x11 := x11) (x12 := x12) (x13 := x13) (x14 := x14) (x15 := x15) (x16 := x16) ha hb hc hd
  rcases e3 (m := m) (u := u1) (x1 := x1) (x4 := x4) (x5 := x5) (x6 := x6) (x7 := x7) (x8 := x8) (x9 := x9) (x10 := x10) (x11 := x11) (x12 := x12) (x13 := x13) (x14 := x14) (x15 := x15) (x16 := x16) ha hb hc hd with h3 | ⟨v, h3⟩
  · exact ⟨.ct, _, seq_nx h0 (seq_nx h1 (seq_nx h2 (seq_ct h3))), .inr rfl, _, _, _, _, _, _, _, _, _, _, _, _, _, _, _, _, u1, rfl, k1.mono (by omega)⟩
  · obtain ⟨k, t, u4, hk, ht, k4, h4⟩ := e4 (m := m) (a := a) (b := b) (c := c) (d := d) (x1 := x1) (x4 := x4) (x5 := x5) (x6 := x6) (x7 := x7) (x8 := x8) (x9 := x9) (x10 := x10) (x11 := x11) (x12 := x12) (x13 := x13) (x14 := x14) (x15 := x15) (x16 := x16) k1 (by omega)
    obtain ⟨a', b', c', d', hr⟩ := rot_ex (a := a) (b := b) (c := c) (d := d) hk
    have v1 : Vr 10000 a b c d := v.big (by decide)
    have v2 : Vr 10000 a' b' c' d' := (v.to hr).big (by decide)
    have h5 := e5 (p := some u4) (k := k) (t := t) (x1 := x1) (x2 := .val (.int m)) (x6 := x6) (x7 := x7) (x8 := x8) (x9 := x9) (x10 := x10) (x11 := x11) (x12 := x12) (x13 := x13) (x14 := x14) (x15 := x15) (x16 := x16) v1
    have h6 := e6 (p := some u4) (k := k) (t := t) (x1 := x1) (x2 := .val (.int m)) (x7 := x7) (x8 := x8) (x9 := x9) (x10 := x10) (x11 := x11) (x12 := x12) (x13 := x13) (x14 := x14) (x15 := x15) (x16 := x16) v1
    have h7 := e7 (p := some u4) (k := k) (t := t) (x1 := x1) (x2 := .val (.int m)) (x8 := x8) (x9 := x9) (x10 := x10) (x11 := x11) (x12 := x12) (x13 := x13) (x14 := x14) (x15 := x15) (x16 := x16) v1
    have h8 := e8 (p := some u4) (t := t) (x1 := x1) (x2 := .val (.int m)) (x9 := x9) (x10 := x10) (x11 := x11) (x12 := x12) (x13 := x13) (x14 := x14) (x15 := x15) (x16 := x16) hr
    have h9 := e9 (p := some u4) (t := t) (x1 := x1) (x2 := .val (.int m)) (x10 := x10) (x11 := x11) (x12 := x12) (x13 := x13) (x14 := x14) (x15 := x15) (x16 := x16) v2 hr
    have h10 := e10 (p := some u4) (t := t) (x1 := x1) (x2 := .val (.int m)) (x10 := x10) (x11 := x11) (x12 := x12) (x13 := x13) (x14 := x14) (x15 := x15) (x16 := x16) v1 v2 hr
    have h11 := e11 (p := some u4) (t := t) (x1 := x1) (x2 := .val (.int m)) (x10 := x10) (x11 := x11) (x12 := x12) (x13 := x13) (x14 := x14) (x15 := x15) (x16 := x16) v2 hr
    have h12 := e12 (p := some u4) (t := t) (x1 := x1) (x2 := .val (.int m)) (x10 := x10) (x11 := x11) (x12 := x12) (x13 := x13) (x14 := x14) (x15 := x15) (x16 := x16) v2 hr
    have h13 := e13 (p := some u4) (t := t) (k := k) (a := a) (b := b) (c := c) (d := d) (a' := a') (b' := b') (c' := c') (d' := d') (x1 := x1) (x2 := .val (.int m)) (x10 := x10) (x11 := x11) (x12 := x12) (x13 := x13) (x14 := x14) (x15 := x15) (x16 := x16)
    have h14 := e14 (p := some u4) (t := t) (k := k) (a' := a') (b' := b') (c' := c') (d' := d') (x1 := x1) (x2 := .val (.int m)) (x11 := x11) (x12 := x12) (x13 := x13) (x14 := x14) (x15 := x15) (x16 := x16) v1
    have h15 := e15 (p := some u4) (t := t) (k := k) (a' := a') (b' := b') (c' := c') (d' := d') (x1 := x1) (x2 := .val (.int m)) (x11 := x11) (x12 := x12) (x13 := x13) (x14 := x14) (x15 := x15) (x16 := x16) v1
    have h16 := e16 (p := some u4) (k := k) (a' := a') (b' := b') (c' := c') (d' := d') (x1 := x1) (x2 := .val (.int m)) (x11 := x11) (x12 := x12) (x13 := x13) (x14 := x14) (x15 := x15) (x16 := x16) v ht
    have h17 := e17 (p := some u4) (k := k) (a' := a') (b' := b') (c' := c') (d' := d') (x1 := x1) (x2 := .val (.int m)) (x12 := x12) (x13 := x13) (x14 := x14) (x15 := x15) (x16 := x16) v ht
    have h18 := e18 (p := some u4) (x1 := x1) (x2 := .val (.int m)) (x12 := x12) (x13 := x13) (x14 := x14) (x15 := x15) (x16 := x16) v ht hr
    have h19 := e19 (p := some u4) (k := k) (t := t) (a' := a') (b' := b') (c' := c') (d' := d') (x1 := x1) (x2 := .val (.int m)) (x12 := x12) (x13 := x13) (x14 := x14) (x15 := x15) (x16 := x16) v
    obtain ⟨ns, u20, vd, hl, k20, h20⟩ := e20 (a := a) (b := b) (c := c) (d := d) (k := k) (t := t) (a' := a') (b' := b') (c' := c') (d' := d') (x1 := x1) (x2 := .val (.int m)) (x12 := x12) (x13 := x13) (x14 := x14) (x15 := x15) (x16 := x16) k4 (by omega)
    obtain ⟨u21, k21, h21⟩ := e21 (a := a) (b := b) (c := c) (d := d) (k := k) (t := t) (a' := a') (b' := b') (c' := c') (d' := d') (x1 := x1) (x2 := .val (.int m)) (x13 := x13) (x14 := x14) (x15 := x15) (x16 := x16) k20 (by omega) vd
    obtain ⟨z, u22, hz, k22, h22⟩ := e22 (a := a) (b := b) (c := c) (d := d) (k := k) (t := t) (a' := a') (b' := b') (c' := c') (d' := d') (x1 := x1) (x2 := .val (.int m)) (x13 := x13) (x14 := x14) (x15 := x15) (x16 := x16) k21 (by omega) hl
    have h23 := e23 (u := u22) (a := a) (b := b) (c := c) (d := d) (k := k) (t := t) (a' := a') (b' := b') (c' := c') (d' := d') (x1 := x1) (x2 := .val (.int m)) (x14 := x14) (x15 := x15) (x16 := x16) vd hl hz
    have vm := vd.more hl hz
    obtain ⟨x, y, u24, vp, vp2, k24, h24⟩ := e24 (z := z) (ns := ns) (a := a) (b := b) (c := c) (d := d) (k := k) (t := t) (a' := a') (b' := b') (c' := c') (d' := d') (x1 := x1) (x2 := .val (.int m)) (x14 := x14) (x15 := x15) (x16 := x16) k22 (by omega)
    have h25 := e25 (u := u24) (a := a) (b := b) (c := c) (d := d) (k := k) (t := t) (a' := a') (b' := b') (c' := c') (d' := d') (x1 := x1) (x2 := .val (.int m)) (x15 := x15) (x16 := x16) vm vp
    have h26 := e26 (u := u24) (a := a) (b := b) (c := c) (d := d) (k := k) (t := t) (a' := a') (b' := b') (c' := c') (d' := d') (x1 := x1) (x2 := .val (.int m)) (x16 := x16) vm vp
    have h27 := e27 (z := z) (ns := ns) (x := x) (y := y) (u := u24) (a := a) (b := b) (c := c) (d := d) (k := k) (t := t) (a' := a') (b' := b') (c' := c') (d' := d') (x1 := x1) (x2 := .val (.int m))
    have h28 := e28 (u := u24) (a := a) (b := b) (c := c) (d := d) (k := k) (t := t) (a' := a') (b' := b') (c' := c') (d' := d') (x1 := x1) (x2 := .val (.int m)) vm vp2
    exact ⟨.nx, _, (seq_nx h0 (seq_nx h1 (seq_nx h2 (seq_nx h3 (seq_nx h4 (seq_nx h5 (seq_nx h6 (seq_nx h7 (seq_nx h8 (seq_nx h9 (seq_nx h10 (seq_nx h11 (seq_nx h12 (seq_nx h13 (seq_nx h14 (seq_nx h15 (seq_nx h16 (seq_nx h17 (seq_nx h18 (seq_nx h19 (seq_nx h20 (seq_nx h21 (seq_nx h22 (seq_nx h23 (seq_nx h24 (seq_nx h25 (seq_nx h26 (seq_nx h27 h28)))))))))))))))))))))))))))), .inl rfl, _, _, _, _, _, _, _, _, _, _, _, _, _, _, _, _, u24, rfl, k24.mono (by omega)⟩
theorem right_ev (u : Int × Int × Int) (h : Pk 0 u) : ∃ u', f__law_right [.pot] (some u) = some (.bl true, some u') := by
  obtain ⟨s', e, y1, y2, y3, y4, y5, y6, y7, y8, y9, y10, y11, y12, y13, y14, y15, y16, u', rfl, _⟩ := for_inv (g := gN 1) (body := lapC) (fun j s => ∃ (x1 x2 x3 x4 x5 x6 x7 x8 x9 x10 x11 x12 x13 x14 x15 x16 : Bd) (u' : Int × Int × Int), s = (⟨[.val .pot, x1, x2, x3, x4, x5, x6, x7, x8, x9, x10, x11, x12, x13, x14, x15, x16, .no, .no, .no, .no], some u'⟩ : S) ∧ Pk (2000 * j) u')
    (rngL 0 (12 : Int).toNat) 0 ⟨[.val .pot, .no, .no, .no, .no, .no, .no, .no, .no, .no, .no, .no, .no, .no, .no, .no, .no, .no, .no, .no, .no], some u⟩ (fun j d s hd ⟨x1, x2, x3, x4, x5, x6, x7, x8, x9, x10, x11, x12, x13, x14, x15, x16, u1, es, k1⟩ => by
      subst es
      have hj : j < 12 := by
        have := (rngL_get (lo := 0) (n := 12) (i := j) (d := d) hd).1
        exact this
      obtain ⟨f, s2, e2, hf, y1, y2, y3, y4, y5, y6, y7, y8, y9, y10, y11, y12, y13, y14, y15, y16, u2, es2, k2⟩ := lap (x1 := .val d) (x2 := x2) (x3 := x3) (x4 := x4) (x5 := x5) (x6 := x6) (x7 := x7) (x8 := x8) (x9 := x9) (x10 := x10) (x11 := x11) (x12 := x12) (x13 := x13) (x14 := x14) (x15 := x15) (x16 := x16) k1 (by omega)
      exact ⟨_, rfl, f, s2, e2, hf, y1, y2, y3, y4, y5, y6, y7, y8, y9, y10, y11, y12, y13, y14, y15, y16, u2, es2, k2.mono (by omega)⟩)
    ⟨_, _, _, _, _, _, _, _, _, _, _, _, _, _, _, _, u, rfl, h⟩
  refine ⟨u', ?_⟩
  have e2 : (cFor (iRg1 (aCons (cD (.int 12)) aNil)) (gN 1) lapC) ⟨[.val .pot, .no, .no, .no, .no, .no, .no, .no, .no, .no, .no, .no, .no, .no, .no, .no, .no, .no, .no, .no, .no], some u⟩ = _ := e
  exact run_rt (n := 21) (c := c__law_right) (ds := [.pot]) (p := some u) (seq_nx (a := cFor (iRg1 (aCons (cD (.int 12)) aNil)) (gN 1) lapC) (b := cRet (cD (.bl true))) e2 rfl)
theorem math (ns : List Int) (_ : ns.length ≤ 63) (_ : ∀ z ∈ ns, PySem.Builtin.Int.intBits z ≤ 1048576) : ∃ p', f_law [.scr ns] none = some (.bl true, p') :=
  law_ev (fp := f__law_pot) (fr := f__law_right) (m := 3) (by decide) (fun place h0 h1 => pot_ev (a := 1000211) (b := 4639) (c := 3163) (a2 := 72161) (b2 := 10853) (c2 := 2843) (m := 2305843009213693951) (m2 := 2305843009213693921) (by decide) h0 h1) right_ev
end Lk51

open PySem PySem.W PyProof.Rows
set_option maxHeartbeats 0 in
theorem PySem.Challenge.cw_reachedbyturns_k51_whole_rings_of_four_t_holds : PySem.Challenge.rw_reachedbyturns_k51_whole_rings_of_four_t.Holds := by
  w_on; o_law; k_head; (case hw => w_witness2)
  k_fill
  refine L2.walk_ofB (l := PySem.Challenge.rw_reachedbyturns_k51_whole_rings_of_four_t) (n := 63) (k := 9) (x := "script") (CX := fun _ => L2.CX0) (sp := fun w => Rb.spF _ 1 Lk51.f_law) rfl (by decide) rfl ⟨rfl, by decide, by decide⟩ (fun w h Y => PySem.W.kIn_of Y) ?F (fun _ _ a ns hl hb _ hS => Rb.sp_law (Lk51.math ns hl hb) hS) (fun _ _ _ _ _ h => h)
  case F =>
    intro w mg fa h KX G hmg
    refine' Lk51.all_mk KX G hmg ?a0 ?l0 ?c0 ?k0 ?a1 ?l1 ?c1 ?k1 ?a2 ?l2 ?c2 ?k2 ?a3 ?l3 ?c3 ?k3 ?a4 ?l4 ?c4 ?k4 ?a5 ?l5 ?c5 ?k5 ?a6 ?l6 ?c6 ?k6 ?a7 ?l7 ?c7 ?k7 ?a8 ?l8 ?c8 ?k8 ?a9 ?l9 ?c9 ?k9 ?a10 ?l10 ?c10 ?k10 ?a11 ?l11 ?c11 ?k11 ?a12 ?l12 ?c12 ?k12 ?a13 ?l13 ?c13 ?k13 ?a14 ?l14 ?c14 ?k14 ?a15 ?l15 ?c15 ?k15 ?a16 ?l16 ?c16 ?k16 ?a17 ?l17 ?c17 ?k17 ?a18 ?l18 ?c18 ?k18 ?a19 ?l19 ?c19 ?k19 ?a20 ?l20 ?c20 ?k20 ?a21 ?l21 ?c21 ?k21 ?a22 ?l22 ?c22 ?k22 ?a23 ?l23 ?c23 ?k23 ?a24 ?l24 ?c24 ?k24 ?a25 ?l25 ?c25 ?k25 ?a26 ?l26 ?c26 ?k26 ?zb0 ?zb1 ?zb2 ?zb3 ?zb4 ?zb5 ?zb6 ?zb7 ?zb8 ?zb9 ?zb10 ?zb11 ?zb12 ?zc0 ?zc1 ?zc2 ?zc3 ?zc4 ?zc5 ?zc6 ?zc7 ?zc8 ?zc9 ?zc10 ?zc11
    (case a0 => k_is); (case l0 => k_is); (case c0 => k_is); (case k0 => k_is); (case a1 => k_is); (case l1 => k_is); (case c1 => k_is); (case k1 => k_is); (case a2 => k_is); (case l2 => k_is); (case c2 => k_is); (case k2 => k_is); (case a3 => k_is); (case l3 => k_is); (case c3 => k_is); (case k3 => k_is); (case a4 => k_is); (case l4 => k_is); (case c4 => k_is); (case k4 => k_is); (case a5 => k_is); (case l5 => k_is); (case c5 => k_is); (case k5 => k_is); (case a6 => k_is); (case l6 => k_is); (case c6 => k_is); (case k6 => k_is); (case a7 => k_is); (case l7 => k_is); (case c7 => k_is); (case k7 => k_is); (case a8 => k_is); (case l8 => k_is); (case c8 => k_is); (case k8 => k_is); (case a9 => k_is); (case l9 => k_is); (case c9 => k_is); (case k9 => k_is); (case a10 => k_is); (case l10 => k_is); (case c10 => k_is); (case k10 => k_is); (case a11 => k_is); (case l11 => k_is); (case c11 => k_is); (case k11 => k_is); (case a12 => k_is); (case l12 => k_is); (case c12 => k_is); (case k12 => k_is); (case a13 => k_is); (case l13 => k_is); (case c13 => k_is); (case k13 => k_is); (case a14 => k_is); (case l14 => k_is); (case c14 => k_is); (case k14 => k_is); (case a15 => k_is); (case l15 => k_is); (case c15 => k_is); (case k15 => k_is); (case a16 => k_is); (case l16 => k_is); (case c16 => k_is); (case k16 => k_is); (case a17 => k_is); (case l17 => k_is); (case c17 => k_is); (case k17 => k_is); (case a18 => k_is); (case l18 => k_is); (case c18 => k_is); (case k18 => k_is); (case a19 => k_is); (case l19 => k_is); (case c19 => k_is); (case k19 => k_is); (case a20 => k_is); (case l20 => k_is); (case c20 => k_is); (case k20 => k_is); (case a21 => k_is); (case l21 => k_is); (case c21 => k_is); (case k21 => k_is); (case a22 => k_is); (case l22 => k_is); (case c22 => k_is); (case k22 => k_is); (case a23 => k_is); (case l23 => k_is); (case c23 => k_is); (case k23 => k_is); (case a24 => k_is); (case l24 => k_is); (case c24 => k_is); (case k24 => k_is); (case a25 => k_is); (case l25 => k_is); (case c25 => k_is); (case k25 => k_is); (case a26 => k_is); (case l26 => k_is); (case c26 => k_is); (case k26 => k_is); (case zb0 => k_is); (case zb1 => k_is); (case zb2 => k_is); (case zb3 => k_is); (case zb4 => k_is); (case zb5 => k_is); (case zb6 => k_is); (case zb7 => k_is); (case zb8 => k_is); (case zb9 => k_is); (case zb10 => k_is); (case zb11 => k_is); (case zb12 => k_is); (case zc0 => k_is); (case zc1 => k_is); (case zc2 => k_is); (case zc3 => k_is); (case zc4 => k_is); (case zc5 => k_is); (case zc6 => k_is); (case zc7 => k_is); (case zc8 => k_is); (case zc9 => k_is); (case zc10 => k_is); (case zc11 => k_is)

