import PyProof.Rows.All
import Wide.All
import OpenK.AllK
import Wide.FinOn
import HandS.ForMost
import HandS.Walk
import HandS.Zip
import HandS.TupAny
import HandS.TupMul
import HandS.Wide
import HandS.SortInts
import HandS.Style
import HandS.IsInst
import HandS.Flow
import HandS.Conv
import HandS.NoneIn
import HandS.EndBits
import KE.IntBitsLaws
import KE.GoesEnum
import HandS.Star
import KE.KDictZip
import PyProof.CollectWalk
import PyProof.ListNew
import HandS.SortRule
import KE.DataMinMax
import PySem.Challenge.RW_reachedbyturns_k11_whole_reach_turned_an
set_option Elab.async false
set_option linter.all false
set_option maxRecDepth 100000
set_option maxHeartbeats 4000000
set_option exponentiation.threshold 5000
namespace Rb
open PySem PySem.Spec PyProof.Rows L2

/-- between -(b + 1) and b; told by natural numbers, so that nothing counts down from b -/
def inR (b : Nat) : Int → Bool
  | .ofNat n => Nat.ble n b
  | .negSucc n => Nat.ble n b
theorem inR_iff {b : Nat} {i : Int} : inR b i = true ↔ -((b : Int) + 1) ≤ i ∧ i ≤ b := by
  cases i with
  | ofNat n => unfold inR; rw [Nat.ble_eq]; simp only [Int.ofNat_eq_natCast]; omega
  | negSucc n => unfold inR; rw [Nat.ble_eq]; omega
theorem inR_lt {b : Nat} {i : Int} (h : inR b i = true) : -((b : Int) + 1) ≤ i ∧ i < b + 1 := by
  have := inR_iff.1 h; omega
/-- plain data -/
inductive D where
  | non | bl (b : Bool) | int (i : Int) | str (x : Str)
  | tup (ds : List D) | lst (ds : List D) | dic (kvs : List (Key × D)) | pot
  | scr (ns : List Int)
  deriving Inhabited
/-- what the pot holds -/
abbrev Pt := Option (Int × Int × Int)
/-- a slot: nothing known, plain data, an object that this frame alone holds -/
inductive Bd where
  | no | val (d : D) | own (d : D)
structure S where
  r : List Bd
  p : Pt

/-- where the pot lies (if there is one), the heap and what is fixed at the entry -/
structure Wd where
  P : Option Addr
  H0 : Hp
  F0 : Hp

def Ex (H H' : Hp) : Prop := ∀ a o, H a = some o → H' a = some o
theorem Ex.refl (H : Hp) : Ex H H := fun _ _ h => h
theorem Ex.trans {H H1 H2 : Hp} (a : Ex H H1) (b : Ex H1 H2) : Ex H H2 := fun x o h => b x o (a x o h)
theorem Ex.new {H : Hp} {p : Addr} {o : HO} (h : H p = none) : Ex H (upd H p o) := fun a u e => by
  rw [upd_ne (ne_of_none e h)]
  exact e
theorem Ex.none {F H : Hp} {a : Addr} (e : Ex F H) (h : H a = none) : F a = none := by
  cases q : F a with
  | none => rfl
  | some o => rw [e a o q] at h; cases h
theorem Ex.both {F H : Hp} {p : Addr} {o : HO} (e : Ex F H) : Ex (upd F p o) (upd H p o) := fun a u h => by
  by_cases q : a = p
  · subst q; rw [upd_same] at h ⊢; exact h
  · rw [upd_ne q] at h ⊢; exact e a u h
theorem Ex.updR {F H : Hp} {p : Addr} {o : HO} (e : Ex F H) (h : F p = Option.none) : Ex F (upd H p o) := fun a u ha => by
  rw [upd_ne (ne_of_none ha h)]; exact e a u ha

section
variable (K : PySem.W.Frag) (P : Option Addr)
mutual
def Rp (F : Hp) : D → V → Prop
  | .non, v => v = .non
  | .bl b, v => v = .bl b
  | .int i, v => v = .int i
  | .str x, v => v = .str x
  | .tup ds, v => ∃ a xs, v = .ref a ∧ SqT K F a xs ∧ RpL F ds xs
  | .lst ds, v => ∃ a xs, v = .ref a ∧ F a = some (.lst xs) ∧ RpL F ds xs
  | .dic kvs, v => ∃ a ks, v = .ref a ∧ Rd F a (.dK ks) ∧ RpK F kvs ks
  | .pot, v => ∃ p, P = some p ∧ v = .ref p
  | .scr ns, v => ∃ a, v = .ref a ∧ SqL K F a (ns.map V.int)
def RpL (F : Hp) : List D → List V → Prop
  | [], xs => xs = []
  | d :: ds, xs => ∃ x r, xs = x :: r ∧ Rp F d x ∧ RpL F ds r
def RpK (F : Hp) : List (Key × D) → List (Key × V) → Prop
  | [], xs => xs = []
  | (k, d) :: ds, xs => ∃ x r, xs = (k, x) :: r ∧ Rp F d x ∧ RpK F ds r
end
end
section
variable {K : PySem.W.Frag} {P : Option Addr} {F F' : Hp}
theorem rd_mono {a : Addr} {u : HO} (e : Ex F F') (h : Rd F a u) : Rd F' a u := by
  rcases h with h | ⟨o, h⟩
  · exact Or.inl (e a _ h)
  · exact Or.inr ⟨o, e a _ h⟩
theorem sqt_mono {a : Addr} {xs : List V} (e : Ex F F') (h : SqT K F a xs) : SqT K F' a xs := by
  rcases h with h | h
  · exact Or.inl (rd_mono e h)
  · exact Or.inr h
theorem sql_mono {a : Addr} {xs : List V} (e : Ex F F') (h : SqL K F a xs) : SqL K F' a xs := by
  rcases h with h | h
  · exact Or.inl (rd_mono e h)
  · exact Or.inr h
/-- the facts of F stand in F': objects alike up to a dict's lock -/
structure Ok2 (F F' : Hp) : Prop where
  tup : ∀ a xs, Rd F a (.tup xs) → Rd F' a (.tup xs)
  lst : ∀ a xs, F a = some (.lst xs) → F' a = some (.lst xs)
  dK : ∀ a ks, Rd F a (.dK ks) → Rd F' a (.dK ks)
  lsR : ∀ a xs, Rd F a (.lst xs) → Rd F' a (.lst xs)
theorem Ex.ok2 (e : Ex F F') : Ok2 F F' := ⟨fun _ _ h => rd_mono e h, fun a _ h => e a _ h, fun _ _ h => rd_mono e h, fun _ _ h => rd_mono e h⟩
mutual
theorem Rp.mono2 (e : Ok2 F F') : ∀ (d : D) (v : V), Rp K P F d v → Rp K P F' d v
  | .non, v, h => by unfold Rp at h ⊢; exact h
  | .bl b, v, h => by unfold Rp at h ⊢; exact h
  | .int i, v, h => by unfold Rp at h ⊢; exact h
  | .str x, v, h => by unfold Rp at h ⊢; exact h
  | .pot, v, h => by unfold Rp at h ⊢; exact h
  | .scr ns, v, h => by
    unfold Rp at h ⊢
    obtain ⟨a, h1, h2⟩ := h
    exact ⟨a, h1, h2.elim (fun z => Or.inl (e.lsR a _ z)) Or.inr⟩
  | .tup ds, v, h => by
    unfold Rp at h ⊢
    obtain ⟨a, xs, h1, h2, h3⟩ := h
    exact ⟨a, xs, h1, h2.elim (fun z => Or.inl (e.tup a xs z)) Or.inr, RpL.mono2 e ds xs h3⟩
  | .lst ds, v, h => by
    unfold Rp at h ⊢
    obtain ⟨a, xs, h1, h2, h3⟩ := h
    exact ⟨a, xs, h1, e.lst a xs h2, RpL.mono2 e ds xs h3⟩
  | .dic ks, v, h => by
    unfold Rp at h ⊢
    obtain ⟨a, xs, h1, h2, h3⟩ := h
    exact ⟨a, xs, h1, e.dK a xs h2, RpK.mono2 e ks xs h3⟩
theorem RpL.mono2 (e : Ok2 F F') : ∀ (ds : List D) (xs : List V), RpL K P F ds xs → RpL K P F' ds xs
  | [], xs, h => by unfold RpL at h ⊢; exact h
  | d :: ds, xs, h => by
    unfold RpL at h ⊢
    obtain ⟨x, r, h1, h2, h3⟩ := h
    exact ⟨x, r, h1, Rp.mono2 e d x h2, RpL.mono2 e ds r h3⟩
theorem RpK.mono2 (e : Ok2 F F') : ∀ (ds : List (Key × D)) (xs : List (Key × V)), RpK K P F ds xs → RpK K P F' ds xs
  | [], xs, h => by unfold RpK at h ⊢; exact h
  | (k, d) :: ds, xs, h => by
    unfold RpK at h ⊢
    obtain ⟨x, r, h1, h2, h3⟩ := h
    exact ⟨x, r, h1, Rp.mono2 e d x h2, RpK.mono2 e ds r h3⟩
end
theorem Rp.mono (e : Ex F F') {d : D} {v : V} (h : Rp K P F d v) : Rp K P F' d v := Rp.mono2 e.ok2 d v h
theorem RpL.mono (e : Ex F F') {ds : List D} {xs : List V} (h : RpL K P F ds xs) : RpL K P F' ds xs := RpL.mono2 e.ok2 ds xs h
theorem RpK.mono (e : Ex F F') {ds : List (Key × D)} {xs : List (Key × V)} (h : RpK K P F ds xs) : RpK K P F' ds xs := RpK.mono2 e.ok2 ds xs h
theorem RpL.nil : RpL K P F [] [] := by unfold RpL; rfl
theorem RpL.cons {d : D} {ds : List D} {x : V} {xs : List V} (h : Rp K P F d x) (t : RpL K P F ds xs) : RpL K P F (d :: ds) (x :: xs) := by unfold RpL; exact ⟨x, xs, rfl, h, t⟩
theorem RpL.len : ∀ {ds : List D} {xs : List V}, RpL K P F ds xs → xs.length = ds.length
  | [], xs, h => by unfold RpL at h; subst h; rfl
  | d :: ds, xs, h => by
    unfold RpL at h
    obtain ⟨x, r, rfl, _, t⟩ := h
    rw [List.length_cons, List.length_cons, RpL.len t]
theorem RpL.app : ∀ {ds es : List D} {xs ys : List V}, RpL K P F ds xs → RpL K P F es ys → RpL K P F (ds ++ es) (xs ++ ys)
  | [], es, xs, ys, h, t => by unfold RpL at h; subst h; exact t
  | d :: ds, es, xs, ys, h, t => by
    unfold RpL at h
    obtain ⟨x, r, rfl, hx, hr⟩ := h
    exact .cons hx (RpL.app hr t)
theorem RpL.get : ∀ {ds : List D} {xs : List V} {i : Nat} {d : D}, RpL K P F ds xs → ds[i]? = some d → ∃ x, xs[i]? = some x ∧ Rp K P F d x
  | [], xs, i, d, _, e => by simp at e
  | d :: ds, xs, 0, e, h, q => by
    unfold RpL at h
    obtain ⟨x, r, rfl, hx, hr⟩ := h
    simp at q; subst q
    exact ⟨x, rfl, hx⟩
  | d :: ds, xs, i + 1, e, h, q => by
    unfold RpL at h
    obtain ⟨x, r, rfl, hx, hr⟩ := h
    obtain ⟨y, h1, h2⟩ := RpL.get (i := i) hr (by simpa using q)
    exact ⟨y, by simpa using h1, h2⟩
theorem RpL.getV : ∀ {ds : List D} {xs : List V} {i : Nat} {x : V}, RpL K P F ds xs → xs[i]? = some x → ∃ d, ds[i]? = some d ∧ Rp K P F d x
  | [], xs, i, d, h, e => by unfold RpL at h; subst h; simp at e
  | d :: ds, xs, 0, e, h, q => by
    unfold RpL at h
    obtain ⟨x, r, rfl, hx, hr⟩ := h
    simp at q; subst q
    exact ⟨d, rfl, hx⟩
  | d :: ds, xs, i + 1, e, h, q => by
    unfold RpL at h
    obtain ⟨x, r, rfl, hx, hr⟩ := h
    obtain ⟨y, h1, h2⟩ := RpL.getV (i := i) hr (by simpa using q)
    exact ⟨y, by simpa using h1, h2⟩
theorem RpL.of_get : ∀ {ds : List D} {xs : List V}, xs.length = ds.length → (∀ (i : Nat) d x, ds[i]? = some d → xs[i]? = some x → Rp K P F d x) → RpL K P F ds xs
  | [], [], _, _ => .nil
  | [], _ :: _, h, _ => by simp at h
  | _ :: _, [], h, _ => by simp at h
  | d :: ds, x :: xs, h, q => .cons (q 0 d x rfl rfl) (RpL.of_get (by simpa using h) fun i e y h1 h2 => q (i + 1) e y (by simpa using h1) (by simpa using h2))
theorem RpL.take {ds : List D} {xs : List V} (h : RpL K P F ds xs) (n : Nat) : RpL K P F (ds.take n) (xs.take n) := by
  refine .of_get (by simp [h.len]) fun i d x h1 h2 => ?_
  rw [List.getElem?_take] at h1 h2
  split at h1
  · rename_i hlt
    rw [if_pos hlt] at h2
    obtain ⟨y, e, r⟩ := h.get h1
    rw [h2] at e; cases e; exact r
  · cases h1
theorem RpL.drop {ds : List D} {xs : List V} (h : RpL K P F ds xs) (n : Nat) : RpL K P F (ds.drop n) (xs.drop n) := by
  refine .of_get (by simp [h.len]) fun i d x h1 h2 => ?_
  rw [List.getElem?_drop] at h1 h2
  obtain ⟨y, e, r⟩ := h.get h1
  rw [h2] at e; cases e; exact r
theorem RpL.rev : ∀ {ds : List D} {xs : List V}, RpL K P F ds xs → RpL K P F ds.reverse xs.reverse
  | [], xs, h => by unfold RpL at h; subst h; exact .nil
  | d :: ds, xs, h => by
    unfold RpL at h
    obtain ⟨x, r, rfl, hx, hr⟩ := h
    rw [List.reverse_cons, List.reverse_cons]
    exact (RpL.rev hr).app (.cons hx .nil)
theorem RpL.setL {ds : List D} {xs : List V} (h : RpL K P F ds xs) (j : Nat) {d : D} {x : V} (hx : Rp K P F d x) : RpL K P F (ds.set j d) (xs.set j x) := by
  refine .of_get (by simp [h.len]) fun i e y h1 h2 => ?_
  rw [List.getElem?_set] at h1 h2
  by_cases q : j = i
  · rw [if_pos q] at h1 h2
    split at h1
    · split at h2
      · cases h1; cases h2; exact hx
      · cases h2
    · cases h1
  · rw [if_neg q] at h1 h2
    obtain ⟨z, e1, r⟩ := h.get h1
    rw [h2] at e1; cases e1; exact r
theorem RpL.erase : ∀ {ds : List D} {xs : List V} (j : Nat), RpL K P F ds xs → RpL K P F (ds.eraseIdx j) (xs.eraseIdx j)
  | [], xs, j, h => by unfold RpL at h; subst h; exact .nil
  | d :: ds, xs, 0, h => by
    unfold RpL at h
    obtain ⟨x, r, rfl, hx, hr⟩ := h
    exact hr
  | d :: ds, xs, j + 1, h => by
    unfold RpL at h
    obtain ⟨x, r, rfl, hx, hr⟩ := h
    exact .cons hx (RpL.erase j hr)
theorem RpL.ints : ∀ {ns : List Int} {xs : List V}, RpL K P F (ns.map D.int) xs → xs = ns.map V.int
  | [], xs, h => by simpa [RpL] using h
  | n :: ns, xs, h => by
    rw [List.map_cons] at h
    unfold RpL at h
    obtain ⟨x, r, rfl, hx, hr⟩ := h
    unfold Rp at hx
    rw [hx, RpL.ints hr]; rfl
theorem RpL.ofInts : ∀ (ns : List Int), RpL K P F (ns.map D.int) (ns.map V.int)
  | [] => .nil
  | n :: ns => .cons (by unfold Rp; rfl) (RpL.ofInts ns)
end

/-! ### the state -/
def PtOk (P : Option Addr) (F H : Hp) : Pt → Prop
  | none => P = none
  | some t => ∃ p, P = some p ∧ H p = some (.lst [.int t.1, .int t.2.1, .int t.2.2]) ∧ F p = none
def Own (K : PySem.W.Frag) (ω : Wd) (F H : Hp) (v : V) : D → Prop
  | .lst ds => ∃ a xs, v = .ref a ∧ H a = some (.lst xs) ∧ F a = none ∧ ω.H0 a = none ∧ ω.P ≠ some a ∧ RpL K ω.P F ds xs
  | .dic kvs => ∃ a ks, v = .ref a ∧ H a = some (.dK ks) ∧ F a = none ∧ ω.H0 a = none ∧ ω.P ≠ some a ∧ RpK K ω.P F kvs ks
  | _ => False
def SlOk (K : PySem.W.Frag) (ω : Wd) (F H : Hp) (o : Option (Option V)) : Bd → Prop
  | .no => True
  | .val d => ∃ v, o = some (some v) ∧ Rp K ω.P F d v
  | .own d => ∃ v, o = some (some v) ∧ Own K ω F H v d
structure Sr (K : PySem.W.Frag) (ω : Wd) (F : Hp) (σ : L2.St) (H : Hp) (s : S) : Prop where
  len : σ.length = s.r.length
  sub : Ex F H
  frm : ∀ a o, ω.P ≠ some a → ω.H0 a = some o → H a = some o
  new : ∀ a o, F a = some o → ω.F0 a = some o ∨ ω.H0 a = none
  pt : PtOk ω.P F H s.p
  sl : ∀ (i : Nat) b, s.r[i]? = some b → SlOk K ω F H σ[i]? b
  dis : ∀ (i j : Nat) d e v, i ≠ j → s.r[i]? = some (.own d) → s.r[j]? = some (.own e) → σ[i]? = some (some v) → σ[j]? = some (some v) → False
/-- a new object that nobody else holds -/
def Fresh (K : PySem.W.Frag) (ω : Wd) (F : Hp) (σ : L2.St) (H : Hp) (s : S) (v : V) (d : D) : Prop := Own K ω F H v d ∧ ∀ (i : Nat) e, s.r[i]? = some (.own e) → σ[i]? = some (some v) → False
def RpR (K : PySem.W.Frag) (ω : Wd) (F : Hp) (σ : L2.St) (H : Hp) (s : S) (v : V) (d : D) : Bool → Prop
  | false => Rp K ω.P F d v
  | true => Fresh K ω F σ H s v d
section
variable {K : PySem.W.Frag} {ω : Wd} {F F' : Hp} {σ : L2.St} {H H' : Hp} {s : S} {v : V} {d : D} {a p : Addr} {o : HO}
theorem PtOk.ne (h : PtOk P F H t) (hp : H p = none) : P ≠ some p := by
  cases t with
  | none => rw [show P = none from h]; exact fun q => nomatch q
  | some t =>
    obtain ⟨q, e, h1, _⟩ := h
    rw [e]; intro z; cases z; rw [h1] at hp; cases hp
theorem PtOk.ext {P : Option Addr} {t : Pt} (h : PtOk P F H t) (hH : ∀ q, P = some q → H' q = H q) (hF : ∀ q, P = some q → F' q = F q) : PtOk P F' H' t := by
  cases t with
  | none => exact h
  | some t =>
    obtain ⟨q, e, h1, h2⟩ := h
    exact ⟨q, e, by rw [hH q e]; exact h1, by rw [hF q e]; exact h2⟩
theorem Sr.h0 (r : Sr K ω F σ H s) (hp : H p = none) : ω.H0 p = none := by
  cases q : ω.H0 p with
  | none => rfl
  | some o => rw [r.frm p o (r.pt.ne hp) q] at hp; cases hp
theorem Own.mono {F' H' : Hp} (h : Own K ω F H v d) (e : Ex F F') (k : ∀ a, v = .ref a → H a ≠ none → F a = none → H' a = H a ∧ F' a = none) : Own K ω F' H' v d := by
  cases d <;> first | exact h.elim | skip
  · obtain ⟨a, xs, h1, h2, h3, h4, h5, h6⟩ := h
    obtain ⟨k1, k2⟩ := k a h1 (by rw [h2]; exact fun z => nomatch z) h3
    exact ⟨a, xs, h1, by rw [k1]; exact h2, k2, h4, h5, h6.mono e⟩
  · obtain ⟨a, xs, h1, h2, h3, h4, h5, h6⟩ := h
    obtain ⟨k1, k2⟩ := k a h1 (by rw [h2]; exact fun z => nomatch z) h3
    exact ⟨a, xs, h1, by rw [k1]; exact h2, k2, h4, h5, h6.mono e⟩
/-- what an owned thing is -/
theorem Own.is (h : Own K ω F H v d) : ∃ a o, v = .ref a ∧ H a = some o ∧ F a = none ∧ ω.H0 a = none ∧ ω.P ≠ some a ∧ ((∃ ds xs, d = .lst ds ∧ o = .lst xs ∧ RpL K ω.P F ds xs) ∨ ∃ ds xs, d = .dic ds ∧ o = .dK xs ∧ RpK K ω.P F ds xs) := by
  cases d <;> first | exact h.elim | skip
  · obtain ⟨a, xs, h1, h2, h3, h4, h5, h6⟩ := h
    exact ⟨a, _, h1, h2, h3, h4, h5, .inl ⟨_, _, rfl, rfl, h6⟩⟩
  · obtain ⟨a, xs, h1, h2, h3, h4, h5, h6⟩ := h
    exact ⟨a, _, h1, h2, h3, h4, h5, .inr ⟨_, _, rfl, rfl, h6⟩⟩
theorem SlOk.mono {b : Bd} {x : Option (Option V)} (h : SlOk K ω F H x b) (e : Ex F F') (k : ∀ a, (∃ d, b = .own d) → x = some (some (.ref a)) → H a ≠ none → F a = none → H' a = H a ∧ F' a = none) : SlOk K ω F' H' x b := by
  cases b with
  | no => trivial
  | val d => obtain ⟨v, h1, h2⟩ := h; exact ⟨v, h1, h2.mono e⟩
  | own d => obtain ⟨v, h1, h2⟩ := h; exact ⟨v, h1, h2.mono e fun a ea => k a ⟨d, rfl⟩ (by rw [h1, ea])⟩
/-- a new object, known from now on -/
theorem Sr.alloc (r : Sr K ω F σ H s) (hp : H p = none) : Sr K ω (upd F p o) σ (upd H p o) s where
  len := r.len
  sub := r.sub.both
  frm a u hP h := by
    have := r.frm a u hP h
    rw [upd_ne (ne_of_none this hp)]; exact this
  new a u h := by
    by_cases q : a = p
    · subst q; exact .inr (r.h0 hp)
    · rw [upd_ne q] at h; exact r.new a u h
  pt := r.pt.ext (fun q e => upd_ne fun z => r.pt.ne hp (by rw [e, z])) (fun q e => upd_ne fun z => r.pt.ne hp (by rw [e, z]))
  sl i b h := (r.sl i b h).mono (Ex.new (r.sub.none hp)) fun a _ _ ha hF => by
    have : a ≠ p := fun z => ha (by rw [z]; exact hp)
    rw [upd_ne this, upd_ne this]; exact ⟨rfl, hF⟩
  dis := r.dis
/-- a new object, not known yet -/
theorem Sr.allocN (r : Sr K ω F σ H s) (hp : H p = none) : Sr K ω F σ (upd H p o) s where
  len := r.len
  sub := r.sub.updR (r.sub.none hp)
  frm a u hP h := by
    have := r.frm a u hP h
    rw [upd_ne (ne_of_none this hp)]; exact this
  new := r.new
  pt := r.pt.ext (fun q e => upd_ne fun z => r.pt.ne hp (by rw [e, z])) (fun q e => rfl)
  sl i b h := (r.sl i b h).mono (Ex.refl F) fun a _ _ ha hF => by
    have : a ≠ p := fun z => ha (by rw [z]; exact hp)
    rw [upd_ne this]; exact ⟨rfl, hF⟩
  dis := r.dis
theorem Sr.fresh_lst {ds : List D} {xs : List V} (r : Sr K ω F σ H s) (hp : H p = none) (h : RpL K ω.P F ds xs) : Fresh K ω F σ (upd H p (.lst xs)) s (.ref p) (.lst ds) := by
  refine ⟨⟨p, xs, rfl, upd_same, r.sub.none hp, r.h0 hp, r.pt.ne hp, h⟩, fun i e h1 h2 => ?_⟩
  obtain ⟨v, h3, h4⟩ := r.sl i _ h1
  obtain ⟨a, o, ea, ha, _⟩ := h4.is
  rw [h2] at h3; cases h3; cases ea
  rw [ha] at hp; cases hp
theorem Sr.fresh_dic {ds : List (Key × D)} {xs : List (Key × V)} (r : Sr K ω F σ H s) (hp : H p = none) (h : RpK K ω.P F ds xs) : Fresh K ω F σ (upd H p (.dK xs)) s (.ref p) (.dic ds) := by
  refine ⟨⟨p, xs, rfl, upd_same, r.sub.none hp, r.h0 hp, r.pt.ne hp, h⟩, fun i e h1 h2 => ?_⟩
  obtain ⟨v, h3, h4⟩ := r.sl i _ h1
  obtain ⟨a, o, ea, ha, _⟩ := h4.is
  rw [h2] at h3; cases h3; cases ea
  rw [ha] at hp; cases hp
/-- an object that nobody holds becomes known -/
theorem Sr.freeze (r : Sr K ω F σ H s) (h : Fresh K ω F σ H s v d) : ∃ F', Ex F F' ∧ Sr K ω F' σ H s ∧ Rp K ω.P F' d v := by
  obtain ⟨h, dis⟩ := h
  obtain ⟨a, o, ea, ha, hF, h0, hP, hd⟩ := h.is
  have e : Ex F (upd F a o) := Ex.new hF
  refine ⟨upd F a o, e, ⟨r.len, fun b u q => ?_, r.frm, fun b u q => ?_, r.pt.ext (fun _ _ => rfl) (fun q z => upd_ne fun y => hP (by rw [z, y])), fun i b q => (r.sl i b q).mono e fun c hc hx hH hFc => ?_, r.dis⟩, ?_⟩
  · by_cases z : b = a
    · subst z; rw [upd_same] at q; cases q; exact ha
    · rw [upd_ne z] at q; exact r.sub b u q
  · by_cases z : b = a
    · subst z; exact .inr h0
    · rw [upd_ne z] at q; exact r.new b u q
  · refine ⟨rfl, ?_⟩
    have : c ≠ a := fun z => by
      obtain ⟨d', rfl⟩ := hc
      exact dis i d' q (by rw [hx, ea, z])
    rw [upd_ne this]; exact hFc
  · rcases hd with ⟨ds, xs, rfl, rfl, h6⟩ | ⟨ds, xs, rfl, rfl, h6⟩
    · unfold Rp; exact ⟨a, xs, ea, upd_same, h6.mono e⟩
    · unfold Rp; exact ⟨a, xs, ea, Rd.of upd_same, h6.mono e⟩
theorem Sr.frz {b : Bool} (r : Sr K ω F σ H s) (h : RpR K ω F σ H s v d b) : ∃ F', Ex F F' ∧ Sr K ω F' σ H s ∧ Rp K ω.P F' d v := by
  cases b with
  | false => exact ⟨F, Ex.refl F, r, h⟩
  | true => exact r.freeze h
end

/-! ### readings of the combinators -/
abbrev SE := S → Option ((D × Bool) × S)
abbrev ST := S → Option (Bool × S)
abbrev SA := S → Option (List D × S)
inductive Fl where
  | nx | bk | ct | rt (d : D)
abbrev SS := S → Option (Fl × S)
abbrev SG := D → Bool → S → Option S
abbrev SI := S → Option (List D × S)
def Post (K : PySem.W.Frag) (ω : Wd) (F : Hp) (σ : L2.St) (s : S) (d : D) (b : Bool) (Q : VK) : Prop := ∀ v F' H', Ex F F' → Sr K ω F' σ H' s → RpR K ω F' σ H' s v d b → Q v H'
def rd (K : PySem.W.Frag) (e : SE) : TE := fun σ H Q => ∃ ω F s d b s', Sr K ω F σ H s ∧ e s = some ((d, b), s') ∧ Post K ω F σ s' d b Q
def rdT (K : PySem.W.Frag) (e : ST) : TT := fun σ H Q => ∃ ω F s b s', Sr K ω F σ H s ∧ e s = some (b, s') ∧ ∀ F' H', Ex F F' → Sr K ω F' σ H' s' → Q b H'
def rdA (K : PySem.W.Frag) (e : SA) : TA := fun σ H Q => ∃ ω F s ds s', Sr K ω F σ H s ∧ e s = some (ds, s') ∧ ∀ vs F' H', Ex F F' → Sr K ω F' σ H' s' → RpL K ω.P F' ds vs → Q vs H'
def EndOk (K : PySem.W.Frag) (ω : Wd) (F : Hp) (D : Ends) (s : S) : Fl → Prop
  | .nx => ∀ σ F' H', Ex F F' → Sr K ω F' σ H' s → D.nx σ H'
  | .bk => ∀ σ F' H', Ex F F' → Sr K ω F' σ H' s → D.bk σ H'
  | .ct => ∀ σ F' H', Ex F F' → Sr K ω F' σ H' s → D.ct σ H'
  | .rt d => ∀ v σ F' H', Ex F F' → Sr K ω F' σ H' s → Rp K ω.P F' d v → D.rt v H'
def rdS (K : PySem.W.Frag) (c : SS) : TS := fun D σ H => ∃ ω F s fl s', Sr K ω F σ H s ∧ c s = some (fl, s') ∧ EndOk K ω F D s' fl
theorem _root_.L2.PE.imp {X : Cx} {e : Expr} {t t' : TE} (h : PE X e t) (q : ∀ σ H Q, t' σ H Q → t σ H Q) : PE X e t' := ⟨fun pins s σ H Q I hw => h.run pins s σ H Q I (q σ H Q hw)⟩
theorem _root_.L2.PT.imp {X : Cx} {e : Expr} {t t' : TT} (h : PT X e t) (q : ∀ σ H Q, t' σ H Q → t σ H Q) : PT X e t' := ⟨fun pins s σ H Q I hw => h.run pins s σ H Q I (q σ H Q hw)⟩
theorem _root_.L2.PA.imp {X : Cx} {e : List Expr} {t t' : TA} (h : PA X e t) (q : ∀ σ H Q, t' σ H Q → t σ H Q) : PA X e t' := ⟨fun pos pins s σ H Q I hw => h.run pos pins s σ H Q I (q σ H Q hw)⟩
theorem _root_.L2.PS.imp {X : Cx} {e : Stmt} {t t' : TS} (h : PS X e t) (q : ∀ D σ H, t' D σ H → t D σ H) : PS X e t' := ⟨fun pins s σ H D I hw => h.run pins s σ H D I (q D σ H hw)⟩
theorem _root_.L2.PSs.imp {X : Cx} {e : List Stmt} {t t' : TS} (h : PSs X e t) (q : ∀ D σ H, t' D σ H → t D σ H) : PSs X e t' := ⟨fun pins s σ H D I hw => h.run pins s σ H D I (q D σ H hw)⟩
section
variable {K : PySem.W.Frag} {ω : Wd} {F F' : Hp} {σ : L2.St} {H H' : Hp} {s s' : S} {v : V} {d : D} {b : Bool}
theorem Post.mono {Q : VK} (h : Post K ω F σ s d b Q) (e : Ex F F') : Post K ω F' σ s d b Q := fun v F2 H2 e2 => h v F2 H2 (e.trans e2)
/-- a part is run; what it gives is known from then on -/
theorem rd_use {e : SE} {R : VK} (r : Sr K ω F σ H s) (h : e s = some ((d, b), s')) (q : ∀ v F' H', Ex F F' → Sr K ω F' σ H' s' → Rp K ω.P F' d v → R v H') : rd K e σ H R :=
  ⟨ω, F, s, d, b, s', r, h, fun v F1 H1 e1 r1 x => by
    obtain ⟨F2, e2, r2, y⟩ := r1.frz x
    exact q v F2 H1 (e1.trans e2) r2 y⟩
end
end Rb

namespace Rb
open PySem PySem.Spec PyProof.Rows L2

section
variable {K : PySem.W.Frag} {ω : Wd} {F F' : Hp} {σ : L2.St} {H H' : Hp} {s s' : S} {v u : V} {d x y z : D} {b : Bool} {Q : VK}
theorem Sr.here (r : Sr K ω F σ H s) (h : RpR K ω F σ H s v d b) (q : Post K ω F σ s d b Q) : Q v H := q v F H (Ex.refl F) r h
theorem Sr.newT {ds : List D} {xs : List V} {p : Addr} (r : Sr K ω F σ H s) (hp : H p = none) (h : RpL K ω.P F ds xs) (q : Post K ω F σ s (.tup ds) false Q) : Q (.ref p) (upd H p (.tup xs)) :=
  q _ (upd F p (.tup xs)) _ (Ex.new (r.sub.none hp)) (r.alloc hp) (by
    show Rp _ _ _ _ _
    unfold Rp
    exact ⟨p, xs, rfl, SqT.of upd_same, h.mono (Ex.new (r.sub.none hp))⟩)
theorem Sr.newL {ds : List D} {xs : List V} {p : Addr} (r : Sr K ω F σ H s) (hp : H p = none) (h : RpL K ω.P F ds xs) (q : Post K ω F σ s (.lst ds) true Q) : Q (.ref p) (upd H p (.lst xs)) :=
  q _ F _ (Ex.refl F) (r.allocN hp) (r.fresh_lst hp h)
theorem Sr.newD {ds : List (Key × D)} {xs : List (Key × V)} {p : Addr} (r : Sr K ω F σ H s) (hp : H p = none) (h : RpK K ω.P F ds xs) (q : Post K ω F σ s (.dic ds) true Q) : Q (.ref p) (upd H p (.dK xs)) :=
  q _ F _ (Ex.refl F) (r.allocN hp) (r.fresh_dic hp h)
end

/-! ### constants, names -/
def cD (d : D) : SE := fun s => some ((d, false), s)
def cVar (i : Nat) : SE := fun s => match s.r[i]? with
  | some (.val d) => some ((d, false), s)
  | some (.own d) => some ((d, false), { s with r := s.r.set i (.val d) })
  | _ => none
section
variable {X : Cx}
theorem p_c {e : Expr} {v : V} {d : D} (h : PE X e (tC v)) (q : ∀ P F, Rp X.K P F d v) : PE X e (rd X.K (cD d)) :=
  h.imp fun σ H Q ⟨ω, F, s, d', b, s', r, e, p⟩ => by
    cases e
    exact r.here (b := false) (q _ F) p
theorem p_int {i : Int} {j pos} : PE X (.Constant (.int i) j pos) (rd X.K (cD (.int i))) := p_c pe_int fun _ _ => by unfold Rp; rfl
theorem p_bl {i : Bool} {j pos} : PE X (.Constant (.bool i) j pos) (rd X.K (cD (.bl i))) := p_c pe_bl fun _ _ => by unfold Rp; rfl
theorem p_non {j pos} : PE X (.Constant .none j pos) (rd X.K (cD .non)) := p_c pe_non fun _ _ => by unfold Rp; rfl
theorem p_str {x : Str} {j pos} : PE X (.Constant (.str x) j pos) (rd X.K (cD (.str x))) := p_c pe_str fun _ _ => by unfold Rp; rfl
/-- the slot i becomes known -/
theorem Sr.frzSlot {K : PySem.W.Frag} {ω : Wd} {F : Hp} {σ : L2.St} {H : Hp} {s : S} {i : Nat} {d : D} (r : Sr K ω F σ H s) (h : s.r[i]? = some (.own d)) :
    ∃ F' v, Ex F F' ∧ σ[i]? = some (some v) ∧ Sr K ω F' σ H { s with r := s.r.set i (.val d) } ∧ Rp K ω.P F' d v := by
  obtain ⟨v, hv, ho⟩ := r.sl i _ h
  have hi : i < s.r.length := by
    rcases Nat.lt_or_ge i s.r.length with q | q
    · exact q
    · rw [List.getElem?_eq_none q] at h; cases h
  -- the slot is first forgotten
  have r0 : Sr K ω F σ H { s with r := s.r.set i .no } := ⟨by rw [r.len]; simp, r.sub, r.frm, r.new, r.pt, fun j b e => by
      by_cases q : i = j
      · subst q
        have e : (s.r.set i .no)[i]? = some b := e
        rw [List.getElem?_set_self hi] at e; cases e; trivial
      · have e : (s.r.set i .no)[j]? = some b := e
        rw [List.getElem?_set_ne q] at e; exact r.sl j b e, fun j k d1 d2 w hjk h1 h2 => by
      have h1 : (s.r.set i .no)[j]? = some (.own d1) := h1
      have h2 : (s.r.set i .no)[k]? = some (.own d2) := h2
      rw [List.getElem?_set] at h1 h2
      split at h1
      · first | cases h1 | (split at h1 <;> cases h1)
      · split at h2
        · first | cases h2 | (split at h2 <;> cases h2)
        · exact r.dis j k d1 d2 w hjk h1 h2⟩
  have f : Fresh K ω F σ H { s with r := s.r.set i .no } v d := ⟨ho, fun j e h1 h2 => by
    have h1 : (s.r.set i .no)[j]? = some (.own e) := h1
    rw [List.getElem?_set] at h1
    split at h1
    · first | cases h1 | (split at h1 <;> cases h1)
    · rename_i hij
      exact r.dis i j d e v hij h h1 hv h2⟩
  obtain ⟨F', e, r1, hp⟩ := r0.freeze f
  refine ⟨F', v, e, hv, ⟨by rw [r1.len]; simp, r1.sub, r1.frm, r1.new, r1.pt, fun j b q => ?_, fun j k d1 d2 w hjk h1 h2 => ?_⟩, hp⟩
  · have q : (s.r.set i (.val d))[j]? = some b := q
    by_cases z : i = j
    · subst z
      rw [List.getElem?_set_self hi] at q; cases q
      exact ⟨v, hv, hp⟩
    · rw [List.getElem?_set_ne z] at q
      exact r1.sl j b (by show (s.r.set i .no)[j]? = some b; rw [List.getElem?_set_ne z]; exact q)
  · have h1 : (s.r.set i (.val d))[j]? = some (.own d1) := h1
    have h2 : (s.r.set i (.val d))[k]? = some (.own d2) := h2
    rw [List.getElem?_set] at h1 h2
    split at h1
    · first | cases h1 | (split at h1 <;> cases h1)
    · split at h2
      · first | cases h2 | (split at h2 <;> cases h2)
      · exact r.dis j k d1 d2 w hjk h1 h2
theorem p_var (i : Nat) {x : Str} {pos : Pos} (h : PE X (.Name x pos) (tVar i)) : PE X (.Name x pos) (rd X.K (cVar i)) :=
  h.imp fun σ H Q ⟨ω, F, s, d', b, s', r, e, p⟩ => by
    unfold cVar at e
    split at e
    · rename_i d hd
      cases e
      obtain ⟨v, hv, hr⟩ := r.sl i _ hd
      exact ⟨v, hv, r.here (b := false) hr p⟩
    · rename_i d hd
      cases e
      obtain ⟨F', v, e1, hv, r1, hr⟩ := r.frzSlot hd
      exact ⟨v, hv, p v F' H e1 r1 hr⟩
    · cases e
end

/-! ### operators -/
def cBin (op : D → D → Option (D × Bool)) (a b : SE) : SE := fun s => (a s).bind fun p => (b p.2).bind fun q => (op p.1.1 q.1.1).map fun z => (z, q.2)
def cUn (op : D → Option (D × Bool)) (a : SE) : SE := fun s => (a s).bind fun p => (op p.1.1).map fun z => (z, p.2)
def BinOk (K : PySem.W.Frag) (op : D → D → Option (D × Bool)) (r : R2) : Prop := ∀ (ω : Wd) (F : Hp) (σ : L2.St) (H : Hp) (s : S) (x y z : D) (b : Bool) (v u : V) (Q : VK), Sr K ω F σ H s → Rp K ω.P F x v → Rp K ω.P F y u → op x y = some (z, b) → Post K ω F σ s z b Q → r v u H Q
def UnOk (K : PySem.W.Frag) (op : D → Option (D × Bool)) (r : V → Hp → VK → Prop) : Prop := ∀ (ω : Wd) (F : Hp) (σ : L2.St) (H : Hp) (s : S) (x z : D) (b : Bool) (v : V) (Q : VK), Sr K ω F σ H s → Rp K ω.P F x v → op x = some (z, b) → Post K ω F σ s z b Q → r v H Q
theorem bin_use {K : PySem.W.Frag} {op : D → D → Option (D × Bool)} {r : R2} (h : BinOk K op r) {ea eb : SE} {σ : L2.St} {H : Hp} {Q : VK} (hw : rd K (cBin op ea eb) σ H Q) : tOp r (rd K ea) (rd K eb) σ H Q := by
  obtain ⟨ω, F, s, d, b, s', sr, e, p⟩ := hw
  unfold cBin at e
  cases e1 : ea s with
  | none => rw [e1] at e; cases e
  | some p1 =>
    obtain ⟨⟨d1, b1⟩, s1⟩ := p1
    rw [e1] at e
    simp only [Option.bind_some] at e
    cases e2 : eb s1 with
    | none => rw [e2] at e; cases e
    | some p2 =>
      obtain ⟨⟨d2, b2⟩, s2⟩ := p2
      rw [e2] at e
      simp only [Option.bind_some] at e
      cases e3 : op d1 d2 with
      | none => rw [e3] at e; cases e
      | some p3 =>
        obtain ⟨z, b3⟩ := p3
        rw [e3] at e
        cases e
        refine rd_use sr e1 fun v F1 H1 x1 r1 hv => ?_
        refine rd_use r1 e2 fun u F2 H2 x2 r2 hu => ?_
        exact h ω F2 σ H2 _ d1 d2 d b v u Q r2 (hv.mono x2) hu e3 (p.mono (x1.trans x2))
theorem un_use {K : PySem.W.Frag} {op : D → Option (D × Bool)} {r : V → Hp → VK → Prop} (h : UnOk K op r) {ea : SE} {σ : L2.St} {H : Hp} {Q : VK} (hw : rd K (cUn op ea) σ H Q) : tUn r (rd K ea) σ H Q := by
  obtain ⟨ω, F, s, d, b, s', sr, e, p⟩ := hw
  unfold cUn at e
  cases e1 : ea s with
  | none => rw [e1] at e; cases e
  | some p1 =>
    obtain ⟨⟨d1, b1⟩, s1⟩ := p1
    rw [e1] at e
    simp only [Option.bind_some] at e
    cases e3 : op d1 with
    | none => rw [e3] at e; cases e
    | some p3 =>
      obtain ⟨z, b3⟩ := p3
      rw [e3] at e
      cases e
      refine rd_use sr e1 fun v F1 H1 x1 r1 hv => ?_
      exact h ω F1 σ H1 _ d1 d b v Q r1 hv e3 (p.mono x1)
section
variable {X : Cx}
theorem p_bin {op : Operator} {f : D → D → Option (D × Bool)} {r : R2} {a b : Expr} {ea eb : SE} {pos : Pos} (ho : OpR X (binaryOp op) r) (h : BinOk X.K f r) (ha : PE X a (rd X.K ea)) (hb : PE X b (rd X.K eb)) : PE X (.BinOp a op b pos) (rd X.K (cBin f ea eb)) :=
  (pe_op ho ha hb).imp fun _ _ _ => bin_use h
theorem p_cmp {op : CmpOp} {f : D → D → Option (D × Bool)} {r : R2} {a b : Expr} {ea eb : SE} {pos : Pos} (ho : OpR X (compareOp op) r) (h : BinOk X.K f r) (ha : PE X a (rd X.K ea)) (hb : PE X b (rd X.K eb)) (hm : behindInMarks op b = false) : PE X (.Compare a [op] [b] pos) (rd X.K (cBin f ea eb)) :=
  (pe_cmpR ho ha hb hm).imp fun _ _ _ => bin_use h
theorem p_un {op : UnaryOp} {f : D → Option (D × Bool)} {r : V → Hp → VK → Prop} {a : Expr} {ea : SE} {pos : Pos} (ho : UnR X (unaryOp op) r) (h : UnOk X.K f r) (ha : PE X a (rd X.K ea)) : PE X (.UnaryOp op a pos) (rd X.K (cUn f ea)) :=
  (pe_un ho ha).imp fun _ _ _ => un_use h
end
theorem BinOk.or {K : PySem.W.Frag} {f g : D → D → Option (D × Bool)} {r r' : R2} (h : BinOk K f r) (h' : BinOk K g r') : BinOk K (fun x y => match f x y with | some z => some z | none => g x y) (fun x y H Q => r x y H Q ∨ r' x y H Q) :=
  fun ω F σ H s x y z b v u Q sr hx hy e p => by
    cases q : f x y with
    | some w => simp only [q] at e; cases e; exact .inl (h ω F σ H s x y z b v u Q sr hx hy q p)
    | none => simp only [q] at e; exact .inr (h' ω F σ H s x y z b v u Q sr hx hy e p)
def szOk (n : Nat) : Bool := decide (n ≤ 16777216)
theorem szOk_le {n : Nat} (h : szOk n = true) : n ≤ sizeLine := by rw [sizeLine_eq]; exact of_decide_eq_true h
/-! + -/
def dAdd : D → D → Option (D × Bool)
  | .int i, .int j => some (.int (i + j), false)
  | .str x, .str y => if szOk (x.length + y.length) then some (.str (x ++ y), false) else none
  | .lst x, .lst y => if szOk (x.length + y.length) then some (.lst (x ++ y), true) else none
  | .tup x, .tup y => if szOk (x.length + y.length) then some (.tup (x ++ y), false) else none
  | _, _ => none
def rAddAll (K : PySem.W.Frag) : R2 := fun x y H Q => rI0 (fun i j => .int (i + j)) x y H Q ∨ (∃ i j, x = .str i ∧ y = .str j ∧ i.length + j.length ≤ sizeLine ∧ Q (.str (i ++ j)) H) ∨ rCat x y H Q ∨ rCatA K x y H Q
theorem op_addAll {X : Cx} : OpR X (binaryOp .Add) (rAddAll X.K) := op_add.or (op_add_str.or (op_cat.or op_catA))
theorem ok_add {K : PySem.W.Frag} : BinOk K dAdd (rAddAll K) := fun ω F σ H s x y z b v u Q sr hx hy e p => by
  unfold dAdd at e
  split at e
  · cases e
    unfold Rp at hx hy; subst hx hy
    exact .inl ⟨_, _, rfl, rfl, sr.here (b := false) (by show Rp _ _ _ _ _; unfold Rp; rfl) p⟩
  · split at e
    · rename_i hz
      cases e
      unfold Rp at hx hy; subst hx hy
      exact .inr (.inl ⟨_, _, rfl, rfl, szOk_le hz, sr.here (b := false) (by show Rp _ _ _ _ _; unfold Rp; rfl) p⟩)
    · cases e
  · split at e
    · rename_i hz
      cases e
      unfold Rp at hx hy
      obtain ⟨a, xs, rfl, h1, h2⟩ := hx
      obtain ⟨c, ys, rfl, h3, h4⟩ := hy
      refine .inr (.inr (.inl ⟨a, c, xs, ys, rfl, rfl, sr.sub _ _ h1, sr.sub _ _ h3, by rw [h2.len, h4.len]; exact szOk_le hz, fun q hq => sr.newL hq (h2.app h4) p⟩))
    · cases e
  · split at e
    · rename_i hz
      cases e
      unfold Rp at hx hy
      obtain ⟨a, xs, rfl, h1, h2⟩ := hx
      obtain ⟨c, ys, rfl, h3, h4⟩ := hy
      refine .inr (.inr (.inr ⟨a, c, xs, ys, rfl, rfl, sqt_mono sr.sub h1, sqt_mono sr.sub h3, by rw [h2.len, h4.len]; exact szOk_le hz, fun q => ?_, fun _ q => ?_, fun _ _ q hq => sr.newT hq (h2.app h4) p⟩))
      · subst q
        have h2 := h2.app h4
        rw [List.nil_append] at h2
        exact sr.here (b := false) (by show Rp _ _ _ _ _; unfold Rp; exact ⟨c, ys, rfl, h3, h2⟩) p
      · subst q
        have h2 := h2.app h4
        rw [List.append_nil] at h2
        exact sr.here (b := false) (by show Rp _ _ _ _ _; unfold Rp; exact ⟨a, xs, rfl, h1, h2⟩) p
    · cases e
  · cases e
/-! ints -/
def dI2 (C : Int → Int → Bool) (g : Int → Int → Int) : D → D → Option (D × Bool)
  | .int i, .int j => if C i j then some (.int (g i j), false) else none
  | _, _ => none
theorem ok_I {K : PySem.W.Frag} {C : Int → Int → Bool} {C' : Int → Int → Prop} {g g' : Int → Int → Int} (hc : ∀ i j, C i j = true → C' i j) (hg : ∀ i j, C i j = true → g i j = g' i j) : BinOk K (dI2 C g) (rI C' fun i j => .int (g' i j)) := fun ω F σ H s x y z b v u Q sr hx hy e p => by
  unfold dI2 at e
  split at e
  · split at e
    · rename_i h
      cases e
      unfold Rp at hx hy; subst hx hy
      refine ⟨_, _, rfl, rfl, hc _ _ h, sr.here (b := false) (by show Rp _ _ _ _ _; unfold Rp; rw [hg _ _ h]) p⟩
    · cases e
  · cases e
theorem ok_I0 {K : PySem.W.Frag} {g : Int → Int → Int} : BinOk K (dI2 (fun _ _ => true) g) (rI0 fun i j => .int (g i j)) := fun ω F σ H s x y z b v u Q sr hx hy e p => by
  unfold dI2 at e
  split at e
  · split at e
    · cases e
      unfold Rp at hx hy; subst hx hy
      exact ⟨_, _, rfl, rfl, sr.here (b := false) (by show Rp _ _ _ _ _; unfold Rp; rfl) p⟩
    · cases e
  · cases e
def dB2 (g : Int → Int → Bool) : D → D → Option (D × Bool)
  | .int i, .int j => some (.bl (g i j), false)
  | _, _ => none
theorem ok_B0 {K : PySem.W.Frag} {g : Int → Int → Bool} : BinOk K (dB2 g) (rI0 fun i j => .bl (g i j)) := fun ω F σ H s x y z b v u Q sr hx hy e p => by
  unfold dB2 at e
  split at e
  · cases e
    unfold Rp at hx hy; subst hx hy
    exact ⟨_, _, rfl, rfl, sr.here (b := false) (by show Rp _ _ _ _ _; unfold Rp; rfl) p⟩
  · cases e
def mulC (i j : Int) : Bool := decide (i.natAbs.log2 + j.natAbs.log2 < 1000000)
def divC (_ j : Int) : Bool := decide (0 < j ∧ j.natAbs.log2 < 9000)
def modC (_ j : Int) : Bool := decide (0 < j)
def powC (i j : Int) : Bool := decide (0 ≤ j ∧ j ≤ 1000000 ∧ i.natAbs < 2 ^ 64)
def dSub := dI2 (fun _ _ => true) fun i j => i - j
def dDiv := dI2 divC fun i j => i / j
def dMod := dI2 modC fun i j => i % j
def dPow := dI2 powC fun i j => i ^ j.toNat
def dMulI := dI2 mulC fun i j => i * j
section
variable {X : Cx}
theorem ok_sub : BinOk X.K dSub (rI0 fun i j => .int (i - j)) := ok_I0
theorem ok_div : BinOk X.K dDiv (rI CDivW fun i j => .int (i / j)) := ok_I (fun _ _ h => by simpa [divC, modC, powC, mulC, CDivW, CPow, CMulW] using h) fun _ _ _ => rfl
theorem ok_mod : BinOk X.K dMod (rI (fun _ j => 0 < j) fun i j => .int (i % j)) := ok_I (fun _ _ h => by simpa [divC, modC, powC, mulC, CDivW, CPow, CMulW] using h) fun _ _ _ => rfl
theorem ok_pow : BinOk X.K dPow (rI CPow fun i j => .int (i ^ j.toNat)) := ok_I (fun _ _ h => by simpa [divC, modC, powC, mulC, CDivW, CPow, CMulW] using h) fun _ _ _ => rfl
theorem ok_mulI : BinOk X.K dMulI (rI CMulW fun i j => .int (i * j)) := ok_I (fun _ _ h => by simpa [divC, modC, powC, mulC, CDivW, CPow, CMulW] using h) fun _ _ _ => rfl
end
/-! * of lists and tuples by a number -/
def dRep : D → D → Option (D × Bool)
  | .lst x, .int k => if inR 9223372036854775807 k && szOk (x.length * k.toNat) then some (.lst (List.replicate k.toNat x).flatten, true) else none
  | .tup x, .int k => if decide (2 ≤ k ∧ k ≤ 1000 ∧ 1 ≤ x.length ∧ x.length ≤ 1000) then some (.tup (List.replicate k.toNat x).flatten, false) else if decide (k = 1 ∧ False) then some (.tup x, false) else none
  | _, _ => none
theorem RpL.rep {K : PySem.W.Frag} {P : Option Addr} {F : Hp} {ds : List D} {xs : List V} (h : RpL K P F ds xs) : ∀ k : Nat, RpL K P F (List.replicate k ds).flatten (List.replicate k xs).flatten
  | 0 => .nil
  | k + 1 => by
    rw [List.replicate_succ, List.flatten_cons, List.replicate_succ, List.flatten_cons]
    exact h.app (RpL.rep h k)
end Rb

namespace Rb
open PySem PySem.Spec PyProof.Rows L2

/-! ### equality of plain data -/
mutual
def D.py : D → PyData
  | .non => .none | .bl b => .bool b | .int i => .int i | .str x => .str x
  | .tup ds => .tuple (D.pyL ds) | .lst ds => .list (D.pyL ds) | .dic _ => .none | .pot => .none | .scr _ => .none
def D.pyL : List D → List PyData
  | [] => []
  | d :: ds => d.py :: D.pyL ds
end
mutual
/-- data that may be compared: n deep -/
def D.sh : Nat → D → Bool
  | _, .non => true | _, .bl _ => true | _, .int _ => true | _, .str x => PyData.canLay0 (.str x)
  | 0, .tup _ => false | 0, .lst _ => false
  | n + 1, .tup ds => D.shL n ds | n + 1, .lst ds => D.shL n ds | _, .dic _ => false | _, .pot => false | _, .scr _ => false
def D.shL : Nat → List D → Bool
  | _, [] => true
  | n, d :: ds => D.sh n d && D.shL n ds
end
mutual
theorem D.sh_lay : ∀ (n : Nat) (d : D), D.sh n d = true → d.py.canLay0 = true ∧ d.py.depth ≤ n
  | n, .non, _ => by simp [D.py, PyData.canLay0, PyData.depth]
  | n, .bl b, _ => by simp [D.py, PyData.canLay0, PyData.depth]
  | n, .int b, _ => by simp [D.py, PyData.canLay0, PyData.depth]
  | n, .str b, h => by simpa [D.py, PyData.canLay0, PyData.depth, D.sh] using h
  | 0, .tup ds, h => by simp [D.sh] at h
  | 0, .lst ds, h => by simp [D.sh] at h
  | n + 1, .tup ds, h => by
    have := D.shL_lay n ds (by simpa [D.sh] using h)
    simpa [D.py, PyData.canLay0, PyData.depth] using this
  | n + 1, .lst ds, h => by
    have := D.shL_lay n ds (by simpa [D.sh] using h)
    simpa [D.py, PyData.canLay0, PyData.depth] using this
  | n, .dic _, h => by cases n <;> simp [D.sh] at h
  | n, .pot, h => by cases n <;> simp [D.sh] at h
  | n, .scr _, h => by cases n <;> simp [D.sh] at h
theorem D.shL_lay : ∀ (n : Nat) (ds : List D), D.shL n ds = true → PyData.canLayAll0 (D.pyL ds) = true ∧ PyData.depthAll (D.pyL ds) ≤ n
  | n, [], _ => by simp [D.pyL, PyData.canLayAll0, PyData.depthAll]
  | n, d :: ds, h => by
    simp only [D.shL, Bool.and_eq_true] at h
    have h1 := D.sh_lay n d h.1
    have h2 := D.shL_lay n ds h.2
    simp only [D.pyL, PyData.canLayAll0, PyData.depthAll, Bool.and_eq_true]
    exact ⟨⟨h1.1, h2.1⟩, by omega⟩
end
section
variable {K : PySem.W.Frag} {P : Option Addr} {F H : Hp}
mutual
theorem Rp.dp (e : Ex F H) : ∀ (n : Nat) (d : D) (v : V), Rp K P F d v → D.sh n d = true → Dp K H v d.py
  | n, .non, v, h, _ => by unfold Rp at h; subst h; unfold D.py; exact .non
  | n, .bl b, v, h, _ => by unfold Rp at h; subst h; unfold D.py; exact .bl b
  | n, .int b, v, h, _ => by unfold Rp at h; subst h; unfold D.py; exact .int b
  | n, .str b, v, h, _ => by unfold Rp at h; subst h; unfold D.py; exact .str b
  | 0, .tup ds, v, h, q => by simp [D.sh] at q
  | 0, .lst ds, v, h, q => by simp [D.sh] at q
  | n + 1, .tup ds, v, h, q => by
    unfold Rp at h
    obtain ⟨a, xs, rfl, h1, h2⟩ := h
    unfold D.py
    exact .tup (sqt_mono e h1) (RpL.dp e n ds xs h2 (by simpa [D.sh] using q))
  | n + 1, .lst ds, v, h, q => by
    unfold Rp at h
    obtain ⟨a, xs, rfl, h1, h2⟩ := h
    unfold D.py
    exact .lst (SqL.of (e _ _ h1)) (RpL.dp e n ds xs h2 (by simpa [D.sh] using q))
  | n, .dic _, v, h, q => by cases n <;> simp [D.sh] at q
  | n, .pot, v, h, q => by cases n <;> simp [D.sh] at q
  | n, .scr _, v, h, q => by cases n <;> simp [D.sh] at q
theorem RpL.dp (e : Ex F H) : ∀ (n : Nat) (ds : List D) (xs : List V), RpL K P F ds xs → D.shL n ds = true → DpAll K H xs (D.pyL ds)
  | n, [], xs, h, _ => by unfold RpL at h; subst h; unfold D.pyL; exact .nil
  | n, d :: ds, xs, h, q => by
    unfold RpL at h
    obtain ⟨x, r, rfl, h1, h2⟩ := h
    simp only [D.shL, Bool.and_eq_true] at q
    unfold D.pyL
    exact .cons (Rp.dp e n d x h1 q.1) (RpL.dp e n ds r h2 q.2)
end
end
def eqB (x y : D) : Bool := PyData.eqv x.py y.py
def dEq (x y : D) : Option (D × Bool) := if D.sh 64 x && D.sh 64 y then some (.bl (eqB x y), false) else none
def dNe (x y : D) : Option (D × Bool) := if D.sh 64 x && D.sh 64 y then some (.bl (!eqB x y), false) else none
theorem ok_eq {K : PySem.W.Frag} : BinOk K dEq (rEqD K) := fun ω F σ H s x y z b v u Q sr hx hy e p => by
  unfold dEq at e
  split at e
  · rename_i h
    simp only [Bool.and_eq_true] at h
    cases e
    have h1 := D.sh_lay _ _ h.1
    have h2 := D.sh_lay _ _ h.2
    refine ⟨x.py, y.py, Rp.dp sr.sub _ _ _ hx h.1, Rp.dp sr.sub _ _ _ hy h.2, ?_, ?_, sr.here (b := false) (by show Rp _ _ _ _ _; unfold Rp; rfl) p⟩
    · unfold SeqAt.shaped; rw [h1.1, decide_eq_true h1.2]; rfl
    · unfold SeqAt.shaped; rw [h2.1, decide_eq_true h2.2]; rfl
  · cases e
theorem ok_ne {K : PySem.W.Frag} : BinOk K dNe (rNeD K) := fun ω F σ H s x y z b v u Q sr hx hy e p => by
  unfold dNe at e
  split at e
  · rename_i h
    simp only [Bool.and_eq_true] at h
    cases e
    have h1 := D.sh_lay _ _ h.1
    have h2 := D.sh_lay _ _ h.2
    refine ⟨x.py, y.py, Rp.dp sr.sub _ _ _ hx h.1, Rp.dp sr.sub _ _ _ hy h.2, ?_, ?_, sr.here (b := false) (by show Rp _ _ _ _ _; unfold Rp; rfl) p⟩
    · unfold SeqAt.shaped; rw [h1.1, decide_eq_true h1.2]; rfl
    · unfold SeqAt.shaped; rw [h2.1, decide_eq_true h2.2]; rfl
  · cases e
def dLt := dB2 fun i j => decide (i < j)
def dLe := dB2 fun i j => decide (i ≤ j)
def dGt := dB2 fun i j => decide (j < i)
def dGe := dB2 fun i j => decide (j ≤ i)
/-! is None, is True .. -/
def dIsN : D → D → Option (D × Bool)
  | x, .non => match x with
    | .pot => none
    | .non => some (.bl true, false)
    | _ => some (.bl false, false)
  | .bl a, .bl b => some (.bl (decide (a = b)), false)
  | _, _ => none
def dNotN : D → D → Option (D × Bool)
  | x, .non => match x with
    | .pot => none
    | .non => some (.bl false, false)
    | _ => some (.bl true, false)
  | .bl a, .bl b => some (.bl (!decide (a = b)), false)
  | _, _ => none
def rIsA : R2 := fun x y H Q => (y = .non ∧ Q (.bl (decide (x = .non))) H) ∨ rIsB x y H Q
def rNotA : R2 := fun x y H Q => (y = .non ∧ Q (.bl (!decide (x = .non))) H) ∨ rNotB x y H Q
theorem op_isA {X : Cx} : OpR X (compareOp .Is) rIsA := op_isN.or op_isBl
theorem op_notA {X : Cx} : OpR X (compareOp .IsNot) rNotA := op_notN.or op_notBl
theorem Rp.isNon {K : PySem.W.Frag} {P : Option Addr} {F : Hp} {d : D} {v : V} (h : Rp K P F d v) : v = .non ↔ d = .non := by
  cases d <;> unfold Rp at h
  case non => simp [h]
  case bl => simp [h]
  case int => simp [h]
  case str => simp [h]
  case tup => obtain ⟨a, xs, rfl, _⟩ := h; simp
  case lst => obtain ⟨a, xs, rfl, _⟩ := h; simp
  case dic => obtain ⟨a, xs, rfl, _⟩ := h; simp
  case pot => obtain ⟨a, _, rfl⟩ := h; simp
  case scr => obtain ⟨a, rfl, _⟩ := h; simp
theorem ok_is {K : PySem.W.Frag} : BinOk K dIsN rIsA := fun ω F σ H s x y z b v u Q sr hx hy e p => by
  cases y
  case non =>
    have hu : u = .non := hy.isNon.mpr rfl
    subst hu
    refine .inl ⟨rfl, ?_⟩
    cases x <;> simp only [dIsN] at e <;> cases e
    case non =>
      have hv : v = .non := hx.isNon.mpr rfl
      exact sr.here (b := false) (by show Rp _ _ _ _ _; unfold Rp; rw [hv]; rfl) p
    all_goals
      have hv : ¬ v = .non := fun q => nomatch hx.isNon.mp q
      exact sr.here (b := false) (by show Rp _ _ _ _ _; unfold Rp; rw [decide_eq_false hv]) p
  case bl =>
    cases x <;> simp only [dIsN] at e <;> cases e
    unfold Rp at hx hy
    subst hx hy
    exact .inr ⟨_, _, rfl, rfl, sr.here (b := false) (by show Rp _ _ _ _ _; unfold Rp; rfl) p⟩
  all_goals (cases x <;> simp only [dIsN] at e <;> cases e)
theorem ok_not {K : PySem.W.Frag} : BinOk K dNotN rNotA := fun ω F σ H s x y z b v u Q sr hx hy e p => by
  cases y
  case non =>
    have hu : u = .non := hy.isNon.mpr rfl
    subst hu
    refine .inl ⟨rfl, ?_⟩
    cases x <;> simp only [dNotN] at e <;> cases e
    case non =>
      have hv : v = .non := hx.isNon.mpr rfl
      exact sr.here (b := false) (by show Rp _ _ _ _ _; unfold Rp; rw [hv]; rfl) p
    all_goals
      have hv : ¬ v = .non := fun q => nomatch hx.isNon.mp q
      exact sr.here (b := false) (by show Rp _ _ _ _ _; unfold Rp; rw [decide_eq_false hv]; rfl) p
  case bl =>
    cases x <;> simp only [dNotN] at e <;> cases e
    unfold Rp at hx hy
    subst hx hy
    exact .inr ⟨_, _, rfl, rfl, sr.here (b := false) (by show Rp _ _ _ _ _; unfold Rp; rfl) p⟩
  all_goals (cases x <;> simp only [dNotN] at e <;> cases e)
/-! unary -/
def dNeg : D → Option (D × Bool)
  | .int i => some (.int (-i), false)
  | _ => none
theorem ok_neg {K : PySem.W.Frag} : UnOk K dNeg (rU fun i => .int (-i)) := fun ω F σ H s x z b v Q sr hx e p => by
  unfold dNeg at e
  split at e
  · cases e
    unfold Rp at hx; subst hx
    exact ⟨_, rfl, sr.here (b := false) (by show Rp _ _ _ _ _; unfold Rp; rfl) p⟩
  · cases e

/-! ### tests -/
def bT (e : SE) : ST := fun s => (e s).bind fun p => match p.1.1 with
  | .bl b => some (b, p.2)
  | _ => none
def bAnd (a b : ST) : ST := fun s => (a s).bind fun p => if p.1 then b p.2 else some (false, p.2)
def bOr (a b : ST) : ST := fun s => (a s).bind fun p => if p.1 then some (true, p.2) else b p.2
def bNot (a : ST) : ST := fun s => (a s).map fun p => (!p.1, p.2)
def cOfT (t : ST) : SE := fun s => (t s).map fun p => ((.bl p.1, false), p.2)
def cIte (t : ST) (a b : SE) : SE := fun s => (t s).bind fun p => if p.1 then a p.2 else b p.2
section
variable {K : PySem.W.Frag} {ω : Wd} {F F' : Hp} {σ : L2.St} {H H' : Hp} {s s' : S}
theorem rdT_use {e : ST} {b : Bool} {R : Bool → Hp → Prop} (r : Sr K ω F σ H s) (h : e s = some (b, s')) (q : ∀ F' H', Ex F F' → Sr K ω F' σ H' s' → R b H') : rdT K e σ H R := ⟨ω, F, s, b, s', r, h, q⟩
theorem bT_use {e : SE} {Q : Bool → Hp → Prop} (hw : rdT K (bT e) σ H Q) : rd K e σ H (fun x H1 => ∃ c, x = .bl c ∧ Q c H1) := by
  obtain ⟨ω, F, s, b, s', sr, h, p⟩ := hw
  unfold bT at h
  cases e1 : e s with
  | none => rw [e1] at h; cases h
  | some p1 =>
    obtain ⟨⟨d1, b1⟩, s1⟩ := p1
    rw [e1] at h
    simp only [Option.bind_some] at h
    cases d1 <;> cases h
    refine rd_use sr e1 fun v F1 H1 x1 r1 hv => ?_
    unfold Rp at hv
    exact ⟨_, hv, p F1 H1 x1 r1⟩
end
section
variable {X : Cx}
theorem t_val {e : Expr} {c : SE} (h : PE X e (rd X.K c)) (he : ∀ whole, isTrue e X.env whole = (do let v ← whole; standAt e.pos; holding [v] (truthy v)) := by intro _; rfl) : PT X e (rdT X.K (bT c)) :=
  (pt_val h he).imp fun _ _ _ => bT_use
theorem t_cmp {op : CmpOp} {f : D → D → Option (D × Bool)} {r : R2} {a b : Expr} {ea eb : SE} {pos : Pos} (ho : OpR X (compareOp op) r) (h : BinOk X.K f r) (ha : PE X a (rd X.K ea)) (hb : PE X b (rd X.K eb)) (hm : behindInMarks op b = false) : PT X (.Compare a [op] [b] pos) (rdT X.K (bT (cBin f ea eb))) :=
  (pt_cmpR ho ha hb hm).imp fun σ H Q hw => by
    have := bT_use hw
    exact bin_use h this
theorem t_and {a b : Expr} {rest : List Expr} {ta tb : ST} {pos : Pos} (ha : PT X a (rdT X.K ta)) (hb : PW X (.BoolOp .And (b :: rest) pos) (rdT X.K tb)) : PW X (.BoolOp .And (a :: b :: rest) pos) (rdT X.K (bAnd ta tb)) :=
  ⟨fun whole pins s σ H Q I hw => (pw_and ha hb).run whole pins s σ H Q I (by
    obtain ⟨ω, F, s, b, s', sr, h, p⟩ := hw
    unfold bAnd at h
    cases e1 : ta s with
    | none => rw [e1] at h; cases h
    | some p1 =>
      obtain ⟨b1, s1⟩ := p1
      rw [e1] at h
      simp only [Option.bind_some] at h
      refine rdT_use sr e1 fun F1 H1 x1 r1 => ?_
      cases b1
      · cases h; exact p F1 H1 x1 r1
      · exact rdT_use r1 h fun F2 H2 x2 r2 => p F2 H2 (x1.trans x2) r2)⟩
theorem t_or {a b : Expr} {rest : List Expr} {ta tb : ST} {pos : Pos} (ha : PT X a (rdT X.K ta)) (hb : PW X (.BoolOp .Or (b :: rest) pos) (rdT X.K tb)) : PW X (.BoolOp .Or (a :: b :: rest) pos) (rdT X.K (bOr ta tb)) :=
  ⟨fun whole pins s σ H Q I hw => (pw_or ha hb).run whole pins s σ H Q I (by
    obtain ⟨ω, F, s, b, s', sr, h, p⟩ := hw
    unfold bOr at h
    cases e1 : ta s with
    | none => rw [e1] at h; cases h
    | some p1 =>
      obtain ⟨b1, s1⟩ := p1
      rw [e1] at h
      simp only [Option.bind_some] at h
      refine rdT_use sr e1 fun F1 H1 x1 r1 => ?_
      cases b1
      · exact rdT_use r1 h fun F2 H2 x2 r2 => p F2 H2 (x1.trans x2) r2
      · cases h; exact p F1 H1 x1 r1)⟩
theorem t_not {a : Expr} {ta : ST} {pos : Pos} (ha : PT X a (rdT X.K ta)) : PT X (.UnaryOp .Not a pos) (rdT X.K (bNot ta)) :=
  (pt_not ha).imp fun σ H Q hw => by
    obtain ⟨ω, F, s, b, s', sr, h, p⟩ := hw
    unfold bNot at h
    cases e1 : ta s with
    | none => rw [e1] at h; cases h
    | some p1 =>
      obtain ⟨b1, s1⟩ := p1
      rw [e1] at h
      cases h
      exact rdT_use sr e1 p
/-! the same as values -/
def cAnd (a b : SE) : SE := fun s => (a s).bind fun p => match p.1.1 with
  | .bl true => b p.2
  | .bl false => some ((.bl false, false), p.2)
  | _ => none
def cOr (a b : SE) : SE := fun s => (a s).bind fun p => match p.1.1 with
  | .bl false => b p.2
  | .bl true => some ((.bl true, false), p.2)
  | _ => none
def cNot (a : SE) : SE := fun s => (a s).bind fun p => match p.1.1 with
  | .bl b => some ((.bl (!b), false), p.2)
  | _ => none
theorem p_one {op} {a : Expr} {c : SE} {pos : Pos} (h : PE X a (rd X.K c)) : PE X (.BoolOp op [a] pos) (rd X.K c) := pe_one h
theorem p_and {a b : Expr} {rest : List Expr} {ca cb : SE} {pos : Pos} (ha : PE X a (rd X.K ca)) (hb : PE X (.BoolOp .And (b :: rest) pos) (rd X.K cb)) : PE X (.BoolOp .And (a :: b :: rest) pos) (rd X.K (cAnd ca cb)) :=
  (pe_and ha hb).imp fun σ H Q hw => by
    obtain ⟨ω, F, s, d, b, s', sr, h, p⟩ := hw
    unfold cAnd at h
    cases e1 : ca s with
    | none => rw [e1] at h; cases h
    | some p1 =>
      obtain ⟨⟨d1, b1⟩, s1⟩ := p1
      rw [e1] at h
      simp only [Option.bind_some] at h
      refine rd_use sr e1 fun v F1 H1 x1 r1 hv => ?_
      split at h
      · skip
        unfold Rp at hv
        exact ⟨true, hv, ⟨ω, F1, s1, d, b, s', r1, h, p.mono x1⟩⟩
      · skip
        unfold Rp at hv
        cases h
        exact ⟨false, hv, r1.here (b := false) (by show Rp _ _ _ _ _; unfold Rp; rfl) (p.mono x1)⟩
      · cases h
theorem p_or {a b : Expr} {rest : List Expr} {ca cb : SE} {pos : Pos} (ha : PE X a (rd X.K ca)) (hb : PE X (.BoolOp .Or (b :: rest) pos) (rd X.K cb)) : PE X (.BoolOp .Or (a :: b :: rest) pos) (rd X.K (cOr ca cb)) :=
  (pe_or ha hb).imp fun σ H Q hw => by
    obtain ⟨ω, F, s, d, b, s', sr, h, p⟩ := hw
    unfold cOr at h
    cases e1 : ca s with
    | none => rw [e1] at h; cases h
    | some p1 =>
      obtain ⟨⟨d1, b1⟩, s1⟩ := p1
      rw [e1] at h
      simp only [Option.bind_some] at h
      refine rd_use sr e1 fun v F1 H1 x1 r1 hv => ?_
      split at h
      · skip
        unfold Rp at hv
        exact ⟨false, hv, ⟨ω, F1, s1, d, b, s', r1, h, p.mono x1⟩⟩
      · skip
        unfold Rp at hv
        cases h
        exact ⟨true, hv, r1.here (b := false) (by show Rp _ _ _ _ _; unfold Rp; rfl) (p.mono x1)⟩
      · cases h
theorem p_not {a : Expr} {ca : SE} {pos : Pos} (ha : PE X a (rd X.K ca)) : PE X (.UnaryOp .Not a pos) (rd X.K (cNot ca)) :=
  (pe_not ha).imp fun σ H Q hw => by
    obtain ⟨ω, F, s, d, b, s', sr, h, p⟩ := hw
    unfold cNot at h
    cases e1 : ca s with
    | none => rw [e1] at h; cases h
    | some p1 =>
      obtain ⟨⟨d1, b1⟩, s1⟩ := p1
      rw [e1] at h
      simp only [Option.bind_some] at h
      refine rd_use sr e1 fun v F1 H1 x1 r1 hv => ?_
      split at h
      · skip
        unfold Rp at hv
        cases h
        exact ⟨_, hv, r1.here (b := false) (by show Rp _ _ _ _ _; unfold Rp; rfl) (p.mono x1)⟩
      · cases h
theorem p_ite {c a b : Expr} {tc : ST} {ca cb : SE} {pos : Pos} (hc : PT X c (rdT X.K tc)) (ha : PE X a (rd X.K ca)) (hb : PE X b (rd X.K cb)) : PE X (.IfExp c a b pos) (rd X.K (cIte tc ca cb)) :=
  (pe_ifExp hc ha hb).imp fun σ H Q hw => by
    obtain ⟨ω, F, s, d, b, s', sr, h, p⟩ := hw
    unfold cIte at h
    cases e1 : tc s with
    | none => rw [e1] at h; cases h
    | some p1 =>
      obtain ⟨b1, s1⟩ := p1
      rw [e1] at h
      simp only [Option.bind_some] at h
      refine rdT_use sr e1 fun F1 H1 x1 r1 => ?_
      cases b1
      · exact ⟨ω, F1, s1, d, b, s', r1, h, p.mono x1⟩
      · exact ⟨ω, F1, s1, d, b, s', r1, h, p.mono x1⟩
end
/-- a op b op' c, b once -/
def cChain (f g : D → D → Option (D × Bool)) (a b c : SE) : SE := fun s => (a s).bind fun p => (b p.2).bind fun q => match f p.1.1 q.1.1 with
  | some (.bl true, _) => (c q.2).bind fun r => (g q.1.1 r.1.1).map fun z => (z, r.2)
  | some (.bl false, _) => some ((.bl false, false), q.2)
  | _ => none
section
variable {X : Cx}
theorem p_chain {op op' : CmpOp} {f g : D → D → Option (D × Bool)} {r r' : R2} {a b c : Expr} {ea eb ec : SE} {pos : Pos} (ho : OpR X (compareOp op) r) (ho' : OpR X (compareOp op') r') (h : BinOk X.K f r) (h' : BinOk X.K g r') (ha : PE X a (rd X.K ea)) (hb : PE X b (rd X.K eb)) (hc : PE X c (rd X.K ec))
    (hm : lastMarks [op, op'] [b, c] = false := by with_unfolding_all rfl) : PE X (.Compare a [op, op'] [b, c] pos) (rd X.K (cChain f g ea eb ec)) :=
  (pe_chain ho ho' ha hb hc hm).imp fun σ H Q hw => by
    obtain ⟨ω, F, s, d, b, s', sr, e, p⟩ := hw
    unfold cChain at e
    cases e1 : ea s with
    | none => rw [e1] at e; cases e
    | some p1 =>
      obtain ⟨⟨d1, b1⟩, s1⟩ := p1
      rw [e1] at e
      simp only [Option.bind_some] at e
      cases e2 : eb s1 with
      | none => rw [e2] at e; cases e
      | some p2 =>
        obtain ⟨⟨d2, b2⟩, s2⟩ := p2
        rw [e2] at e
        simp only [Option.bind_some] at e
        refine rd_use sr e1 fun v F1 H1 x1 r1 hv => ?_
        refine rd_use r1 e2 fun u F2 H2 x2 r2 hu => ?_
        cases e3 : f d1 d2 with
        | none => rw [e3] at e; cases e
        | some p3 =>
          obtain ⟨z, b3⟩ := p3
          rw [e3] at e
          refine h ω F2 σ H2 s2 d1 d2 z b3 v u _ r2 (hv.mono x2) hu e3 fun zv F3 H3 x3 r3 hz => ?_
          cases z with
          | bl c0 =>
            have hz' : zv = .bl c0 := by
              cases b3
              · have q : Rp X.K ω.P F3 (.bl c0) zv := hz
                unfold Rp at q; exact q
              · exact hz.1.elim
            cases c0
            · simp only at e; cases e
              exact ⟨false, hz', r3.here (b := false) (by show Rp _ _ _ _ _; unfold Rp; rfl) (p.mono ((x1.trans x2).trans x3))⟩
            · simp only at e
              cases e4 : ec s2 with
              | none => rw [e4] at e; cases e
              | some p4 =>
                obtain ⟨⟨d4, b4⟩, s4⟩ := p4
                rw [e4] at e
                simp only [Option.bind_some] at e
                cases e5 : g d2 d4 with
                | none => rw [e5] at e; cases e
                | some p5 =>
                  obtain ⟨z5, b5⟩ := p5
                  rw [e5] at e
                  cases e
                  refine ⟨true, hz', ?_⟩
                  refine rd_use r3 e4 fun w F4 H4 x4 r4 hw' => ?_
                  exact h' ω F4 σ H4 _ d2 d4 _ _ u w Q r4 (hu.mono (x3.trans x4)) hw' e5 (p.mono (((x1.trans x2).trans x3).trans x4))
          | _ => simp only at e; cases e
end
end Rb

namespace Rb
open PySem PySem.Spec PyProof.Rows L2

/-! ### arguments, displays -/
def aNil : SA := fun s => some ([], s)
def aCons (e : SE) (t : SA) : SA := fun s => (e s).bind fun p => (t p.2).map fun q => (p.1.1 :: q.1, q.2)
def cTup (t : SA) : SE := fun s => (t s).bind fun p => if szOk p.1.length then some ((.tup p.1, false), p.2) else none
def cLst (t : SA) : SE := fun s => (t s).bind fun p => if szOk p.1.length then some ((.lst p.1, true), p.2) else none
section
variable {K : PySem.W.Frag} {ω : Wd} {F F' : Hp} {σ : L2.St} {H H' : Hp} {s s' : S}
theorem rdA_use {e : SA} {ds : List D} {R : List V → Hp → Prop} (r : Sr K ω F σ H s) (h : e s = some (ds, s')) (q : ∀ vs F' H', Ex F F' → Sr K ω F' σ H' s' → RpL K ω.P F' ds vs → R vs H') : rdA K e σ H R := ⟨ω, F, s, ds, s', r, h, q⟩
end
section
variable {X : Cx}
theorem a_nil : PA X [] (rdA X.K aNil) := pa_nil.imp fun σ H Q ⟨ω, F, s, ds, s', sr, h, p⟩ => by
  cases h
  exact p [] F H (Ex.refl F) sr .nil
theorem a_cons {e : Expr} {es : List Expr} {c : SE} {t : SA} (h : PE X e (rd X.K c)) (ht : PA X es (rdA X.K t)) (hs : starEach (e :: es) X.env = (false, eval e X.env) :: starEach es X.env := by rfl) : PA X (e :: es) (rdA X.K (aCons c t)) :=
  (pa_cons h ht hs).imp fun σ H Q ⟨ω, F, s, ds, s', sr, h, p⟩ => by
    unfold aCons at h
    cases e1 : c s with
    | none => rw [e1] at h; cases h
    | some p1 =>
      obtain ⟨⟨d1, b1⟩, s1⟩ := p1
      rw [e1] at h
      simp only [Option.bind_some] at h
      cases e2 : t s1 with
      | none => rw [e2] at h; cases h
      | some p2 =>
        obtain ⟨ds2, s2⟩ := p2
        rw [e2] at h
        cases h
        exact rd_use sr e1 fun v F1 H1 x1 r1 hv => rdA_use r1 e2 fun vs F2 H2 x2 r2 hvs => p _ F2 H2 (x1.trans x2) r2 (.cons (hv.mono x2) hvs)
theorem p_tup {es : List Expr} {t : SA} {x1} {pos : Pos} (h : PA X es (rdA X.K t)) : PE X (.Tuple es x1 pos) (rd X.K (cTup t)) :=
  (pe_tup h).imp fun σ H Q ⟨ω, F, s, d, b, s', sr, h, p⟩ => by
    unfold cTup at h
    cases e1 : t s with
    | none => rw [e1] at h; cases h
    | some p1 =>
      obtain ⟨ds, s1⟩ := p1
      rw [e1] at h
      simp only [Option.bind_some] at h
      split at h
      · rename_i hz
        cases h
        exact rdA_use sr e1 fun vs F1 H1 x1 r1 hv => ⟨by rw [hv.len]; exact szOk_le hz, fun q hq => r1.newT hq hv (p.mono x1)⟩
      · cases h
theorem p_lst {es : List Expr} {t : SA} {pos : Pos} (h : PA X es (rdA X.K t)) : PE X (.List es pos) (rd X.K (cLst t)) :=
  (pe_lst h).imp fun σ H Q ⟨ω, F, s, d, b, s', sr, h, p⟩ => by
    unfold cLst at h
    cases e1 : t s with
    | none => rw [e1] at h; cases h
    | some p1 =>
      obtain ⟨ds, s1⟩ := p1
      rw [e1] at h
      simp only [Option.bind_some] at h
      split at h
      · rename_i hz
        cases h
        exact rdA_use sr e1 fun vs F1 H1 x1 r1 hv => ⟨by rw [hv.len]; exact szOk_le hz, fun q hq => r1.newL hq hv (p.mono x1)⟩
      · cases h
end

/-! ### built-ins by values -/
def cBi (f : List D → Option (D × Bool)) (t : SA) : SE := fun s => (t s).bind fun p => (f p.1).map fun z => (z, p.2)
def BiOk (K : PySem.W.Frag) (f : List D → Option (D × Bool)) (r : List V → Hp → VK → Prop) : Prop := ∀ (ω : Wd) (F : Hp) (σ : L2.St) (H : Hp) (s : S) (xs : List D) (z : D) (b : Bool) (vs : List V) (Q : VK), Sr K ω F σ H s → RpL K ω.P F xs vs → f xs = some (z, b) → Post K ω F σ s z b Q → r vs H Q
theorem bi_use {K : PySem.W.Frag} {f : List D → Option (D × Bool)} {r : List V → Hp → VK → Prop} (h : BiOk K f r) {t : SA} {σ : L2.St} {H : Hp} {Q : VK} (hw : rd K (cBi f t) σ H Q) : tCB r (rdA K t) σ H Q := by
  obtain ⟨ω, F, s, d, b, s', sr, e, p⟩ := hw
  unfold cBi at e
  cases e1 : t s with
  | none => rw [e1] at e; cases e
  | some p1 =>
    obtain ⟨ds, s1⟩ := p1
    rw [e1] at e
    simp only [Option.bind_some] at e
    cases e3 : f ds with
    | none => rw [e3] at e; cases e
    | some p3 =>
      rw [e3] at e
      cases e
      exact rdA_use sr e1 fun vs F1 H1 x1 r1 hv => h ω F1 σ H1 _ ds d b vs Q r1 hv e3 (p.mono x1)
theorem RpL.one {K : PySem.W.Frag} {P : Option Addr} {F : Hp} {d : D} {vs : List V} (h : RpL K P F [d] vs) : ∃ v, vs = [v] ∧ Rp K P F d v := by
  unfold RpL at h
  obtain ⟨x, r, rfl, hx, hr⟩ := h
  unfold RpL at hr; subst hr
  exact ⟨x, rfl, hx⟩
theorem RpL.two {K : PySem.W.Frag} {P : Option Addr} {F : Hp} {d e : D} {vs : List V} (h : RpL K P F [d, e] vs) : ∃ v w, vs = [v, w] ∧ Rp K P F d v ∧ Rp K P F e w := by
  unfold RpL at h
  obtain ⟨x, r, rfl, hx, hr⟩ := h
  obtain ⟨y, rfl, hy⟩ := RpL.one hr
  exact ⟨x, y, rfl, hx, hy⟩
section
variable {X : Cx} {x : Str} {id T : String}
theorem p_bi {f : List D → Option (D × Bool)} {r : List V → Hp → VK → Prop} {e : Expr} {es : List Expr} {t : SA} {p pos : Pos} (hc : CallR X (.builtin id) r) (h : BiOk X.K f r) (hg : Gl X x) (hm : X.mg x = none) (hv : bootBuiltins x = some (.builtin id)) (ha : PA X (e :: es) (rdA X.K t)) (hn : x ≠ "__name__" := by decide) (hdb : (x == ("__debug__" : Str)) = false := by decide)
    (he : starEach (e :: es) X.env = (false, eval e X.env) :: starEach es X.env := by rfl) (hpl : (backTo pos (starEach es X.env)).any (·.1) = false := by rfl) :
    PE X (.Call (.Name x p) (e :: es) [] pos) (rd X.K (cBi f t)) := (pe_callB hc hg hm hv ha hn hdb he hpl).imp fun _ _ _ => bi_use h
theorem p_ty {f : List D → Option (D × Bool)} {r : List V → Hp → VK → Prop} {e : Expr} {es : List Expr} {t : SA} {p pos : Pos} (hc : CallR X (.type T) r) (h : BiOk X.K f r) (hg : Gl X x) (hm : X.mg x = none) (hv : bootBuiltins x = some (.type T)) (ha : PA X (e :: es) (rdA X.K t)) (hn : x ≠ "__name__" := by decide) (hdb : (x == ("__debug__" : Str)) = false := by decide)
    (he : starEach (e :: es) X.env = (false, eval e X.env) :: starEach es X.env := by rfl) (hpl : (backTo pos (starEach es X.env)).any (·.1) = false := by rfl) :
    PE X (.Call (.Name x p) (e :: es) [] pos) (rd X.K (cBi f t)) := (pe_callTy hc hg hm hv ha hn hdb he hpl).imp fun _ _ _ => bi_use h
end
/-! int, abs -/
def fInt : List D → Option (D × Bool)
  | [.int i] => some (.int i, false)
  | [.bl b] => some (.int (if b then 1 else 0), false)
  | _ => none
def fAbs : List D → Option (D × Bool)
  | [.int i] => some (.int (if i < 0 then -i else i), false)
  | _ => none
theorem ok_int {K : PySem.W.Frag} : BiOk K fInt (fun xs H Q => (∃ i, xs = [.int i] ∧ Q (.int i) H) ∨ ∃ k, xs = [.bl k] ∧ Q (.int (if k then 1 else 0)) H) := fun ω F σ H s xs z b vs Q sr hx e p => by
  unfold fInt at e
  split at e
  · cases e
    obtain ⟨v, rfl, hv⟩ := hx.one
    unfold Rp at hv; subst hv
    exact .inl ⟨_, rfl, sr.here (b := false) (by show Rp _ _ _ _ _; unfold Rp; rfl) p⟩
  · cases e
    obtain ⟨v, rfl, hv⟩ := hx.one
    unfold Rp at hv; subst hv
    exact .inr ⟨_, rfl, sr.here (b := false) (by show Rp _ _ _ _ _; unfold Rp; rfl) p⟩
  · cases e
theorem ok_abs {K : PySem.W.Frag} : BiOk K fAbs (fun xs H Q => ∃ i, xs = [.int i] ∧ Q (.int (if i < 0 then -i else i)) H) := fun ω F σ H s xs z b vs Q sr hx e p => by
  unfold fAbs at e
  split at e
  · cases e
    obtain ⟨v, rfl, hv⟩ := hx.one
    unfold Rp at hv; subst hv
    exact ⟨_, rfl, sr.here (b := false) (by show Rp _ _ _ _ _; unfold Rp; rfl) p⟩
  · cases e
/-! len, tuple, list -/
def fLen : List D → Option (D × Bool)
  | [.lst ds] => some (.int ds.length, false)
  | [.tup ds] => some (.int ds.length, false)
  | [.scr ns] => some (.int ns.length, false)
  | [.str x] => if szOk x.length then some (.int x.length, false) else none
  | _ => none
def rLenA (K : PySem.W.Frag) : List V → Hp → VK → Prop := fun xs H Q => (∃ p ys, xs = [.ref p] ∧ (SqL K H p ys ∨ SqT K H p ys) ∧ Q (.int ys.length) H) ∨ ∃ z, xs = [.str z] ∧ z.length ≤ sizeLine ∧ Q (.int z.length) H
theorem call_lenA {X : Cx} : CallR X (.builtin "len") (rLenA X.K) := call_len_seq.or call_len_str
theorem ok_len {K : PySem.W.Frag} : BiOk K fLen (rLenA K) := fun ω F σ H s xs z b vs Q sr hx e p => by
  unfold fLen at e
  split at e
  · cases e
    obtain ⟨v, rfl, hv⟩ := hx.one
    unfold Rp at hv
    obtain ⟨a, ys, rfl, h1, h2⟩ := hv
    exact .inl ⟨a, ys, rfl, .inl (SqL.of (sr.sub _ _ h1)), sr.here (b := false) (by show Rp _ _ _ _ _; unfold Rp; rw [h2.len]) p⟩
  · cases e
    obtain ⟨v, rfl, hv⟩ := hx.one
    unfold Rp at hv
    obtain ⟨a, ys, rfl, h1, h2⟩ := hv
    exact .inl ⟨a, ys, rfl, .inr (sqt_mono sr.sub h1), sr.here (b := false) (by show Rp _ _ _ _ _; unfold Rp; rw [h2.len]) p⟩
  · cases e
    obtain ⟨v, rfl, hv⟩ := hx.one
    unfold Rp at hv
    obtain ⟨a, rfl, h1⟩ := hv
    exact .inl ⟨a, _, rfl, .inl (sql_mono sr.sub h1), sr.here (b := false) (by show Rp _ _ _ _ _; unfold Rp; rw [List.length_map]) p⟩
  · split at e
    · rename_i hz
      cases e
      obtain ⟨v, rfl, hv⟩ := hx.one
      unfold Rp at hv; subst hv
      exact .inr ⟨_, rfl, szOk_le hz, sr.here (b := false) (by show Rp _ _ _ _ _; unfold Rp; rfl) p⟩
    · cases e
  · cases e
def fTuple : List D → Option (D × Bool)
  | [.lst ds] => some (.tup ds, false)
  | [.tup ds] => some (.tup ds, false)
  | _ => none
def rTupA (K : PySem.W.Frag) : List V → Hp → VK → Prop := fun xs H Q => ∃ p ys, xs = [.ref p] ∧ ((SqL K H p ys ∧ ∀ l, H l = none → Q (.ref l) (upd H l (.tup ys))) ∨ (SqT K H p ys ∧ Q (.ref p) H))
theorem call_tupA {X : Cx} : CallR X (.type "tuple") (rTupA X.K) := call_tuple_of
theorem ok_tuple {K : PySem.W.Frag} : BiOk K fTuple (rTupA K) := fun ω F σ H s xs z b vs Q sr hx e p => by
  unfold fTuple at e
  split at e
  · cases e
    obtain ⟨v, rfl, hv⟩ := hx.one
    unfold Rp at hv
    obtain ⟨a, ys, rfl, h1, h2⟩ := hv
    exact ⟨a, ys, rfl, .inl ⟨SqL.of (sr.sub _ _ h1), fun l hl => sr.newT hl h2 p⟩⟩
  · cases e
    obtain ⟨v, rfl, hv⟩ := hx.one
    unfold Rp at hv
    obtain ⟨a, ys, rfl, h1, h2⟩ := hv
    exact ⟨a, ys, rfl, .inr ⟨sqt_mono sr.sub h1, sr.here (b := false) (by show Rp _ _ _ _ _; unfold Rp; exact ⟨a, ys, rfl, h1, h2⟩) p⟩⟩
  · cases e
def fList : List D → Option (D × Bool)
  | [.lst ds] => some (.lst ds, true)
  | [.tup ds] => some (.lst ds, true)
  | _ => none
def rListA (K : PySem.W.Frag) : List V → Hp → VK → Prop := fun xs H Q => ∃ p ys, xs = [.ref p] ∧ (SqL K H p ys ∨ SqT K H p ys) ∧ ∀ l, H l = none → Q (.ref l) (upd H l (.lst ys))
theorem call_listA {X : Cx} : CallR X (.type "list") (rListA X.K) := call_list_of
theorem ok_list {K : PySem.W.Frag} : BiOk K fList (rListA K) := fun ω F σ H s xs z b vs Q sr hx e p => by
  unfold fList at e
  split at e
  · cases e
    obtain ⟨v, rfl, hv⟩ := hx.one
    unfold Rp at hv
    obtain ⟨a, ys, rfl, h1, h2⟩ := hv
    exact ⟨a, ys, rfl, .inl (SqL.of (sr.sub _ _ h1)), fun l hl => sr.newL hl h2 p⟩
  · cases e
    obtain ⟨v, rfl, hv⟩ := hx.one
    unfold Rp at hv
    obtain ⟨a, ys, rfl, h1, h2⟩ := hv
    exact ⟨a, ys, rfl, .inr (sqt_mono sr.sub h1), fun l hl => sr.newL hl h2 p⟩
  · cases e
/-! what a list of ints, of bools is -/
def intsOf : List D → Option (List Int)
  | [] => some []
  | .int i :: ds => (intsOf ds).map (i :: ·)
  | _ => none
theorem intsOf_map : ∀ ns : List Int, intsOf (ns.map D.int) = some ns
  | [] => rfl
  | n :: ns => by rw [List.map_cons, intsOf, intsOf_map ns]; rfl
theorem intsOf_eq : ∀ {ds : List D} {ns : List Int}, intsOf ds = some ns → ds = ns.map D.int
  | [], ns, h => by cases h; rfl
  | .int i :: ds, ns, h => by
    rw [intsOf] at h
    cases q : intsOf ds with
    | none => rw [q] at h; cases h
    | some r => rw [q] at h; cases h; rw [intsOf_eq q]; rfl
  | .non :: _, _, h => by cases h
  | .bl _ :: _, _, h => by cases h
  | .str _ :: _, _, h => by cases h
  | .tup _ :: _, _, h => by cases h
  | .lst _ :: _, _, h => by cases h
  | .dic _ :: _, _, h => by cases h
  | .pot :: _, _, h => by cases h
  | .scr _ :: _, _, h => by cases h
def blsOf : List D → Option (List Bool)
  | [] => some []
  | .bl i :: ds => (blsOf ds).map (i :: ·)
  | _ => none
theorem blsOf_map : ∀ ns : List Bool, blsOf (ns.map D.bl) = some ns
  | [] => rfl
  | n :: ns => by rw [List.map_cons, blsOf, blsOf_map ns]; rfl
theorem blsOf_eq : ∀ {ds : List D} {ns : List Bool}, blsOf ds = some ns → ds = ns.map D.bl
  | [], ns, h => by cases h; rfl
  | .bl i :: ds, ns, h => by
    rw [blsOf] at h
    cases q : blsOf ds with
    | none => rw [q] at h; cases h
    | some r => rw [q] at h; cases h; rw [blsOf_eq q]; rfl
  | .non :: _, _, h => by cases h
  | .int _ :: _, _, h => by cases h
  | .str _ :: _, _, h => by cases h
  | .tup _ :: _, _, h => by cases h
  | .lst _ :: _, _, h => by cases h
  | .dic _ :: _, _, h => by cases h
  | .pot :: _, _, h => by cases h
  | .scr _ :: _, _, h => by cases h
theorem RpL.bls {K : PySem.W.Frag} {P : Option Addr} {F : Hp} : ∀ {ns : List Bool} {xs : List V}, RpL K P F (ns.map D.bl) xs → xs = ns.map V.bl
  | [], xs, h => by simpa [RpL] using h
  | n :: ns, xs, h => by
    rw [List.map_cons] at h
    unfold RpL at h
    obtain ⟨x, r, rfl, hx, hr⟩ := h
    unfold Rp at hx
    rw [hx, RpL.bls hr]; rfl
/-! all, any of a list of bools -/
def fAll : List D → Option (D × Bool)
  | [.lst ds] => (blsOf ds).map fun bs => (.bl (bs.all id), false)
  | _ => none
def fAny : List D → Option (D × Bool)
  | [.lst ds] => (blsOf ds).map fun bs => (.bl (bs.any id), false)
  | _ => none
theorem ok_all {K : PySem.W.Frag} : BiOk K fAll (rAll K) := fun ω F σ H s xs z b vs Q sr hx e p => by
  unfold fAll at e
  split at e
  · rename_i ds
    cases q : blsOf ds with
    | none => rw [q] at e; cases e
    | some bs =>
      rw [q] at e; cases e
      obtain ⟨v, rfl, hv⟩ := hx.one
      rw [blsOf_eq q] at hv
      unfold Rp at hv
      obtain ⟨a, ys, rfl, h1, h2⟩ := hv
      rw [h2.bls] at h1
      exact ⟨a, bs, rfl, SqL.of (sr.sub _ _ h1), sr.here (b := false) (by show Rp _ _ _ _ _; unfold Rp; rfl) p⟩
  · cases e
theorem ok_any {K : PySem.W.Frag} : BiOk K fAny (rAny K) := fun ω F σ H s xs z b vs Q sr hx e p => by
  unfold fAny at e
  split at e
  · rename_i ds
    cases q : blsOf ds with
    | none => rw [q] at e; cases e
    | some bs =>
      rw [q] at e; cases e
      obtain ⟨v, rfl, hv⟩ := hx.one
      rw [blsOf_eq q] at hv
      unfold Rp at hv
      obtain ⟨a, ys, rfl, h1, h2⟩ := hv
      rw [h2.bls] at h1
      exact ⟨a, bs, rfl, SqL.of (sr.sub _ _ h1), sr.here (b := false) (by show Rp _ _ _ _ _; unfold Rp; rfl) p⟩
  · cases e
/-! sum, max, min of ints: of a list, of a tuple; of two -/
section
variable {prog : Program} {w : World} {A : Around} {E : Value → Shared → Prop} {s : Shared} {l : Addr} {its : List Value} {ns : List Int} {Q : Value → Shared → Prop}
theorem iter_tupX {items : Array Value} {Q : Value → Shared → Prop} (hl : s.heap.IsTuple l items)
    (h : ∀ s₂ : Shared, s₂ = { s with heap := s.heap.push { cls := .type "tuple_iterator", data := .fields #[.ref l, .int 0 0] } } →
      (s₂.heap.IsTupleIter s.heap.objs.size l 0 ∧ s₂.heap.IsTuple l items) → (∀ b ∈ [s.heap.objs.size, l], b < s₂.heap.objs.size) → l ≠ s.heap.objs.size → Q (.ref s.heap.objs.size) s₂) :
    wpAny (model prog w) A (pyIter (.ref l)) Q E s := by
  have below : l < s.heap.objs.size := by obtain ⟨_, e, _⟩ := hl; exact Heap.lt_size e
  refine wpAny_pyIter_tuple hl (h _ rfl ⟨⟨_, Heap.get?_push_size _ rfl, rfl, rfl⟩, hl.push _⟩ (fun b hb => ?_) (Nat.ne_of_lt below))
  rw [Heap.size_push]
  simp only [List.mem_cons, List.not_mem_nil, or_false] at hb
  rcases hb with rfl | rfl
  · exact Nat.lt_succ_self _
  · exact Nat.lt_succ_of_lt below
theorem old_keptT {h' : Heap} (hk : ∀ b o, b ∉ [s.heap.objs.size] → (s.heap.push { cls := .type "tuple_iterator", data := .fields #[.ref l, .int 0 0] }).get? b = some o → h'.get? b = some o) :
    ∀ b o, s.heap.get? b = some o → h'.get? b = some o := fun b o e => by
  refine hk b o (fun hm => ?_) (Heap.get?_push_of_some _ e)
  simp only [List.mem_cons, List.not_mem_nil, or_false] at hm
  exact absurd (hm ▸ Heap.lt_size e) (Nat.lt_irrefl _)
theorem sum_tupX (hh : A.handled = none) (hl : s.heap.IsTuple l its.toArray) (hi : IntsAre its ns)
    (h : ∀ h' tk t', (∀ b o, s.heap.get? b = some o → h'.get? b = some o) → Q (.int ns.sum t') { s with heap := h', toks := tk }) : wpAny (model prog w) A (call (.builtin "sum") [.ref l]) Q E s := by
  obtain ⟨xs, e⟩ := hi.allInts.items
  have hn : numsOf (intItems xs).toList = ns := by rw [← e]; exact hi.numsOf
  rw [nums_intItems] at hn
  rw [e] at hl
  refine call_sum_walkG (iter_tupX hl fun s₂ e st hfp hlI => ?_)
  subst e
  refine ⟨_, _, _, _, _, _, numAt xs, rfl, Walks.tuple (A := A.in1) hh _ l hlI (intItems xs), st, hfp, (fun _ _ => intItems_at), fun h' tk t' hk => ?_⟩
  have q := h h' tk t' (old_keptT hk)
  have z : preSum (numAt xs) (intItems xs).size = ns.sum := by
    rw [preSum_eq, List.take_of_length_le (by simp [intItems]), hn]
  rw [z]; exact q
theorem max_tupX (hh : A.handled = none) (hl : s.heap.IsTuple l its.toArray) (hi : IntsAre its ns) (hne : 0 < ns.length)
    (h : ∀ h' tk M t', (∀ b o, s.heap.get? b = some o → h'.get? b = some o) → M ∈ ns → (∀ a, a ∈ ns → a ≤ M) → Q (.int M t') { s with heap := h', toks := tk }) : wpAny (model prog w) A (call (.builtin "max") [.ref l]) Q E s := by
  obtain ⟨xs, e⟩ := hi.allInts.items
  have hn : numsOf (intItems xs).toList = ns := by rw [← e]; exact hi.numsOf
  rw [nums_intItems] at hn
  subst hn
  rw [e] at hl
  have hsz : 0 < xs.size := by simpa using hne
  refine call_max_walk (iter_tupX hl fun s₂ e st hfp hlI => ?_)
  subst e
  refine ⟨_, _, _, _, _, _, _, rfl, Walks.tuple (A := A.in1) hh _ l hlI (intItems xs), st, hfp, by simpa [intItems] using hne, CmpOf.ints_gt (numAt xs) (fun _ _ => intItems_at), fun v h' tk hv hk => ?_⟩
  obtain ⟨t, rfl⟩ := intItems_at hv
  have hzz : (intItems xs).size = xs.size := by simp [intItems]
  rw [hzz]
  obtain ⟨h1, h2⟩ := argBest_gt (numAt xs) (xs.size - 1)
  refine h h' tk _ t (old_keptT hk) ?_ fun a ha => ?_
  · rw [numAt_eq]; exact PySem.getD_mem (by rw [List.length_map, Array.length_toList]; omega)
  · obtain ⟨j, hj, rfl⟩ := mem_getD ha
    rw [List.length_map, Array.length_toList] at hj
    rw [← numAt_eq]; exact h2 j (by omega)
theorem min_tupX (hh : A.handled = none) (hl : s.heap.IsTuple l its.toArray) (hi : IntsAre its ns) (hne : 0 < ns.length)
    (h : ∀ h' tk M t', (∀ b o, s.heap.get? b = some o → h'.get? b = some o) → M ∈ ns → (∀ a, a ∈ ns → M ≤ a) → Q (.int M t') { s with heap := h', toks := tk }) : wpAny (model prog w) A (call (.builtin "min") [.ref l]) Q E s := by
  obtain ⟨xs, e⟩ := hi.allInts.items
  have hn : numsOf (intItems xs).toList = ns := by rw [← e]; exact hi.numsOf
  rw [nums_intItems] at hn
  subst hn
  rw [e] at hl
  have hsz : 0 < xs.size := by simpa using hne
  refine call_min_walk (iter_tupX hl fun s₂ e st hfp hlI => ?_)
  subst e
  refine ⟨_, _, _, _, _, _, _, rfl, Walks.tuple (A := A.in1) hh _ l hlI (intItems xs), st, hfp, by simpa [intItems] using hne, CmpOf.ints_lt (numAt xs) (fun _ _ => intItems_at), fun v h' tk hv hk => ?_⟩
  obtain ⟨t, rfl⟩ := intItems_at hv
  have hzz : (intItems xs).size = xs.size := by simp [intItems]
  rw [hzz]
  obtain ⟨h1, h2⟩ := argBest_lt (numAt xs) (xs.size - 1)
  refine h h' tk _ t (old_keptT hk) ?_ fun a ha => ?_
  · rw [numAt_eq]; exact PySem.getD_mem (by rw [List.length_map, Array.length_toList]; omega)
  · obtain ⟨j, hj, rfl⟩ := mem_getD ha
    rw [List.length_map, Array.length_toList] at hj
    rw [← numAt_eq]; exact h2 j (by omega)
end
def rSumT (K : PySem.W.Frag) : List V → Hp → VK → Prop := fun vs H Q => ∃ (a : Addr) (ns : List Int), vs = [V.ref a] ∧ SqT K H a (ns.map V.int) ∧ Q (.int ns.sum) H
def rMaxT (K : PySem.W.Frag) : List V → Hp → VK → Prop := fun vs H Q => ∃ (a : Addr) (ns : List Int), vs = [V.ref a] ∧ SqT K H a (ns.map V.int) ∧ 0 < ns.length ∧ ∀ m, m ∈ ns → (∀ y, y ∈ ns → y ≤ m) → Q (.int m) H
def rMinT (K : PySem.W.Frag) : List V → Hp → VK → Prop := fun vs H Q => ∃ (a : Addr) (ns : List Int), vs = [V.ref a] ∧ SqT K H a (ns.map V.int) ∧ 0 < ns.length ∧ ∀ m, m ∈ ns → (∀ y, y ∈ ns → m ≤ y) → Q (.int m) H
theorem cr_sumT {X : Cx} (hc : X.calm = true) : CallR X (.builtin "sum") (rSumT X.K) := by
  intro pins s σ H vs us Q I r h
  obtain ⟨a, ns, rfl, hs, q⟩ := h
  obtain ⟨its, rv, hl, _⟩ := I.tuple hs
  rw [Vals.ref1 r]
  exact sum_tupX (I.ok.hd hc) hl rv.ints fun h' tk t' hk => ⟨.int _, H, I.kept hk, ⟨_, rfl⟩, q⟩
theorem cr_maxT {X : Cx} (hc : X.calm = true) : CallR X (.builtin "max") (rMaxT X.K) := by
  intro pins s σ H vs us Q I r h
  obtain ⟨a, ns, rfl, hs, hne, q⟩ := h
  obtain ⟨its, rv, hl, _⟩ := I.tuple hs
  rw [Vals.ref1 r]
  exact max_tupX (I.ok.hd hc) hl rv.ints hne fun h' tk m t' hk h1 h2 => ⟨.int _, H, I.kept hk, ⟨_, rfl⟩, q m h1 h2⟩
theorem cr_minT {X : Cx} (hc : X.calm = true) : CallR X (.builtin "min") (rMinT X.K) := by
  intro pins s σ H vs us Q I r h
  obtain ⟨a, ns, rfl, hs, hne, q⟩ := h
  obtain ⟨its, rv, hl, _⟩ := I.tuple hs
  rw [Vals.ref1 r]
  exact min_tupX (I.ok.hd hc) hl rv.ints hne fun h' tk m t' hk h1 h2 => ⟨.int _, H, I.kept hk, ⟨_, rfl⟩, q m h1 h2⟩
/-- the greatest, the least of some -/
def maxL : List Int → Int
  | [] => 0
  | n :: ns => ns.foldl max n
def minL : List Int → Int
  | [] => 0
  | n :: ns => ns.foldl min n
theorem foldl_max_le : ∀ (ns : List Int) (n : Int), n ≤ ns.foldl max n ∧ (∀ y ∈ ns, y ≤ ns.foldl max n) ∧ (ns.foldl max n = n ∨ ns.foldl max n ∈ ns)
  | [], n => ⟨Int.le_refl _, fun y h => by simp at h, .inl rfl⟩
  | m :: ns, n => by
    obtain ⟨h1, h2, h3⟩ := foldl_max_le ns (max n m)
    rw [List.foldl_cons]
    refine ⟨by omega, fun y hy => ?_, ?_⟩
    · rcases List.mem_cons.mp hy with rfl | hy
      · omega
      · exact h2 y hy
    · rcases h3 with h3 | h3
      · by_cases q : n ≤ m
        · right; rw [h3]; rw [show max n m = m by omega]; exact List.mem_cons_self
        · left; rw [h3]; omega
      · exact .inr (List.mem_cons_of_mem _ h3)
theorem foldl_min_le : ∀ (ns : List Int) (n : Int), ns.foldl min n ≤ n ∧ (∀ y ∈ ns, ns.foldl min n ≤ y) ∧ (ns.foldl min n = n ∨ ns.foldl min n ∈ ns)
  | [], n => ⟨Int.le_refl _, fun y h => by simp at h, .inl rfl⟩
  | m :: ns, n => by
    obtain ⟨h1, h2, h3⟩ := foldl_min_le ns (min n m)
    rw [List.foldl_cons]
    refine ⟨by omega, fun y hy => ?_, ?_⟩
    · rcases List.mem_cons.mp hy with rfl | hy
      · omega
      · exact h2 y hy
    · rcases h3 with h3 | h3
      · by_cases q : m ≤ n
        · right; rw [h3]; rw [show min n m = m by omega]; exact List.mem_cons_self
        · left; rw [h3]; omega
      · exact .inr (List.mem_cons_of_mem _ h3)
theorem maxL_mem {ns : List Int} (h : 0 < ns.length) : maxL ns ∈ ns := by
  cases ns with
  | nil => simp at h
  | cons n ns =>
    rcases (foldl_max_le ns n).2.2 with q | q
    · show ns.foldl max n ∈ _; rw [q]; exact List.mem_cons_self
    · exact List.mem_cons_of_mem _ q
theorem le_maxL {ns : List Int} {y : Int} (h : y ∈ ns) : y ≤ maxL ns := by
  cases ns with
  | nil => simp at h
  | cons n ns =>
    rcases List.mem_cons.mp h with rfl | h
    · exact (foldl_max_le ns _).1
    · exact (foldl_max_le ns n).2.1 y h
theorem minL_mem {ns : List Int} (h : 0 < ns.length) : minL ns ∈ ns := by
  cases ns with
  | nil => simp at h
  | cons n ns =>
    rcases (foldl_min_le ns n).2.2 with q | q
    · show ns.foldl min n ∈ _; rw [q]; exact List.mem_cons_self
    · exact List.mem_cons_of_mem _ q
theorem minL_le {ns : List Int} {y : Int} (h : y ∈ ns) : minL ns ≤ y := by
  cases ns with
  | nil => simp at h
  | cons n ns =>
    rcases List.mem_cons.mp h with rfl | h
    · exact (foldl_min_le ns _).1
    · exact (foldl_min_le ns n).2.1 y h
def fSum : List D → Option (D × Bool)
  | [.lst ds] => (intsOf ds).map fun ns => (.int ns.sum, false)
  | [.tup ds] => (intsOf ds).map fun ns => (.int ns.sum, false)
  | _ => none
def ofMost (g : List Int → Int) : List D → Option (D × Bool)
  | [] => none
  | d :: ds => (intsOf (d :: ds)).map fun ns => (.int (g ns), false)
def fMax : List D → Option (D × Bool)
  | [.lst ds] => ofMost maxL ds
  | [.tup ds] => ofMost maxL ds
  | [.int i, .int j] => some (.int (if j > i then j else i), false)
  | _ => none
def fMin : List D → Option (D × Bool)
  | [.lst ds] => ofMost minL ds
  | [.tup ds] => ofMost minL ds
  | [.int i, .int j] => some (.int (if j < i then j else i), false)
  | _ => none
theorem ofMost_is {g : List Int → Int} {ds : List D} {z : D} {b : Bool} (h : ofMost g ds = some (z, b)) : ∃ ns : List Int, ds = ns.map D.int ∧ 0 < ns.length ∧ z = .int (g ns) ∧ b = false := by
  cases ds with
  | nil => cases h
  | cons d ds =>
    unfold ofMost at h
    dsimp only at h
    cases q : intsOf (d :: ds) with
    | none => rw [q] at h; cases h
    | some ns =>
      rw [q] at h; cases h
      have e := intsOf_eq q
      refine ⟨ns, e, ?_, rfl, rfl⟩
      have := congrArg List.length e
      simp at this; omega
def rSumA (K : PySem.W.Frag) : List V → Hp → VK → Prop := fun xs H Q => rSum K xs H Q ∨ rSumT K xs H Q
def rMaxA (K : PySem.W.Frag) : List V → Hp → VK → Prop := fun xs H Q => (∃ i j, xs = [.int i, .int j] ∧ Q (.int (if j > i then j else i)) H) ∨ rMax K xs H Q ∨ rMaxT K xs H Q
def rMinA (K : PySem.W.Frag) : List V → Hp → VK → Prop := fun xs H Q => (∃ i j, xs = [.int i, .int j] ∧ Q (.int (if j < i then j else i)) H) ∨ rMin K xs H Q ∨ rMinT K xs H Q
theorem call_sumA {X : Cx} (hc : X.calm = true) : CallR X (.builtin "sum") (rSumA X.K) := (cr_sum hc).or (cr_sumT hc)
theorem call_maxA {X : Cx} (hc : X.calm = true) : CallR X (.builtin "max") (rMaxA X.K) := (call_max2 hc).or ((cr_max hc).or (cr_maxT hc))
theorem call_minA {X : Cx} (hc : X.calm = true) : CallR X (.builtin "min") (rMinA X.K) := (call_min2 hc).or ((cr_min hc).or (cr_minT hc))
theorem ok_sum {K : PySem.W.Frag} : BiOk K fSum (rSumA K) := fun ω F σ H s xs z b vs Q sr hx e p => by
  unfold fSum at e
  split at e
  · rename_i ds
    cases q : intsOf ds with
    | none => rw [q] at e; cases e
    | some ns =>
      rw [q] at e; cases e
      obtain ⟨v, rfl, hv⟩ := hx.one
      rw [intsOf_eq q] at hv
      unfold Rp at hv
      obtain ⟨a, ys, rfl, h1, h2⟩ := hv
      rw [h2.ints] at h1
      exact .inl ⟨a, ns, rfl, SqL.of (sr.sub _ _ h1), sr.here (b := false) (by show Rp _ _ _ _ _; unfold Rp; rfl) p⟩
  · rename_i ds
    cases q : intsOf ds with
    | none => rw [q] at e; cases e
    | some ns =>
      rw [q] at e; cases e
      obtain ⟨v, rfl, hv⟩ := hx.one
      rw [intsOf_eq q] at hv
      unfold Rp at hv
      obtain ⟨a, ys, rfl, h1, h2⟩ := hv
      rw [h2.ints] at h1
      exact .inr ⟨a, ns, rfl, sqt_mono sr.sub h1, sr.here (b := false) (by show Rp _ _ _ _ _; unfold Rp; rfl) p⟩
  · cases e
theorem ok_max {K : PySem.W.Frag} : BiOk K fMax (rMaxA K) := fun ω F σ H s xs z b vs Q sr hx e p => by
  unfold fMax at e
  split at e
  · obtain ⟨ns, rfl, hn, rfl, rfl⟩ := ofMost_is e
    obtain ⟨v, rfl, hv⟩ := hx.one
    unfold Rp at hv
    obtain ⟨a, ys, rfl, h1, h2⟩ := hv
    rw [h2.ints] at h1
    refine .inr (.inl ⟨a, ns, rfl, SqL.of (sr.sub _ _ h1), hn, fun m hm hle => ?_⟩)
    have : m = maxL ns := Int.le_antisymm (le_maxL hm) (hle _ (maxL_mem hn))
    subst this
    exact sr.here (b := false) (by show Rp _ _ _ _ _; unfold Rp; rfl) p
  · obtain ⟨ns, rfl, hn, rfl, rfl⟩ := ofMost_is e
    obtain ⟨v, rfl, hv⟩ := hx.one
    unfold Rp at hv
    obtain ⟨a, ys, rfl, h1, h2⟩ := hv
    rw [h2.ints] at h1
    refine .inr (.inr ⟨a, ns, rfl, sqt_mono sr.sub h1, hn, fun m hm hle => ?_⟩)
    have : m = maxL ns := Int.le_antisymm (le_maxL hm) (hle _ (maxL_mem hn))
    subst this
    exact sr.here (b := false) (by show Rp _ _ _ _ _; unfold Rp; rfl) p
  · cases e
    obtain ⟨v, u, rfl, hv, hu⟩ := hx.two
    unfold Rp at hv hu; subst hv hu
    exact .inl ⟨_, _, rfl, sr.here (b := false) (by show Rp _ _ _ _ _; unfold Rp; rfl) p⟩
  · cases e
theorem ok_min {K : PySem.W.Frag} : BiOk K fMin (rMinA K) := fun ω F σ H s xs z b vs Q sr hx e p => by
  unfold fMin at e
  split at e
  · obtain ⟨ns, rfl, hn, rfl, rfl⟩ := ofMost_is e
    obtain ⟨v, rfl, hv⟩ := hx.one
    unfold Rp at hv
    obtain ⟨a, ys, rfl, h1, h2⟩ := hv
    rw [h2.ints] at h1
    refine .inr (.inl ⟨a, ns, rfl, SqL.of (sr.sub _ _ h1), hn, fun m hm hle => ?_⟩)
    have : m = minL ns := Int.le_antisymm (hle _ (minL_mem hn)) (minL_le hm)
    subst this
    exact sr.here (b := false) (by show Rp _ _ _ _ _; unfold Rp; rfl) p
  · obtain ⟨ns, rfl, hn, rfl, rfl⟩ := ofMost_is e
    obtain ⟨v, rfl, hv⟩ := hx.one
    unfold Rp at hv
    obtain ⟨a, ys, rfl, h1, h2⟩ := hv
    rw [h2.ints] at h1
    refine .inr (.inr ⟨a, ns, rfl, sqt_mono sr.sub h1, hn, fun m hm hle => ?_⟩)
    have : m = minL ns := Int.le_antisymm (hle _ (minL_mem hn)) (minL_le hm)
    subst this
    exact sr.here (b := false) (by show Rp _ _ _ _ _; unfold Rp; rfl) p
  · cases e
    obtain ⟨v, u, rfl, hv, hu⟩ := hx.two
    unfold Rp at hv hu; subst hv hu
    exact .inl ⟨_, _, rfl, sr.here (b := false) (by show Rp _ _ _ _ _; unfold Rp; rfl) p⟩
  · cases e
/-! sorted, of ints -/
section
variable {prog : Program} {w : World} {A : Around} {E : Value → Shared → Prop} {s : Shared} {l : Addr} {vs : List Value}
theorem collect_tup {Q : List Value → Shared → Prop} (hl : IsTup s.heap l vs.toArray)
    (h : Q vs { s with heap := (s.heap.push (seqObj "list" #[] 0)).update s.heap.objs.size (Obj.mapSeq (· ++ vs.toArray)) }) (hsz : vs.length ≤ sizeLine) :
    wpAny (model prog w) A (collect (.ref l)) Q E s := by
  obtain ⟨o, ho, hc, n, hd⟩ := id hl
  unfold collect
  refine wpAny_bind (wpAny_runValue (codeAny_builtin entry_proto_collect' ?_))
  show wpAny _ _ (do again (.builtin "list.__iadd__" ⟨[← newList [], .ref l], []⟩)) _ _ s
  refine wpAny_bind (wpAny_newList (wpAny_pure ⟨Code.quiet_builtin _ (by decide +kernel), codeAny_builtin entry_list_iadd' ?_⟩))
  show wpAny _ _ (Builtin.List.listExtendWith (.ref s.heap.objs.size) (.ref l) (.ref s.heap.objs.size)) _ _ { s with heap := s.heap.push (seqObj "list" #[] 0) }
  unfold Builtin.List.listExtendWith
  have ho' : (s.heap.push (seqObj "list" #[] 0)).get? l = some o := Heap.get?_push_of_some _ ho
  refine wpAny_bind (wpAny_typeOf (T := "tuple") ⟨o, ho', hc⟩ ?_)
  have same : (Value.type "tuple" == Value.type "tuple") = true := by rfl
  rw [if_pos (by rw [same]; simp)]
  refine wpAny_bind (listItems_at ho' hd ?_)
  refine wpAny_bind (listItems_at (xs := #[]) (n := 0) (Heap.get?_push_size _ rfl) rfl ?_)
  rw [if_neg (by simp)]
  refine wpAny_bind (listUpdate_at (xs := #[]) (n := 0) (Heap.get?_push_size _ rfl) rfl ?_ (Nat.zero_le _) (by show (#[] ++ vs.toArray).size ≤ sizeLine + 1; simp only [Array.size_append, List.size_toArray, List.length_nil]; omega))
  refine wpAny_pure ?_
  show wpAny (model prog w) A (do
      let o ← load s.heap.objs.size
      match o.data with
      | .seq xs _ => pure xs.toList
      | _ => unsupported "internal:collect") Q E { s with heap := (s.heap.push (seqObj "list" #[] 0)).update s.heap.objs.size (Obj.mapSeq (· ++ vs.toArray)) }
  refine wpAny_bind (wpAny_load (get?_update_seq (Heap.get?_push_size _ rfl) _) ?_)
  show wpAny _ _ (pure ((#[] : Array Value) ++ vs.toArray).toList) Q E _
  rw [show ((#[] : Array Value) ++ vs.toArray).toList = vs by simp]
  exact wpAny_pure h
theorem sorted_ordT {ltv : Value → Value → Bool} {Q : Value → Shared → Prop} (O : SrtO.Swo ltv) (hl : IsTup s.heap l vs.toArray) (hz : vs.length ≤ sizeLine)
    (hS : 2 ≤ vs.length → ∀ (h₁ : Heap) (a : Addr), h₁.get? a = some (seqObj "list" vs.toArray 0) → (∀ b o, s.heap.get? b = some o → b ≠ a ∧ h₁.get? b = some o) → SrtO.SortableO prog w A.in1.in1 { s with heap := h₁ } a vs ltv)
    (h : ∀ out : List Value, SrtO.Srtd ltv out → SrtO.Stb ltv out vs → Q (.ref (s.heap.objs.size + 1)) { s with heap := sortedAll s.heap vs out.toArray }) :
    wpAny (model prog w) A (call (.builtin "sorted") [.ref l]) Q E s := by
  refine Calls.call_function_entry kind_sorted plain_sorted entry_sorted (args_sorted1 _) ?_
  unfold Builtin.«sorted»
  refine wpAny_bind (m := checkCount "sorted" 1 1 _) (wpAny_pure ?_)
  refine wpAny_bind (collect_tup hl ?_ hz)
  refine wpAny_bind (wpAny_newList ?_ hz)
  have hsz : ((s.heap.push (seqObj "list" #[] 0)).update s.heap.objs.size (Obj.mapSeq (· ++ vs.toArray))).objs.size = s.heap.objs.size + 1 := by
    rw [Heap.size_update, size_push']
  have hoL : (((s.heap.push (seqObj "list" #[] 0)).update s.heap.objs.size (Obj.mapSeq (· ++ vs.toArray))).push (seqObj "list" vs.toArray 0)).get? (s.heap.objs.size + 1) = some (seqObj "list" vs.toArray 0) := by
    rw [← hsz]; exact Heap.get?_push_size _ rfl
  have keep : ∀ b o, s.heap.get? b = some o → b ≠ s.heap.objs.size + 1 ∧ (((s.heap.push (seqObj "list" #[] 0)).update s.heap.objs.size (Obj.mapSeq (· ++ vs.toArray))).push (seqObj "list" vs.toArray 0)).get? b = some o := fun b o q => by
    have hlt : b < s.heap.objs.size := Heap.lt_size q
    refine ⟨Nat.ne_of_lt (Nat.lt_succ_of_lt hlt), Heap.get?_push_of_some _ ?_⟩
    rw [Heap.get?_update_ne _ _ _ _ (Nat.ne_of_lt hlt)]
    exact Heap.get?_push_of_some _ q
  show wpAny _ _ _ _ _ { s with heap := ((s.heap.push (seqObj "list" #[] 0)).update s.heap.objs.size (Obj.mapSeq (· ++ vs.toArray))).push (seqObj "list" vs.toArray 0) }
  rw [hsz]
  refine wpAny_bind (wpAny_holding (wpAny_call_entry slot_list_sort ⟨_, hoL, rfl⟩ entry_list_sort (SrtO.list_sort_ord O hoL hz (fun h2 => hS h2 _ _ hoL keep) fun out hs hb => ⟨_, rfl, ?_⟩) (args_list_sort _)))
  exact wpAny_pure ⟨_, rfl, h out hs hb⟩
end
def rSortedT (K : PySem.W.Frag) : List V → Hp → VK → Prop := fun vs H Q => ∃ (a : Addr) (ns : List Int), vs = [V.ref a] ∧ SqT K H a (ns.map V.int) ∧
  ∀ (ns' : List Int) (p : Addr), ns'.Perm ns → ns'.Pairwise (· ≤ ·) → H p = none → Q (.ref p) (upd H p (.lst (ns'.map V.int)))
theorem cr_sortedT {X : Cx} : CallR X (.builtin "sorted") (rSortedT X.K) := by
  intro pins s σ H vs us Q I r h
  obtain ⟨a, ns, rfl, hs, q⟩ := h
  obtain ⟨its, rv, hl, hz⟩ := I.tuple hs
  rw [Vals.ref1 r]
  have hi := rv.ints
  refine sorted_ordT SrtO.swo_int hl (by rw [← rv.length]; exact hz) (fun h2 h₁ a' _ _ => SrtO.ints_sortable hi h2) fun out h1 h2 => ?_
  obtain ⟨k1, k2, k3⟩ := SrtO.ints_out hi h1 h2
  obtain ⟨ep, he'⟩ := PyProof.Rows.sortedAll_at s.heap its out.toArray
  have hlen : ((out.map SrtO.iv).map V.int).length ≤ sizeLine := by
    rw [List.length_map, k2.length_eq]
    rw [List.length_map] at hz
    exact hz
  exact ⟨.ref _, upd H (s.heap.objs.size + 1) (.lst ((out.map SrtO.iv).map V.int)), I.laid (t' := s.toks) (fun _ _ => PyProof.Rows.sortedAll_old) (Nat.le_succ _) ⟨hlen, out, ep, vals_of_ints k1, he'⟩, rfl, q _ _ k2 k3 (I.hok.fresh (Nat.le_succ _))⟩
def srt (ns : List Int) : List Int := ns.mergeSort (fun a b => decide (a ≤ b))
theorem srt_perm (ns : List Int) : (srt ns).Perm ns := List.mergeSort_perm _ _
theorem srt_sorted (ns : List Int) : (srt ns).Pairwise (· ≤ ·) := by
  have := List.pairwise_mergeSort (le := fun a b : Int => decide (a ≤ b)) (fun a b c h1 h2 => by simp only [decide_eq_true_eq] at *; omega) (fun a b => by simp only [Bool.or_eq_true, decide_eq_true_eq]; omega) ns
  exact this.imp fun h => of_decide_eq_true h
theorem srt_uniq {ns ms : List Int} (h : ms.Perm ns) (hs : ms.Pairwise (· ≤ ·)) : ms = srt ns :=
  List.Perm.eq_of_pairwise (le := fun a b : Int => a ≤ b) (fun a b _ _ h1 h2 => Int.le_antisymm h1 h2) hs (srt_sorted ns) (h.trans (srt_perm ns).symm)
def fSorted : List D → Option (D × Bool)
  | [.lst ds] => (intsOf ds).map fun ns => (.lst ((srt ns).map D.int), true)
  | [.tup ds] => (intsOf ds).map fun ns => (.lst ((srt ns).map D.int), true)
  | _ => none
def rSortedA (K : PySem.W.Frag) : List V → Hp → VK → Prop := fun xs H Q => rSortedI K xs H Q ∨ rSortedT K xs H Q
theorem call_sortedA {X : Cx} : CallR X (.builtin "sorted") (rSortedA X.K) := cr_sortedI.or cr_sortedT
theorem ok_sorted {K : PySem.W.Frag} : BiOk K fSorted (rSortedA K) := fun ω F σ H s xs z b vs Q sr hx e p => by
  unfold fSorted at e
  split at e
  · rename_i ds
    cases q : intsOf ds with
    | none => rw [q] at e; cases e
    | some ns =>
      rw [q] at e; cases e
      obtain ⟨v, rfl, hv⟩ := hx.one
      rw [intsOf_eq q] at hv
      unfold Rp at hv
      obtain ⟨a, ys, rfl, h1, h2⟩ := hv
      rw [h2.ints] at h1
      refine .inl ⟨a, ns, rfl, SqL.of (sr.sub _ _ h1), fun ns' l hp hs hl => ?_⟩
      rw [srt_uniq hp hs]
      exact sr.newL hl (.ofInts _) p
  · rename_i ds
    cases q : intsOf ds with
    | none => rw [q] at e; cases e
    | some ns =>
      rw [q] at e; cases e
      obtain ⟨v, rfl, hv⟩ := hx.one
      rw [intsOf_eq q] at hv
      unfold Rp at hv
      obtain ⟨a, ys, rfl, h1, h2⟩ := hv
      rw [h2.ints] at h1
      refine .inr ⟨a, ns, rfl, sqt_mono sr.sub h1, fun ns' l hp hs hl => ?_⟩
      rw [srt_uniq hp hs]
      exact sr.newL hl (.ofInts _) p
  · cases e
end Rb

namespace HT
open PySem PySem.Spec PyProof.Rows
section
variable {prog : Program} {w : World} {A : Around} {E : Value → Shared → Prop} {s : Shared}
theorem sliceApplied_back {sl : Addr} {n : Nat} {vs : Value} {Q : Int × Int × Nat → Shared → Prop} (hs : s.heap.IsSliceOf sl .none .none vs) (pv : IsPart vs (some (-1)))
    (h : Q ((n : Int) - 1, -1, n) s) : wpAny (model prog w) A (Builtin.Slice.sliceApplied (.ref sl) (pure (n : Int))) Q E s := by
  obtain ⟨os, hos, hcs, hds⟩ := id hs
  unfold Builtin.Slice.sliceApplied Builtin.Slice.sliceFields
  refine wpAny_bind (wpAny_bind (wpAny_field hos hds (x := .none) rfl (wpAny_bind (wpAny_field hos hds (x := .none) rfl (wpAny_bind (wpAny_field hos hds (x := vs) rfl (wpAny_pure ?_)))))))
  refine wpAny_bind (slicePart_ pv ?_)
  show wpAny _ _ (if ((-1 : Int) == 0) = true then _ else _) _ _ s
  rw [if_neg (by decide)]
  refine wpAny_bind (slicePart_none (wpAny_bind (slicePart_none (wpAny_bind (wpAny_pure ?_)))))
  show wpAny _ _ (match Builtin.Slice.sliceAdjust none none (-1) (n : Int) with | (lo, hi) => pure (lo, (-1 : Int), Builtin.Slice.slicePlaces lo hi (-1))) _ _ s
  have e1 : Builtin.Slice.sliceAdjust none none (-1) (n : Int) = ((n : Int) - 1, -1) := by
    unfold Builtin.Slice.sliceAdjust
    rfl
  rw [e1]
  show wpAny _ _ (pure ((n : Int) - 1, (-1 : Int), Builtin.Slice.slicePlaces ((n : Int) - 1) (-1) (-1))) _ _ s
  have e2 : Builtin.Slice.slicePlaces ((n : Int) - 1) (-1) (-1) = n := by
    unfold Builtin.Slice.slicePlaces
    have h1 : (- -1 : Int) = 1 := rfl
    rw [if_neg (by decide), h1, Int.ediv_one]
    split <;> omega
  rw [e2]
  exact wpAny_pure h
theorem pick_back (xs : Array Value) : ((List.range xs.size).filterMap fun (m : Nat) => xs[(((xs.size : Nat) : Int) - 1 + (m : Int) * (-1)).toNat]?).toArray = xs.toList.reverse.toArray := by
  congr 1
  have e : ∀ m ∈ List.range xs.size, xs[(((xs.size : Nat) : Int) - 1 + (m : Int) * (-1)).toNat]? = some (xs.toList.reverse.getD m .none) := fun m hm => by
    have hlt : m < xs.size := List.mem_range.mp hm
    have : (((xs.size : Nat) : Int) - 1 + (m : Int) * (-1)).toNat = xs.size - 1 - m := by omega
    rw [this]
    have hl : m < xs.toList.length := by simpa using hlt
    rw [List.getD_eq_getElem?_getD, List.getElem?_reverse hl]
    have h2 : xs.toList.length - 1 - m < xs.toList.length := by omega
    rw [List.getElem?_eq_getElem h2]
    have h3 : xs.size - 1 - m < xs.size := by omega
    rw [Array.getElem?_eq_getElem h3]
    simp
  have e0 : ∀ (l : List Nat), (∀ m ∈ l, xs[(((xs.size : Nat) : Int) - 1 + (m : Int) * (-1)).toNat]? = some (xs.toList.reverse.getD m .none)) → l.filterMap (fun (m : Nat) => xs[(((xs.size : Nat) : Int) - 1 + (m : Int) * (-1)).toNat]?) = l.filterMap (fun m => some (xs.toList.reverse.getD m .none)) := fun l => by
    induction l with
    | nil => intro _; rfl
    | cons a l ih =>
      intro h
      rw [List.filterMap_cons, List.filterMap_cons, h a List.mem_cons_self, ih fun m hm => h m (List.mem_cons_of_mem _ hm)]
  rw [e0 _ e]
  have : (List.range xs.size).filterMap (fun m => some (xs.toList.reverse.getD m .none)) = (List.range xs.size).map fun m => xs.toList.reverse.getD m .none := by
    rw [List.filterMap_eq_map']
  rw [this]
  refine List.ext_getElem (by simp) fun i h1 h2 => ?_
  have hi : i < xs.size := by simpa using h1
  simp [List.getD_eq_getElem?_getD, hi]
theorem getItem_tuple_back {t sl : Addr} {items : Array Value} {vs : Value} {Q : Value → Shared → Prop} (ht : IsTup s.heap t items) (hs : s.heap.IsSliceOf sl .none .none vs) (pv : IsPart vs (some (-1)))
    (h : Q (.ref s.heap.objs.size) { s with heap := s.heap.push { cls := .type "tuple", data := .seq items.toList.reverse.toArray } })
    (hsz : items.size ≤ sizeLine) : wpAny (model prog w) A (getItem (.ref t) (.ref sl)) Q E s := by
  have htake : sizeOk (.seq items.toList.reverse.toArray) := by
    show items.toList.reverse.toArray.size ≤ sizeLine
    simpa using hsz
  obtain ⟨os, hos, hcs, hds⟩ := id hs
  have hTs : s.TypeIs (.ref sl) "slice" := ⟨os, hos, hcs⟩
  unfold getItem
  try with_reducible refine wpAny_holding ?_
  first | refine wpAny_bind (wpAny_pure ?_) | skip
  refine wpAny_bind (wpAny_sequenceKey ht.typeIs (by decide) ?_)
  refine wpAny_bind (wpAny_callSpecial?_slot (name := Str.ofString "__getitem__") ht.typeIs PyProof.Rows.slot_tuple_getitem
    (wpAny_call_entry PyProof.Rows.slot_tuple_getitem ht.typeIs entry_tuple_getitem ?_ (args_tuple_getitem _ _)))
  show wpAny _ _ (Builtin.Tuple.tupleItemsOf (.ref t) >>= _) _ _ s
  refine wpAny_bind (tupleItemsOf_ ht ?_)
  refine wpAny_bind (wpAny_typeOf hTs ?_)
  rw [if_pos (by decide)]
  refine wpAny_bind (sliceApplied_back hs pv ?_)
  have hno : ¬ ((((items.size : Nat) : Int) - 1 == 0 && (-1 : Int) == 1 && items.size == items.size) = true) := by
    intro q
    rw [Bool.and_eq_true, Bool.and_eq_true] at q
    exact absurd q.1.2 (by decide)
  show wpAny _ _ (if (((items.size : Nat) : Int) - 1 == 0 && (-1 : Int) == 1 && items.size == items.size) = true then _ else _) _ _ s
  rw [if_neg hno, pick_back]
  first
    | exact wpAny_bind (m := Builtin.Tuple.tupleExact _) (wpAny_newObj_type (wpAny_pure ⟨_, rfl, wpAny_pure h⟩) htake)
    | exact wpAny_bind (m := Builtin.Tuple.tupleExact _) (wpAny_newObj_type (wpAny_bind (wpAny_pure (wpAny_pure ⟨_, rfl, wpAny_pure h⟩))) htake)
    | exact wpAny_bind (wpAny_bind (m := Builtin.Tuple.tupleExact _) (wpAny_newObj_type (wpAny_pure (wpAny_pure ⟨_, rfl, wpAny_pure h⟩)) htake))
    | exact wpAny_bind (wpAny_bind (m := Builtin.Tuple.tupleExact _) (wpAny_newObj_type (wpAny_pure ⟨_, rfl, wpAny_pure h⟩) htake))
end
end HT

namespace Rb
open PySem PySem.Spec PyProof.Rows L2
/-! ### an item -/
theorem RpL.atI {K : PySem.W.Frag} {P : Option Addr} {F : Hp} {ds : List D} {xs : List V} {i : Int} {d : D} (h : RpL K P F ds xs) (e : atI ds i = some d) : ∃ x, L2.atI xs i = some x ∧ Rp K P F d x := by
  unfold L2.atI at e ⊢
  rw [h.len]
  cases q : ixN ds.length i with
  | none => rw [q] at e; cases e
  | some j =>
    rw [q] at e
    exact h.get (by simpa using e)
def dIx : D → D → Option (D × Bool)
  | .lst ds, .int i => (atI ds i).map fun d => (d, false)
  | .tup ds, .int i => (atI ds i).map fun d => (d, false)
  | .scr ns, .int i => (atI ns i).map fun n => (.int n, false)
  | _, _ => none
theorem ok_ix {K : PySem.W.Frag} : BinOk K dIx (rIx K) := fun ω F σ H s x y z b v u Q sr hx hy e p => by
  unfold dIx at e
  split at e
  · rename_i ds i
    cases q : atI ds i with
    | none => rw [q] at e; cases e
    | some d =>
      rw [q] at e; cases e
      unfold Rp at hx hy; subst hy
      obtain ⟨a, xs, rfl, h1, h2⟩ := hx
      obtain ⟨w, h3, h4⟩ := h2.atI q
      exact .inl ⟨a, xs, _, w, rfl, rfl, SqL.of (sr.sub _ _ h1), h3, sr.here (b := false) h4 p⟩
  · rename_i ds i
    cases q : atI ds i with
    | none => rw [q] at e; cases e
    | some d =>
      rw [q] at e; cases e
      unfold Rp at hx hy; subst hy
      obtain ⟨a, xs, rfl, h1, h2⟩ := hx
      obtain ⟨w, h3, h4⟩ := h2.atI q
      exact .inr (.inl ⟨a, xs, _, w, rfl, rfl, sqt_mono sr.sub h1, h3, sr.here (b := false) h4 p⟩)
  · rename_i ns i
    cases q : atI ns i with
    | none => rw [q] at e; cases e
    | some n =>
      rw [q] at e; cases e
      unfold Rp at hx hy; subst hy
      obtain ⟨a, rfl, h1⟩ := hx
      refine .inl ⟨a, _, _, .int n, rfl, rfl, sql_mono sr.sub h1, ?_, sr.here (b := false) (by show Rp _ _ _ _ _; unfold Rp; rfl) p⟩
      unfold L2.atI at q ⊢
      rw [List.length_map]
      cases z : ixN ns.length i with
      | none => rw [z] at q; cases q
      | some j =>
        rw [z] at q
        have q : ns[j]? = some n := q
        show (ns.map V.int)[j]? = some (.int n)
        rw [List.getElem?_map, q]; rfl
  · cases e
def keyOf : D → Option Key
  | .int i => some (.inl i)
  | .str x => some (.inr x)
  | _ => none
theorem keyOf_rp {K : PySem.W.Frag} {P : Option Addr} {F : Hp} {d : D} {v : V} {k : Key} (h : Rp K P F d v) (e : keyOf d = some k) : v = kV k := by
  cases d <;> cases e
  · unfold Rp at h; exact h
  · unfold Rp at h; exact h
def valD (kvs : List (Key × D)) (k : Key) : Option D := (kvs.find? fun kv => decide (kv.1 = k)).map (·.2)
theorem RpK.val {K : PySem.W.Frag} {P : Option Addr} {F : Hp} (k : Key) : ∀ {ds : List (Key × D)} {xs : List (Key × V)}, RpK K P F ds xs → (valD ds k = none ∧ valV xs k = none) ∨ ∃ d v, valD ds k = some d ∧ valV xs k = some v ∧ Rp K P F d v
  | [], xs, h => by unfold RpK at h; subst h; exact .inl ⟨rfl, rfl⟩
  | (j, d) :: ds, xs, h => by
    unfold RpK at h
    obtain ⟨x, r, rfl, hx, hr⟩ := h
    by_cases q : j = k
    · subst q
      exact .inr ⟨d, x, by simp [valD, List.find?_cons], by simp [valV, List.find?_cons], hx⟩
    · have e1 : valD ((j, d) :: ds) k = valD ds k := by simp [valD, List.find?_cons, q]
      have e2 : valV ((j, x) :: r) k = valV r k := by simp [valV, List.find?_cons, q]
      rw [e1, e2]
      exact RpK.val k hr
def dDGet : D → D → Option (D × Bool)
  | .dic kvs, y => (keyOf y).bind fun k => (valD kvs k).map fun d => (d, false)
  | _, _ => none
def rDGet : R2 := fun x y H Q => ∃ a v, x = .ref a ∧ DGet H a y (some v) ∧ Q v H
theorem ok_dget {K : PySem.W.Frag} : BinOk K dDGet rDGet := fun ω F σ H s x y z b v u Q sr hx hy e p => by
  unfold dDGet at e
  split at e
  · rename_i kvs
    cases q : keyOf y with
    | none => rw [q] at e; cases e
    | some k =>
      rw [q] at e
      simp only [Option.bind_some] at e
      cases q2 : valD kvs k with
      | none => rw [q2] at e; cases e
      | some d =>
        rw [q2] at e; cases e
        have hu := keyOf_rp hy q
        unfold Rp at hx
        obtain ⟨a, ks, rfl, h1, h2⟩ := hx
        rcases h2.val k with ⟨h3, _⟩ | ⟨d', w, h3, h4, h5⟩
        · rw [q2] at h3; cases h3
        · rw [q2] at h3; cases h3
          refine ⟨a, w, rfl, .inl ⟨ks, k, rd_mono sr.sub h1, hu, h4.symm⟩, sr.here (b := false) h5 p⟩
  · cases e
def dGetAny : D → D → Option (D × Bool)
  | .dic kvs, y => dDGet (.dic kvs) y
  | x, y => dIx x y
section
variable {X : Cx}
theorem p_ix {a b : Expr} {ea eb : SE} {pos : Pos} (hu : X.A.units + 1 < cLine) (ha : PE X a (rd X.K ea)) (hb : PE X b (rd X.K eb)) (hs : ∀ o i, subscripted b false o i = operate [o, i] (getItem o i)) : PE X (.Subscript a b pos) (rd X.K (cBin dGetAny ea eb)) :=
  ⟨fun pins s σ H Q I hw => by
    have split2 : rd X.K (cBin dIx ea eb) σ H Q ∨ rd X.K (cBin dDGet ea eb) σ H Q := by
      obtain ⟨ω, F, s0, d, b0, s', sr, e, p⟩ := hw
      unfold cBin at e
      cases e1 : ea s0 with
      | none => rw [e1] at e; cases e
      | some p1 =>
        obtain ⟨⟨d1, b1⟩, s1⟩ := p1
        rw [e1] at e
        simp only [Option.bind_some] at e
        by_cases hd : ∃ kvs, d1 = .dic kvs
        · obtain ⟨kvs, rfl⟩ := hd
          refine .inr ⟨ω, F, s0, d, b0, s', sr, ?_, p⟩
          unfold cBin
          rw [e1]
          exact e
        · refine .inl ⟨ω, F, s0, d, b0, s', sr, ?_, p⟩
          unfold cBin
          rw [e1]
          simp only [Option.bind_some]
          rw [← e]
          congr 1
          funext q
          congr 1
          cases d1 <;> first | rfl | exact absurd ⟨_, rfl⟩ hd
    rcases split2 with h | h
    · exact (pe_ix ix_seq ha hb hs).run pins s σ H Q I (bin_use ok_ix h)
    · exact (pe_dget hu ha hb hs).run pins s σ H Q I (bin_use ok_dget h)⟩
end
/-! ### slices -/
def cut {α : Type} (xs : List α) (lo hi : Option Int) : List α := (xs.drop (HT.sIx xs.length 0 lo)).take (HT.sIx xs.length xs.length hi - HT.sIx xs.length 0 lo)
abbrev SO := S → Option (Option Int × S)
def rdO (K : PySem.W.Frag) (o : SO) : TO := fun σ H Q => ∃ ω F s n s', Sr K ω F σ H s ∧ o s = some (n, s') ∧ ∀ F' H', Ex F F' → Sr K ω F' σ H' s' → Q n H'
def oNone : SO := fun s => some (none, s)
def oSome (e : SE) : SO := fun s => (e s).bind fun p => match p.1.1 with
  | .int i => some (some i, p.2)
  | _ => none
def dSl (x : D) (lo hi : Option Int) : Option (D × Bool) := match x with
  | .lst ds => some (.lst (cut ds lo hi), true)
  | .tup ds => some (.tup (cut ds lo hi), false)
  | .scr ns => some (.lst ((cut ns lo hi).map .int), true)
  | _ => none
def cSl (a : SE) (lo hi : SO) : SE := fun s => (a s).bind fun p => (lo p.2).bind fun q => (hi q.2).bind fun r => (dSl p.1.1 q.1 r.1).map fun z => (z, r.2)
def rSlAll (K : PySem.W.Frag) : V → Option Int → Option Int → Hp → VK → Prop := fun x lo hi H Q => rSlL K x lo hi H Q ∨ rSlA K x lo hi H Q
section
variable {X : Cx}
theorem o_none : PO X none (rdO X.K oNone) := by
  have h : PO X none tNoPart := po_none
  exact ⟨fun pins s σ H Q I hw => h.run pins s σ H Q I (by
    obtain ⟨ω, F, s, n, s', sr, e, p⟩ := hw
    cases e
    exact p F H (Ex.refl F) sr)⟩
theorem o_some {e : Expr} {c : SE} (he : PE X e (rd X.K c)) : PO X (some e) (rdO X.K (oSome c)) := by
  have h := po_some he
  exact ⟨fun pins s σ H Q I hw => h.run pins s σ H Q I (by
    obtain ⟨ω, F, s, n, s', sr, e, p⟩ := hw
    unfold oSome at e
    cases e1 : c s with
    | none => rw [e1] at e; cases e
    | some p1 =>
      obtain ⟨⟨d1, b1⟩, s1⟩ := p1
      rw [e1] at e
      simp only [Option.bind_some] at e
      cases d1 <;> cases e
      refine rd_use sr e1 fun v F1 H1 x1 r1 hv => ?_
      unfold Rp at hv
      exact ⟨_, hv, p F1 H1 x1 r1⟩)⟩
theorem p_sl {a : Expr} {lo hi : Option Expr} {ca : SE} {cl ch : SO} {p2 pos : Pos} (ha : PE X a (rd X.K ca)) (hl : PO X lo (rdO X.K cl)) (hh : PO X hi (rdO X.K ch)) : PE X (.Subscript a (.Slice lo hi none p2) pos) (rd X.K (cSl ca cl ch)) :=
  (pe_slice (sl_list.or sl_tupA) ha hl hh).imp fun σ H Q hw => by
    obtain ⟨ω, F, s, d, b, s', sr, e, p⟩ := hw
    unfold cSl at e
    cases e1 : ca s with
    | none => rw [e1] at e; cases e
    | some p1 =>
      obtain ⟨⟨d1, b1⟩, s1⟩ := p1
      rw [e1] at e
      simp only [Option.bind_some] at e
      cases e2 : cl s1 with
      | none => rw [e2] at e; cases e
      | some p2 =>
        obtain ⟨n2, s2⟩ := p2
        rw [e2] at e
        simp only [Option.bind_some] at e
        cases e3 : ch s2 with
        | none => rw [e3] at e; cases e
        | some p3 =>
          obtain ⟨n3, s3⟩ := p3
          rw [e3] at e
          simp only [Option.bind_some] at e
          refine rd_use sr e1 fun v F1 H1 x1 r1 hv => ?_
          refine ⟨ω, F1, s1, n2, s2, r1, e2, fun F2 H2 x2 r2 => ?_⟩
          refine ⟨ω, F2, s2, n3, s3, r2, e3, fun F3 H3 x3 r3 => ?_⟩
          have hv := hv.mono (x2.trans x3)
          have p := p.mono ((x1.trans x2).trans x3)
          unfold dSl at e
          split at e
          · cases e
            unfold Rp at hv
            obtain ⟨q, xs, rfl, h1, h2⟩ := hv
            refine .inl ⟨q, xs, rfl, SqL.of (r3.sub _ _ h1), fun l hl => r3.newL hl ?_ p⟩
            unfold cut cutV
            rw [h2.len]
            exact (h2.drop _).take _
          · cases e
            unfold Rp at hv
            obtain ⟨q, xs, rfl, h1, h2⟩ := hv
            refine .inr ⟨q, xs, rfl, sqt_mono r3.sub h1, fun z => ?_, fun _ l hl => r3.newT hl ?_ p⟩
            · refine r3.here (b := false) ?_ p
              show Rp _ _ _ _ _
              unfold Rp
              refine ⟨q, xs, rfl, h1, ?_⟩
              unfold cut
              rw [h2.len] at z
              rw [z.1, z.2, List.drop_zero, Nat.sub_zero, List.take_of_length_le (Nat.le_refl _)]
              exact h2
            · unfold cut cutV
              rw [h2.len]
              exact (h2.drop _).take _
          · cases e
            unfold Rp at hv
            obtain ⟨q, rfl, h1⟩ := hv
            refine .inl ⟨q, _, rfl, sql_mono r3.sub h1, fun l hl => r3.newL hl ?_ p⟩
            unfold cut cutV
            rw [List.length_map, ← List.map_drop, ← List.map_take]
            exact .ofInts _
          · cases e
/-! x[::-1] -/
def dRev : D → Option (D × Bool)
  | .lst ds => some (.lst ds.reverse, true)
  | .tup ds => some (.tup ds.reverse, false)
  | _ => none
def tRevT (K : PySem.W.Frag) (te : TE) : TE := fun σ H Q => te σ H fun x H1 => ∃ a xs, x = .ref a ∧ SqT K H1 a xs ∧ ∀ p, H1 p = none → Q (.ref p) (upd H1 p (.tup xs.reverse))
theorem pe_revT {e : Expr} {te : TE} {k : Nat} {p1 p2 p3 pos : Pos} (he : PE X e te) : PE X (.Subscript e (.Slice none none (some (.UnaryOp .USub (.Constant (.int 1) k p1) p2)) p3) pos) (tRevT X.K te) := by
  refine ⟨fun pins s σ H Q I h => ?_⟩
  refine Subscript_ (thn (he.run pins s σ H _ I h) fun v s1 ⟨x, H1, I1, r1, q1⟩ => ?_)
  obtain ⟨a, xs, ex, hx, q⟩ := q1
  subst ex
  cases r1
  have hst : PO X (some (.UnaryOp .USub (.Constant (.int 1) k p1) p2)) (tPart (tUn (rU fun i => .int (-i)) (tC (.int 1)))) := po_some (pe_un un_neg pe_int)
  refine wpAny_Slice (thn (po_none.run pins s1 σ H1 (fun o H2 => o = none ∧ H2 = H1) I1 ⟨rfl, rfl⟩) fun vl s2 ⟨l, H2, I2, pl, el, e2⟩ => ?_)
  subst el e2
  refine thn (po_none.run pins s2 σ H2 (fun o H3 => o = none ∧ H3 = H2) I2 ⟨rfl, rfl⟩) fun vu s3 ⟨u, H3, I3, pu, eu, e3⟩ => ?_
  subst eu e3
  refine thn (hst.run pins s3 σ H3 (fun o H4 => o = some (-1) ∧ H4 = H3) I3 ⟨1, rfl, -1, rfl, rfl, rfl⟩) fun vs s4 ⟨o, H4, I4, ps, eo, e4⟩ => ?_
  subst eo e4
  cases pl
  cases pu
  have I5 : Inv X pins σ H4 { s4 with heap := s4.heap.push { cls := .type "slice", data := .fields #[.none, .none, vs] } } := I4.kept (t' := s4.toks) fun b ob q => Heap.get?_push_of_some _ q
  obtain ⟨its, r, ht, hz⟩ := I5.tuple hx
  have hlen := r.length
  show wpAny (model X.prog X.w) X.A (subscriptTail e (.Slice none none (some (.UnaryOp .USub (.Constant (.int 1) k p1) p2)) p3) (.ref a) (.ref s4.heap.objs.size)) (EP X pins σ Q) X.xe { s4 with heap := s4.heap.push { cls := .type "slice", data := .fields #[.none, .none, vs] } }
  refine tail_any (ops := [.ref a, .ref s4.heap.objs.size]) ht.typeIs (PyProof.Rows.slot_tuple_getitem.lookup) ?_ (by with_unfolding_all rfl)
  refine HT.getItem_tuple_back ht (Heap.IsSliceOf.new _ .none .none vs) ps ?_ (by rw [List.size_toArray]; omega)
  refine ⟨.ref _, _, I5.laid (t' := s4.toks) (o := .tup xs.reverse) (fun b ob q => Heap.get?_push_of_some _ q) (Nat.le_refl _) ?_, rfl, q _ (I5.hok.fresh (Nat.le_refl _))⟩
  exact ⟨by rw [List.length_reverse]; exact hz, _, r.reverse, IsTup.new _ _⟩
theorem p_rev {e : Expr} {c : SE} {k : Nat} {p1 p2 p3 pos : Pos} (he : PE X e (rd X.K c)) : PE X (.Subscript e (.Slice none none (some (.UnaryOp .USub (.Constant (.int 1) k p1) p2)) p3) pos) (rd X.K (cUn dRev c)) :=
  ⟨fun pins s σ H Q I hw => by
    have two : tRevL X.K (rd X.K c) σ H Q ∨ tRevT X.K (rd X.K c) σ H Q := by
      obtain ⟨ω, F, s0, d, b0, s', sr, e, p⟩ := hw
      unfold cUn at e
      cases e1 : c s0 with
      | none => rw [e1] at e; cases e
      | some q1 =>
        obtain ⟨⟨d1, b1⟩, s1⟩ := q1
        rw [e1] at e
        simp only [Option.bind_some] at e
        cases d1 <;> first | (cases e; done) | skip
        · cases e
          refine .inr (rd_use sr e1 fun v F1 H1 x1 r1 hv => ?_)
          unfold Rp at hv
          obtain ⟨q, xs, rfl, h1, h2⟩ := hv
          exact ⟨q, xs, rfl, sqt_mono r1.sub h1, fun l hl => r1.newT hl h2.rev (p.mono x1)⟩
        · cases e
          refine .inl (rd_use sr e1 fun v F1 H1 x1 r1 hv => ?_)
          unfold Rp at hv
          obtain ⟨q, xs, rfl, h1, h2⟩ := hv
          exact ⟨q, xs, rfl, SqL.of (r1.sub _ _ h1), fun l hl => r1.newL hl h2.rev (p.mono x1)⟩
    rcases two with h | h
    · exact (pe_revL he).run pins s σ H Q I h
    · exact (pe_revT he).run pins s σ H Q I h⟩
end
/-! ### isinstance -/
def dTy : D → String
  | .non => "NoneType" | .bl _ => "bool" | .int _ => "int" | .str _ => "str" | .tup _ => "tuple" | .lst _ => "list" | .dic _ => "dict" | .pot => "" | .scr _ => "list"
def cIsi (T : String) (a : SE) : SE := fun s => (a s).bind fun p => match p.1.1 with
  | .pot => none
  | d => (kitB (dTy d) T).map fun b => ((.bl b, false), p.2)
theorem Rp.tyX {K : PySem.W.Frag} {P : Option Addr} {F H : Hp} {d : D} {v : V} (h : Rp K P F d v) (e : Ex F H) (hp : d ≠ .pot) : TyX K H v (.type (dTy d)) := by
  cases d <;> unfold Rp at h
  case non => subst h; exact .base .non
  case bl => subst h; exact .base (.bl _)
  case int => subst h; exact .base (.int _)
  case str => subst h; exact .base (.str _)
  case tup =>
    obtain ⟨a, xs, rfl, h1, h2⟩ := h
    rcases h1 with (h1 | ⟨o, h1⟩) | ⟨o, its, n, hk, hc, _⟩
    · exact .base (.tup (e _ _ h1))
    · exact .fTuple (e _ _ h1)
    · exact .kTuple hk hc
  case lst =>
    obtain ⟨a, xs, rfl, h1, h2⟩ := h
    exact .base (.lst (e _ _ h1))
  case dic =>
    obtain ⟨a, xs, rfl, h1, h2⟩ := h
    rcases h1 with h1 | ⟨o, h1⟩
    · exact .base (.dK (e _ _ h1))
    · exact .fDict (e _ _ h1)
  case pot => exact absurd rfl hp
  case scr =>
    obtain ⟨a, rfl, h1⟩ := h
    rcases h1 with (h1 | ⟨o, h1⟩) | ⟨o, its, n, hk, hc, _⟩
    · exact .base (.lst (e _ _ h1))
    · exact .base (.frz (e _ _ h1))
    · exact .kList hk hc
section
variable {X : Cx}
theorem p_isi {e : Expr} {c : SE} {T : String} {xT : Str} {p pt pos : Pos} (he : PE X e (rd X.K c)) (hg : Gl X "isinstance") (hm : X.mg "isinstance" = none) (hT : PE X (.Name xT pt) (tC (.ty T)))
    (hs : starEach [e, .Name xT pt] X.env = (false, eval e X.env) :: starEach [.Name xT pt] X.env := by rfl) (hs2 : starEach [.Name xT pt] X.env = (false, eval (.Name xT pt) X.env) :: starEach [] X.env := by rfl) (hpl : (backTo pos (starEach [.Name xT pt] X.env)).any (·.1) = false := by rfl) :
    PE X (.Call (.Name "isinstance" p) [e, .Name xT pt] [] pos) (rd X.K (cIsi T c)) :=
  (pe_callB (call_isi) hg hm (by decide +kernel) (pa_cons he (pa_cons hT pa_nil hs2) hs) (by decide) (by decide) hs hpl).imp fun σ H Q hw => by
    obtain ⟨ω, F, s, d, b, s', sr, h, q⟩ := hw
    unfold cIsi at h
    cases e1 : c s with
    | none => rw [e1] at h; cases h
    | some p1 =>
      obtain ⟨⟨d1, b1⟩, s1⟩ := p1
      rw [e1] at h
      simp only [Option.bind_some] at h
      have hd : d1 ≠ .pot := fun z => by subst z; cases h
      have h : (kitB (dTy d1) T).map (fun b => ((D.bl b, false), s1)) = some ((d, b), s') := by
        cases d1 <;> first | exact h | exact absurd rfl hd
      cases e2 : kitB (dTy d1) T with
      | none => rw [e2] at h; cases h
      | some r =>
        rw [e2] at h; cases h
        refine rd_use sr e1 fun v F1 H1 x1 r1 hv => ?_
        exact ⟨v, .ty T, .type (dTy d1), .type T, r, rfl, .ty T, hv.tyX r1.sub hd, kit_ty e2, r1.here (b := false) (by show Rp _ _ _ _ _; unfold Rp; rfl) (q.mono x1)⟩
end
end Rb

namespace Rb
open PySem PySem.Spec PyProof.Rows L2

section
variable {K : PySem.W.Frag} {ω : Wd} {F F' : Hp} {σ : L2.St} {H H' : Hp} {s s' : S} {v : V} {d d' : D} {b : Bool} {i : Nat}
theorem getElem?_ltL {α : Type} {l : List α} {i : Nat} {x : α} (h : l[i]? = some x) : i < l.length := by
  rcases Nat.lt_or_ge i l.length with q | q
  · exact q
  · rw [List.getElem?_eq_none q] at h; cases h
/-- the object that slot i holds alone is changed -/
theorem Sr.mut {a : Addr} {o : HO} (r : Sr K ω F σ H s) (h : s.r[i]? = some (.own d)) (hv : σ[i]? = some (some (.ref a)))
    (hd : (∃ ds xs, d' = .lst ds ∧ o = .lst xs ∧ RpL K ω.P F ds xs) ∨ ∃ ds xs, d' = .dic ds ∧ o = .dK xs ∧ RpK K ω.P F ds xs) :
    Sr K ω F σ (upd H a o) { s with r := s.r.set i (.own d') } := by
  obtain ⟨v, hv', ho⟩ := r.sl i _ h
  rw [hv] at hv'; cases hv'
  obtain ⟨a', u, ea, ha, hF, h0, hP, _⟩ := ho.is
  cases ea
  have hi := getElem?_ltL h
  refine ⟨by rw [r.len]; simp, r.sub.updR hF, fun c u q e => ?_, r.new, r.pt.ext (fun q e => upd_ne fun z => hP (by rw [e, z])) (fun _ _ => rfl), fun j b e => ?_, fun j k d1 d2 w hjk h1 h2 h3 h4 => ?_⟩
  · have : c ≠ a := fun z => by rw [z, h0] at e; cases e
    rw [upd_ne this]; exact r.frm c u q e
  · have e : (s.r.set i (.own d'))[j]? = some b := e
    by_cases q : i = j
    · subst q
      rw [List.getElem?_set_self hi] at e; cases e
      refine ⟨_, hv, ?_⟩
      rcases hd with ⟨ds, xs, rfl, rfl, hr⟩ | ⟨ds, xs, rfl, rfl, hr⟩
      · exact ⟨a, xs, rfl, upd_same, hF, h0, hP, hr⟩
      · exact ⟨a, xs, rfl, upd_same, hF, h0, hP, hr⟩
    · rw [List.getElem?_set_ne q] at e
      refine (r.sl j b e).mono (Ex.refl F) fun c hc hx _ hFc => ⟨upd_ne fun z => ?_, hFc⟩
      obtain ⟨d2, rfl⟩ := hc
      exact r.dis i j d d2 _ q h e hv (by rw [hx, z])
  · have h1 : (s.r.set i (.own d'))[j]? = some (.own d1) := h1
    have h2 : (s.r.set i (.own d'))[k]? = some (.own d2) := h2
    have g1 : ∃ d1', s.r[j]? = some (.own d1') := by
      by_cases q : i = j
      · subst q; exact ⟨_, h⟩
      · rw [List.getElem?_set_ne q] at h1; exact ⟨_, h1⟩
    have g2 : ∃ d2', s.r[k]? = some (.own d2') := by
      by_cases q : i = k
      · subst q; exact ⟨_, h⟩
      · rw [List.getElem?_set_ne q] at h2; exact ⟨_, h2⟩
    obtain ⟨_, g1⟩ := g1
    obtain ⟨_, g2⟩ := g2
    exact r.dis j k _ _ w hjk g1 g2 h3 h4
/-- a slot that holds a list alone -/
theorem Sr.ownL {ds : List D} (r : Sr K ω F σ H s) (h : s.r[i]? = some (.own (.lst ds))) : ∃ a xs, σ[i]? = some (some (.ref a)) ∧ H a = some (.lst xs) ∧ RpL K ω.P F ds xs := by
  obtain ⟨v, hv, a, xs, rfl, h1, _, _, _, h2⟩ := r.sl i _ h
  exact ⟨a, xs, hv, h1, h2⟩
theorem Sr.ownD {ds : List (Key × D)} (r : Sr K ω F σ H s) (h : s.r[i]? = some (.own (.dic ds))) : ∃ a xs, σ[i]? = some (some (.ref a)) ∧ H a = some (.dK xs) ∧ RpK K ω.P F ds xs := by
  obtain ⟨v, hv, a, xs, rfl, h1, _, _, _, h2⟩ := r.sl i _ h
  exact ⟨a, xs, hv, h1, h2⟩
end
/-! ### x.append(e) -/
def cApp (i : Nat) (c : SE) : SS := fun s => match s.r[i]? with
  | some (.own (.lst _)) => (c s).bind fun p => match p.2.r[i]? with
    | some (.own (.lst ds)) => if szOk (ds.length + 1) then some (.nx, { p.2 with r := p.2.r.set i (.own (.lst (ds ++ [p.1.1]))) }) else none
    | _ => none
  | _ => none
def cExt (i : Nat) (c : SE) : SS := fun s => match s.r[i]? with
  | some (.own (.lst _)) => (c s).bind fun p => match p.2.r[i]?, p.1.1 with
    | some (.own (.lst ds)), .lst es => if szOk (ds.length + es.length) then some (.nx, { p.2 with r := p.2.r.set i (.own (.lst (ds ++ es))) }) else none
    | _, _ => none
  | _ => none
/-- x.pop(k) -/
def cPop (i : Nat) (c : SE) : SE := fun s => match s.r[i]? with
  | some (.own (.lst _)) => (c s).bind fun p => match p.2.r[i]?, p.1.1 with
    | some (.own (.lst ds)), .int k => if inR 9223372036854775807 k then (ixN ds.length k).bind fun j => (ds[j]?).map fun d => ((d, false), { p.2 with r := p.2.r.set i (.own (.lst (ds.eraseIdx j))) }) else none
    | _, _ => none
  | _ => none
/-- x[k], len(x) of what the slot holds alone -/
def cIxV (i : Nat) (c : SE) : SE := fun s => (c s).bind fun p => match s.r[i]?, p.2.r[i]?, p.1.1 with
  | some (.own (.lst _)), some (.own (.lst ds)), .int k => (atI ds k).map fun d => ((d, false), p.2)
  | some (.val (.lst ds)), _, .int k => (atI ds k).map fun d => ((d, false), p.2)
  | some (.val (.tup ds)), _, .int k => (atI ds k).map fun d => ((d, false), p.2)
  | some (.own (.dic _)), some (.own (.dic ks)), k => (dDGet (.dic ks) k).map fun d => (d, p.2)
  | some (.val (.dic ks)), _, k => (dDGet (.dic ks) k).map fun d => (d, p.2)
  | _, _, _ => none
def cLenV (i : Nat) : SE := fun s => match s.r[i]? with
  | some (.own (.lst ds)) => some ((.int ds.length, false), s)
  | some (.val (.lst ds)) => some ((.int ds.length, false), s)
  | some (.val (.tup ds)) => some ((.int ds.length, false), s)
  | _ => none
/-- x[k] = e -/
def cPutV (i : Nat) (ci : SE) (c : SE) : SS := fun s => (c s).bind fun p => match p.2.r[i]? with
  | some (.own (.lst _)) => (ci p.2).bind fun q => match q.2.r[i]?, q.1.1 with
    | some (.own (.lst ds)), .int k => (ixN ds.length k).map fun j => (.nx, { q.2 with r := q.2.r.set i (.own (.lst (ds.set j p.1.1))) })
    | _, _ => none
  | _ => none
section
variable {X : Cx} {i : Nat} {x : Str} {pn : Pos}
theorem one_arg {K : PySem.W.Frag} {c : SE} {ω : Wd} {F : Hp} {σ : L2.St} {H : Hp} {s s' : S} {d : D} {b : Bool} {R : List V → Hp → Prop} (r : Sr K ω F σ H s) (e : c s = some ((d, b), s')) (q : ∀ v F' H', Ex F F' → Sr K ω F' σ H' s' → Rp K ω.P F' d v → R [v] H') : tCons (rd K c) tNil σ H R :=
  rd_use r e fun v F1 H1 x1 r1 hv => q v F1 H1 x1 r1 hv
theorem s_app {e : Expr} {c : SE} {apos cpos pos : Pos} (hv : PE X (.Name x pn) (tVar i)) (he : PE X e (rd X.K c))
    (hb : attributeBase (.Name x pn) "append" X.env (eval (.Name x pn) X.env) = eval (.Name x pn) X.env)
    (hfew : ((backTo cpos (starEach [e] X.env)).all (fun x => !x.1) && (backToKw cpos (keywordEach [] X.env)).all (fun x => x.1.isSome)
      && decide (([e] : List Expr).length + ([] : List Keyword).length + (if ([] : List Keyword).isEmpty then 0 else 1) < 30)) = true)
    (hline : (apos.endLine == cpos.line) = true) (hs : starEach [e] X.env = (false, eval e X.env) :: starEach [] X.env) (hp : (backTo cpos (starEach [] X.env)).any (·.1) = false)
    (hsw : swapsWith (.Call (.Attribute (.Name x pn) "append" apos) [e] [] cpos) none pos.line X.env = pure false) :
    PS X (.Expr (.Call (.Attribute (.Name x pn) "append" apos) [e] [] cpos) pos) (rdS X.K (cApp i c)) :=
  (ps_expr (pe_bm PySem.F.plainAttrs_list PySem.F.slot_list_append PySem.F.type_list_append mt_append hv (pa_cons he pa_nil hs) hb hfew hline hs hp) hsw).imp fun D' σ H hw => by
    obtain ⟨ω, F, s, fl, s', sr, h, p⟩ := hw
    unfold cApp at h
    split at h
    · rename_i ds0 h0
      obtain ⟨a, xs, hσ, hH, _⟩ := sr.ownL h0
      cases e1 : c s with
      | none => rw [e1] at h; cases h
      | some p1 =>
        obtain ⟨⟨d1, b1⟩, s1⟩ := p1
        rw [e1] at h
        simp only [Option.bind_some] at h
        split at h
        · rename_i ds h1
          split at h
          · rename_i hz
            cases h
            refine ⟨_, hσ, Or.inl ⟨rfl, _, SqL.of hH⟩, one_arg sr e1 fun v F1 H1 x1 r1 hv => ?_⟩
            obtain ⟨a', ys, hσ', hH', hr⟩ := r1.ownL h1
            rw [hσ] at hσ'; cases hσ'
            refine ⟨a, ys, v, rfl, rfl, hH', ?_, p σ F1 _ x1 (r1.mut h1 hσ (.inl ⟨_, _, rfl, rfl, hr.app (.cons hv .nil)⟩))⟩
            have := szOk_le hz
            rw [hr.len]; omega
          · cases h
        · cases h
    · cases h
theorem s_ext {e : Expr} {c : SE} {apos cpos pos : Pos} (hv : PE X (.Name x pn) (tVar i)) (he : PE X e (rd X.K c))
    (hb : attributeBase (.Name x pn) "extend" X.env (eval (.Name x pn) X.env) = eval (.Name x pn) X.env)
    (hfew : ((backTo cpos (starEach [e] X.env)).all (fun x => !x.1) && (backToKw cpos (keywordEach [] X.env)).all (fun x => x.1.isSome)
      && decide (([e] : List Expr).length + ([] : List Keyword).length + (if ([] : List Keyword).isEmpty then 0 else 1) < 30)) = true)
    (hline : (apos.endLine == cpos.line) = true) (hs : starEach [e] X.env = (false, eval e X.env) :: starEach [] X.env) (hp : (backTo cpos (starEach [] X.env)).any (·.1) = false)
    (hsw : swapsWith (.Call (.Attribute (.Name x pn) "extend" apos) [e] [] cpos) none pos.line X.env = pure false) :
    PS X (.Expr (.Call (.Attribute (.Name x pn) "extend" apos) [e] [] cpos) pos) (rdS X.K (cExt i c)) :=
  (ps_expr (pe_bm PySem.F.plainAttrs_list PySem.F.slot_list_extend PySem.F.type_list_extend mt_extend hv (pa_cons he pa_nil hs) hb hfew hline hs hp) hsw).imp fun D' σ H hw => by
    obtain ⟨ω, F, s, fl, s', sr, h, p⟩ := hw
    unfold cExt at h
    split at h
    · rename_i ds0 h0
      obtain ⟨a, xs, hσ, hH, _⟩ := sr.ownL h0
      cases e1 : c s with
      | none => rw [e1] at h; cases h
      | some p1 =>
        obtain ⟨⟨d1, b1⟩, s1⟩ := p1
        rw [e1] at h
        simp only [Option.bind_some] at h
        split at h
        · rename_i ds es h1
          split at h
          · rename_i hz
            cases h
            refine ⟨_, hσ, Or.inl ⟨rfl, _, SqL.of hH⟩, one_arg sr e1 fun v F1 H1 x1 r1 hv => ?_⟩
            obtain ⟨a', ys, hσ', hH', hr⟩ := r1.ownL h1
            rw [hσ] at hσ'; cases hσ'
            unfold Rp at hv
            obtain ⟨q, zs, rfl, h4, h5⟩ := hv
            refine ⟨a, q, ys, zs, rfl, rfl, hH', r1.sub _ _ h4, ?_, p σ F1 _ x1 (r1.mut h1 hσ (.inl ⟨_, _, rfl, rfl, hr.app h5⟩))⟩
            rw [hr.len, h5.len]; exact szOk_le hz
          · cases h
        · cases h
    · cases h
theorem p_pop {e : Expr} {c : SE} {apos cpos : Pos} (hv : PE X (.Name x pn) (tVar i)) (he : PE X e (rd X.K c))
    (hb : attributeBase (.Name x pn) "pop" X.env (eval (.Name x pn) X.env) = eval (.Name x pn) X.env)
    (hfew : ((backTo cpos (starEach [e] X.env)).all (fun x => !x.1) && (backToKw cpos (keywordEach [] X.env)).all (fun x => x.1.isSome)
      && decide (([e] : List Expr).length + ([] : List Keyword).length + (if ([] : List Keyword).isEmpty then 0 else 1) < 30)) = true)
    (hline : (apos.endLine == cpos.line) = true) (hs : starEach [e] X.env = (false, eval e X.env) :: starEach [] X.env) (hp : (backTo cpos (starEach [] X.env)).any (·.1) = false) :
    PE X (.Call (.Attribute (.Name x pn) "pop" apos) [e] [] cpos) (rd X.K (cPop i c)) :=
  (pe_bm PySem.F.plainAttrs_list PySem.F.slot_list_pop PySem.F.type_list_pop mt_popAt hv (pa_cons he pa_nil hs) hb hfew hline hs hp).imp fun σ H Q hw => by
    obtain ⟨ω, F, s, d, b, s', sr, h, p⟩ := hw
    unfold cPop at h
    split at h
    · rename_i ds0 h0
      obtain ⟨a, xs, hσ, hH, _⟩ := sr.ownL h0
      cases e1 : c s with
      | none => rw [e1] at h; cases h
      | some p1 =>
        obtain ⟨⟨d1, b1⟩, s1⟩ := p1
        rw [e1] at h
        simp only [Option.bind_some] at h
        split at h
        · rename_i ds k h1
          split at h
          · rename_i hk
            have hk : -(2 ^ 63) ≤ k ∧ k < 2 ^ 63 := by have := inR_iff.1 hk; omega
            cases e2 : ixN ds.length k with
            | none => rw [e2] at h; cases h
            | some j =>
              rw [e2] at h
              simp only [Option.bind_some] at h
              cases e3 : ds[j]? with
              | none => rw [e3] at h; cases h
              | some d0 =>
                rw [e3] at h
                cases h
                refine ⟨_, hσ, Or.inl ⟨rfl, _, SqL.of hH⟩, one_arg sr e1 fun v F1 H1 x1 r1 hv => ?_⟩
                obtain ⟨a', ys, hσ', hH', hr⟩ := r1.ownL h1
                rw [hσ] at hσ'; cases hσ'
                unfold Rp at hv; subst hv
                obtain ⟨y, hy, hyr⟩ := hr.get e3
                refine ⟨a, ys, k, j, y, rfl, rfl, hH', hk.1, hk.2, by rw [hr.len]; exact (ixN_seq e2).1, hy, ?_⟩
                exact (r1.mut h1 hσ (.inl ⟨_, _, rfl, rfl, hr.erase j⟩)).here (b := false) hyr (p.mono x1)
          · cases h
        · cases h
    · cases h
theorem p_ixV {e : Expr} {c : SE} {pos : Pos} (hu : X.A.units + 1 < cLine) (hv : PE X (.Name x pn) (tVar i)) (he : PE X e (rd X.K c)) (hs : ∀ o i, subscripted e false o i = operate [o, i] (getItem o i)) : PE X (.Subscript (.Name x pn) e pos) (rd X.K (cIxV i c)) :=
  ⟨fun pins st σ H Q I hw => by
    have two : tOp (rIx X.K) (tVar i) (rd X.K c) σ H Q ∨ tDGet (tVar i) (rd X.K c) σ H Q := by
      obtain ⟨ω, F, s, d, b, s', sr, h, p⟩ := hw
      unfold cIxV at h
      cases e1 : c s with
      | none => rw [e1] at h; cases h
      | some p1 =>
        obtain ⟨⟨d1, b1⟩, s1⟩ := p1
        rw [e1] at h
        simp only [Option.bind_some] at h
        split at h
        · rename_i ds0 ds k h0 h1
          cases q : atI ds k with
          | none => rw [q] at h; cases h
          | some d0 =>
            rw [q] at h; cases h
            obtain ⟨a, xs, hσ, hH, _⟩ := sr.ownL h0
            refine .inl ⟨_, hσ, rd_use sr e1 fun v F1 H1 x1 r1 hv => ?_⟩
            obtain ⟨a', ys, hσ', hH', hr⟩ := r1.ownL h1
            rw [hσ] at hσ'; cases hσ'
            unfold Rp at hv; subst hv
            obtain ⟨w, h3, h4⟩ := hr.atI q
            exact .inl ⟨a, ys, _, w, rfl, rfl, SqL.of hH', h3, r1.here (b := false) h4 (p.mono x1)⟩
        · rename_i _ ds k h0
          cases q : atI ds k with
          | none => rw [q] at h; cases h
          | some d0 =>
            rw [q] at h; cases h
            obtain ⟨v0, hσ, hr⟩ := sr.sl i _ h0
            refine .inl ⟨_, hσ, rd_use sr e1 fun v F1 H1 x1 r1 hv => ?_⟩
            have hr := hr.mono x1
            unfold Rp at hv hr; subst hv
            obtain ⟨a, xs, rfl, h1, h2⟩ := hr
            obtain ⟨w, h3, h4⟩ := h2.atI q
            exact .inl ⟨a, xs, _, w, rfl, rfl, SqL.of (r1.sub _ _ h1), h3, r1.here (b := false) h4 (p.mono x1)⟩
        · rename_i _ ds k h0
          cases q : atI ds k with
          | none => rw [q] at h; cases h
          | some d0 =>
            rw [q] at h; cases h
            obtain ⟨v0, hσ, hr⟩ := sr.sl i _ h0
            refine .inl ⟨_, hσ, rd_use sr e1 fun v F1 H1 x1 r1 hv => ?_⟩
            have hr := hr.mono x1
            unfold Rp at hv hr; subst hv
            obtain ⟨a, xs, rfl, h1, h2⟩ := hr
            obtain ⟨w, h3, h4⟩ := h2.atI q
            exact .inr (.inl ⟨a, xs, _, w, rfl, rfl, sqt_mono r1.sub h1, h3, r1.here (b := false) h4 (p.mono x1)⟩)
        · rename_i kd x2 x1 x0 ks0 ks h0 h1
          unfold dDGet at h
          dsimp only at h
          cases q1 : keyOf kd with
          | none => rw [q1] at h; cases h
          | some k =>
            rw [q1] at h
            simp only [Option.bind_some] at h
            cases q2 : valD ks k with
            | none => rw [q2] at h; cases h
            | some d0 =>
              rw [q2] at h; cases h
              obtain ⟨a, xs, hσ, hH, _⟩ := sr.ownD h0
              refine .inr ⟨_, hσ, rd_use sr e1 fun v F1 H1 x1 r1 hv => ?_⟩
              obtain ⟨a', ys, hσ', hH', hr⟩ := r1.ownD h1
              rw [hσ] at hσ'; cases hσ'
              have hvk := keyOf_rp hv q1
              rcases hr.val k with ⟨h3, _⟩ | ⟨d2, w, h3, h4, h5⟩
              · rw [q2] at h3; cases h3
              · rw [q2] at h3; cases h3
                exact ⟨a, w, rfl, .inl ⟨ys, k, Rd.of hH', hvk, h4.symm⟩, r1.here (b := false) h5 (p.mono x1)⟩
        · rename_i kd x2 x1 x0 ks h0
          unfold dDGet at h
          dsimp only at h
          cases q1 : keyOf kd with
          | none => rw [q1] at h; cases h
          | some k =>
            rw [q1] at h
            simp only [Option.bind_some] at h
            cases q2 : valD ks k with
            | none => rw [q2] at h; cases h
            | some d0 =>
              rw [q2] at h; cases h
              obtain ⟨v0, hσ, hr⟩ := sr.sl i _ h0
              refine .inr ⟨_, hσ, rd_use sr e1 fun v F1 H1 x1 r1 hv => ?_⟩
              have hr := hr.mono x1
              unfold Rp at hr
              obtain ⟨a, xs, rfl, h1, h2⟩ := hr
              have hvk := keyOf_rp hv q1
              rcases h2.val k with ⟨h3, _⟩ | ⟨d2, w, h3, h4, h5⟩
              · rw [q2] at h3; cases h3
              · rw [q2] at h3; cases h3
                exact ⟨a, w, rfl, .inl ⟨xs, k, rd_mono r1.sub h1, hvk, h4.symm⟩, r1.here (b := false) h5 (p.mono x1)⟩
        · cases h
    rcases two with h | h
    · exact (pe_ix ix_seq hv he hs).run pins st σ H Q I h
    · exact (pe_dget hu hv he hs).run pins st σ H Q I h⟩
theorem p_lenV {p pos : Pos} (hv : PE X (.Name x pn) (tVar i)) (hg : Gl X "len") (hm : X.mg "len" = none)
    (hs : starEach [.Name x pn] X.env = (false, eval (.Name x pn) X.env) :: starEach [] X.env) (hp : (backTo pos (starEach [] X.env)).any (·.1) = false) : PE X (.Call (.Name "len" p) [.Name x pn] [] pos) (rd X.K (cLenV i)) :=
  (pe_callB call_len_seq hg hm PySem.boot_len (pa_cons hv pa_nil hs) (by decide) (by decide) hs hp).imp fun σ H Q hw => by
    obtain ⟨ω, F, s, d, b, s', sr, h, p⟩ := hw
    unfold cLenV at h
    split at h
    · rename_i ds h0
      cases h
      obtain ⟨a, xs, hσ, hH, hr⟩ := sr.ownL h0
      exact ⟨_, hσ, a, xs, rfl, .inl (SqL.of hH), sr.here (b := false) (by show Rp _ _ _ _ _; unfold Rp; rw [hr.len]) p⟩
    · rename_i ds h0
      cases h
      obtain ⟨v0, hσ, hr⟩ := sr.sl i _ h0
      unfold Rp at hr
      obtain ⟨a, xs, rfl, h1, h2⟩ := hr
      exact ⟨_, hσ, a, xs, rfl, .inl (SqL.of (sr.sub _ _ h1)), sr.here (b := false) (by show Rp _ _ _ _ _; unfold Rp; rw [h2.len]) p⟩
    · rename_i ds h0
      cases h
      obtain ⟨v0, hσ, hr⟩ := sr.sl i _ h0
      unfold Rp at hr
      obtain ⟨a, xs, rfl, h1, h2⟩ := hr
      exact ⟨_, hσ, a, xs, rfl, .inr (sqt_mono sr.sub h1), sr.here (b := false) (by show Rp _ _ _ _ _; unfold Rp; rw [h2.len]) p⟩
    · cases h
theorem s_putV {e ei : Expr} {c ci : SE} {tpos pos : Pos} (hv : PE X (.Name x pn) (tVar i)) (hi : PE X ei (rd X.K ci)) (he : PE X e (rd X.K c))
    (hs : swapsWithSole [.Subscript (.Name x pn) ei tpos] e pos.line X.env = pure false) (hw : swappedStores [.Subscript (.Name x pn) ei tpos] e X.env = pure none)
    (ha : ∀ v, assign (.Subscript (.Name x pn) ei tpos) X.env v = (do
      let ov ← holding [v] (eval (.Name x pn) X.env)
      let iv ← holding [v, ov] (eval ei X.env)
      standAt tpos
      holding [v, ov, iv] (setItem ov iv v)
      release [v, ov, iv] []) := by intro _; rfl) : PS X (.Assign [.Subscript (.Name x pn) ei tpos] e pos) (rdS X.K (cPutV i ci c)) :=
  (ps_asg he (pg_sub hv hi set_list ha) hs hw).imp fun D' σ H hw => by
    obtain ⟨ω, F, s, fl, s', sr, h, p⟩ := hw
    unfold cPutV at h
    cases e1 : c s with
    | none => rw [e1] at h; cases h
    | some p1 =>
      obtain ⟨⟨d1, b1⟩, s1⟩ := p1
      rw [e1] at h
      simp only [Option.bind_some] at h
      split at h
      · rename_i ds0 h0
        cases e2 : ci s1 with
        | none => rw [e2] at h; cases h
        | some p2 =>
          obtain ⟨⟨d2, b2⟩, s2⟩ := p2
          rw [e2] at h
          simp only [Option.bind_some] at h
          split at h
          · rename_i ds k h1
            cases e3 : ixN ds.length k with
            | none => rw [e3] at h; cases h
            | some j =>
              rw [e3] at h
              cases h
              refine rd_use sr e1 fun v F1 H1 x1 r1 hv1 => ?_
              obtain ⟨a, xs, hσ, hH, _⟩ := r1.ownL h0
              refine ⟨_, hσ, rd_use r1 e2 fun w F2 H2 x2 r2 hw2 => ?_⟩
              obtain ⟨a', ys, hσ', hH', hr⟩ := r2.ownL h1
              rw [hσ] at hσ'; cases hσ'
              unfold Rp at hw2; subst hw2
              exact ⟨a, ys, k, j, rfl, rfl, hH', by rw [hr.len]; exact e3, p σ F2 _ (x1.trans x2) (r2.mut h1 hσ (.inl ⟨_, _, rfl, rfl, hr.setL j (hv1.mono x2)⟩))⟩
          · cases h
      · cases h
end
/-! ### the pot -/
def getP (t : Int × Int × Int) : Nat → Int
  | 0 => t.1 | 1 => t.2.1 | _ => t.2.2
def setP (t : Int × Int × Int) : Nat → Int → Int × Int × Int
  | 0, i => (i, t.2.1, t.2.2) | 1, i => (t.1, i, t.2.2) | _, i => (t.1, t.2.1, i)
def cPotGet (i k : Nat) : SE := fun s => match s.r[i]?, s.p with
  | some (.val .pot), some t => some ((.int (getP t k), false), s)
  | _, _ => none
def cPotSet (i k : Nat) (c : SE) : SS := fun s => (c s).bind fun p => match p.2.r[i]?, p.2.p, p.1.1 with
  | some (.val .pot), some t, .int n => some (.nx, { p.2 with p := some (setP t k n) })
  | _, _, _ => none
section
variable {K : PySem.W.Frag} {ω : Wd} {F : Hp} {σ : L2.St} {H : Hp} {s : S} {i : Nat} {t : Int × Int × Int}
theorem Sr.potAt (r : Sr K ω F σ H s) (h : s.r[i]? = some (.val .pot)) (ht : s.p = some t) : ∃ a, ω.P = some a ∧ σ[i]? = some (some (.ref a)) ∧ H a = some (.lst [.int t.1, .int t.2.1, .int t.2.2]) ∧ F a = none := by
  obtain ⟨v, hv, hp⟩ := r.sl i _ h
  unfold Rp at hp
  obtain ⟨a, ha, rfl⟩ := hp
  have q := r.pt
  rw [ht] at q
  obtain ⟨b, hb, h1, h2⟩ := q
  rw [ha] at hb; cases hb
  exact ⟨a, ha, hv, h1, h2⟩
theorem Sr.potPut (r : Sr K ω F σ H s) (ht : s.p = some t) {u : Int × Int × Int} {a : Addr} (ha : ω.P = some a) : Sr K ω F σ (upd H a (.lst [.int u.1, .int u.2.1, .int u.2.2])) { s with p := some u } := by
  have q := r.pt
  rw [ht] at q
  obtain ⟨b, hb, h1, h2⟩ := q
  rw [ha] at hb; cases hb
  refine ⟨r.len, r.sub.updR h2, fun c v hc e => ?_, r.new, ⟨a, ha, upd_same, h2⟩, fun j b e => ?_, r.dis⟩
  · have : c ≠ a := fun z => hc (by rw [ha, z])
    rw [upd_ne this]; exact r.frm c v hc e
  · refine (r.sl j b e).mono (Ex.refl F) fun c hc hx _ hFc => ⟨upd_ne fun z => ?_, hFc⟩
    obtain ⟨d, rfl⟩ := hc
    obtain ⟨v, hv, ho⟩ := r.sl j _ e
    obtain ⟨a', o, ea, _, _, _, hP, _⟩ := ho.is
    rw [hx] at hv; cases hv; cases ea
    exact hP (by rw [ha, z])
end
section
variable {X : Cx} {i : Nat} {x : Str} {pn : Pos}
theorem p_potGet {k : Nat} {j : Nat} {pk pos : Pos} (hk : k < 3) (hv : PE X (.Name x pn) (tVar i)) (hs : ∀ o z, subscripted (.Constant (.int (k : Int)) j pk) false o z = operate [o, z] (getItem o z)) : PE X (.Subscript (.Name x pn) (.Constant (.int (k : Int)) j pk) pos) (rd X.K (cPotGet i k)) :=
  (pe_ix ix_list hv pe_int hs).imp fun σ H Q hw => by
    obtain ⟨ω, F, s, d, b, s', sr, h, p⟩ := hw
    unfold cPotGet at h
    split at h
    · rename_i t h0 ht
      cases h
      obtain ⟨a, ha, hσ, hH, _⟩ := sr.potAt h0 ht
      refine ⟨_, hσ, a, _, _, .int (getP t k), rfl, rfl, SqL.of hH, atI_nat ?_, sr.here (b := false) (by show Rp _ _ _ _ _; unfold Rp; rfl) p⟩
      match k, hk with
      | 0, _ => rfl
      | 1, _ => rfl
      | 2, _ => rfl
    · cases h
theorem s_potSet {k : Nat} {j : Nat} {e : Expr} {c : SE} {pk tpos pos : Pos} (hk : k < 3) (hv : PE X (.Name x pn) (tVar i)) (he : PE X e (rd X.K c))
    (hs : swapsWithSole [.Subscript (.Name x pn) (.Constant (.int (k : Int)) j pk) tpos] e pos.line X.env = pure false) (hw : swappedStores [.Subscript (.Name x pn) (.Constant (.int (k : Int)) j pk) tpos] e X.env = pure none) :
    PS X (.Assign [.Subscript (.Name x pn) (.Constant (.int (k : Int)) j pk) tpos] e pos) (rdS X.K (cPotSet i k c)) :=
  (ps_asg he (pg_sub hv pe_int set_list) hs hw).imp fun D' σ H hw => by
    obtain ⟨ω, F, s, fl, s', sr, h, p⟩ := hw
    unfold cPotSet at h
    cases e1 : c s with
    | none => rw [e1] at h; cases h
    | some p1 =>
      obtain ⟨⟨d1, b1⟩, s1⟩ := p1
      rw [e1] at h
      simp only [Option.bind_some] at h
      split at h
      · rename_i t n h0 ht
        cases h
        refine rd_use sr e1 fun v F1 H1 x1 r1 hv1 => ?_
        obtain ⟨a, ha, hσ, hH, _⟩ := r1.potAt h0 ht
        unfold Rp at hv1; subst hv1
        refine ⟨_, hσ, a, _, _, k, rfl, rfl, hH, by show ixN 3 (k : Int) = some k; unfold ixN; rw [if_pos (by omega), if_pos (by omega)]; simp, ?_⟩
        have q := p σ F1 _ x1 (r1.potPut ht (u := setP t k n) ha)
        match k, hk, q with
        | 0, _, q => exact q
        | 1, _, q => exact q
        | 2, _, q => exact q
      · cases h
end
end Rb

namespace Rb
open PySem PySem.Spec PyProof.Rows L2
open Classical in
/-- all that stands now, but what slots hold alone, is to stay -/
noncomputable def protW (ω : Wd) (F : Hp) (σ : L2.St) (H : Hp) (s : S) : Wd := ⟨ω.P, fun a => if (∃ (i : Nat) (d : D), s.r[i]? = some (.own d) ∧ σ[i]? = some (some (.ref a))) then none else H a, F⟩
def Owned (σ : L2.St) (s : S) (a : Addr) : Prop := ∃ (i : Nat) (d : D), s.r[i]? = some (.own d) ∧ σ[i]? = some (some (.ref a))
section
variable {K : PySem.W.Frag} {ω : Wd} {F F' : Hp} {σ σ' : L2.St} {H H' : Hp} {s s' : S} {v : V} {d : D} {b : Bool} {a : Addr}
theorem prot_own (h : Owned σ s a) : (protW ω F σ H s).H0 a = none := if_pos h
theorem prot_not (h : ¬ Owned σ s a) : (protW ω F σ H s).H0 a = H a := if_neg h
theorem Sr.ownAt (r : Sr K ω F σ H s) (h : Owned σ s a) : (∃ o, H a = some o) ∧ F a = none ∧ ω.H0 a = none ∧ ω.P ≠ some a := by
  obtain ⟨i, d, h1, h2⟩ := h
  obtain ⟨v, h3, h4⟩ := r.sl i _ h1
  rw [h2] at h3; cases h3
  obtain ⟨c, o, ec, g1, g2, g3, g4, _⟩ := h4.is
  cases ec
  exact ⟨⟨o, g1⟩, g2, g3, g4⟩
theorem Own.world {ω' : Wd} (h : Own K ω F H v d) (hP : ω'.P = ω.P) (h0 : ∀ a, v = .ref a → ω'.H0 a = none) : Own K ω' F H v d := by
  cases d <;> first | exact h.elim | skip
  · obtain ⟨a, xs, h1, h2, h3, h4, h5, h6⟩ := h
    exact ⟨a, xs, h1, h2, h3, h0 a h1, by rw [hP]; exact h5, by rw [hP]; exact h6⟩
  · obtain ⟨a, xs, h1, h2, h3, h4, h5, h6⟩ := h
    exact ⟨a, xs, h1, h2, h3, h0 a h1, by rw [hP]; exact h5, by rw [hP]; exact h6⟩
theorem Sr.prot (r : Sr K ω F σ H s) : Sr K (protW ω F σ H s) F σ H s where
  len := r.len
  sub := r.sub
  frm a o hP h := by
    by_cases q : Owned σ s a
    · rw [prot_own q] at h; cases h
    · rw [prot_not q] at h; exact h
  new a o h := .inl h
  pt := r.pt
  sl i b h := by
    have q := r.sl i b h
    cases b with
    | no => trivial
    | val d => exact q
    | own d =>
      obtain ⟨v, h1, h2⟩ := q
      exact ⟨v, h1, h2.world rfl fun a ea => prot_own ⟨i, d, h, by rw [h1, ea]⟩⟩
  dis := r.dis
theorem Sr.h0of (r : Sr K ω F σ H s) (h : (protW ω F σ H s).H0 a = none) : ω.H0 a = none := by
  by_cases q : Owned σ s a
  · exact (r.ownAt q).2.2.1
  · rw [prot_not q] at h; exact r.h0 h
theorem Sr.unprot (r : Sr K ω F σ H s) (t : Sr K (protW ω F σ H s) F' σ' H' s') : Sr K ω F' σ' H' s' where
  len := t.len
  sub := t.sub
  frm a o hP h := by
    have q : ¬ Owned σ s a := fun z => by rw [(r.ownAt z).2.2.1] at h; cases h
    exact t.frm a o hP (by rw [prot_not q]; exact r.frm a o hP h)
  new a o h := by
    rcases t.new a o h with q | q
    · exact r.new a o q
    · exact .inr (r.h0of q)
  pt := t.pt
  sl i b h := by
    have q := t.sl i b h
    cases b with
    | no => trivial
    | val d => exact q
    | own d =>
      obtain ⟨v, h1, h2⟩ := q
      refine ⟨v, h1, h2.world rfl fun a ea => ?_⟩
      obtain ⟨c, o, ec, _, _, g3, _⟩ := h2.is
      rw [ec] at ea; cases ea
      exact r.h0of g3
  dis := t.dis
/-- what is kept -/
def Kept (ω : Wd) (F : Hp) (σ : L2.St) (H : Hp) (s : S) (F' : Hp) (σ' : L2.St) (H' : Hp) (s' : S) : Prop := ∀ a o, ω.P ≠ some a → ¬ Owned σ s a → H a = some o → H' a = some o ∧ (F a = none → F' a = none) ∧ ¬ Owned σ' s' a
theorem Sr.kept (r : Sr K ω F σ H s) (t : Sr K (protW ω F σ H s) F' σ' H' s') : Kept ω F σ H s F' σ' H' s' := fun a o hP hn h => by
  have e : (protW ω F σ H s).H0 a = some o := by rw [prot_not hn]; exact h
  refine ⟨t.frm a o hP e, fun hF => ?_, fun z => ?_⟩
  · cases q : F' a with
    | none => rfl
    | some u =>
      rcases t.new a u q with q2 | q2
      · rw [show F a = some u from q2] at hF; cases hF
      · rw [e] at q2; cases q2
  · have := (t.ownAt z).2.2.1
    rw [e] at this; cases this
theorem Sr.rpr (r : Sr K ω F σ H s) {σ2 : L2.St} (t : Sr K (protW ω F σ H s) F' σ2 H' s') (h : RpR K (protW ω F σ H s) F' σ2 H' s' v d b) : RpR K ω F' σ2 H' s' v d b := by
  cases b with
  | false => exact h
  | true =>
    obtain ⟨h1, h2⟩ := h
    refine ⟨h1.world rfl fun a ea => ?_, h2⟩
    obtain ⟨c, o, ec, _, _, g3, _⟩ := h1.is
    rw [ec] at ea; cases ea
    exact r.h0of g3
theorem rd_keep {e : SE} {R : VK} (r : Sr K ω F σ H s) (h : e s = some ((d, b), s')) (q : ∀ v F' H', Ex F F' → Sr K ω F' σ H' s' → RpR K ω F' σ H' s' v d b → Kept ω F σ H s F' σ H' s' → (b = true → ∀ a, v = .ref a → Owned σ s a ∨ H a = none) → R v H') : rd K e σ H R :=
  ⟨protW ω F σ H s, F, s, d, b, s', r.prot, h, fun v F1 H1 x1 t hv => q v F1 H1 x1 (r.unprot t) (r.rpr t hv) (r.kept t) fun hb a ea => by
    subst hb
    obtain ⟨c, o, ec, _, _, g3, _⟩ := hv.1.is
    rw [ec] at ea; cases ea
    by_cases z : Owned σ s a
    · exact .inl z
    · rw [prot_not z] at g3; exact .inr g3⟩
theorem rdT_keep {e : ST} {c : Bool} {R : Bool → Hp → Prop} (r : Sr K ω F σ H s) (h : e s = some (c, s')) (q : ∀ F' H', Ex F F' → Sr K ω F' σ H' s' → Kept ω F σ H s F' σ H' s' → R c H') : rdT K e σ H R :=
  ⟨protW ω F σ H s, F, s, c, s', r.prot, h, fun F1 H1 x1 t => q F1 H1 x1 (r.unprot t) (r.kept t)⟩
/-- a slot is stored -/
theorem Sr.setS {i : Nat} (r : Sr K ω F σ H s) (h : RpR K ω F σ H s v d b) : Sr K ω F (σ.set i (some v)) H { s with r := s.r.set i (if b then .own d else .val d) } := by
  refine ⟨by simp [r.len], r.sub, r.frm, r.new, r.pt, fun j c e => ?_, fun j k d1 d2 w hjk h1 h2 h3 h4 => ?_⟩
  · have e : (s.r.set i (if b then .own d else .val d))[j]? = some c := e
    by_cases q : i = j
    · subst q
      by_cases hi : i < s.r.length
      · rw [List.getElem?_set_self hi] at e; cases e
        have hσ : (σ.set i (some v))[i]? = some (some v) := List.getElem?_set_self (by rw [r.len]; exact hi)
        cases b with
        | false => exact ⟨v, hσ, h⟩
        | true => exact ⟨v, hσ, h.1⟩
      · rw [List.getElem?_eq_none (by simpa using hi)] at e; cases e
    · rw [List.getElem?_set_ne q] at e
      rw [List.getElem?_set_ne q]
      exact r.sl j c e
  · have h1 : (s.r.set i (if b then .own d else .val d))[j]? = some (.own d1) := h1
    have h2 : (s.r.set i (if b then .own d else .val d))[k]? = some (.own d2) := h2
    have key : ∀ (j k : Nat) d1 d2, i = j → i ≠ k → (s.r.set i (if b then .own d else .val d))[j]? = some (.own d1) → (s.r.set i (if b then .own d else .val d))[k]? = some (.own d2) → (σ.set i (some v))[j]? = some (some w) → (σ.set i (some v))[k]? = some (some w) → False := fun j k d1 d2 hj hk g1 g2 g3 g4 => by
      subst hj
      have hi : i < s.r.length := by have := getElem?_ltL g1; simpa using this
      rw [List.getElem?_set_self hi] at g1
      rw [List.getElem?_set_self (by rw [r.len]; exact hi)] at g3
      rw [List.getElem?_set_ne hk] at g2 g4
      cases g3
      cases b with
      | false => cases g1
      | true => exact h.2 k d2 g2 g4
    by_cases qj : i = j
    · exact key j k d1 d2 qj (fun z => hjk (qj.symm.trans z)) h1 h2 h3 h4
    · by_cases qk : i = k
      · exact key k j d2 d1 qk qj h2 h1 h4 h3
      · rw [List.getElem?_set_ne qj] at h1 h3
        rw [List.getElem?_set_ne qk] at h2 h4
        exact r.dis j k d1 d2 w hjk h1 h2 h3 h4
end

/-! ### statements -/
def cSkip : SS := fun s => some (.nx, s)
def cSeq (a b : SS) : SS := fun s => (a s).bind fun p => match p.1 with
  | .nx => b p.2
  | f => some (f, p.2)
def cIf (t : ST) (a b : SS) : SS := fun s => (t s).bind fun p => if p.1 then a p.2 else b p.2
def cRet (c : SE) : SS := fun s => (c s).map fun p => (.rt p.1.1, p.2)
def cRetN : SS := fun s => some (.rt .non, s)
def cNever : SS := fun _ => none
def cCont : SS := fun s => some (.ct, s)
def cBrk : SS := fun s => some (.bk, s)
def bdOf (p : D × Bool) : Bd := if p.2 then .own p.1 else .val p.1
def cSet (i : Nat) (c : SE) : SS := fun s => (c s).map fun p => (.nx, { p.2 with r := p.2.r.set i (bdOf p.1) })
def cPar (i j : Nat) (a b : SE) : SS := fun s => (a s).bind fun p => (b p.2).map fun q => (.nx, { q.2 with r := (q.2.r.set i (bdOf p.1)).set j (bdOf q.1) })
def cPar3 (i j k : Nat) (a b c : SE) : SS := fun s => (a s).bind fun p => (b p.2).bind fun q => (c q.2).map fun t => (.nx, { t.2 with r := ((t.2.r.set i (.val p.1.1)).set j (.val q.1.1)).set k (.val t.1.1) })
def cAug (i : Nat) (g : Int → Int → Int) (c : SE) : SS := fun s => match s.r[i]? with
  | some (.val (.int a)) => (c s).bind fun p => match p.1.1 with
    | .int b => some (.nx, { p.2 with r := p.2.r.set i (.val (.int (g a b))) })
    | _ => none
  | _ => none
section
variable {K : PySem.W.Frag} {ω : Wd} {F F' : Hp} {D' : Ends} {s : S} {fl : Fl}
theorem EndOk.mono (h : EndOk K ω F D' s fl) (e : Ex F F') : EndOk K ω F' D' s fl := by
  cases fl with
  | nx => exact fun σ F2 H2 e2 => h σ F2 H2 (e.trans e2)
  | bk => exact fun σ F2 H2 e2 => h σ F2 H2 (e.trans e2)
  | ct => exact fun σ F2 H2 e2 => h σ F2 H2 (e.trans e2)
  | rt d => exact fun v σ F2 H2 e2 => h v σ F2 H2 (e.trans e2)
theorem EndOk.ends {D2 : Ends} (h : EndOk K ω F D' s fl) (h1 : ∀ σ H, D'.nx σ H → D2.nx σ H) (h2 : ∀ σ H, D'.bk σ H → D2.bk σ H) (h3 : ∀ σ H, D'.ct σ H → D2.ct σ H) (h4 : ∀ v H, D'.rt v H → D2.rt v H) : EndOk K ω F D2 s fl := by
  cases fl with
  | nx => exact fun σ F2 H2 e2 r => h1 _ _ (h σ F2 H2 e2 r)
  | bk => exact fun σ F2 H2 e2 r => h2 _ _ (h σ F2 H2 e2 r)
  | ct => exact fun σ F2 H2 e2 r => h3 _ _ (h σ F2 H2 e2 r)
  | rt d => exact fun v σ F2 H2 e2 r x => h4 _ _ (h v σ F2 H2 e2 r x)
theorem RpR.of (h : Rp K ω.P F d v) : RpR K ω F σ H s v d false := h
end
section
variable {X : Cx}
theorem s_pass {pos : Pos} : PS X (.Pass pos) (rdS X.K cSkip) := ps_pass.imp fun D' σ H ⟨ω, F, s, fl, s', sr, h, p⟩ => by
  cases h
  exact p σ F H (Ex.refl F) sr
theorem s_cont {pos : Pos} : PS X (.Continue pos) (rdS X.K cCont) := ps_continue.imp fun D' σ H ⟨ω, F, s, fl, s', sr, h, p⟩ => by
  cases h
  exact p σ F H (Ex.refl F) sr
theorem s_brk {pos : Pos} : PS X (.Break pos) (rdS X.K cBrk) := ps_break.imp fun D' σ H ⟨ω, F, s, fl, s', sr, h, p⟩ => by
  cases h
  exact p σ F H (Ex.refl F) sr
theorem s_never {st : Stmt} : PS X st (rdS X.K cNever) := ps_never.imp fun D' σ H ⟨ω, F, s, fl, s', sr, h, p⟩ => by
  cases h
theorem ss_nil : PSs X [] (rdS X.K cSkip) := pss_nil.imp fun D' σ H ⟨ω, F, s, fl, s', sr, h, p⟩ => by
  cases h
  exact p σ F H (Ex.refl F) sr
theorem ss_one {st : Stmt} {c : SS} (h : PS X st (rdS X.K c)) : PSs X [st] (rdS X.K c) := pss_one h
theorem ss_cons {st : Stmt} {r : List Stmt} {c1 c2 : SS} (h1 : PS X st (rdS X.K c1)) (h2 : PSs X r (rdS X.K c2)) : PSs X (st :: r) (rdS X.K (cSeq c1 c2)) :=
  (pss_cons h1 h2).imp fun D' σ H ⟨ω, F, s, fl, s', sr, h, p⟩ => by
    unfold cSeq at h
    cases e1 : c1 s with
    | none => rw [e1] at h; cases h
    | some p1 =>
      obtain ⟨f1, s1⟩ := p1
      rw [e1] at h
      simp only [Option.bind_some] at h
      refine ⟨ω, F, s, f1, s1, sr, e1, ?_⟩
      cases f1 with
      | nx =>
        intro σ2 F2 H2 x2 r2
        exact ⟨ω, F2, s1, fl, s', r2, h, p.mono x2⟩
      | bk => cases h; exact p
      | ct => cases h; exact p
      | rt d => cases h; exact p
theorem s_if {c : Expr} {a b : List Stmt} {t : ST} {ca cb : SS} {pos : Pos} (hc : PT X c (rdT X.K t)) (ha : PSs X a (rdS X.K ca)) (hb : PSs X b (rdS X.K cb)) : PS X (.If c a b pos) (rdS X.K (cIf t ca cb)) :=
  (ps_if hc ha hb).imp fun D' σ H ⟨ω, F, s, fl, s', sr, h, p⟩ => by
    unfold cIf at h
    cases e1 : t s with
    | none => rw [e1] at h; cases h
    | some p1 =>
      obtain ⟨b1, s1⟩ := p1
      rw [e1] at h
      simp only [Option.bind_some] at h
      refine rdT_use sr e1 fun F1 H1 x1 r1 => ?_
      cases b1
      · exact ⟨ω, F1, s1, fl, s', r1, h, p.mono x1⟩
      · exact ⟨ω, F1, s1, fl, s', r1, h, p.mono x1⟩
theorem s_ret {e : Expr} {c : SE} {pos : Pos} (he : PE X e (rd X.K c)) : PS X (.Return (some e) pos) (rdS X.K (cRet c)) :=
  (ps_ret he).imp fun D' σ H ⟨ω, F, s, fl, s', sr, h, p⟩ => by
    unfold cRet at h
    cases e1 : c s with
    | none => rw [e1] at h; cases h
    | some p1 =>
      obtain ⟨⟨d1, b1⟩, s1⟩ := p1
      rw [e1] at h
      cases h
      exact rd_use sr e1 fun v F1 H1 x1 r1 hv => p v σ F1 H1 x1 r1 hv
theorem s_retN {pos : Pos} : PS X (.Return none pos) (rdS X.K cRetN) :=
  ps_retN.imp fun D' σ H ⟨ω, F, s, fl, s', sr, h, p⟩ => by
    cases h
    exact p .non σ F H (Ex.refl F) sr (by unfold Rp; rfl)
theorem s_set {i : Nat} {x : Str} {e : Expr} {c : SE} {pos pos' : Pos} (hN : X.N.Nodup) (hi : X.N[i]? = some x) (hx : Loc X.env.scope x) (he : PE X e (rd X.K c)) (hs : swapsWith e (some (.Name x pos')) pos.line X.env = pure false := by rfl) (hf : X.fn x = true ∨ X.env.scope.names.lookup x = some .local := by first | exact .inl rfl | exact .inr rfl | assumption) :
    PS X (.Assign [.Name x pos'] e pos) (rdS X.K (cSet i c)) :=
  (ps_set hN hi hx he hs hf).imp fun D' σ H ⟨ω, F, s, fl, s', sr, h, p⟩ => by
    unfold cSet at h
    cases e1 : c s with
    | none => rw [e1] at h; cases h
    | some p1 =>
      obtain ⟨⟨d1, b1⟩, s1⟩ := p1
      rw [e1] at h
      cases h
      exact rd_keep sr e1 fun v F1 H1 x1 r1 hv _ _ => p _ F1 H1 x1 (r1.setS hv)
/-- both are kept as they are, then stored -/
theorem par_go {K : PySem.W.Frag} {i j : Nat} {ca cb : SE} {σ : L2.St} {H : Hp} {D' : Ends} {ω : Wd} {F : Hp} {s s1 s2 : S} {d1 d2 : D} {b1 b2 : Bool} (sr : Sr K ω F σ H s) (e1 : ca s = some ((d1, b1), s1)) (e2 : cb s1 = some ((d2, b2), s2)) (hij : i ≠ j)
    (p : EndOk K ω F D' { s2 with r := (s2.r.set i (bdOf (d1, b1))).set j (bdOf (d2, b2)) } .nx) :
    rd K ca σ H fun x H1 => rd K cb σ H1 fun y H2 => D'.nx ((σ.set i (some x)).set j (some y)) H2 := by
  refine rd_keep sr e1 fun v F1 H1 x1 r1 hv _ _ => ?_
  refine rd_keep r1 e2 fun u F2 H2 x2 r2 hu kp hnw => ?_
  have hv2 : RpR K ω F2 σ H2 s2 v d1 b1 := by
    cases b1 with
    | false => exact Rp.mono x2 hv
    | true =>
      obtain ⟨ho, hn⟩ := hv
      obtain ⟨a, o, ea, ha, hF, h0, hP, _⟩ := ho.is
      have nO : ¬ Owned σ s1 a := fun ⟨i, d, g1, g2⟩ => hn i d g1 (by rw [g2, ea])
      obtain ⟨k1, k2, k3⟩ := kp a o hP nO ha
      refine ⟨ho.mono x2 fun c ec _ _ => ?_, fun i d g1 g2 => k3 ⟨i, d, g1, by rw [g2, ea]⟩⟩
      rw [ea] at ec; cases ec
      exact ⟨by rw [k1, ha], k2 hF⟩
  have r3 := r2.setS (i := i) hv2
  -- the second one is still nobody's
  have hu3 : RpR K ω F2 (σ.set i (some v)) H2 { s2 with r := s2.r.set i (if b1 then .own d1 else .val d1) } u d2 b2 := by
    cases b2 with
    | false => exact hu
    | true =>
      refine ⟨hu.1, fun k d g1 g2 => ?_⟩
      have g1 : (s2.r.set i (if b1 then .own d1 else .val d1))[k]? = some (.own d) := g1
      by_cases q : i = k
      · subst q
        have hi : i < s2.r.length := by have := getElem?_ltL g1; simpa using this
        rw [List.getElem?_set_self hi] at g1
        rw [List.getElem?_set_self (by rw [r2.len]; exact hi)] at g2
        cases b1 with
        | false => cases g1
        | true =>
          cases g2
          -- u = v: v stood ahead of the second
          obtain ⟨a, o, ea, ha, hF, h0, hP, _⟩ := hv.1.is
          have nO : ¬ Owned σ s1 a := fun ⟨i, d, g1, g2⟩ => hv.2 i d g1 (by rw [g2, ea])
          rcases hnw rfl a ea with z | z
          · exact nO z
          · rw [ha] at z; cases z
      · rw [List.getElem?_set_ne q] at g1 g2
        exact hu.2 k d g1 g2
  exact p _ F2 H2 (x1.trans x2) (r3.setS hu3)

theorem bind2 {α β : Type} {x : Option α} {f : α → Option β} {z : β} (h : x.bind f = some z) : ∃ a, x = some a ∧ f a = some z := by
  cases x with
  | none => cases h
  | some a => exact ⟨a, rfl, h⟩
theorem map2 {α β : Type} {x : Option α} {f : α → β} {z : β} (h : x.map f = some z) : ∃ a, x = some a ∧ f a = z := by
  cases x with
  | none => cases h
  | some a => cases h; exact ⟨a, rfl, rfl⟩
theorem s_par {i j : Nat} {x y : Str} {a b : Expr} {ca cb : SE} {px py pt pos : Pos} {kt k2 pt2} (hc : X.calm = true) (hN : X.N.Nodup) (hi : X.N[i]? = some x) (hj : X.N[j]? = some y) (hij : i ≠ j)
    (hx : X.env.scope.names.lookup x = some .local) (hy : X.env.scope.names.lookup y = some .local) (ha : PE X a (rd X.K ca)) (hb : PE X b (rd X.K cb))
    (hsa : starEach [a, b] X.env = (false, eval a X.env) :: starEach [b] X.env) (hsb : starEach [b] X.env = (false, eval b X.env) :: starEach [] X.env)
    (hw : swappedStores [.Tuple [.Name x px, .Name y py] kt pt] (.Tuple [a, b] k2 pt2) X.env = pure (some [x, y]))
    (hs : swapsWithSole [.Tuple [.Name x px, .Name y py] kt pt] (.Tuple [a, b] k2 pt2) pos.line X.env = pure false) :
    PS X (.Assign [.Tuple [.Name x px, .Name y py] kt pt] (.Tuple [a, b] k2 pt2) pos) (rdS X.K (cPar i j ca cb)) :=
  (ps_par hc hN hi hj hij hx hy (pa_cons ha (pa_cons hb pa_nil hsb) hsa) hw hs).imp fun D' σ H ⟨ω, F, s, fl, s', sr, h, p⟩ => by
    unfold cPar at h
    obtain ⟨⟨⟨d1, b1⟩, s1⟩, e1, h⟩ := bind2 h
    obtain ⟨⟨⟨d2, b2⟩, s2⟩, e2, h⟩ := map2 h
    cases h
    have q := par_go sr e1 e2 hij p
    obtain ⟨ω', F', s0, d, b', s0', t1, t2, t3⟩ := q
    refine ⟨ω', F', s0, d, b', s0', t1, t2, fun v F1 H1 x1 r1 hv => ?_⟩
    obtain ⟨ω2, F2, s3, d3, b3, s3', u1, u2, u3⟩ := t3 v F1 H1 x1 r1 hv
    exact ⟨ω2, F2, s3, d3, b3, s3', u1, u2, fun v2 F3 H3 x3 r3 hv3 => ⟨_, _, rfl, u3 v2 F3 H3 x3 r3 hv3⟩⟩
theorem s_par3 {i j l : Nat} {x y z : Str} {a b c : Expr} {ca cb cc : SE} {px py pz pt pos : Pos} {kt k2 pt2} (hc : X.calm = true) (hN : X.N.Nodup) (hi : X.N[i]? = some x) (hj : X.N[j]? = some y) (hl : X.N[l]? = some z) (hij : i ≠ j) (hil : i ≠ l) (hjl : j ≠ l)
    (hx : X.env.scope.names.lookup x = some .local) (hy : X.env.scope.names.lookup y = some .local) (hz : X.env.scope.names.lookup z = some .local) (ha : PE X a (rd X.K ca)) (hb : PE X b (rd X.K cb)) (hcc : PE X c (rd X.K cc))
    (hsa : starEach [a, b, c] X.env = (false, eval a X.env) :: starEach [b, c] X.env) (hsb : starEach [b, c] X.env = (false, eval b X.env) :: starEach [c] X.env) (hsc : starEach [c] X.env = (false, eval c X.env) :: starEach [] X.env)
    (hw : swappedStores [.Tuple [.Name x px, .Name y py, .Name z pz] kt pt] (.Tuple [a, b, c] k2 pt2) X.env = pure (some [x, y, z]))
    (hs : swapsWithSole [.Tuple [.Name x px, .Name y py, .Name z pz] kt pt] (.Tuple [a, b, c] k2 pt2) pos.line X.env = pure false) :
    PS X (.Assign [.Tuple [.Name x px, .Name y py, .Name z pz] kt pt] (.Tuple [a, b, c] k2 pt2) pos) (rdS X.K (cPar3 i j l ca cb cc)) :=
  (ps_par3 hc hN hi hj hl hij hil hjl hx hy hz (pa_cons ha (pa_cons hb (pa_cons hcc pa_nil hsc) hsb) hsa) hw hs).imp fun D' σ H ⟨ω, F, s, fl, s', sr, h, p⟩ => by
    unfold cPar3 at h
    obtain ⟨⟨⟨d1, b1⟩, s1⟩, e1, h⟩ := bind2 h
    obtain ⟨⟨⟨d2, b2⟩, s2⟩, e2, h⟩ := bind2 h
    obtain ⟨⟨⟨d3, b3⟩, s3⟩, e3, h⟩ := map2 h
    cases h
    refine rd_use sr e1 fun v F1 H1 x1 r1 hv => rd_use r1 e2 fun u F2 H2 x2 r2 hu => rd_use r2 e3 fun w F3 H3 x3 r3 hw => ⟨_, _, _, rfl, ?_⟩
    have g1 := r3.setS (i := i) (b := false) (d := d1) (v := v) (hv.mono (x2.trans x3))
    have g2 := g1.setS (i := j) (b := false) (d := d2) (v := u) (hu.mono x3)
    have g3 := g2.setS (i := l) (b := false) (d := d3) (v := w) hw
    exact p _ F3 H3 ((x1.trans x2).trans x3) g3
theorem s_aug {i : Nat} {x : Str} {e : Expr} {c : SE} {op : Operator} {g : Int → Int → Int} {pos pos' : Pos} (hN : X.N.Nodup) (hi : X.N[i]? = some x) (hx : Loc X.env.scope x) (he : PE X e (rd X.K c)) (ho : PIp X op (ipI g)) (hf : X.fn x = true ∨ X.env.scope.names.lookup x = some .local := by first | exact .inl rfl | exact .inr rfl | assumption) :
    PS X (.AugAssign (.Name x pos') op e pos) (rdS X.K (cAug i g c)) :=
  (ps_aug hN hi hx he ho hf).imp fun D' σ H ⟨ω, F, s, fl, s', sr, h, p⟩ => by
    unfold cAug at h
    split at h
    · rename_i a h0
      obtain ⟨⟨⟨d1, b1⟩, s1⟩, e1, h⟩ := bind2 h
      obtain ⟨v0, hσ, hr⟩ := sr.sl i _ h0
      unfold Rp at hr; subst hr
      dsimp only at h
      split at h
      · cases h
        refine ⟨_, hσ, rd_use sr e1 fun v F1 H1 x1 r1 hv => ?_⟩
        unfold Rp at hv; subst hv
        exact ⟨_, _, rfl, rfl, p _ F1 H1 x1 (r1.setS (b := false) (by show Rp _ _ _ _ _; unfold Rp; rfl))⟩
      · cases h
    · cases h
end

/-! ### targets -/
def rdG (K : PySem.W.Frag) (ts : List Nat) (g : D → S → Option S) : TG := fun v σ H Q => ∃ ω F s d s', Sr K ω F σ H s ∧ Rp K ω.P F d v ∧ g d s = some s' ∧ ∀ σ' F' H', (∀ vs, (∀ i ∈ ts, i ∈ vs) → wipe σ' vs = wipe σ vs) → Ex F F' → Sr K ω F' σ' H' s' → Q σ' H'
def rdGs (K : PySem.W.Frag) (ts : List Nat) (g : List D → S → Option S) : TGs := fun vs σ H Q => ∃ ω F s ds s', Sr K ω F σ H s ∧ RpL K ω.P F ds vs ∧ g ds s = some s' ∧ ∀ σ' F' H', (∀ vs, (∀ i ∈ ts, i ∈ vs) → wipe σ' vs = wipe σ vs) → Ex F F' → Sr K ω F' σ' H' s' → Q σ' H'
def gN (i : Nat) : D → S → Option S := fun d s => some { s with r := s.r.set i (.val d) }
def gsNil : List D → S → Option S := fun ds s => match ds with
  | [] => some s
  | _ => none
def gsCons (g : D → S → Option S) (gs : List D → S → Option S) : List D → S → Option S := fun ds s => match ds with
  | d :: r => (g d s).bind fun s1 => gs r s1
  | _ => none
def gT (n : Nat) (g : List D → S → Option S) : D → S → Option S := fun d s => match d with
  | .tup ds => if ds.length = n then g ds s else none
  | .lst ds => if ds.length = n then g ds s else none
  | _ => none
theorem wipe_get {σ : L2.St} {j : Nat} : ∀ {vs : List Nat}, (wipe σ vs)[j]? = if j ∈ vs then (if j < σ.length then some none else none) else σ[j]?
  | [] => by simp [wipe]
  | v :: vs => by
    have ih := wipe_get (σ := σ) (j := j) (vs := vs)
    unfold wipe
    rw [List.getElem?_set, wipe_length, ih]
    by_cases h : v = j
    · subst h
      simp
    · rw [if_neg h]
      by_cases h2 : j ∈ vs
      · simp [h2]
      · have : ¬ j ∈ v :: vs := by simp [h2, Ne.symm h]
        simp [h2, Ne.symm h]
theorem wipe_set {σ : L2.St} {i : Nat} {x : Option V} {vs : List Nat} (h : i ∈ vs) : wipe (σ.set i x) vs = wipe σ vs := by
  refine List.ext_getElem? fun j => ?_
  rw [wipe_get, wipe_get, List.length_set]
  by_cases q : j ∈ vs
  · simp [q]
  · have : i ≠ j := fun z => q (z ▸ h)
    rw [if_neg q, if_neg q, List.getElem?_set_ne this]
section
variable {X : Cx}
theorem _root_.L2.PG.imp {X : Cx} {tg : Expr} {t t' : TG} (h : PG X tg t) (q : ∀ v σ H Q, t' v σ H Q → t v σ H Q) : PG X tg t' := ⟨fun pins s σ H v u Q I r hw => h.run pins s σ H v u Q I r (q v σ H Q hw)⟩
theorem _root_.L2.PGs.imp {X : Cx} {tg : List Expr} {t t' : TGs} (h : PGs X tg t) (q : ∀ v σ H Q, t' v σ H Q → t v σ H Q) : PGs X tg t' := ⟨fun pins s σ H v u Q I r hw => h.run pins s σ H v u Q I r (q v σ H Q hw)⟩
theorem g_name {i : Nat} {x : Str} {pos : Pos} (hN : X.N.Nodup) (hi : X.N[i]? = some x) (hx : Loc X.env.scope x) (hf : X.fn x = true ∨ X.env.scope.names.lookup x = some .local := by first | exact .inl rfl | exact .inr rfl | assumption) : PG X (.Name x pos) (rdG X.K [i] (gN i)) :=
  (pg_name hN hi hx hf).imp fun v σ H Q ⟨ω, F, s, d, s', sr, hr, e, p⟩ => by
    cases e
    exact p _ F H (fun vs h => wipe_set (h i (by simp))) (Ex.refl F) (sr.setS (b := false) hr)
theorem gs_nil : PGs X [] (rdGs X.K [] gsNil) := pgs_nil.imp fun vs σ H Q ⟨ω, F, s, ds, s', sr, hr, e, p⟩ => by
  unfold gsNil at e
  split at e
  · cases e
    unfold RpL at hr
    exact ⟨hr, p σ F H (fun _ _ => rfl) (Ex.refl F) sr⟩
  · cases e
theorem gs_cons {e : Expr} {es : List Expr} {ts us : List Nat} {g : D → S → Option S} {gs : List D → S → Option S} (h1 : PG X e (rdG X.K ts g)) (h2 : PGs X es (rdGs X.K us gs))
    (ha : (assignEach (e :: es) X.env).map (·.2) = assign e X.env :: (assignEach es X.env).map (·.2) := by rfl) : PGs X (e :: es) (rdGs X.K (ts ++ us) (gsCons g gs)) :=
  (pgs_cons h1 h2 ha).imp fun vs σ H Q ⟨ω, F, s, ds, s', sr, hr, e, p⟩ => by
    unfold gsCons at e
    split at e
    · rename_i d r
      obtain ⟨s1, e1, e2⟩ := bind2 e
      unfold RpL at hr
      obtain ⟨v, xs, rfl, hv, hxs⟩ := hr
      refine ⟨v, xs, rfl, ω, F, s, d, s1, sr, hv, e1, fun σ1 F1 H1 w1 x1 r1 => ?_⟩
      refine ⟨ω, F1, s1, r, s', r1, hxs.mono x1, e2, fun σ2 F2 H2 w2 x2 r2 => ?_⟩
      exact p σ2 F2 H2 (fun vs hvs => (w2 vs fun i hi => hvs i (List.mem_append_right _ hi)).trans (w1 vs fun i hi => hvs i (List.mem_append_left _ hi))) (x1.trans x2) r2
    · cases e
theorem g_tup {es : List Expr} {k : Nat} {ts : List Nat} {g : List D → S → Option S} {n : Nat} {pos : Pos} (hc : X.calm = true) (h : PGs X es (rdGs X.K ts g))
    (hn : (assignEach es X.env).length = n := by rfl) (hst : (assignEach es X.env).findIdx? (·.1) = none := by rfl) : PG X (.Tuple es k pos) (rdG X.K ts (gT n g)) :=
  ⟨fun pins st σ H v u Q I rv hw => by
    have two : gTup X.K n (rdGs X.K ts g) v σ H Q ∨ gUnl X.K n (rdGs X.K ts g) v σ H Q := by
      obtain ⟨ω, F, s, d, s', sr, hr, e, p⟩ := hw
      unfold gT at e
      split at e
      · split at e
        · rename_i ds hl
          unfold Rp at hr
          obtain ⟨a, xs, rfl, h1, h2⟩ := hr
          exact .inl ⟨a, xs, rfl, sqt_mono sr.sub h1, by rw [h2.len]; exact hl, ω, F, s, ds, s', sr, h2, e, p⟩
        · cases e
      · split at e
        · rename_i ds hl
          unfold Rp at hr
          obtain ⟨a, xs, rfl, h1, h2⟩ := hr
          exact .inr ⟨a, xs, rfl, SqL.of (sr.sub _ _ h1), by rw [h2.len]; exact hl, ω, F, s, ds, s', sr, h2, e, p⟩
        · cases e
      · cases e
    rcases two with q | q
    · exact (pg_tup hc h hn hst).run pins st σ H v u Q I rv q
    · exact (pg_unl hc h hn hst).run pins st σ H v u Q I rv q⟩
def cAsg (g : D → S → Option S) (c : SE) : SS := fun s => (c s).bind fun p => (g p.1.1 p.2).map fun s2 => (.nx, s2)
theorem s_asg {tg e : Expr} {ts : List Nat} {g : D → S → Option S} {c : SE} {pos : Pos} (he : PE X e (rd X.K c)) (hg : PG X tg (rdG X.K ts g)) (hs : swapsWithSole [tg] e pos.line X.env = pure false := by rfl) (hw : swappedStores [tg] e X.env = pure none := by rfl) (h1 : (assignEach [tg] X.env).map (·.2) = [assign tg X.env] := by rfl) :
    PS X (.Assign [tg] e pos) (rdS X.K (cAsg g c)) :=
  (ps_asg he hg hs hw h1).imp fun D' σ H ⟨ω, F, s, fl, s', sr, h, p⟩ => by
    unfold cAsg at h
    obtain ⟨⟨⟨d1, b1⟩, s1⟩, e1, h⟩ := bind2 h
    obtain ⟨s2, e2, h⟩ := map2 h
    cases h
    exact rd_use sr e1 fun v F1 H1 x1 r1 hv => ⟨ω, F1, s1, d1, _, r1, hv, e2, fun σ2 F2 H2 _ x2 r2 => p σ2 F2 H2 (x1.trans x2) r2⟩
end
end Rb

namespace Rb
open PySem PySem.Spec PyProof.Rows L2
section
variable {K : PySem.W.Frag} {ω : Wd} {F F' : Hp} {σ σ' : L2.St} {H H' : Hp} {s s' : S} {v : V} {d : D} {b : Bool} {a : Addr}
theorem rd_useK {e : SE} {R : VK} (r : Sr K ω F σ H s) (h : e s = some ((d, b), s')) (q : ∀ v F' H', Ex F F' → Sr K ω F' σ H' s' → Rp K ω.P F' d v → Kept ω F σ H s F' σ H' s' → R v H') : rd K e σ H R :=
  ⟨protW ω F σ H s, F, s, d, b, s', r.prot, h, fun v F1 H1 x1 t hv => by
    obtain ⟨F2, x2, t2, y⟩ := t.frz hv
    exact q v F2 H1 (x1.trans x2) (r.unprot t2) y (r.kept t2)⟩
theorem rdG_useK {ts : List Nat} {g : D → S → Option S} {Q : L2.St → Hp → Prop} (r : Sr K ω F σ H s) (hv : Rp K ω.P F d v) (h : g d s = some s')
    (q : ∀ σ' F' H', (∀ vs, (∀ i ∈ ts, i ∈ vs) → wipe σ' vs = wipe σ vs) → Ex F F' → Sr K ω F' σ' H' s' → Kept ω F σ H s F' σ' H' s' → Q σ' H') : rdG K ts g v σ H Q :=
  ⟨protW ω F σ H s, F, s, d, s', r.prot, hv, h, fun σ1 F1 H1 w x1 t => q σ1 F1 H1 w x1 (r.unprot t) (r.kept t)⟩
/-- an object that is nobody's here changes -/
theorem Sr.other {o : HO} (r : Sr K ω F σ H s) (hF : F a = none) (hO : ¬ Owned σ s a) (h0 : ω.H0 a = none) (hP : ω.P ≠ some a) : Sr K ω F σ (upd H a o) s where
  len := r.len
  sub := r.sub.updR hF
  frm c u q e := by
    have : c ≠ a := fun z => by rw [z, h0] at e; cases e
    rw [upd_ne this]; exact r.frm c u q e
  new := r.new
  pt := r.pt.ext (fun q e => upd_ne fun z => hP (by rw [e, z])) (fun _ _ => rfl)
  sl i b h := (r.sl i b h).mono (Ex.refl F) fun c hc hx _ hFc => ⟨upd_ne fun z => by
    obtain ⟨d, rfl⟩ := hc
    exact hO ⟨i, d, h, by rw [hx, z]⟩, hFc⟩
  dis := r.dis
def wipeB (r : List Bd) : List Nat → List Bd
  | [] => r
  | i :: is => (wipeB r is).set i .no
theorem wipeB_len (r : List Bd) : ∀ vs : List Nat, (wipeB r vs).length = r.length
  | [] => rfl
  | i :: is => by unfold wipeB; rw [List.length_set, wipeB_len r is]
theorem wipeB_get {r : List Bd} {j : Nat} : ∀ {vs : List Nat}, (wipeB r vs)[j]? = if j ∈ vs then (if j < r.length then some .no else none) else r[j]?
  | [] => by simp [wipeB]
  | v :: vs => by
    have ih := wipeB_get (r := r) (j := j) (vs := vs)
    unfold wipeB
    rw [List.getElem?_set, wipeB_len, ih]
    by_cases h : v = j
    · subst h
      simp
    · rw [if_neg h]
      by_cases h2 : j ∈ vs
      · simp [h2]
      · simp [h2, Ne.symm h]
def wipeS (vs : List Nat) (s : S) : S := { s with r := wipeB s.r vs }
theorem Sr.wipe (r : Sr K ω F σ H s) (vs : List Nat) : Sr K ω F (L2.wipe σ vs) H (wipeS vs s) where
  len := by show _ = (wipeB s.r vs).length; rw [wipe_length, wipeB_len]; exact r.len
  sub := r.sub
  frm := r.frm
  new := r.new
  pt := r.pt
  sl i b h := by
    have h : (wipeB s.r vs)[i]? = some b := h
    rw [wipeB_get] at h
    rw [wipe_get]
    by_cases q : i ∈ vs
    · rw [if_pos q] at h
      split at h
      · cases h; trivial
      · cases h
    · rw [if_neg q] at h
      rw [if_neg q]
      exact r.sl i b h
  dis i j d e w hij h1 h2 h3 h4 := by
    have h1 : (wipeB s.r vs)[i]? = some (.own d) := h1
    have h2 : (wipeB s.r vs)[j]? = some (.own e) := h2
    rw [wipeB_get] at h1 h2
    rw [wipe_get] at h3 h4
    by_cases q1 : i ∈ vs
    · rw [if_pos q1] at h1; split at h1 <;> cases h1
    · by_cases q2 : j ∈ vs
      · rw [if_pos q2] at h2; split at h2 <;> cases h2
      · rw [if_neg q1] at h1 h3
        rw [if_neg q2] at h2 h4
        exact r.dis i j d e w hij h1 h2 h3 h4
end

/-! ### what is walked -/
def WalkD (K : PySem.W.Frag) (P : Option Addr) (F : Hp) (ds : List D) (J : It) : Prop := ∃ G Y, Walk J ds.length G Y ∧ (∀ F' H, Ex F F' → Ex F' H → G H) ∧
  ∀ (ω : Wd) (i : Nat) d x F' σ H H' s, ω.P = P → ds[i]? = some d → Ex F F' → Sr K ω F' σ H s → Y i H x H' → ∃ F'', Ex F' F'' ∧ Sr K ω F'' σ H' s ∧ Rp K P F'' d x
def rdI (K : PySem.W.Frag) (it : SI) : TI := fun σ H R => ∃ ω F s ds s', Sr K ω F σ H s ∧ it s = some (ds, s') ∧ ∀ J F' H', Ex F F' → Sr K ω F' σ H' s' → WalkD K ω.P F' ds J → R J H'
theorem _root_.L2.PI.imp {X : Cx} {tg e : Expr} {t t' : TI} (h : PI X tg e t) (q : ∀ σ H Q, t' σ H Q → t σ H Q) : PI X tg e t' := ⟨fun pins s σ H R I hw => h.run pins s σ H R I (q σ H R hw)⟩
theorem _root_.L2.PI.or {X : Cx} {tg e : Expr} {t t' : TI} (h : PI X tg e t) (h' : PI X tg e t') : PI X tg e (fun σ H R => t σ H R ∨ t' σ H R) := ⟨fun pins s σ H R I hw => by
  rcases hw with q | q
  · exact h.run pins s σ H R I q
  · exact h'.run pins s σ H R I q⟩
def iSeq (c : SE) : SI := fun s => (c s).bind fun p => match p.1.1 with
  | .lst ds => some (ds, p.2)
  | .tup ds => some (ds, p.2)
  | _ => none
def rngL (lo : Int) (n : Nat) : List D := (List.range n).map fun i => .int (lo + (i : Nat))
theorem rngL_len (lo : Int) (n : Nat) : (rngL lo n).length = n := by simp [rngL]
theorem rngL_get {lo : Int} {n i : Nat} {d : D} (h : (rngL lo n)[i]? = some d) : i < n ∧ d = .int (lo + (i : Nat)) := by
  unfold rngL at h
  rw [List.getElem?_map] at h
  have hi : i < n := by
    rcases Nat.lt_or_ge i n with q | q
    · exact q
    · rw [List.getElem?_eq_none (by simpa using q)] at h; cases h
  rw [List.getElem?_range hi] at h
  cases h
  exact ⟨hi, rfl⟩
def rgOk (i : Int) : Bool := inR 4611686018427387903 i
theorem rgOk_is {i : Int} (h : rgOk i = true) : -(2 ^ 62) ≤ i ∧ i < 2 ^ 62 := by
  have := inR_iff.1 h; omega
def iRg1 (t : SA) : SI := fun s => (t s).bind fun p => match p.1 with
  | [.int j] => if rgOk j then some (rngL 0 j.toNat, p.2) else none
  | _ => none
def iRg2 (t : SA) : SI := fun s => (t s).bind fun p => match p.1 with
  | [.int i, .int j] => if rgOk i && rgOk j then some (rngL i (j - i).toNat, p.2) else none
  | _ => none
section
variable {K : PySem.W.Frag} {P : Option Addr} {F : Hp}
theorem walkD_list {a : Addr} {ds : List D} {xs : List V} (h : F a = some (.lst xs)) (hr : RpL K P F ds xs) : WalkD K P F ds (Itl K a) := by
  refine ⟨_, _, by rw [← hr.len]; exact walk_list (K := K) (a := a) (xs := xs), fun F' H e1 e2 => SqL.of (e2 _ _ (e1 _ _ h)), fun ω i d x F' σ H H' s hP hd e1 sr hy => ?_⟩
  obtain ⟨rfl, hx⟩ := hy
  refine ⟨F', Ex.refl _, sr, ?_⟩
  obtain ⟨y, h1, h2⟩ := hr.get hd
  rw [hx] at h1; cases h1
  exact h2.mono e1
theorem walkD_tup {a : Addr} {ds : List D} {xs : List V} (h : SqT K F a xs) (hr : RpL K P F ds xs) : WalkD K P F ds (Itt K a) := by
  refine ⟨_, _, by rw [← hr.len]; exact walk_tup (K := K) (a := a) (xs := xs), fun F' H e1 e2 => sqt_mono (e1.trans e2) h, fun ω i d x F' σ H H' s hP hd e1 sr hy => ?_⟩
  obtain ⟨rfl, hx⟩ := hy
  refine ⟨F', Ex.refl _, sr, ?_⟩
  obtain ⟨y, h1, h2⟩ := hr.get hd
  rw [hx] at h1; cases h1
  exact h2.mono e1
theorem walkD_rng {lo : Int} {n : Nat} : WalkD K P F (rngL lo n) (Itr lo n) := by
  refine ⟨_, _, by rw [rngL_len]; exact walk_range (lo := lo) (n := n), fun _ _ _ _ => True.intro, fun ω i d x F' σ H H' s hP hd e1 sr hy => ?_⟩
  obtain ⟨rfl, hx⟩ := hy
  obtain ⟨_, rfl⟩ := rngL_get hd
  exact ⟨F', Ex.refl _, sr, by unfold Rp; exact hx⟩
end
section
variable {X : Cx} {tg : Expr}
theorem i_seq {e : Expr} {c : SE} (he : PE X e (rd X.K c)) : PI X tg e (rdI X.K (iSeq c)) :=
  ((pi_list he).or (pi_tup he)).imp fun σ H R ⟨ω, F, s, ds, s', sr, h, p⟩ => by
    unfold iSeq at h
    obtain ⟨⟨⟨d1, b1⟩, s1⟩, e1, h⟩ := bind2 h
    dsimp only at h
    split at h
    · cases h
      refine .inl (rd_use sr e1 fun v F1 H1 x1 r1 hv => ?_)
      unfold Rp at hv
      obtain ⟨a, xs, rfl, h1, h2⟩ := hv
      exact ⟨a, rfl, ⟨xs, SqL.of (r1.sub _ _ h1)⟩, p _ F1 H1 x1 r1 (walkD_list h1 h2)⟩
    · cases h
      refine .inr (rd_use sr e1 fun v F1 H1 x1 r1 hv => ?_)
      unfold Rp at hv
      obtain ⟨a, xs, rfl, h1, h2⟩ := hv
      exact ⟨a, rfl, ⟨xs, sqt_mono r1.sub h1⟩, p _ F1 H1 x1 r1 (walkD_tup h1 h2)⟩
    · cases h
theorem i_rg1 {a : Expr} {t : SA} {p pos : Pos} (hg : Gl X "range") (hm : X.mg "range" = none) (ha : PA X [a] (rdA X.K t)) (hs : starEach [a] X.env = [(false, eval a X.env)] := by rfl) : PI X tg (.Call (.Name "range" p) [a] [] pos) (rdI X.K (iRg1 t)) :=
  (pi_range1 hg hm ha hs).imp fun σ H R ⟨ω, F, s, ds, s', sr, h, q⟩ => by
    unfold iRg1 at h
    obtain ⟨⟨l, s1⟩, e1, h⟩ := bind2 h
    dsimp only at h
    split at h
    · split at h
      · rename_i hz
        cases h
        have hz := rgOk_is hz
        refine rdA_use sr e1 fun vs F1 H1 x1 r1 hv => ?_
        obtain ⟨v, rfl, hv2⟩ := hv.one
        unfold Rp at hv2; subst hv2
        exact ⟨_, rfl, hz.1, hz.2, q _ F1 H1 x1 r1 walkD_rng⟩
      · cases h
    · cases h
theorem i_rg2 {a b : Expr} {t : SA} {p pos : Pos} (hg : Gl X "range") (hm : X.mg "range" = none) (ha : PA X [a, b] (rdA X.K t)) (hs : starEach [a, b] X.env = [(false, eval a X.env), (false, eval b X.env)] := by rfl) (hs2 : starEach [b] X.env = [(false, eval b X.env)] := by rfl) : PI X tg (.Call (.Name "range" p) [a, b] [] pos) (rdI X.K (iRg2 t)) :=
  (pi_range2 hg hm ha hs hs2).imp fun σ H R ⟨ω, F, s, ds, s', sr, h, q⟩ => by
    unfold iRg2 at h
    obtain ⟨⟨l, s1⟩, e1, h⟩ := bind2 h
    dsimp only at h
    split at h
    · split at h
      · rename_i hz
        cases h
        rw [Bool.and_eq_true] at hz
        have hz1 := rgOk_is hz.1
        have hz2 := rgOk_is hz.2
        refine rdA_use sr e1 fun vs F1 H1 x1 r1 hv => ?_
        obtain ⟨v, w, rfl, hv, hw⟩ := hv.two
        unfold Rp at hv hw; subst hv hw
        exact ⟨_, _, rfl, ⟨hz1.1, hz1.2, hz2.1, hz2.2⟩, q _ F1 H1 x1 r1 walkD_rng⟩
      · cases h
    · cases h
end

/-! ### for, while -/
def forL (g : D → S → Option S) (body : SS) : List D → SS
  | [], s => some (.nx, s)
  | d :: ds, s => (g d s).bind fun s1 => (body s1).bind fun p => match p.1 with
    | .nx => forL g body ds p.2
    | .ct => forL g body ds p.2
    | .bk => some (.nx, p.2)
    | .rt d => some (.rt d, p.2)
def cFor (it : SI) (g : D → S → Option S) (body : SS) : SS := fun s => (it s).bind fun p => forL g body p.1 p.2
def whL (t : ST) (body : SS) : Nat → SS
  | 0, _ => none
  | n + 1, s => (t s).bind fun p => if p.1 then (body p.2).bind fun q => match q.1 with
      | .nx => whL t body n q.2
      | .ct => whL t body n q.2
      | .bk => some (.nx, q.2)
      | .rt d => some (.rt d, q.2)
    else some (.nx, p.2)
def cWhile (n : Nat) (t : ST) (body : SS) : SS := whL t body n
section
variable {X : Cx}
theorem s_for {tg iter : Expr} {body : List Stmt} {it : SI} {ts : List Nat} {g : D → S → Option S} {c : SS} {pos : Pos} (hp : PassesOwn (model X.prog X.w) X.A X.env X.xe) (hc : X.calm = true) (hi : PI X tg iter (rdI X.K it)) (hg : PG X tg (rdG X.K ts g)) (hb : PSs X body (rdS X.K c))
    (hs : ∀ x, foldedSetIterable iter X.env x = pure x := by intro _; rfl) : PS X (.For tg iter body [] pos) (rdS X.K (cFor it g c)) :=
  (ps_for hp hc hi hg hb hs).imp fun D' σ H ⟨ω, F, s, fl, s', sr, h, p⟩ => by
    unfold cFor at h
    obtain ⟨⟨ds, s1⟩, e1, h⟩ := bind2 h
    refine ⟨ω, F, s, ds, s1, sr, e1, fun J F1 H1 x1 r1 ⟨G, Y, w, hG, hY⟩ => ?_⟩
    have p1 := p.mono x1
    refine for_it w (fun i σ' H' => i ≤ ds.length ∧ ∃ F2 s2, Ex F1 F2 ∧ Sr X.K ω F2 σ' H' s2 ∧ forL g c (ds.drop i) s2 = some (fl, s')) ⟨Nat.zero_le _, F1, s1, Ex.refl _, r1, by simpa using h⟩ (fun i σ' H' _ ⟨_, F2, s2, x2, r2, _⟩ => hG F2 H' x2 r2.sub) (fun i x σ' H' H2 hi ⟨_, F2, s2, x2, r2, e2⟩ hy => ?_) (fun σ' H' ⟨_, F2, s2, x2, r2, e2⟩ => ?_)
    · have hd : ds[i]? = some ds[i] := List.getElem?_eq_getElem hi
      rw [List.drop_eq_getElem_cons hi] at e2
      unfold forL at e2
      obtain ⟨s3, e3, e2⟩ := bind2 e2
      obtain ⟨⟨f4, s4⟩, e4, e2⟩ := bind2 e2
      obtain ⟨F3, x3, r3, hv⟩ := hY ω i _ x F2 σ' H' H2 s2 rfl hd x2 r2 hy
      refine ⟨ω, F3, s2, ds[i], s3, r3, hv, e3, fun σ4 F4 H4 _ x4 r4 => ?_⟩
      refine ⟨ω, F4, s3, f4, s4, r4, e4, ?_⟩
      have xx := (x2.trans x3).trans x4
      cases f4 with
      | nx => exact fun σ5 F5 H5 x5 r5 => ⟨hi, F5, s4, xx.trans x5, r5, e2⟩
      | ct => exact fun σ5 F5 H5 x5 r5 => ⟨hi, F5, s4, xx.trans x5, r5, e2⟩
      | bk => cases e2; exact fun σ5 F5 H5 x5 r5 => p1 σ5 F5 H5 (xx.trans x5) r5
      | rt d => cases e2; exact fun v σ5 F5 H5 x5 r5 hv => p1 v σ5 F5 H5 (xx.trans x5) r5 hv
    · rw [List.drop_eq_nil_of_le (Nat.le_refl _)] at e2
      cases e2
      exact p1 σ' F2 H' x2 r2
theorem s_while {t : Expr} {body : List Stmt} {n : Nat} {tc : ST} {c : SS} {pos : Pos} (hp : PassesOwn (model X.prog X.w) X.A X.env X.xe) (ht : PT X t (rdT X.K tc)) (hb : PSs X body (rdS X.K c)) : PS X (.While t body [] pos) (rdS X.K (cWhile n tc c)) :=
  (ps_while hp ht hb).imp fun D' σ H ⟨ω, F, s, fl, s', sr, h, p⟩ => by
    unfold cWhile at h
    refine ⟨fun m σ' H' => ∃ F2 s2, Ex F F2 ∧ Sr X.K ω F2 σ' H' s2 ∧ whL tc c m s2 = some (fl, s'), ⟨n, F, s, Ex.refl _, sr, h⟩, fun m σ' H' ⟨F2, s2, x2, r2, e2⟩ => ?_⟩
    cases m with
    | zero => cases e2
    | succ m =>
      unfold whL at e2
      obtain ⟨⟨b3, s3⟩, e3, e2⟩ := bind2 e2
      refine rdT_use r2 e3 fun F3 H3 x3 r3 => ?_
      cases b3 with
      | false =>
        cases e2
        exact p σ' F3 H3 (x2.trans x3) r3
      | true =>
        rw [if_pos rfl] at e2
        obtain ⟨⟨f4, s4⟩, e4, e2⟩ := bind2 e2
        refine ⟨fun σ5 H5 => ∃ F5 s5, Ex F F5 ∧ Sr X.K ω F5 σ5 H5 s5 ∧ whL tc c m s5 = some (fl, s'), fun σ5 H5 q => ⟨m, Nat.lt_succ_self m, q⟩, ω, F3, s3, f4, s4, r3, e4, ?_⟩
        have xx := x2.trans x3
        cases f4 with
        | nx => exact fun σ5 F5 H5 x5 r5 => ⟨F5, s4, xx.trans x5, r5, e2⟩
        | ct => exact fun σ5 F5 H5 x5 r5 => ⟨F5, s4, xx.trans x5, r5, e2⟩
        | bk => cases e2; exact fun σ5 F5 H5 x5 r5 => p σ5 F5 H5 (xx.trans x5) r5
        | rt d => cases e2; exact fun v σ5 F5 H5 x5 r5 hv => p v σ5 F5 H5 (xx.trans x5) r5 hv
end

/-! ### comprehensions -/
def lcL (g : D → S → Option S) (tt : ST) (te : SE) (vs : List Nat) : List D → S → List D → Option (List D × S)
  | [], s, acc => some (acc, s)
  | d :: ds, s, acc => (g d s).bind fun s1 => (tt s1).bind fun p => if p.1 then (te p.2).bind fun q => if szOk (acc.length + 1) then lcL g tt te vs ds (wipeS vs q.2) (acc ++ [q.1.1]) else none
    else lcL g tt te vs ds (wipeS vs p.2) acc
def restB (old new : List Bd) : List Nat → List Bd
  | [] => new
  | i :: is => (restB old new is).set i (old.getD i .no)
def noOwn (vs : List Nat) (s : S) : Bool := vs.all fun i => match s.r[i]? with
  | some (.own _) => false
  | _ => true
def cLC (it : SI) (g : D → S → Option S) (tt : ST) (te : SE) (vs : List Nat) : SE := fun s => (it s).bind fun p => if noOwn vs p.2 then (lcL g tt te vs p.1 (wipeS vs p.2) []).map fun q => ((.lst q.1, true), { q.2 with r := restB p.2.r q.2.r vs }) else none
def bYes : ST := fun s => some (true, s)
theorem restB_len (old new : List Bd) : ∀ vs : List Nat, (restB old new vs).length = new.length
  | [] => rfl
  | i :: is => by unfold restB; rw [List.length_set, restB_len old new is]
theorem restB_get {old new : List Bd} {j : Nat} : ∀ {vs : List Nat}, (restB old new vs)[j]? = if j ∈ vs then (if j < new.length then some (old.getD j .no) else none) else new[j]?
  | [] => by simp [restB]
  | v :: vs => by
    have ih := restB_get (old := old) (new := new) (j := j) (vs := vs)
    unfold restB
    rw [List.getElem?_set, restB_len, ih]
    by_cases h : v = j
    · subst h
      simp
    · rw [if_neg h]
      by_cases h2 : j ∈ vs
      · simp [h2]
      · simp [h2, Ne.symm h]
theorem Sr.rest {K : PySem.W.Frag} {ω : Wd} {F F' : Hp} {σ : L2.St} {H H' : Hp} {s s' : S} {vs : List Nat} (r : Sr K ω F σ H s) (hn : noOwn vs s = true) (e : Ex F F') (t : Sr K ω F' (L2.wipe σ vs) H' s') : Sr K ω F' σ H' { s' with r := restB s.r s'.r vs } where
  len := by show _ = (restB s.r s'.r vs).length; rw [restB_len, ← t.len, wipe_length]
  sub := t.sub
  frm := t.frm
  new := t.new
  pt := t.pt
  sl i b h := by
    have h : (restB s.r s'.r vs)[i]? = some b := h
    rw [restB_get] at h
    by_cases q : i ∈ vs
    · rw [if_pos q] at h
      split at h
      · cases h
        cases z : s.r[i]? with
        | none => rw [List.getD_eq_getElem?_getD, z]; trivial
        | some c =>
          rw [List.getD_eq_getElem?_getD, z]
          have g := r.sl i c z
          have w := List.all_eq_true.mp hn i q
          rw [z] at w
          cases c with
          | no => trivial
          | val d => obtain ⟨v, h1, h2⟩ := g; exact ⟨v, h1, h2.mono e⟩
          | own d => cases w
      · cases h
    · rw [if_neg q] at h
      have g := t.sl i b h
      rw [wipe_get, if_neg q] at g
      exact g
  dis i j d e w hij h1 h2 h3 h4 := by
    have key : ∀ (i : Nat) d, (restB s.r s'.r vs)[i]? = some (.own d) → i ∉ vs ∧ s'.r[i]? = some (.own d) := fun i d h => by
      rw [restB_get] at h
      by_cases q : i ∈ vs
      · rw [if_pos q] at h
        split at h
        · have w := List.all_eq_true.mp hn i q
          cases z : s.r[i]? with
          | none => rw [List.getD_eq_getElem?_getD, z] at h; cases h
          | some c =>
            rw [z] at w
            rw [List.getD_eq_getElem?_getD, z] at h
            cases h
            cases w
        · cases h
      · rw [if_neg q] at h
        exact ⟨q, h⟩
    obtain ⟨q1, g1⟩ := key i d h1
    obtain ⟨q2, g2⟩ := key j e h2
    exact t.dis i j d e w hij g1 g2 (by rw [wipe_get, if_neg q1]; exact h3) (by rw [wipe_get, if_neg q2]; exact h4)
section
variable {X : Cx}
theorem ts_nil : PTs X [] (rdT X.K bYes) := by
  have h : PTs X [] tYes := pts_nil
  exact ⟨fun pins s σ H Q I hw => h.run pins s σ H Q I (by
    obtain ⟨ω, F, s, b, s', sr, e, p⟩ := hw
    cases e
    exact p F H (Ex.refl F) sr)⟩
theorem ts_one {c : Expr} {t : ST} (h : PT X c (rdT X.K t)) : PTs X [c] (rdT X.K t) := pts_one h
/-- the reading of a comprehension -/
theorem lc_go {K : PySem.W.Frag} {it : SI} {ts vs : List Nat} {g : D → S → Option S} {tt : ST} {te : SE} {σ : L2.St} {H : Hp} {Q : VK} (hts : ∀ i ∈ ts, i ∈ vs) (hw : rd K (cLC it g tt te vs) σ H Q) : tLc (rdI K it) (rdG K ts g) (rdT K tt) (rd K te) vs σ H Q := by
  obtain ⟨ω, F, s, d, b, s', sr, h, p⟩ := hw
  unfold cLC at h
  obtain ⟨⟨ds, s1⟩, e1, h⟩ := bind2 h
  split at h
  · rename_i hno
    obtain ⟨⟨res, s2⟩, e2, h⟩ := map2 h
    cases h
    refine ⟨ω, F, s, ds, s1, sr, e1, fun J F1 H1 x1 r1 ⟨G, Y, w, hG, hY⟩ D0 hD => ?_⟩
    have hF1 : F1 D0 = none := r1.sub.none hD
    have h0 := r1.h0 hD
    have hP := r1.pt.ne hD
    have rw1 : Sr K ω F1 (L2.wipe σ vs) (upd H1 D0 (.lst [])) (wipeS vs s1) := (r1.wipe vs).allocN hD
    have nO1 : ¬ Owned (L2.wipe σ vs) (wipeS vs s1) D0 := fun z => by
      obtain ⟨⟨o, q⟩, _⟩ := (r1.wipe vs).ownAt z
      rw [hD] at q; cases q
    refine lc_it w (fun i H' => ∃ F2 s3 acc xs, Ex F1 F2 ∧ Sr K ω F2 (L2.wipe σ vs) H' s3 ∧ H' D0 = some (.lst xs) ∧ F2 D0 = none ∧ ¬ Owned (L2.wipe σ vs) s3 D0 ∧ RpL K ω.P F2 acc xs ∧ wipeS vs s3 = s3 ∧ lcL g tt te vs (ds.drop i) s3 acc = some (res, s2))
      ⟨F1, wipeS vs s1, [], [], Ex.refl _, rw1, upd_same, hF1, nO1, .nil, ?_, by simpa using e2⟩ (fun i H' _ ⟨F2, s3, acc, xs, x2, r2, _⟩ => hG F2 H' x2 r2.sub) (fun i x H' H2 hi ⟨F2, s3, acc, xs, x2, r2, hD2, hF2, hO2, ha2, hw2, e3⟩ hy => ?_) (fun H' ⟨F2, s3, acc, xs, x2, r2, hD2, hF2, hO2, ha2, hw2, e3⟩ => ?_)
    · unfold wipeS
      congr 1
      refine List.ext_getElem? fun j => ?_
      rw [wipeB_get, wipeB_get, wipeB_len]
      by_cases q : j ∈ vs <;> simp [q]
    · have hd : ds[i]? = some ds[i] := List.getElem?_eq_getElem hi
      rw [List.drop_eq_getElem_cons hi] at e3
      unfold lcL at e3
      obtain ⟨s4, e4, e3⟩ := bind2 e3
      obtain ⟨⟨b5, s5⟩, e5, e3⟩ := bind2 e3
      -- the item
      obtain ⟨F3, x3, r3p, hv⟩ := hY (protW ω F2 (L2.wipe σ vs) H' s3) i _ x F2 (L2.wipe σ vs) H' H2 s3 rfl hd x2 r2.prot hy
      have kp3 := r2.kept r3p
      have r3 := r2.unprot r3p
      obtain ⟨hD3, hF3, hO3⟩ := kp3 D0 _ hP hO2 hD2
      refine rdG_useK r3 hv e4 fun σ4 F4 H4 w4 x4 r4 kp4 => ⟨w4 vs hts |>.trans (by
        refine List.ext_getElem? fun j => ?_
        rw [wipe_get, wipe_get, wipe_length]
        by_cases q : j ∈ vs <;> simp [q]), ?_⟩
      obtain ⟨hD4, hF4, hO4⟩ := kp4 D0 _ hP hO3 hD3
      refine rdT_keep r4 e5 fun F5 H5 x5 r5 kp5 => ?_
      obtain ⟨hD5, hF5, hO5⟩ := kp5 D0 _ hP hO4 hD4
      have w4' := w4 vs hts
      have ww : L2.wipe (L2.wipe σ vs) vs = L2.wipe σ vs := by
        refine List.ext_getElem? fun j => ?_
        rw [wipe_get, wipe_get, wipe_length]
        by_cases q : j ∈ vs <;> simp [q]
      rw [ww] at w4'
      have wiped : ∀ s : S, wipeS vs (wipeS vs s) = wipeS vs s := fun s => by
        unfold wipeS
        congr 1
        refine List.ext_getElem? fun j => ?_
        rw [wipeB_get, wipeB_get, wipeB_len]
        by_cases q : j ∈ vs <;> simp [q]
      have wipO : ∀ {s : S} {F : Hp} {H : Hp}, Sr K ω F σ4 H s → ¬ Owned σ4 s D0 → ¬ Owned (L2.wipe σ vs) (wipeS vs s) D0 := fun {s F H} r hn ⟨k, d, g1, g2⟩ => by
        have g1 : (wipeB s.r vs)[k]? = some (.own d) := g1
        rw [wipeB_get] at g1
        by_cases q : k ∈ vs
        · rw [if_pos q] at g1; split at g1 <;> cases g1
        · rw [if_neg q] at g1
          rw [← w4', wipe_get, if_neg q] at g2
          exact hn ⟨k, d, g1, g2⟩
      cases b5 with
      | false =>
        refine ⟨F5, wipeS vs s5, acc, xs, ((x2.trans x3).trans x4).trans x5, ?_, hD5, hF5 (hF4 (hF3 hF2)), wipO r5 hO5, ha2.mono ((x3.trans x4).trans x5), wiped s5, e3⟩
        rw [← w4']; exact r5.wipe vs
      | true =>
        rw [if_pos rfl] at e3
        obtain ⟨⟨⟨d6, b6⟩, s6⟩, e6, e3⟩ := bind2 e3
        split at e3
        · rename_i hz
          refine rd_useK r5 e6 fun y F6 H6 x6 r6 hy6 kp6 => ?_
          obtain ⟨hD6, hF6, hO6⟩ := kp6 D0 _ hP hO5 hD5
          have hF6' := hF6 (hF5 (hF4 (hF3 hF2)))
          have xx := (((x2.trans x3).trans x4).trans x5).trans x6
          refine ⟨xs, hD6, by rw [ha2.len]; have := szOk_le hz; omega, F6, wipeS vs s6, acc ++ [d6], xs ++ [y], xx, ?_, upd_same, hF6', wipO r6 hO6, (ha2.mono (((x3.trans x4).trans x5).trans x6)).app (.cons hy6 .nil), wiped s6, e3⟩
          rw [← w4']
          exact (r6.other hF6' hO6 h0 hP).wipe vs
        · cases e3
    · rw [List.drop_eq_nil_of_le (Nat.le_refl _)] at e3
      cases e3
      have t := r1.rest hno x2 r2
      refine p _ F2 H' (x1.trans x2) t ⟨⟨D0, xs, rfl, hD2, hF2, h0, hP, ha2⟩, fun j e g1 g2 => ?_⟩
      have g1 : (restB s1.r s2.r vs)[j]? = some (.own e) := g1
      rw [restB_get] at g1
      by_cases q : j ∈ vs
      · rw [if_pos q] at g1
        split at g1
        · have wz := List.all_eq_true.mp hno j q
          cases z : s1.r[j]? with
          | none => rw [List.getD_eq_getElem?_getD, z] at g1; cases g1
          | some c =>
            rw [z] at wz
            rw [List.getD_eq_getElem?_getD, z] at g1
            cases g1
            cases wz
        · cases g1
      · rw [if_neg q] at g1
        exact hO2 ⟨j, e, g1, by rw [wipe_get, if_neg q]; exact g2⟩
  · cases h
theorem p_lc {elt tg iter : Expr} {ifs : List Expr} {scope : Scope} {own : List (Str × Nat)} {pos : Pos} {it : SI} {ts : List Nat} {g : D → S → Option S} {tt : ST} {te : SE} (hc : X.calm = true) (hN : X.N.Nodup) (hi : PI X tg iter (rdI X.K it)) (ok : BlkOk X.N X.env.scope scope own)
    (hts : ∀ i ∈ ts, i ∈ own.map (·.2))
    (hg : ∀ (s : Shared) (H : Hp) (C : Addr) (cl : List (Str × Addr)) (fp : List Addr), PG (X.blk s H scope (compEnvC scope cl C X.env) fp) tg (rdG X.K ts g)) (ht : ∀ (s : Shared) (H : Hp) (C : Addr) (cl : List (Str × Addr)) (fp : List Addr), PTs (X.blk s H scope (compEnvC scope cl C X.env) fp) ifs (rdT X.K tt))
    (he : ∀ (s : Shared) (H : Hp) (C : Addr) (cl : List (Str × Addr)) (fp : List Addr), PE (X.blk s H scope (compEnvC scope cl C X.env) fp) elt (rd X.K te)) (hs : ∀ x, foldedSetIterable iter X.env x = pure x := by intro _; rfl) :
    PE X (.ListComp elt [⟨tg, iter, ifs, 0⟩] scope pos) (rd X.K (cLC it g tt te (own.map (·.2)))) :=
  (pe_lc hc hN hi ok hg ht he hs).imp fun σ H Q hw => lc_go hts hw
theorem s_setLc {i : Nat} {y : Str} {py : Pos} {elt tg iter : Expr} {ifs : List Expr} {scope : Scope} {own : List (Str × Nat)} {pos spos : Pos} {it : SI} {ts : List Nat} {g : D → S → Option S} {tt : ST} {te : SE} (hc : X.calm = true) (hN : X.N.Nodup) (hy : X.N[i]? = some y) (hyl : X.env.scope.names.lookup y = some .local)
    (hsw : swapsWith (.ListComp elt [⟨tg, iter, ifs, 0⟩] scope pos) (some (.Name y py)) spos.line X.env = pure true) (hi : PI X tg iter (rdI X.K it)) (ok : BlkOk X.N X.env.scope scope own)
    (hts : ∀ i ∈ ts, i ∈ own.map (·.2))
    (hg : ∀ (s : Shared) (H : Hp) (C : Addr) (cl : List (Str × Addr)) (fp : List Addr), PG (X.blk s H scope (compEnvC scope cl C X.env) fp) tg (rdG X.K ts g)) (ht : ∀ (s : Shared) (H : Hp) (C : Addr) (cl : List (Str × Addr)) (fp : List Addr), PTs (X.blk s H scope (compEnvC scope cl C X.env) fp) ifs (rdT X.K tt))
    (he : ∀ (s : Shared) (H : Hp) (C : Addr) (cl : List (Str × Addr)) (fp : List Addr), PE (X.blk s H scope (compEnvC scope cl C X.env) fp) elt (rd X.K te)) (hs : ∀ x, foldedSetIterable iter X.env x = pure x := by intro _; rfl) :
    PS X (.Assign [.Name y py] (.ListComp elt [⟨tg, iter, ifs, 0⟩] scope pos) spos) (rdS X.K (cSet i (cLC it g tt te (own.map (·.2))))) :=
  (ps_setLc hc hN hy hyl hsw hi ok hg ht he hs).imp fun D' σ H ⟨ω, F, s, fl, s', sr, h, p⟩ => by
    unfold cSet at h
    obtain ⟨⟨⟨d1, b1⟩, s1⟩, e1, h⟩ := map2 h
    cases h
    exact lc_go hts (rd_keep sr e1 fun v F1 H1 x1 r1 hv _ _ => p _ F1 H1 x1 (r1.setS hv))
end

/-! ### defs -/
abbrev Fn := List D → Pt → Option (D × Pt)
def runF (n : Nat) (c : SS) : Fn := fun ds p => match c ⟨ds.map .val ++ List.replicate (n - ds.length) .no, p⟩ with
  | some (.rt d, s) => some (d, s.p)
  | some (.nx, s) => some (.non, s.p)
  | _ => none
def spF (K : PySem.W.Frag) (k : Nat) (f : Fn) : Sp := fun vs H Q _ => vs.length = k ∧ ∃ P F ds p d p', Ex F H ∧ PtOk P F H p ∧ RpL K P F ds vs ∧ f ds p = some (d, p') ∧
  ∀ v F' H', Ex F F' → Ex F' H' → PtOk P F' H' p' → (∀ a o, P ≠ some a → H a = some o → H' a = some o) → (∀ a o, F' a = some o → F a = some o ∨ H a = none) → Rp K P F' d v → Q v H'
def cCall (f : Fn) (t : SA) : SE := fun s => (t s).bind fun p => (f p.1 p.2.p).map fun q => ((q.1, false), { p.2 with p := q.2 })
structure Def (P : Program) (w : World) (K : PySem.W.Frag) (mg : Str → Option Value) (base : Heap) (x : Str) (k n : Nat) (f : Fn) : Prop where
  ex : ∃ (a : Addr) (fd : FuncData) (ps : List Str), mg x = some (.ref a) ∧ PySem.W.keepIn K (.ref a) = true ∧ FnOk P w K mg base CX0 k a fd ps (spF K n f) ∧ Binds K fd ps []
theorem Def.mono {P : Program} {w : World} {K : PySem.W.Frag} {mg : Str → Option Value} {base : Heap} {x : Str} {j k n : Nat} {f : Fn} (h : Def P w K mg base x j n f) (e : j ≤ k) : Def P w K mg base x k n f := by
  obtain ⟨a, fd, ps, h1, h2, h3, h4⟩ := h.ex
  exact ⟨a, fd, ps, h1, h2, h3.mono e, h4⟩
theorem startB {K : PySem.W.Frag} {P : Option Addr} {F H : Hp} {ds : List D} {vs : List V} {N : List Str} {p : Pt} (hN : vs.length ≤ N.length) (e : Ex F H) (hp : PtOk P F H p) (hr : RpL K P F ds vs) : Sr K ⟨P, H, F⟩ F (L2.start N vs) H ⟨ds.map .val ++ List.replicate (N.length - ds.length) .no, p⟩ where
  len := by
    unfold L2.start
    simp [hr.len]
  sub := e
  frm a o _ h := h
  new a o h := .inl h
  pt := hp
  sl i b h := by
    have h : (ds.map Bd.val ++ List.replicate (N.length - ds.length) .no)[i]? = some b := h
    by_cases q : i < ds.length
    · rw [List.getElem?_append_left (by simpa using q), List.getElem?_map, List.getElem?_eq_getElem q] at h
      cases h
      obtain ⟨v, h1, h2⟩ := hr.get (List.getElem?_eq_getElem q)
      refine ⟨v, ?_, h2⟩
      unfold L2.start
      rw [List.getElem?_append_left (by rw [List.length_map, hr.len]; exact q), List.getElem?_map, h1]
      rfl
    · rw [List.getElem?_append_right (by simpa using q), List.getElem?_replicate] at h
      split at h
      · cases h; trivial
      · cases h
  dis i j d e w hij h1 := by
    have h1 : (ds.map Bd.val ++ List.replicate (N.length - ds.length) .no)[i]? = some (.own d) := h1
    by_cases q : i < ds.length
    · rw [List.getElem?_append_left (by simpa using q), List.getElem?_map, List.getElem?_eq_getElem q] at h1
      cases h1
    · rw [List.getElem?_append_right (by simpa using q), List.getElem?_replicate] at h1
      split at h1 <;> cases h1
section
variable {P : Program} {w : World} {K : PySem.W.Frag} {mg : Str → Option Value} {base : Heap}
theorem fn_ok {x qual : Str} {st : Stmt} {f : Addr} {fd : FuncData} {N ps : List Str} {k n : Nat} {c : SS} (F : Fun K x qual st f fd) (S : FnScope N ps (defScope st)) (hn : ps.length = n)
    (hbody : ∀ (cdv : Value) (A : Around) (outer : List Env) (s : Shared) (H : Hp) (E : XK), Room k (A.deeper (envOfC qual (defScope st) s.heap.objs.size f cdv)) →
      PSs (cxOf CX0 P w K mg base N qual (defScope st) f cdv A outer s H E).nox (defBody st) (rdS K c)) : FnOk P w K mg base CX0 (k + 1) f fd ps (spF K n (runF N.length c)) := by
  subst hn
  refine F.ok S (fun vs H Q E h => h.1) (fun cdv A outer s H vs Q E hr hsp => ⟨rdS K c, hbody cdv A outer s H E hr, ?_⟩)
  obtain ⟨hl, P0, F0, ds, p, d, p', h1, h2, h3, h4, h5⟩ := hsp
  have hN : vs.length ≤ N.length := by
    have := congrArg List.length S.pre
    rw [List.length_take] at this; omega
  unfold runF at h4
  have sr := startB hN h1 h2 h3
  split at h4
  · rename_i d1 s1 e1
    cases h4
    refine ⟨_, F0, _, _, _, sr, e1, fun v σ F' H' x r hv => ?_⟩
    exact h5 v F' H' x r.sub r.pt (fun a o hP ha => r.frm a o hP ha) r.new hv
  · rename_i s1 e1
    cases h4
    refine ⟨_, F0, _, _, _, sr, e1, fun σ F' H' x r => ?_⟩
    exact h5 .non F' H' x r.sub r.pt (fun a o hP ha => r.frm a o hP ha) r.new (by unfold Rp; rfl)
  · cases h4
theorem def_ok {x qual : Str} {st : Stmt} {f : Addr} {fd : FuncData} {N ps : List Str} {k n : Nat} {c : SS} (hg : mg x = some (.ref f)) (F : Fun K x qual st f fd) (hb : Binds K fd ps []) (S : FnScope N ps (defScope st)) (hn : ps.length = n)
    (hbody : ∀ (cdv : Value) (A : Around) (outer : List Env) (s : Shared) (H : Hp) (E : XK), Room k (A.deeper (envOfC qual (defScope st) s.heap.objs.size f cdv)) →
      PSs (cxOf CX0 P w K mg base N qual (defScope st) f cdv A outer s H E).nox (defBody st) (rdS K c)) : Def P w K mg base x (k + 1) n (runF N.length c) :=
  ⟨f, fd, ps, hg, F.kp, fn_ok F S hn hbody, hb⟩
end
section
variable {X : Cx}
theorem call_use {K : PySem.W.Frag} {n : Nat} {f : Fn} {t : SA} {σ : L2.St} {H : Hp} {Q : VK} {E : XK} (hlen : ∀ s ds s', t s = some (ds, s') → ds.length = n) (hw : rd K (cCall f t) σ H Q) : tCall (spF K n f) [] E (rdA K t) σ H Q := by
  obtain ⟨ω, F, s, d, b, s', sr, h, p⟩ := hw
  unfold cCall at h
  obtain ⟨⟨ds, s1⟩, e1, h⟩ := bind2 h
  obtain ⟨⟨d2, p2⟩, e2, h⟩ := map2 h
  cases h
  refine rdA_use sr e1 fun vs F1 H1 x1 r1 hv => ?_
  rw [List.append_nil]
  refine ⟨by rw [hv.len]; exact hlen _ _ _ e1, ω.P, F1, ds, s1.p, _, p2, r1.sub, r1.pt, hv, e2, fun v F2 H2 x2 e3 pt2 kp nw hr => ?_⟩
  refine p v F2 H2 (x1.trans x2) ⟨r1.len, e3, fun a o hP ha => kp a o hP (r1.frm a o hP ha), fun a o ha => ?_, pt2, fun i c hc => ?_, r1.dis⟩ hr
  · rcases nw a o ha with q | q
    · exact r1.new a o q
    · exact .inr (r1.h0 q)
  · refine (r1.sl i c hc).mono x2 fun a hown hσ hne hF => ?_
    obtain ⟨d0, rfl⟩ := hown
    obtain ⟨⟨o, ho⟩, _, _, hP⟩ := r1.ownAt ⟨i, d0, hc, hσ⟩
    refine ⟨by rw [kp a o hP ho, ho], ?_⟩
    cases q : F2 a with
    | none => rfl
    | some u =>
      rcases nw a u q with z | z
      · rw [hF] at z; cases z
      · rw [ho] at z; cases z
theorem p_call {x : Str} {k j n : Nat} {f : Fn} {t : SA} {e : Expr} {es : List Expr} {p pos : Pos} (hd : Def X.prog X.w X.K X.mg X.base x k n f) (hr : Room j X.A) (hkj : k ≤ j) (hg : Gl X x) (ha : PA X (e :: es) (rdA X.K t)) (hlen : ∀ s ds s', t s = some (ds, s') → ds.length = n) (hdb : (x == ("__debug__" : Str)) = false := by decide)
    (he : starEach (e :: es) X.env = (false, eval e X.env) :: starEach es X.env := by rfl) (hpl : (backTo pos (starEach es X.env)).any (·.1) = false := by rfl) : PE X (.Call (.Name x p) (e :: es) [] pos) (rd X.K (cCall f t)) := by
  obtain ⟨a, fd, ps, h1, h2, h3, h4⟩ := hd.ex
  exact (pe_call (E := E0) h3 (hr.mono hkj) hg h1 h2 h4 .nil pass0 ha hdb he hpl).imp fun _ _ _ => call_use hlen
theorem p_call0 {x : Str} {k j : Nat} {f : Fn} {p pos : Pos} (hd : Def X.prog X.w X.K X.mg X.base x k 0 f) (hr : Room j X.A) (hkj : k ≤ j) (hg : Gl X x) (hdb : (x == ("__debug__" : Str)) = false := by decide) : PE X (.Call (.Name x p) [] [] pos) (rd X.K (cCall f aNil)) := by
  obtain ⟨a, fd, ps, h1, h2, h3, h4⟩ := hd.ex
  refine (pe_call0 (E := E0) h3 (hr.mono hkj) hg h1 h2 h4 .nil pass0 hdb).imp fun σ H Q hw => ?_
  have q := call_use (n := 0) (E := E0) (fun s ds s' e => by cases e; rfl) hw
  obtain ⟨ω, F, s, ds, s', sr, e, p⟩ := q
  cases e
  exact p [] F H (Ex.refl F) sr .nil
theorem aNil_len : ∀ s ds s', aNil s = some (ds, s') → ds.length = 0 := fun s ds s' h => by cases h; rfl
theorem aCons_len {c : SE} {t : SA} {n : Nat} (h : ∀ s ds s', t s = some (ds, s') → ds.length = n) : ∀ s ds s', aCons c t s = some (ds, s') → ds.length = n + 1 := fun s ds s' e => by
  unfold aCons at e
  obtain ⟨⟨⟨d1, b1⟩, s1⟩, e1, e⟩ := bind2 e
  obtain ⟨⟨ds2, s2⟩, e2, e⟩ := map2 e
  cases e
  rw [List.length_cons, h _ _ _ e2]
end
end Rb

namespace Rb
open PySem PySem.Spec PyProof.Rows L2
/-! ### flat data: in, index -/
def flatD : D → Bool
  | .non => true | .bl _ => true | .int _ => true | .str _ => true | _ => false
def toV : D → V
  | .bl b => .bl b | .int i => .int i | .str x => .str x | _ => .non
theorem Rp.flat {K : PySem.W.Frag} {P : Option Addr} {F : Hp} {d : D} {v : V} (h : Rp K P F d v) (hf : flatD d = true) : v = toV d ∧ flatV v = true := by
  cases d <;> first | (cases hf; done) | skip
  all_goals
    unfold Rp at h; subst h; exact ⟨rfl, rfl⟩
theorem RpL.flat {K : PySem.W.Frag} {P : Option Addr} {F : Hp} : ∀ {ds : List D} {vs : List V}, RpL K P F ds vs → ds.all flatD = true → vs = ds.map toV ∧ vs.all flatV = true
  | [], vs, h, _ => by unfold RpL at h; subst h; exact ⟨rfl, rfl⟩
  | d :: ds, vs, h, hf => by
    unfold RpL at h
    obtain ⟨x, r, rfl, hx, hr⟩ := h
    rw [List.all_cons, Bool.and_eq_true] at hf
    obtain ⟨e1, e2⟩ := hx.flat hf.1
    obtain ⟨e3, e4⟩ := RpL.flat hr hf.2
    subst e1 e3
    exact ⟨rfl, by rw [List.all_cons, e2, e4]; rfl⟩
def inD (x : D) (ds : List D) : Bool := ds.any fun y => eqV (toV y) (toV x)
theorem inD_eq {x : D} {ds : List D} : inV (toV x) (ds.map toV) = inD x ds := by
  unfold inV inD
  rw [List.any_map]; rfl
def dIn (x : D) : D → Option (D × Bool)
  | .lst ds => if flatD x && ds.all flatD then some (.bl (inD x ds), false) else none
  | .tup ds => if flatD x && ds.all flatD then some (.bl (inD x ds), false) else none
  | .dic ks => (keyOf x).map fun k => (.bl (valD ks k).isSome, false)
  | _ => none
def dNotIn (x : D) : D → Option (D × Bool)
  | .lst ds => if flatD x && ds.all flatD then some (.bl (!inD x ds), false) else none
  | .tup ds => if flatD x && ds.all flatD then some (.bl (!inD x ds), false) else none
  | .dic ks => (keyOf x).map fun k => (.bl (!(valD ks k).isSome), false)
  | _ => none
theorem ok_in_seq {K : PySem.W.Frag} {ω : Wd} {F : Hp} {σ : L2.St} {H : Hp} {s : S} {x : D} {v u : V} {ds : List D} {neg : Bool} {Q : VK} (sr : Sr K ω F σ H s) (hx : Rp K ω.P F x v) (hy : Rp K ω.P F (.lst ds) u ∨ Rp K ω.P F (.tup ds) u) (h : (flatD x && ds.all flatD) = true) (p : Post K ω F σ s (.bl (if neg then !inD x ds else inD x ds)) false Q) : rIn K neg v u H Q := by
  rw [Bool.and_eq_true] at h
  obtain ⟨e1, e2⟩ := hx.flat h.1
  have fin : ∀ (a : Addr) (xs : List V), u = .ref a → (SqL K H a xs ∨ SqT K H a xs) → RpL K ω.P F ds xs → rIn K neg v u H Q := fun a xs ea hq hr => by
    obtain ⟨e3, e4⟩ := hr.flat h.2
    refine ⟨a, xs, ea, hq, e2, e4, ?_⟩
    rw [e3, e1, inD_eq]
    refine sr.here (b := false) ?_ p
    show Rp _ _ _ _ _
    unfold Rp
    cases neg <;> rfl
  rcases hy with hy | hy
  · unfold Rp at hy
    obtain ⟨a, xs, ea, h1, h2⟩ := hy
    exact fin a xs ea (.inl (SqL.of (sr.sub _ _ h1))) h2
  · unfold Rp at hy
    obtain ⟨a, xs, ea, h1, h2⟩ := hy
    exact fin a xs ea (.inr (sqt_mono sr.sub h1)) h2
def rInD (neg : Bool) : R2 := fun y x H Q => ∃ a o, x = .ref a ∧ DGet H a y o ∧ Q (.bl (if neg then !o.isSome else o.isSome)) H
section
variable {X : Cx}
theorem PE.two {e : Expr} {t t' : TE} (h : PE X e t) (h' : PE X e t') : PE X e (fun σ H Q => t σ H Q ∨ t' σ H Q) := ⟨fun pins s σ H Q I hw => by
  rcases hw with q | q
  · exact h.run pins s σ H Q I q
  · exact h'.run pins s σ H Q I q⟩
theorem p_in {a b : Expr} {ea eb : SE} {pos : Pos} (hu : X.A.units + 1 < cLine) (ha : PE X a (rd X.K ea)) (hb : PE X b (rd X.K eb)) (hm : behindInMarks .In b = false) : PE X (.Compare a [.In] [b] pos) (rd X.K (cBin dIn ea eb)) :=
  (PE.two (pe_cmpR op_in_seq ha hb hm) (pe_cmp (pc_din hu ha hb) hm)).imp fun σ H Q hw => by
    obtain ⟨ω, F, s, d, b, s', sr, h, p⟩ := hw
    unfold cBin at h
    obtain ⟨⟨⟨d1, b1⟩, s1⟩, e1, h⟩ := bind2 h
    obtain ⟨⟨⟨d2, b2⟩, s2⟩, e2, h⟩ := bind2 h
    obtain ⟨z, e3, h⟩ := map2 h
    cases h
    dsimp only at e3
    unfold dIn at e3
    split at e3
    · split at e3
      · rename_i hf
        cases e3
        exact .inl (rd_use sr e1 fun v F1 H1 x1 r1 hv => rd_use r1 e2 fun u F2 H2 x2 r2 hu => ok_in_seq (neg := false) r2 (hv.mono x2) (.inl hu) hf (p.mono (x1.trans x2)))
      · cases e3
    · split at e3
      · rename_i hf
        cases e3
        exact .inl (rd_use sr e1 fun v F1 H1 x1 r1 hv => rd_use r1 e2 fun u F2 H2 x2 r2 hu => ok_in_seq (neg := false) r2 (hv.mono x2) (.inr hu) hf (p.mono (x1.trans x2)))
      · cases e3
    · rename_i ks
      obtain ⟨k, ek, e3⟩ := map2 e3
      cases e3
      refine .inr (rd_use sr e1 fun v F1 H1 x1 r1 hv => rd_use r1 e2 fun u F2 H2 x2 r2 hu => ?_)
      have hvk := keyOf_rp hv ek
      unfold Rp at hu
      obtain ⟨a, xs, rfl, h1, h2⟩ := hu
      refine ⟨a, valV xs k, rfl, .inl ⟨xs, k, rd_mono r2.sub h1, hvk, rfl⟩, r2.here (b := false) ?_ (p.mono (x1.trans x2))⟩
      show Rp _ _ _ _ _
      unfold Rp
      rcases h2.val k with ⟨g1, g2⟩ | ⟨d, w, g1, g2, _⟩ <;> rw [g1, g2] <;> rfl
    · cases e3
theorem p_notin {a b : Expr} {ea eb : SE} {pos : Pos} (hu : X.A.units + 1 < cLine) (ha : PE X a (rd X.K ea)) (hb : PE X b (rd X.K eb)) (hm : behindInMarks .NotIn b = false) : PE X (.Compare a [.NotIn] [b] pos) (rd X.K (cBin dNotIn ea eb)) :=
  (PE.two (pe_cmpR op_notIn_seq ha hb hm) (pe_cmp (pc_dnotin hu ha hb) hm)).imp fun σ H Q hw => by
    obtain ⟨ω, F, s, d, b, s', sr, h, p⟩ := hw
    unfold cBin at h
    obtain ⟨⟨⟨d1, b1⟩, s1⟩, e1, h⟩ := bind2 h
    obtain ⟨⟨⟨d2, b2⟩, s2⟩, e2, h⟩ := bind2 h
    obtain ⟨z, e3, h⟩ := map2 h
    cases h
    dsimp only at e3
    unfold dNotIn at e3
    split at e3
    · split at e3
      · rename_i hf
        cases e3
        exact .inl (rd_use sr e1 fun v F1 H1 x1 r1 hv => rd_use r1 e2 fun u F2 H2 x2 r2 hu => ok_in_seq (neg := true) r2 (hv.mono x2) (.inl hu) hf (p.mono (x1.trans x2)))
      · cases e3
    · split at e3
      · rename_i hf
        cases e3
        exact .inl (rd_use sr e1 fun v F1 H1 x1 r1 hv => rd_use r1 e2 fun u F2 H2 x2 r2 hu => ok_in_seq (neg := true) r2 (hv.mono x2) (.inr hu) hf (p.mono (x1.trans x2)))
      · cases e3
    · rename_i ks
      obtain ⟨k, ek, e3⟩ := map2 e3
      cases e3
      refine .inr (rd_use sr e1 fun v F1 H1 x1 r1 hv => rd_use r1 e2 fun u F2 H2 x2 r2 hu => ?_)
      have hvk := keyOf_rp hv ek
      unfold Rp at hu
      obtain ⟨a, xs, rfl, h1, h2⟩ := hu
      refine ⟨a, valV xs k, rfl, .inl ⟨xs, k, rd_mono r2.sub h1, hvk, rfl⟩, r2.here (b := false) ?_ (p.mono (x1.trans x2))⟩
      show Rp _ _ _ _ _
      unfold Rp
      rcases h2.val k with ⟨g1, g2⟩ | ⟨d, w, g1, g2, _⟩ <;> rw [g1, g2] <;> rfl
    · cases e3
/-! xs.index(y) -/
def dIndex : D → List D → Option (D × Bool)
  | .lst ds, [y] => if flatD y && ds.all flatD then (ds.findIdx? fun z => eqV (toV z) (toV y)).map fun j => (.int (j : Nat), false) else none
  | _, _ => none
def cMeth (f : D → List D → Option (D × Bool)) (a : SE) (t : SA) : SE := fun s => (a s).bind fun p => (t p.2).bind fun q => (f p.1.1 q.1).map fun z => (z, q.2)
theorem p_index {o e : Expr} {co : SE} {t : SA} {apos cpos : Pos} (ho : PE X o (rd X.K co)) (ha : PA X [e] (rdA X.K t))
    (hb : attributeBase o "index" X.env (eval o X.env) = eval o X.env)
    (hfew : ((backTo cpos (starEach [e] X.env)).all (fun x => !x.1) && (backToKw cpos (keywordEach [] X.env)).all (fun x => x.1.isSome)
      && decide (([e] : List Expr).length + ([] : List Keyword).length + (if ([] : List Keyword).isEmpty then 0 else 1) < 30)) = true)
    (hline : (apos.endLine == cpos.line) = true) (hs : starEach [e] X.env = (false, eval e X.env) :: starEach [] X.env) (hp : (backTo cpos (starEach [] X.env)).any (·.1) = false) :
    PE X (.Call (.Attribute o "index" apos) [e] [] cpos) (rd X.K (cMeth dIndex co t)) :=
  (pe_bm PySem.F.plainAttrs_list PySem.F.slot_list_index PySem.F.type_list_index mt_index ho ha hb hfew hline hs hp).imp fun σ H Q hw => by
    obtain ⟨ω, F, s, d, b, s', sr, h, p⟩ := hw
    unfold cMeth at h
    obtain ⟨⟨⟨d1, b1⟩, s1⟩, e1, h⟩ := bind2 h
    obtain ⟨⟨ds2, s2⟩, e2, h⟩ := bind2 h
    obtain ⟨z, e3, h⟩ := map2 h
    cases h
    dsimp only at e3
    unfold dIndex at e3
    split at e3
    · rename_i ds y _ _
      split at e3
      · rename_i hf
        rw [Bool.and_eq_true] at hf
        obtain ⟨j, ej, e3⟩ := map2 e3
        cases e3
        refine rd_use sr e1 fun v F1 H1 x1 r1 hv => ?_
        unfold Rp at hv
        obtain ⟨a, xs, rfl, h1, h2⟩ := hv
        refine ⟨Or.inl ⟨rfl, _, SqL.of (r1.sub _ _ h1)⟩, rdA_use r1 e2 fun vs F2 H2 x2 r2 hvs => ?_⟩
        obtain ⟨y2, rfl, hy2⟩ := hvs.one
        obtain ⟨g1, g2⟩ := hy2.flat hf.1
        obtain ⟨g3, g4⟩ := h2.flat hf.2
        subst g1 g3
        rw [List.findIdx?_eq_some_iff_getElem] at ej
        obtain ⟨hlt, hj, hno⟩ := ej
        refine ⟨a, _, _, j, toV ds[j], rfl, rfl, SqL.of (r2.sub _ _ (x2 _ _ h1)), g2, g4, by rw [List.getElem?_map, List.getElem?_eq_getElem hlt]; rfl, hj, fun m z' hm hz => ?_, r2.here (b := false) (by show Rp _ _ _ _ _; unfold Rp; rfl) (p.mono (x1.trans x2))⟩
        have hmlt : m < ds.length := by omega
        rw [List.getElem?_map, List.getElem?_eq_getElem hmlt] at hz
        cases hz
        have := hno m hm
        simpa using this
      · cases e3
    · cases e3
/-! list(range(n)) -/
def cListRg (c : SE) : SE := fun s => (c s).bind fun p => match p.1.1 with
  | .int n => if rgOk n && Nat.ble n.toNat 16777216 then some ((.lst (rngL 0 n.toNat), true), p.2) else none
  | _ => none
theorem p_listRg {a : Expr} {c : SE} {p pr pos ppos : Pos} (hc : X.calm = true) (hg : Gl X "list") (hm : X.mg "list" = none) (hg2 : Gl X "range") (hm2 : X.mg "range" = none) (ha : PE X a (rd X.K c))
    (na : starEach [a] X.env = (false, eval a X.env) :: starEach [] X.env := by rfl) (nb : starEach [.Call (.Name "range" pr) [a] [] ppos] X.env = (false, eval (.Call (.Name "range" pr) [a] [] ppos) X.env) :: starEach [] X.env := by rfl) :
    PE X (.Call (.Name "list" p) [.Call (.Name "range" pr) [a] [] ppos] [] pos) (rd X.K (cListRg c)) :=
  (pe_listRg hc hg hm (prg_1 hg2 hm2 ha na) nb).imp fun σ H Q hw => by
    obtain ⟨ω, F, s, d, b, s', sr, h, q⟩ := hw
    unfold cListRg at h
    obtain ⟨⟨⟨d1, b1⟩, s1⟩, e1, h⟩ := bind2 h
    dsimp only at h
    split at h
    · split at h
      · rename_i n hz
        have hz : -(2 ^ 62) ≤ n ∧ n < 2 ^ 62 ∧ n.toNat ≤ 2 ^ 24 := by
          rw [Bool.and_eq_true, Nat.ble_eq] at hz
          have := rgOk_is hz.1
          exact ⟨this.1, this.2, hz.2⟩
        cases h
        refine rd_use sr e1 fun v F1 H1 x1 r1 hv => ?_
        unfold Rp at hv; subst hv
        refine ⟨n, rfl, ⟨by omega, by omega, hz.1, hz.2.1, by rw [Int.sub_zero]; exact hz.2.2⟩, fun l hl => ?_⟩
        have e : rgV 0 n = (List.range n.toNat).map fun i => V.int (0 + (i : Nat)) := by unfold rgV; rw [Int.sub_zero]
        rw [e]
        refine r1.newL hl ?_ (q.mono x1)
        refine .of_get (by simp [rngL]) fun i d x h1 h2 => ?_
        obtain ⟨hi, rfl⟩ := rngL_get h1
        rw [List.getElem?_map, List.getElem?_range hi] at h2
        cases h2
        unfold Rp; rfl
      · cases h
    · cases h
end

/-! ### the law's own: a pot is made; the law of a cell is asked of it -/
abbrev PotFn := List D → Option (Int × Int × Int)
def spPot (K : PySem.W.Frag) (k : Nat) (f : PotFn) : Sp := fun vs H Q _ => vs.length = k ∧ ∃ F ds t, Ex F H ∧ RpL K none F ds vs ∧ f ds = some t ∧
  ∀ q F' H', Ex F F' → Ex F' H' → H q = none → F' q = none → H' q = some (.lst [.int t.1, .int t.2.1, .int t.2.2]) → Ex H H' → (∀ a o, F' a = some o → F a = some o ∨ H a = none) → Q (.ref q) H'
structure DefP (P : Program) (w : World) (K : PySem.W.Frag) (mg : Str → Option Value) (base : Heap) (x : Str) (k n : Nat) (f : PotFn) : Prop where
  ex : ∃ (a : Addr) (fd : FuncData) (ps : List Str), mg x = some (.ref a) ∧ PySem.W.keepIn K (.ref a) = true ∧ FnOk P w K mg base CX0 k a fd ps (spPot K n f) ∧ Binds K fd ps []
def runP (n : Nat) (c1 c2 c3 : SS) (t : SA) : PotFn := fun ds => match c1 ⟨ds.map .val ++ List.replicate (n - ds.length) .no, none⟩ with
  | some (.nx, s1) => match c2 s1 with
    | some (.nx, s2) => match c3 s2 with
      | some (.nx, s3) => match t s3 with
        | some ([.int a, .int b, .int c], _) => some (a, b, c)
        | _ => none
      | _ => none
    | _ => none
  | _ => none
section
variable {P : Program} {w : World} {K : PySem.W.Frag} {mg : Str → Option Value} {base : Heap}
theorem def_pot {x qual : Str} {st s1 s2 s3 : Stmt} {es : List Expr} {lp rp : Pos} {f : Addr} {fd : FuncData} {N ps : List Str} {k n : Nat} {c1 c2 c3 : SS} {t : SA} (hg : mg x = some (.ref f)) (F : Fun K x qual st f fd) (hb : Binds K fd ps []) (S : FnScope N ps (defScope st)) (hn : ps.length = n)
    (hbd : defBody st = [s1, s2, s3, .Return (some (.List es lp)) rp])
    (hbody : ∀ (cdv : Value) (A : Around) (outer : List Env) (s : Shared) (H : Hp) (E : XK), Room k (A.deeper (envOfC qual (defScope st) s.heap.objs.size f cdv)) →
      ∀ X, X = (cxOf CX0 P w K mg base N qual (defScope st) f cdv A outer s H E).nox → PS X s1 (rdS K c1) ∧ PS X s2 (rdS K c2) ∧ PS X s3 (rdS K c3) ∧ PA X es (rdA K t)) : DefP P w K mg base x (k + 1) n (runP N.length c1 c2 c3 t) := by
  subst hn
  refine ⟨f, fd, ps, hg, F.kp, ?_, hb⟩
  refine F.ok S (fun vs H Q E h => h.1) (fun cdv A outer s H vs Q E hr hsp => ?_)
  obtain ⟨b1, b2, b3, b4⟩ := hbody cdv A outer s H E hr _ rfl
  rw [hbd]
  refine ⟨_, pss_cons b1 (pss_cons b2 (pss_cons b3 (pss_one (ps_ret (pe_lst b4))))), ?_⟩
  obtain ⟨hl, F0, ds, t0, h1, h3, h4, h5⟩ := hsp
  have hN : vs.length ≤ N.length := by
    have := congrArg List.length S.pre
    rw [List.length_take] at this; omega
  unfold runP at h4
  have sr := startB (p := none) hN h1 rfl h3
  split at h4
  · rename_i s1 e1
    split at h4
    · rename_i s2 e2
      split at h4
      · rename_i s3 e3
        split at h4
        · rename_i a b c s4 e4
          cases h4
          refine ⟨_, F0, _, _, _, sr, e1, fun σ1 F1 H1 x1 r1 => ⟨_, F1, _, _, _, r1, e2, fun σ2 F2 H2 x2 r2 => ⟨_, F2, _, _, _, r2, e3, fun σ3 F3 H3 x3 r3 => ?_⟩⟩⟩
          refine rdA_use r3 e4 fun us F4 H4 x4 r4 hu => ⟨by rw [hu.len]; exact szOk_le rfl, fun q hq => ?_⟩
          have hus : us = [.int a, .int b, .int c] := RpL.ints (ns := [a, b, c]) hu
          have hH : H q = none := by
            cases z : H q with
            | none => rfl
            | some o => rw [r4.frm q o (fun z => nomatch z) z] at hq; cases hq
          refine h5 q F4 _ (((x1.trans x2).trans x3).trans x4) (r4.sub.updR (r4.sub.none hq)) hH (r4.sub.none hq) (by rw [hus]; exact upd_same) (fun a o ha => ?_) r4.new
          have := r4.frm a o (fun z => nomatch z) ha
          rw [upd_ne (ne_of_none this hq)]; exact this
        · cases h4
      · cases h4
    · cases h4
  · cases h4
end
/-- f(g(..)): g makes a pot, f asks it -/
def cPotCall (g : PotFn) (f : Fn) (t : SA) : SE := fun s => match s.p with
  | none => (t s).bind fun p => match p.2.p with
    | none => (g p.1).bind fun u => (f [.pot] (some u)).bind fun q => match q.1 with
      | .bl b => some ((.bl b, false), p.2)
      | _ => none
    | _ => none
  | _ => none
section
variable {X : Cx}
theorem p_potCall {x y : Str} {k1 k2 j n : Nat} {g : PotFn} {f : Fn} {t : SA} {e : Expr} {es : List Expr} {p1 p2 pos1 pos2 : Pos} (hg : DefP X.prog X.w X.K X.mg X.base y k1 n g) (hf : Def X.prog X.w X.K X.mg X.base x k2 1 f) (hr : Room j X.A) (hk1 : k1 ≤ j) (hk2 : k2 ≤ j) (hgx : Gl X x) (hgy : Gl X y) (ha : PA X (e :: es) (rdA X.K t)) (hlen : ∀ s ds s', t s = some (ds, s') → ds.length = n)
    (hdx : (x == ("__debug__" : Str)) = false := by decide) (hdy : (y == ("__debug__" : Str)) = false := by decide)
    (he : starEach (e :: es) X.env = (false, eval e X.env) :: starEach es X.env := by rfl) (hpl : (backTo pos2 (starEach es X.env)).any (·.1) = false := by rfl)
    (he1 : starEach [.Call (.Name y p2) (e :: es) [] pos2] X.env = (false, eval (.Call (.Name y p2) (e :: es) [] pos2) X.env) :: starEach [] X.env := by rfl) (hpl1 : (backTo pos1 (starEach [] X.env)).any (·.1) = false := by rfl) :
    PE X (.Call (.Name x p1) [.Call (.Name y p2) (e :: es) [] pos2] [] pos1) (rd X.K (cPotCall g f t)) := by
  obtain ⟨a, fd, ps, h1, h2, h3, h4⟩ := hf.ex
  obtain ⟨a', fd', ps', h1', h2', h3', h4'⟩ := hg.ex
  refine (pe_call (E := E0) h3 (hr.mono hk2) hgx h1 h2 h4 .nil pass0 (pa_cons (pe_call (E := E0) h3' (hr.mono hk1) hgy h1' h2' h4' .nil pass0 ha hdy he hpl) pa_nil he1) hdx he1 hpl1).imp fun σ H Q hw => ?_
  obtain ⟨ω, F, s, d, b, s', sr, h, q⟩ := hw
  unfold cPotCall at h
  split at h
  · rename_i hp0
    obtain ⟨⟨ds, s1⟩, e1, h⟩ := bind2 h
    dsimp only at h
    split at h
    · rename_i hp1
      obtain ⟨u, e2, h⟩ := bind2 h
      obtain ⟨⟨d3, p3⟩, e3, h⟩ := bind2 h
      have hb3 : ∃ b3, d3 = .bl b3 := by cases d3 <;> first | exact ⟨_, rfl⟩ | (cases h; done)
      obtain ⟨b3, rfl⟩ := hb3
      cases h
      refine rdA_use sr e1 fun vs F1 H1 x1 r1 hv => ?_
      have hP : ω.P = none := by
        have z := r1.pt
        rw [hp1] at z; exact z
      rw [List.append_nil]
      rw [hP] at hv
      refine ⟨by rw [hv.len]; exact hlen _ _ _ e1, F1, ds, u, r1.sub, hv, e2, fun l F2 H2 x2 ex2 hl hFl hH2 ex12 nw => ?_⟩
      show spF X.K 1 f ([.ref l] ++ []) H2 Q E0
      refine ⟨rfl, some l, F2, [.pot], some u, .bl b3, p3, ex2, ⟨l, rfl, hH2, hFl⟩, .cons (by unfold Rp; exact ⟨l, rfl, rfl⟩) .nil, e3, fun v F3 H3 x3 ex3 pt3 kp nw3 hr3 => ?_⟩
      have nl : ∀ a o, F3 a = some o → a ≠ l := fun a o ha z => by
        cases p3 with
        | none => exact absurd pt3 (fun z => nomatch z)
        | some t3 =>
          obtain ⟨l', el, _, hF3⟩ := pt3
          cases el
          rw [z, hF3] at ha; cases ha
      refine q v F3 H3 ((x1.trans x2).trans x3) ⟨r1.len, ex3, fun a o hPa ha => ?_, fun a o ha => ?_, by rw [hP, hp1]; rfl, fun i c hc => ?_, r1.dis⟩ ?_
      · have g1 := r1.frm a o hPa ha
        have : a ≠ l := fun z => by rw [z, hl] at g1; cases g1
        exact kp a o (fun z => by cases z; exact this rfl) (ex12 a o g1)
      · rcases nw3 a o ha with z | z
        · rcases nw a o z with z2 | z2
          · exact r1.new a o z2
          · exact .inr (r1.h0 z2)
        · refine .inr (r1.h0 ?_)
          cases w : H1 a with
          | none => rfl
          | some o' => rw [ex12 a o' w] at z; cases z
      · refine (r1.sl i c hc).mono (x2.trans x3) fun a hown hσ hne hF => ?_
        obtain ⟨d0, rfl⟩ := hown
        obtain ⟨⟨o, ho⟩, _, _, _⟩ := r1.ownAt ⟨i, d0, hc, hσ⟩
        have anl : a ≠ l := fun z => by rw [z, hl] at ho; cases ho
        refine ⟨by rw [kp a o (fun z => by cases z; exact anl rfl) (ex12 a o ho), ho], ?_⟩
        cases w : F3 a with
        | none => rfl
        | some o3 =>
          rcases nw3 a o3 w with z | z
          · rcases nw a o3 z with z2 | z2
            · rw [hF] at z2; cases z2
            · rw [ho] at z2; cases z2
          · rw [ex12 a o ho] at z; cases z
      · show Rp _ _ _ _ _
        unfold Rp at hr3 ⊢
        exact hr3
    · cases h
  · cases h
end
end Rb

namespace Rb
open PySem PySem.Spec PyProof.Rows L2
/-! ### powers of wider bases -/
def CPowW (i j : Int) : Prop := CPow i j ∨ (0 ≤ j ∧ (Builtin.Int.intBits i : Int) * j ≤ 2 ^ 27)
theorem op_powW {X : Cx} : OpR X (binaryOp .Pow) (rI CPowW fun i j => .int (i ^ j.toNat)) := opI fun _ _ _ _ _ _ _ hc q => hc.elim (fun hc => pow_int_small hc.1 hc.2.1 hc.2.2 q) fun hc => PyProof.Rows.pow_int hc.1 hc.2 q
def powWC (i j : Int) : Bool := powC i j || decide (0 ≤ j ∧ (Builtin.Int.intBits i : Int) * j ≤ 134217728)
def dPowW := dI2 powWC fun i j => i ^ j.toNat
theorem ok_powW {K : PySem.W.Frag} : BinOk K dPowW (rI CPowW fun i j => .int (i ^ j.toNat)) := ok_I (fun _ _ h => by
  rcases (by simpa [powWC] using h : powC _ _ = true ∨ _) with h | h
  · exact .inl (by simpa [powC, CPow] using h)
  · exact .inr h) fun _ _ _ => rfl
/-! ### the module's own names -/
section
variable {X : Cx}
theorem p_gc {x : Str} {v : V} {d : D} {pos : Pos} (hg : Gl X x) (hm : ∃ u, X.mg x = some u ∧ RelV v u) (q : ∀ P F, Rp X.K P F d v) (hd : (x == ("__debug__" : Str)) = false := by decide) : PE X (.Name x pos) (rd X.K (cD d)) := by
  obtain ⟨u, h1, h2⟩ := hm
  exact p_c (pe_glob hg h1 h2 hd) q
end
theorem q_int {K : PySem.W.Frag} {i : Int} : ∀ P F, Rp K P F (.int i) (.int i) := fun _ _ => by unfold Rp; rfl
theorem q_str {K : PySem.W.Frag} {i : Str} : ∀ P F, Rp K P F (.str i) (.str i) := fun _ _ => by unfold Rp; rfl
theorem q_bl {K : PySem.W.Frag} {i : Bool} : ∀ P F, Rp K P F (.bl i) (.bl i) := fun _ _ => by unfold Rp; rfl
theorem q_non {K : PySem.W.Frag} : ∀ P F, Rp K P F .non .non := fun _ _ => by unfold Rp; rfl
def cExpr (c : SE) : SS := fun s => (c s).map fun p => (.nx, p.2)
section
variable {X : Cx}
theorem s_expr {e : Expr} {c : SE} {pos : Pos} (he : PE X e (rd X.K c)) (hs : swapsWith e none pos.line X.env = pure false := by rfl) : PS X (.Expr e pos) (rdS X.K (cExpr c)) :=
  (ps_expr he hs).imp fun D' σ H ⟨ω, F, s, fl, s', sr, h, p⟩ => by
    unfold cExpr at h
    obtain ⟨⟨⟨d, b⟩, s1⟩, e1, e2⟩ := map2 h
    cases e2
    exact rd_use sr e1 fun v F' H' x r hv => p σ F' H' x r
end

/-! ### what nobody changes is known at once -/
def cFz (c : SE) : SE := fun s => (c s).map fun p => ((p.1.1, false), p.2)
theorem fz_use {K : PySem.W.Frag} {c : SE} {σ : L2.St} {H : Hp} {Q : VK} (hw : rd K (cFz c) σ H Q) : rd K c σ H Q := by
  obtain ⟨ω, F, s, d, b, s', sr, e, p⟩ := hw
  unfold cFz at e
  obtain ⟨⟨⟨d1, b1⟩, s1⟩, e1, e2⟩ := map2 e
  cases e2
  exact rd_use sr e1 fun v F1 H1 x1 r1 hv => r1.here (b := false) hv (p.mono x1)
section
variable {X : Cx}
theorem p_fz {e : Expr} {c : SE} (h : PE X e (rd X.K c)) : PE X e (rd X.K (cFz c)) := h.imp fun _ _ _ => fz_use
theorem s_setLcZ {i : Nat} {y : Str} {py : Pos} {elt tg iter : Expr} {ifs : List Expr} {scope : Scope} {own : List (Str × Nat)} {pos spos : Pos} {it : SI} {ts : List Nat} {g : D → S → Option S} {tt : ST} {te : SE} (hc : X.calm = true) (hN : X.N.Nodup) (hy : X.N[i]? = some y) (hyl : X.env.scope.names.lookup y = some .local)
    (hsw : swapsWith (.ListComp elt [⟨tg, iter, ifs, 0⟩] scope pos) (some (.Name y py)) spos.line X.env = pure true) (hi : PI X tg iter (rdI X.K it)) (ok : BlkOk X.N X.env.scope scope own)
    (hts : ∀ i ∈ ts, i ∈ own.map (·.2))
    (hg : ∀ (s : Shared) (H : Hp) (C : Addr) (cl : List (Str × Addr)) (fp : List Addr), PG (X.blk s H scope (compEnvC scope cl C X.env) fp) tg (rdG X.K ts g)) (ht : ∀ (s : Shared) (H : Hp) (C : Addr) (cl : List (Str × Addr)) (fp : List Addr), PTs (X.blk s H scope (compEnvC scope cl C X.env) fp) ifs (rdT X.K tt))
    (he : ∀ (s : Shared) (H : Hp) (C : Addr) (cl : List (Str × Addr)) (fp : List Addr), PE (X.blk s H scope (compEnvC scope cl C X.env) fp) elt (rd X.K te)) (hs : ∀ x, foldedSetIterable iter X.env x = pure x := by intro _; rfl) :
    PS X (.Assign [.Name y py] (.ListComp elt [⟨tg, iter, ifs, 0⟩] scope pos) spos) (rdS X.K (cSet i (cFz (cLC it g tt te (own.map (·.2)))))) :=
  (ps_setLc hc hN hy hyl hsw hi ok hg ht he hs).imp fun D' σ H ⟨ω, F, s, fl, s', sr, h, p⟩ => by
    unfold cSet at h
    obtain ⟨⟨⟨d1, b1⟩, s1⟩, e1, h⟩ := map2 h
    cases h
    exact lc_go hts (fz_use (rd_keep sr e1 fun v F1 H1 x1 r1 hv _ _ => p _ F1 H1 x1 (r1.setS hv)))
end
/-! ### builtins -/
theorem bt_int : bootBuiltins "int" = some (.type "int") := by decide +kernel
theorem bt_bool : bootBuiltins "bool" = some (.type "bool") := by decide +kernel
theorem bt_tuple : bootBuiltins "tuple" = some (.type "tuple") := by decide +kernel
theorem bt_list : bootBuiltins "list" = some (.type "list") := by decide +kernel
theorem bt_str : bootBuiltins "str" = some (.type "str") := by decide +kernel
theorem bt_dict : bootBuiltins "dict" = some (.type "dict") := by decide +kernel
theorem bt_set : bootBuiltins "set" = some (.type "set") := by decide +kernel
theorem bt_all : bootBuiltins "all" = some (.builtin "all") := by decide +kernel
theorem bt_any : bootBuiltins "any" = some (.builtin "any") := by decide +kernel
theorem bt_abs : bootBuiltins "abs" = some (.builtin "abs") := by decide +kernel
theorem bt_max : bootBuiltins "max" = some (.builtin "max") := by decide +kernel
theorem bt_min : bootBuiltins "min" = some (.builtin "min") := by decide +kernel
theorem bt_sum : bootBuiltins "sum" = some (.builtin "sum") := by decide +kernel
theorem bt_sorted : bootBuiltins "sorted" = some (.builtin "sorted") := by decide +kernel
theorem bt_len : bootBuiltins "len" = some (.builtin "len") := by decide +kernel
theorem bt_isinstance : bootBuiltins "isinstance" = some (.builtin "isinstance") := by decide +kernel
theorem bt_repr : bootBuiltins "repr" = some (.builtin "repr") := by decide +kernel
theorem bt_divmod : bootBuiltins "divmod" = some (.builtin "divmod") := by decide +kernel
theorem bt_pow : bootBuiltins "pow" = some (.builtin "pow") := by decide +kernel
theorem bt_iter : bootBuiltins "iter" = some (.builtin "iter") := by decide +kernel
theorem bt_next : bootBuiltins "next" = some (.builtin "next") := by decide +kernel
theorem bt_range : bootBuiltins "range" = some (.type "range") := by decide +kernel
theorem bt_zip : bootBuiltins "zip" = some (.type "zip") := by decide +kernel
theorem bt_enumerate : bootBuiltins "enumerate" = some (.type "enumerate") := by decide +kernel
theorem bt_reversed : bootBuiltins "reversed" = some (.type "reversed") := by decide +kernel
theorem bt_map : bootBuiltins "map" = some (.type "map") := by decide +kernel
theorem sp_law {K : PySem.W.Frag} {f : Fn} {H : Hp} {a : Addr} {ns : List Int} {E : XK} (h : ∃ p', f [.scr ns] none = some (.bl true, p')) (hS : SqL K H a (ns.map V.int)) : spF K 1 f [.ref a] H (fun v _ => v = .bl true) E := by
  obtain ⟨p', h⟩ := h
  refine ⟨rfl, none, H, [.scr ns], none, .bl true, p', Ex.refl H, rfl, .cons (by unfold Rp; exact ⟨a, rfl, hS⟩) .nil, h, ?_⟩
  intro v F' H' _ _ _ _ _ hv
  unfold Rp at hv
  exact hv
end Rb

namespace Rb
open PySem PySem.Spec PyProof.Rows L2
/-! ### evaluation -/
theorem kb1 : kitB "int" "int" = some true := by decide +kernel
theorem kb2 : kitB "int" "bool" = some false := by decide +kernel
theorem kb3 : kitB "tuple" "tuple" = some true := by decide +kernel
theorem kb4 : kitB "list" "tuple" = some false := by decide +kernel
theorem kb5 : kitB "bool" "int" = some true := by decide +kernel
theorem kb6 : kitB "bool" "bool" = some true := by decide +kernel
theorem kb7 : kitB "int" "tuple" = some false := by decide +kernel
theorem kb8 : kitB "str" "str" = some true := by decide +kernel
theorem isi_i {a : SE} {T : String} {s s' : S} {i : Int} {b : Bool} (h : a s = some ((.int i, b), s')) : cIsi T a s = (kitB "int" T).map fun b => ((.bl b, false), s') := by
  simp only [cIsi, h, Option.bind_some, dTy]
theorem isi_t {a : SE} {T : String} {s s' : S} {i : List D} {b : Bool} (h : a s = some ((.tup i, b), s')) : cIsi T a s = (kitB "tuple" T).map fun b => ((.bl b, false), s') := by
  simp only [cIsi, h, Option.bind_some, dTy]
def ab (i : Int) : Int := if i < 0 then -i else i
def mx (i j : Int) : Int := if j > i then j else i
def mn (i j : Int) : Int := if j < i then j else i
theorem fAbs_ev {i : Int} : fAbs [.int i] = some (.int (ab i), false) := rfl
theorem fMax_ev {i j : Int} : fMax [.int i, .int j] = some (.int (mx i j), false) := rfl
theorem fMin_ev {i j : Int} : fMin [.int i, .int j] = some (.int (mn i j), false) := rfl
theorem fMax_t {ns : List Int} (h : 0 < ns.length) : fMax [.tup (ns.map .int)] = some (.int (maxL ns), false) := by
  cases ns with
  | nil => simp at h
  | cons n ns => 
    show (intsOf ((n :: ns).map D.int)).map _ = _
    rw [intsOf_map]; rfl
theorem fMin_t {ns : List Int} (h : 0 < ns.length) : fMin [.tup (ns.map .int)] = some (.int (minL ns), false) := by
  cases ns with
  | nil => simp at h
  | cons n ns => 
    show (intsOf ((n :: ns).map D.int)).map _ = _
    rw [intsOf_map]; rfl
theorem fMax_l {ns : List Int} (h : 0 < ns.length) : fMax [.lst (ns.map .int)] = some (.int (maxL ns), false) := by
  cases ns with
  | nil => simp at h
  | cons n ns => 
    show (intsOf ((n :: ns).map D.int)).map _ = _
    rw [intsOf_map]; rfl
theorem fSum_t {ns : List Int} : fSum [.tup (ns.map .int)] = some (.int ns.sum, false) := by
  show (intsOf _).map _ = _; rw [intsOf_map]; rfl
theorem fSum_l {ns : List Int} : fSum [.lst (ns.map .int)] = some (.int ns.sum, false) := by
  show (intsOf _).map _ = _; rw [intsOf_map]; rfl
theorem fSorted_t {ns : List Int} : fSorted [.tup (ns.map .int)] = some (.lst ((srt ns).map .int), true) := by
  show (intsOf _).map _ = _; rw [intsOf_map]; rfl
theorem fSorted_l {ns : List Int} : fSorted [.lst (ns.map .int)] = some (.lst ((srt ns).map .int), true) := by
  show (intsOf _).map _ = _; rw [intsOf_map]; rfl
theorem fAll_b {bs : List Bool} : fAll [.lst (bs.map .bl)] = some (.bl (bs.all id), false) := by
  show (blsOf _).map _ = _; rw [blsOf_map]; rfl
theorem fAny_b {bs : List Bool} : fAny [.lst (bs.map .bl)] = some (.bl (bs.any id), false) := by
  show (blsOf _).map _ = _; rw [blsOf_map]; rfl
theorem dMod_ev {a u : Int} (h : 0 < u) : dMod (.int a) (.int u) = some (.int (a % u), false) := by
  simp [dMod, dI2, modC, h]
theorem dSub_ev {a u : Int} : dSub (.int a) (.int u) = some (.int (a - u), false) := by simp [dSub, dI2]
theorem cs0 : ((0 : Nat) : Int) = 0 := rfl
theorem cs1 : ((1 : Nat) : Int) = 1 := rfl
theorem cs2 : ((2 : Nat) : Int) = 2 := rfl
theorem cs3 : ((3 : Nat) : Int) = 3 := rfl
theorem cs4 : ((4 : Nat) : Int) = 4 := rfl
theorem cs5 : ((5 : Nat) : Int) = 5 := rfl
theorem cs6 : ((6 : Nat) : Int) = 6 := rfl
theorem cs7 : ((7 : Nat) : Int) = 7 := rfl
theorem cs8 : ((8 : Nat) : Int) = 8 := rfl
theorem cs9 : ((9 : Nat) : Int) = 9 := rfl
theorem cs10 : ((10 : Nat) : Int) = 10 := rfl
theorem cs11 : ((11 : Nat) : Int) = 11 := rfl
theorem cs12 : ((12 : Nat) : Int) = 12 := rfl
theorem log2_le {n : Nat} (h : n < 2 ^ 4000) : n.log2 < 4000 := by
  by_cases q : n = 0
  · subst q; decide
  · exact (Nat.log2_lt q).2 h
theorem big_of {a : Int} (h : a.natAbs ≤ 2 ^ 70) : a.natAbs < 2 ^ 4000 := Nat.lt_of_le_of_lt h (Nat.pow_lt_pow_right (by decide) (by decide))
theorem dDiv_ev {a u : Int} (h : 0 < u) (h2 : u ≤ 1180591620717411303424) : dDiv (.int a) (.int u) = some (.int (a / u), false) := by
  have : u.natAbs.log2 < 9000 := Nat.lt_trans (log2_le (big_of (by omega))) (by decide)
  simp [dDiv, dI2, divC, h, this]
/-- a number that fits into 2^4000 -/
def Sm (a : Int) : Prop := a.natAbs < 2 ^ 4000
theorem Sm.of {a : Int} (h : -1180591620717411303424 ≤ a) (h2 : a ≤ 1180591620717411303424) : Sm a := big_of (by omega)
theorem dMul_ev {a b : Int} (h : Sm a) (h2 : Sm b) : dMulI (.int a) (.int b) = some (.int (a * b), false) := by
  have := log2_le h
  have := log2_le h2
  have : a.natAbs.log2 + b.natAbs.log2 < 1000000 := by omega
  simp [dMulI, dI2, mulC, this]
/-- the same for numbers that come near nought -/
theorem dMul_i {a b : Int} (h : -1180591620717411303424 ≤ a ∧ a ≤ 1180591620717411303424) (h2 : -1180591620717411303424 ≤ b ∧ b ≤ 1180591620717411303424) : dMulI (.int a) (.int b) = some (.int (a * b), false) := dMul_ev (.of h.1 h.2) (.of h2.1 h2.2)
/-! statements -/
section
variable {a b c0 : SS} {c : SE} {t : ST} {s s1 : S} {r : Option (Fl × S)} {d : D} {o : Bool} {i : Nat}
theorem seq_nx (h : a s = some (.nx, s1)) (h2 : b s1 = r) : cSeq a b s = r := by
  simp only [cSeq, h, Option.bind_some]; exact h2
theorem seq_rt (h : a s = some (.rt d, s1)) : cSeq a b s = some (.rt d, s1) := by
  simp only [cSeq, h, Option.bind_some]
theorem seq_ct (h : a s = some (.ct, s1)) : cSeq a b s = some (.ct, s1) := by
  simp only [cSeq, h, Option.bind_some]
theorem seq_bk (h : a s = some (.bk, s1)) : cSeq a b s = some (.bk, s1) := by
  simp only [cSeq, h, Option.bind_some]
theorem if_t (h : t s = some (true, s1)) (h2 : a s1 = r) : cIf t a b s = r := by
  simp only [cIf, h, Option.bind_some, if_true]; exact h2
theorem if_f (h : t s = some (false, s1)) (h2 : b s1 = r) : cIf t a b s = r := by
  simp only [cIf, h, Option.bind_some, Bool.false_eq_true, if_false]; exact h2
theorem set_ev {r0 : List Bd} {p : Pt} (h : c s = some ((d, o), ⟨r0, p⟩)) : cSet i c s = some (.nx, ⟨r0.set i (bdOf (d, o)), p⟩) := by
  simp only [cSet, h, Option.map_some]
theorem ret_ev (h : c s = some ((d, o), s1)) : cRet c s = some (.rt d, s1) := by
  simp only [cRet, h, Option.map_some]
end
theorem run_rt {n : Nat} {c : SS} {ds : List D} {p : Pt} {d : D} {s : S} (h : c ⟨ds.map .val ++ List.replicate (n - ds.length) .no, p⟩ = some (.rt d, s)) : runF n c ds p = some (d, s.p) := by
  simp only [runF, h]
theorem run_nx {n : Nat} {c : SS} {ds : List D} {p : Pt} {s : S} (h : c ⟨ds.map .val ++ List.replicate (n - ds.length) .no, p⟩ = some (.nx, s)) : runF n c ds p = some (.non, s.p) := by
  simp only [runF, h]
/-! loops -/
theorem for_inv {g : D → S → Option S} {body : SS} (J : Nat → S → Prop) : ∀ (ds : List D) (k : Nat) (s : S), (∀ j d s, ds[j]? = some d → J (k + j) s → ∃ s1, g d s = some s1 ∧ ∃ f s2, body s1 = some (f, s2) ∧ (f = .nx ∨ f = .ct) ∧ J (k + j + 1) s2) → J k s → ∃ s', forL g body ds s = some (.nx, s') ∧ J (k + ds.length) s'
  | [], k, s, h, j => ⟨s, rfl, j⟩
  | d :: ds, k, s, h, j => by
    obtain ⟨s1, e1, f, s2, e2, hf, j2⟩ := h 0 d s rfl j
    obtain ⟨s', e3, j3⟩ := for_inv J ds (k + 1) s2 (fun i e u hi hu => by
      obtain ⟨s1, e1, f, s2, e2, hf, j2⟩ := h (i + 1) e u (by simpa using hi) (by rw [show k + (i + 1) = k + 1 + i by omega]; exact hu)
      exact ⟨s1, e1, f, s2, e2, hf, by rw [show k + 1 + i + 1 = k + (i + 1) + 1 by omega]; exact j2⟩) j2
    refine ⟨s', ?_, by rw [List.length_cons, show k + (ds.length + 1) = k + 1 + ds.length by omega]; exact j3⟩
    simp only [forL, e1, Option.bind_some, e2]
    rcases hf with rfl | rfl <;> exact e3
/-! comprehensions -/
theorem wipe1 {r : List Bd} {i : Nat} : wipeB r [i] = r.set i .no := rfl
theorem set_set {r : List Bd} {i : Nat} {x y : Bd} : (r.set i x).set i y = r.set i y := List.set_set ..
theorem rest1 {old : List Bd} {i : Nat} {b : Bd} (h : old[i]? = some b) : restB old (old.set i .no) [i] = old := by
  show (old.set i .no).set i (old.getD i .no) = old
  rw [List.set_set, List.getD_eq_getElem?_getD, h, Option.getD_some]
  obtain ⟨hl, e⟩ := List.getElem?_eq_some_iff.1 h
  subst e
  exact List.set_getElem_self hl
def notOwn : Bd → Bool
  | .own _ => false
  | _ => true
theorem noOwn1 {s : S} {i : Nat} {b : Bd} (h : s.r[i]? = some b) (hb : notOwn b = true) : noOwn [i] s = true := by
  unfold noOwn
  simp only [List.all_cons, List.all_nil, Bool.and_true, h]
  cases b <;> simp_all [notOwn]
/-- one slot, nothing is changed: what is kept and what is told, thing by thing -/
theorem lcL_pure {te : SE} {tt : ST} {i : Nat} {p : Pt} {r : List Bd} {β : D → Bool} {φ : D → D} : ∀ (ds : List D) (acc : List D), (∀ d ∈ ds, tt ⟨r.set i (.val d), p⟩ = some (β d, ⟨r.set i (.val d), p⟩)) → (∀ d ∈ ds, β d = true → ∃ b, te ⟨r.set i (.val d), p⟩ = some ((φ d, b), ⟨r.set i (.val d), p⟩)) → acc.length + ds.length ≤ 1000000 →
    lcL (gN i) tt te [i] ds ⟨r.set i .no, p⟩ acc = some (acc ++ (ds.filter β).map φ, ⟨r.set i .no, p⟩)
  | [], acc, _, _, _ => by simp [lcL]
  | d :: ds, acc, ht, h, hz => by
    have e1 := ht d (.head _)
    have hz1 : acc.length + 1 ≤ 16777216 := by rw [List.length_cons] at hz; omega
    simp only [lcL, gN, set_set, Option.bind_some, e1]
    cases hb : β d with
    | true =>
      obtain ⟨b, e2⟩ := h d (.head _) hb
      simp only [e2, if_true, Option.bind_some, szOk, hz1, decide_true, wipeS, wipe1, set_set]
      rw [lcL_pure ds (acc ++ [φ d]) (fun e he => ht e (.tail _ he)) (fun e he => h e (.tail _ he)) (by rw [List.length_append, List.length_singleton]; rw [List.length_cons] at hz; omega), List.filter_cons_of_pos hb]
      simp
    | false =>
      simp only [Bool.false_eq_true, if_false, wipeS, wipe1, set_set]
      rw [lcL_pure ds acc (fun e he => ht e (.tail _ he)) (fun e he => h e (.tail _ he)) (by rw [List.length_cons] at hz; omega), List.filter_cons_of_neg (by simp [hb])]
theorem lc_pure {it : SI} {te : SE} {tt : ST} {i : Nat} {p : Pt} {r : List Bd} {b0 : Bd} {s0 : S} {ds : List D} {β : D → Bool} {φ : D → D} (hit : it s0 = some (ds, ⟨r, p⟩)) (hi : r[i]? = some b0) (hb : notOwn b0 = true)
    (ht : ∀ d ∈ ds, tt ⟨r.set i (.val d), p⟩ = some (β d, ⟨r.set i (.val d), p⟩)) (h : ∀ d ∈ ds, β d = true → ∃ b, te ⟨r.set i (.val d), p⟩ = some ((φ d, b), ⟨r.set i (.val d), p⟩)) (hz : ds.length ≤ 1000000) :
    cLC it (gN i) tt te [i] s0 = some ((.lst ((ds.filter β).map φ), true), ⟨r, p⟩) := by
  simp only [cLC, hit, Option.bind_some, noOwn1 (s := ⟨r, p⟩) hi hb, if_true, wipeS, wipe1]
  rw [lcL_pure ds [] ht h (by simpa using hz)]
  simp only [Option.map_some, rest1 hi, List.nil_append]
theorem lc_map {it : SI} {te : SE} {i : Nat} {p : Pt} {r : List Bd} {b0 : Bd} {s0 : S} {ds : List D} {φ : D → D} (hit : it s0 = some (ds, ⟨r, p⟩)) (hi : r[i]? = some b0) (hb : notOwn b0 = true)
    (h : ∀ d ∈ ds, ∃ b, te ⟨r.set i (.val d), p⟩ = some ((φ d, b), ⟨r.set i (.val d), p⟩)) (hz : ds.length ≤ 1000000) :
    cLC it (gN i) bYes te [i] s0 = some ((.lst (ds.map φ), true), ⟨r, p⟩) := by
  rw [lc_pure (β := fun _ => true) (φ := φ) hit hi hb (fun _ _ => rfl) (fun d hd _ => h d hd) hz]
  rw [List.filter_eq_self.2 (fun _ _ => rfl)]
/-- one slot, the pot goes on -/
theorem lcL_pot {te : SE} {i : Nat} {r : List Bd} (J : Nat → Pt → Prop) (Pd : D → Prop) : ∀ (ds : List D) (acc : List D) (k : Nat) (p : Pt), (∀ j d p, d ∈ ds → j < ds.length → J (k + j) p → ∃ x b p', te ⟨r.set i (.val d), p⟩ = some ((x, b), ⟨r.set i (.val d), p'⟩) ∧ J (k + j + 1) p' ∧ Pd x) → J k p → acc.length + ds.length ≤ 1000000 →
    ∃ xs p', lcL (gN i) bYes te [i] ds ⟨r.set i .no, p⟩ acc = some (acc ++ xs, ⟨r.set i .no, p'⟩) ∧ xs.length = ds.length ∧ (∀ x ∈ xs, Pd x) ∧ J (k + ds.length) p'
  | [], acc, k, p, _, j, _ => ⟨[], p, by simp [lcL], rfl, by simp, j⟩
  | d :: ds, acc, k, p, h, j, hz => by
    obtain ⟨x, b, p1, e1, j1, hx⟩ := h 0 d p (.head _) (by simp) j
    have hz1 : acc.length + 1 ≤ 16777216 := by rw [List.length_cons] at hz; omega
    obtain ⟨xs, p2, e2, l2, hp, j2⟩ := lcL_pot J Pd ds (acc ++ [x]) (k + 1) p1 (fun i e q he hi hq => by
      obtain ⟨y, c, p3, e3, j3, hy⟩ := h (i + 1) e q (.tail _ he) (by simpa using hi) (by rw [show k + (i + 1) = k + 1 + i by omega]; exact hq)
      exact ⟨y, c, p3, e3, by rw [show k + 1 + i + 1 = k + (i + 1) + 1 by omega]; exact j3, hy⟩) j1 (by rw [List.length_append, List.length_singleton]; rw [List.length_cons] at hz; omega)
    refine ⟨x :: xs, p2, ?_, by simp [l2], fun y hy => ?_, by rw [List.length_cons, show k + (ds.length + 1) = k + 1 + ds.length by omega]; exact j2⟩
    · simp only [lcL, gN, set_set, Option.bind_some, bYes, e1, if_true, szOk, hz1, decide_true, wipeS, wipe1]
      rw [show acc ++ x :: xs = acc ++ [x] ++ xs by simp]
      exact e2
    · rcases List.mem_cons.1 hy with rfl | hy
      · exact hx
      · exact hp y hy
theorem lc_pot {it : SI} {te : SE} {i : Nat} {p : Pt} {r : List Bd} {b0 : Bd} {s0 : S} {ds : List D} (J : Nat → Pt → Prop) (Pd : D → Prop) (k : Nat) (hit : it s0 = some (ds, ⟨r, p⟩)) (hi : r[i]? = some b0) (hb : notOwn b0 = true)
    (h : ∀ j d p, d ∈ ds → j < ds.length → J (k + j) p → ∃ x b p', te ⟨r.set i (.val d), p⟩ = some ((x, b), ⟨r.set i (.val d), p'⟩) ∧ J (k + j + 1) p' ∧ Pd x) (j : J k p) (hz : ds.length ≤ 1000000) :
    ∃ xs p', cLC it (gN i) bYes te [i] s0 = some ((.lst xs, true), ⟨r, p'⟩) ∧ xs.length = ds.length ∧ (∀ x ∈ xs, Pd x) ∧ J (k + ds.length) p' := by
  obtain ⟨xs, p', e, l, hp, j2⟩ := lcL_pot J Pd ds [] k p h j (by simpa using hz)
  refine ⟨xs, p', ?_, l, hp, j2⟩
  simp only [cLC, hit, Option.bind_some, noOwn1 (s := ⟨r, p⟩) hi hb, if_true, wipeS, wipe1, e, Option.map_some, rest1 hi, List.nil_append]
/-! equality -/
theorem eqB_int {i j : Int} : eqB (.int i) (.int j) = decide (i = j) := by
  simp only [eqB, D.py, PyData.eqv, Bool.beq_eq_decide_eq]
theorem eqB_bl {i j : Bool} : eqB (.bl i) (.bl j) = (i == j) := by
  simp [eqB, D.py, PyData.eqv]
theorem eqB_str {i j : Str} : eqB (.str i) (.str j) = (i == j) := by
  simp [eqB, D.py, PyData.eqv]
theorem eqB_tup0 : eqB (.tup []) (.tup []) = true := by simp [eqB, D.py, D.pyL, PyData.eqv, PyData.eqvAll]
theorem eqB_tup {x y : D} {xs ys : List D} : eqB (.tup (x :: xs)) (.tup (y :: ys)) = (eqB x y && eqB (.tup xs) (.tup ys)) := by simp [eqB, D.py, D.pyL, PyData.eqv, PyData.eqvAll]
theorem eqB_lst0 : eqB (.lst []) (.lst []) = true := by simp [eqB, D.py, D.pyL, PyData.eqv, PyData.eqvAll]
theorem eqB_lst {x y : D} {xs ys : List D} : eqB (.lst (x :: xs)) (.lst (y :: ys)) = (eqB x y && eqB (.lst xs) (.lst ys)) := by simp [eqB, D.py, D.pyL, PyData.eqv, PyData.eqvAll]
theorem eqB_tupF0 {y : D} {ys : List D} : eqB (.tup []) (.tup (y :: ys)) = false := by simp [eqB, D.py, D.pyL, PyData.eqv, PyData.eqvAll]
theorem eqB_tupF1 {y : D} {ys : List D} : eqB (.tup (y :: ys)) (.tup []) = false := by simp [eqB, D.py, D.pyL, PyData.eqv, PyData.eqvAll]
theorem eqB_lstF0 {y : D} {ys : List D} : eqB (.lst []) (.lst (y :: ys)) = false := by simp [eqB, D.py, D.pyL, PyData.eqv, PyData.eqvAll]
theorem eqB_lstF1 {y : D} {ys : List D} : eqB (.lst (y :: ys)) (.lst []) = false := by simp [eqB, D.py, D.pyL, PyData.eqv, PyData.eqvAll]
theorem eqB_non : eqB .non .non = true := by simp [eqB, D.py, PyData.eqv]
mutual
theorem eqB_rfl : ∀ (n : Nat) (d : D), D.sh n d = true → eqB d d = true
  | n, .non, _ => eqB_non
  | n, .bl b, _ => by simp [eqB_bl]
  | n, .int i, _ => by simp [eqB_int]
  | n, .str x, _ => by simp [eqB_str]
  | 0, .tup ds, h => by simp [D.sh] at h
  | 0, .lst ds, h => by simp [D.sh] at h
  | n + 1, .tup ds, h => (eqB_rflL n ds (by simpa [D.sh] using h)).1
  | n + 1, .lst ds, h => (eqB_rflL n ds (by simpa [D.sh] using h)).2
  | n, .dic _, h => by cases n <;> simp [D.sh] at h
  | n, .pot, h => by cases n <;> simp [D.sh] at h
  | n, .scr _, h => by cases n <;> simp [D.sh] at h
theorem eqB_rflL : ∀ (n : Nat) (ds : List D), D.shL n ds = true → eqB (.tup ds) (.tup ds) = true ∧ eqB (.lst ds) (.lst ds) = true
  | n, [], _ => ⟨eqB_tup0, eqB_lst0⟩
  | n, d :: ds, h => by
    rw [D.shL, Bool.and_eq_true] at h
    have h1 := eqB_rfl n d h.1
    have h2 := eqB_rflL n ds h.2
    rw [eqB_tup, eqB_lst, h1, h2.1, h2.2]
    exact ⟨rfl, rfl⟩
end
theorem dEq_rfl {x y : D} (h : D.sh 64 x = true) (e : x = y) : dEq x y = some (.bl true, false) := by
  subst e
  simp only [dEq, h, Bool.and_self, if_true, eqB_rfl 64 x h]
theorem dNe_rfl {x y : D} (h : D.sh 64 x = true) (e : x = y) : dNe x y = some (.bl false, false) := by
  subst e
  simp only [dNe, h, Bool.and_self, if_true, eqB_rfl 64 x h, Bool.not_true]
theorem sh_int {n : Nat} {i : Int} : D.sh n (.int i) = true := by cases n <;> rfl
theorem sh_bl {n : Nat} {i : Bool} : D.sh n (.bl i) = true := by cases n <;> rfl
theorem sh_non {n : Nat} : D.sh n .non = true := by cases n <;> rfl
theorem sh_tup {n : Nat} {ds : List D} : D.sh (n + 1) (.tup ds) = D.shL n ds := by simp [D.sh]
theorem sh_lst {n : Nat} {ds : List D} : D.sh (n + 1) (.lst ds) = D.shL n ds := by simp [D.sh]
theorem sh_tup64 {ds : List D} : D.sh 64 (.tup ds) = D.shL 63 ds := sh_tup
theorem sh_lst64 {ds : List D} : D.sh 64 (.lst ds) = D.shL 63 ds := sh_lst
theorem sh_tup63 {ds : List D} : D.sh 63 (.tup ds) = D.shL 62 ds := sh_tup
theorem sh_lst63 {ds : List D} : D.sh 63 (.lst ds) = D.shL 62 ds := sh_lst
theorem sh_tup62 {ds : List D} : D.sh 62 (.tup ds) = D.shL 61 ds := sh_tup
theorem sh_lst62 {ds : List D} : D.sh 62 (.lst ds) = D.shL 61 ds := sh_lst
theorem shL_nil {n : Nat} : D.shL n [] = true := by simp [D.shL]
theorem shL_cons {n : Nat} {d : D} {ds : List D} : D.shL n (d :: ds) = (D.sh n d && D.shL n ds) := by simp [D.shL]
theorem shL_ints {n : Nat} : ∀ ns : List Int, D.shL n (ns.map .int) = true
  | [] => shL_nil
  | x :: xs => by rw [List.map_cons, shL_cons, sh_int, shL_ints xs]; rfl
theorem shL_bls {n : Nat} : ∀ ns : List Bool, D.shL n (ns.map .bl) = true
  | [] => shL_nil
  | x :: xs => by rw [List.map_cons, shL_cons, sh_bl, shL_bls xs]; rfl
theorem shL_all {n : Nat} : ∀ {ds : List D}, (∀ d ∈ ds, D.sh n d = true) → D.shL n ds = true
  | [], _ => shL_nil
  | x :: xs, h => by rw [shL_cons, h x (.head _), shL_all fun d hd => h d (.tail _ hd)]; rfl
theorem dEq_int {i j : Int} : dEq (.int i) (.int j) = some (.bl (decide (i = j)), false) := by
  simp only [dEq, sh_int, Bool.and_self, if_true, eqB_int]
theorem dNe_int {i j : Int} : dNe (.int i) (.int j) = some (.bl (!decide (i = j)), false) := by
  simp only [dNe, sh_int, Bool.and_self, if_true, eqB_int]
theorem dEq_bl {i j : Bool} : dEq (.bl i) (.bl j) = some (.bl (i == j), false) := by
  simp only [dEq, sh_bl, Bool.and_self, if_true, eqB_bl]
theorem dNe_bl {i j : Bool} : dNe (.bl i) (.bl j) = some (.bl (!(i == j)), false) := by
  simp only [dNe, sh_bl, Bool.and_self, if_true, eqB_bl]
/-- two pairs of numbers -/
theorem dEq_pair {a b c d : Int} : dEq (.tup [.int a, .int b]) (.tup [.int c, .int d]) = some (.bl (decide (a = c) && decide (b = d)), false) := by
  simp only [dEq, sh_tup64, shL_cons, shL_nil, sh_int, Bool.and_self, if_true, eqB_tup, eqB_tup0, eqB_int, Bool.and_true]
theorem dNe_pair {a b c d : Int} : dNe (.tup [.int a, .int b]) (.tup [.int c, .int d]) = some (.bl (!(decide (a = c) && decide (b = d))), false) := by
  simp only [dNe, sh_tup64, shL_cons, shL_nil, sh_int, Bool.and_self, if_true, eqB_tup, eqB_tup0, eqB_int, Bool.and_true]
section
variable {α : Type} {a b c d : α}
theorem at40 : L2.atI [a, b, c, d] 0 = some a := rfl
theorem at41 : L2.atI [a, b, c, d] 1 = some b := rfl
theorem at42 : L2.atI [a, b, c, d] 2 = some c := rfl
theorem at43 : L2.atI [a, b, c, d] 3 = some d := rfl
theorem at20 : L2.atI [a, b] 0 = some a := rfl
theorem at21 : L2.atI [a, b] 1 = some b := rfl
theorem at30 : L2.atI [a, b, c] 0 = some a := rfl
theorem at31 : L2.atI [a, b, c] 1 = some b := rfl
theorem at32 : L2.atI [a, b, c] 2 = some c := rfl
end
/-! sorting -/
theorem srt_eq {ns ms : List Int} (h : ns.Perm ms) : srt ns = srt ms := srt_uniq (ns := ms) ((srt_perm ns).trans h) (srt_sorted ns)
theorem srt_len {ns : List Int} : (srt ns).length = ns.length := (srt_perm ns).length_eq
theorem srt_mul {ns : List Int} {t : Int} (h : 0 < t) : srt (ns.map (t * ·)) = (srt ns).map (t * ·) := by
  refine (srt_uniq ((srt_perm ns).map _) ?_).symm
  rw [List.pairwise_map]
  exact (srt_sorted ns).imp fun {a b} hab => Int.mul_le_mul_of_nonneg_left hab (Int.le_of_lt h)
end Rb

namespace Rb
open PySem PySem.Spec PyProof.Rows L2
/-! ### the law's own drawing -/
/-- the pot after at most k takes -/
structure Pk (k : Nat) (t : Int × Int × Int) : Prop where
  o0 : 0 ≤ t.1
  o1 : Sm t.1
  s0 : 0 ≤ t.2.1
  s1 : t.2.1 ≤ 2305843009213693951
  n0 : 0 ≤ t.2.2
  n1 : t.2.2 ≤ (k : Int)
theorem Pk.mono {j k : Nat} {t : Int × Int × Int} (h : Pk j t) (e : j ≤ k) : Pk k t := ⟨h.o0, h.o1, h.s0, h.s1, h.n0, by have := h.n1; omega⟩
def takeC (A B q0 q1 q2 q3 q4 C E M W : Int) : SS :=
  (cSeq (cIf (bT (cBin dGt (cPotGet 0 0) (cD (.int 0))))
  (cSeq (cSet 2 (cBin dMod (cBi fInt (aCons (cPotGet 0 0) aNil)) (cVar 1)))
  (cSeq (cPotSet 0 0 (cBin dDiv (cPotGet 0 0) (cVar 1)))
  (cRet (cVar 2))))
  cSkip)
  (cSeq (cPotSet 0 2 (cBin dAdd (cPotGet 0 2) (cD (.int 1))))
  (cSeq (cSet 3 (cBin dGetAny (cLst (aCons (cD (.int q0)) (aCons (cD (.int q1)) (aCons (cD (.int q2)) (aCons (cD (.int q3)) (aCons (cD (.int q4)) aNil)))))) (cBin dMod (cBi fInt (aCons (cPotGet 0 2) aNil)) (cD (.int 5)))))
  (cSeq (cSet 4 (cBin dMod (cBi fInt (aCons (cBin dPowW (cBi fInt (aCons (cBin dAdd (cBin dAdd (cPotGet 0 1) (cBin dMulI (cBin dMulI (cD (.int A)) (cPotGet 0 2)) (cPotGet 0 2))) (cD (.int B))) aNil)) (cD (.int 3))) aNil)) (cVar 3)))
  (cSeq (cSet 4 (cBin dMod (cBi fInt (aCons (cBin dMulI (cVar 4) (cBin dAdd (cBin dMod (cBi fInt (aCons (cVar 4) aNil)) (cD (.int C))) (cBin dMulI (cD (.int E)) (cPotGet 0 2)))) aNil)) (cD (.int M))))
  (cRet (cBin dMod (cBi fInt (aCons (cBin dDiv (cVar 4) (cD (.int W))) aNil)) (cVar 1))))))))
/-- what a take does -/
def Take (f : Fn) : Prop := ∀ (u : Int) (t : Int × Int × Int) (k : Nat), Pk k t → k ≤ 1000000000 → 0 < u → u ≤ 1180591620717411303424 → ∃ r t', f [.pot, .int u] (some t) = some (.int r, some t') ∧ 0 ≤ r ∧ r < u ∧ Pk (k + 1) t'
/-- a constant of the law's own -/
def cOk (i : Int) : Bool := decide (0 < i ∧ i ≤ 4611686018427387904)
theorem cOk.is {i : Int} (h : cOk i = true) : 0 < i ∧ i ≤ 4611686018427387904 := of_decide_eq_true h
theorem pow3_ev {b : Int} (h : Builtin.Int.intBits b ≤ 1000) : dPowW (.int b) (.int 3) = some (.int (b ^ 3), false) := by
  have : powWC b 3 = true := by
    unfold powWC
    rw [Bool.or_eq_true]
    refine .inr (decide_eq_true ⟨by decide, ?_⟩)
    have : (Builtin.Int.intBits b : Int) ≤ 1000 := by exact_mod_cast h
    omega
  show (if powWC b 3 = true then _ else _) = _
  rw [if_pos this]; rfl
theorem at5 {α : Type} {a b c d e : α} {i : Int} (h0 : 0 ≤ i) (h : i < 5) : ∃ x, L2.atI [a, b, c, d, e] i = some x ∧ (x = a ∨ x = b ∨ x = c ∨ x = d ∨ x = e) := by
  have : i = 0 ∨ i = 1 ∨ i = 2 ∨ i = 3 ∨ i = 4 := by omega
  rcases this with rfl | rfl | rfl | rfl | rfl
  · exact ⟨a, rfl, by simp⟩
  · exact ⟨b, rfl, by simp⟩
  · exact ⟨c, rfl, by simp⟩
  · exact ⟨d, rfl, by simp⟩
  · exact ⟨e, rfl, by simp⟩
theorem take_ev {A B q0 q1 q2 q3 q4 C E M W : Int} (hc : (cOk A && cOk B && cOk q0 && cOk q1 && cOk q2 && cOk q3 && cOk q4 && cOk C && cOk E && cOk M && cOk W) = true) : Take (runF 5 (takeC A B q0 q1 q2 q3 q4 C E M W)) := by
  simp only [Bool.and_eq_true] at hc
  obtain ⟨⟨⟨⟨⟨⟨⟨⟨⟨⟨hA, hB⟩, h0⟩, h1⟩, h2⟩, h3⟩, h4⟩, hC⟩, hE⟩, hM⟩, hW⟩ := hc
  have hA := cOk.is hA; have hB := cOk.is hB; have hC := cOk.is hC; have hE := cOk.is hE; have hM := cOk.is hM; have hW := cOk.is hW
  have h0 := cOk.is h0; have h1 := cOk.is h1; have h2 := cOk.is h2; have h3 := cOk.is h3; have h4 := cOk.is h4
  rintro u ⟨o, sd, n⟩ k ⟨ho0, ho1, hs0, hs1, hn0, hn1⟩ hk hu hu2
  simp only [] at ho0 ho1 hs0 hs1 hn0 hn1
  by_cases hp : 0 < o
  · refine ⟨o % u, (o / u, sd, n), ?_, Int.emod_nonneg _ (by omega), Int.emod_lt_of_pos _ hu, ⟨Int.ediv_nonneg ho0 (by omega), ?_, hs0, hs1, hn0, by simp only []; omega⟩⟩
    · simp only [cFz, at40, at41, at42, at43, at20, at21, at30, at31, at32, List.set, dMod_ev, Int.reduceMod, Int.reduceLT, Int.reduceSub, Int.reduceMul, Int.reduceToNat, Nat.reduceLT, Int.zero_add, Int.reduceLE, fAll_b, runF, cSeq, cIf, cSet, cRet, cRetN, cSkip, cCont, cBrk, cVar, cD, cBin, cUn, cBi, aNil, aCons, cTup, cLst, bT, bAnd, bOr, bNot, cAnd, cOr, cNot, cIte, cChain, cIsi, dTy, kb1, kb2, kb3, kb4, kb5, kb6, kb7, fAbs_ev, fMax_ev, fMin_ev, wipeS, Function.comp_apply, Function.comp_def, dIx, dGetAny, cPotGet, cPotSet, getP, setP, cCall, fInt, fLen, fTuple, fList, cLenV, dLt, dLe, dGt, dGe, dB2, dAdd, dSub_ev, dNeg, Nat.reduceLeDiff, cs0, cs1, cs2, cs3, cs4, cs5, cs6, cs7, cs8, cs9, cs10, cs11, cs12, Int.ofNat_eq_natCast, dEq_int, dNe_int, dEq_pair, dNe_pair, dIsN, dNotN, cPar, cPar3, cAsg, gN, gT, gsCons, gsNil, bdOf, cSl, oNone, oSome, dSl, iSeq, iRg1, iRg2, cExpr, dRev, List.map_cons, List.map_nil, List.length_cons, List.length_nil, List.cons_append, List.nil_append, List.append_nil, List.replicate, List.getElem?_cons_zero, List.getElem?_cons_succ, List.set_cons_zero, List.set_cons_succ, Option.bind_some, Option.map_some, Option.bind_none, Option.map_none, Nat.reduceAdd, Nat.reduceSub, Int.reduceAdd, Int.reduceNeg, decide_true, decide_false, Bool.not_true, Bool.not_false, if_true, if_false, Bool.false_eq_true, if_pos, reduceIte, reduceCtorEq, Option.some.injEq, Prod.mk.injEq, and_self, and_true, true_and, szOk, takeC, hp, dMod_ev hu, dDiv_ev hu hu2]
    · show (o / u).natAbs < 2 ^ 4000
      refine Nat.lt_of_le_of_lt ?_ ho1
      have := Int.ediv_le_self u ho0
      have := Int.ediv_nonneg ho0 (by omega : (0 : Int) ≤ u)
      omega
  · have m0 : 0 ≤ (n + 1) % 5 := Int.emod_nonneg _ (by decide)
    have m1 : (n + 1) % 5 < 5 := Int.emod_lt_of_pos _ (by decide)
    obtain ⟨x, ex, hx⟩ := at5 (a := D.int q0) (b := D.int q1) (c := D.int q2) (d := D.int q3) (e := D.int q4) m0 m1
    have hq : ∃ q, x = .int q ∧ 0 < q ∧ q ≤ 4611686018427387904 := by
      rcases hx with rfl | rfl | rfl | rfl | rfl
      · exact ⟨_, rfl, h0⟩
      · exact ⟨_, rfl, h1⟩
      · exact ⟨_, rfl, h2⟩
      · exact ⟨_, rfl, h3⟩
      · exact ⟨_, rfl, h4⟩
    obtain ⟨q, rfl, q0', q1'⟩ := hq
    have hn2 : n + 1 ≤ 1000000001 := by omega
    have hAn : 0 ≤ A * (n + 1) ∧ A * (n + 1) ≤ 4611686018427387904 * 1000000001 := ⟨Int.mul_nonneg (by omega) (by omega), Int.mul_le_mul hA.2 hn2 (by omega) (by decide)⟩
    have hAnn : 0 ≤ A * (n + 1) * (n + 1) ∧ A * (n + 1) * (n + 1) ≤ 4611686018427387904 * 1000000001 * 1000000001 := ⟨Int.mul_nonneg hAn.1 (by omega), Int.mul_le_mul hAn.2 hn2 (by omega) (by decide)⟩
    have sA : Sm A := .of (by omega) (by omega)
    have sn : Sm (n + 1) := .of (by omega) (by omega)
    have sAn : Sm (A * (n + 1)) := by
      have : (2 : Nat) ^ 200 < 2 ^ 4000 := Nat.pow_lt_pow_right (by decide) (by decide)
      refine Nat.lt_of_le_of_lt ?_ this
      omega
    have e1 := dMul_ev sA sn
    have e2 := dMul_ev sAn sn
    have hb : Builtin.Int.intBits (sd + A * (n + 1) * (n + 1) + B) ≤ 1000 := by
      refine intBits_le_iff.2 ?_
      have : (2 : Nat) ^ 200 < 2 ^ 1000 := Nat.pow_lt_pow_right (by decide) (by decide)
      refine Nat.lt_of_le_of_lt ?_ this
      omega
    have e3 := pow3_ev hb
    generalize hz : (sd + A * (n + 1) * (n + 1) + B) ^ 3 % q = z at *
    have z0 : 0 ≤ z := by rw [← hz]; exact Int.emod_nonneg _ (by omega)
    have z1 : z < q := by rw [← hz]; exact Int.emod_lt_of_pos _ q0'
    have c0 : 0 ≤ z % C := Int.emod_nonneg _ (by omega)
    have c1 : z % C < C := Int.emod_lt_of_pos _ hC.1
    have hEn : 0 ≤ E * (n + 1) ∧ E * (n + 1) ≤ 4611686018427387904 * 1000000001 := ⟨Int.mul_nonneg (by omega) (by omega), Int.mul_le_mul hE.2 hn2 (by omega) (by decide)⟩
    have e4 := dMul_ev (a := E) (b := n + 1) (.of (by omega) (by omega)) sn
    have e5 : dMulI (.int z) (.int (z % C + E * (n + 1))) = some (.int (z * (z % C + E * (n + 1))), false) := dMul_ev (.of (by omega) (by omega)) (by
      have : (2 : Nat) ^ 200 < 2 ^ 4000 := Nat.pow_lt_pow_right (by decide) (by decide)
      refine Nat.lt_of_le_of_lt ?_ this
      omega)
    refine ⟨z * (z % C + E * (n + 1)) % M / W % u, (o, sd, n + 1), ?_, Int.emod_nonneg _ (by omega), Int.emod_lt_of_pos _ hu, ⟨ho0, ho1, hs0, hs1, by simp only []; omega, by simp only []; omega⟩⟩
    simp only [cFz, at40, at41, at42, at43, at20, at21, at30, at31, at32, List.set, dMod_ev, Int.reduceMod, Int.reduceLT, Int.reduceSub, Int.reduceMul, Int.reduceToNat, Nat.reduceLT, Int.zero_add, Int.reduceLE, fAll_b, runF, cSeq, cIf, cSet, cRet, cRetN, cSkip, cCont, cBrk, cVar, cD, cBin, cUn, cBi, aNil, aCons, cTup, cLst, bT, bAnd, bOr, bNot, cAnd, cOr, cNot, cIte, cChain, cIsi, dTy, kb1, kb2, kb3, kb4, kb5, kb6, kb7, fAbs_ev, fMax_ev, fMin_ev, wipeS, Function.comp_apply, Function.comp_def, dIx, dGetAny, cPotGet, cPotSet, getP, setP, cCall, fInt, fLen, fTuple, fList, cLenV, dLt, dLe, dGt, dGe, dB2, dAdd, dSub_ev, dNeg, Nat.reduceLeDiff, cs0, cs1, cs2, cs3, cs4, cs5, cs6, cs7, cs8, cs9, cs10, cs11, cs12, Int.ofNat_eq_natCast, dEq_int, dNe_int, dEq_pair, dNe_pair, dIsN, dNotN, cPar, cPar3, cAsg, gN, gT, gsCons, gsNil, bdOf, cSl, oNone, oSome, dSl, iSeq, iRg1, iRg2, cExpr, dRev, List.map_cons, List.map_nil, List.length_cons, List.length_nil, List.cons_append, List.nil_append, List.append_nil, List.replicate, List.getElem?_cons_zero, List.getElem?_cons_succ, List.set_cons_zero, List.set_cons_succ, Option.bind_some, Option.map_some, Option.bind_none, Option.map_none, Nat.reduceAdd, Nat.reduceSub, Int.reduceAdd, Int.reduceNeg, decide_true, decide_false, Bool.not_true, Bool.not_false, if_true, if_false, Bool.false_eq_true, if_pos, reduceIte, reduceCtorEq, Option.some.injEq, Prod.mk.injEq, and_self, and_true, true_and, szOk, takeC, hp, ex, e1, e2, e3, e4, e5, dMod_ev hu, dMod_ev hC.1, dMod_ev hM.1, dMod_ev q0', dDiv_ev hW.1 (Int.le_trans hW.2 (by decide)), hz]
/-! the pot -/
def potC1 (a b c : Int) : SS := (cSet 2 (cFz (cIte (bT (cBin dLt (cVar 1) (cBi fLen (aCons (cVar 0) aNil)))) (cBin dGetAny (cVar 0) (cVar 1)) (cBin dAdd (cBin dAdd (cBin dMod (cBi fInt (aCons (cBi fSum (aCons (cSl (cVar 0) oNone (oSome (cD (.int 1)))) aNil)) aNil)) (cD (.int a))) (cBin dMulI (cD (.int b)) (cVar 1))) (cD (.int c))))))
def potC2 : SS := (cSet 3 (cBin dMulI (cBin dMod (cBi fInt (aCons (cBi fAbs (aCons (cVar 2) aNil)) aNil)) (cBin dPowW (cBin dPowW (cD (.int 10)) (cD (.int 60))) (cD (.int 5)))) (cBi fInt (aCons (cBin dGe (cBi fAbs (aCons (cVar 2) aNil)) (cBin dPowW (cD (.int 10)) (cD (.int 18)))) aNil))))
def potC3 (m : Int) : SS := (cSet 4 (cBin dMod (cBi fInt (aCons (cVar 2) aNil)) (cD (.int m))))
def potA (a b c m : Int) : SA := (aCons (cVar 3) (aCons (cBin dMod (cBi fInt (aCons (cBin dAdd (cBin dAdd (cBin dMulI (cVar 4) (cD (.int a))) (cBin dMulI (cBin dMulI (cD (.int b)) (cVar 1)) (cVar 1))) (cD (.int c))) aNil)) (cD (.int m))) (aCons (cD (.int 0)) aNil)))

theorem fLen_scr {ns : List Int} : fLen [.scr ns] = some (.int ns.length, false) := rfl
theorem p10_60 : dPowW (.int 10) (.int 60) = some (.int (10 ^ 60), false) := by
  have hp : powWC 10 60 = true := by decide +kernel
  simp only [dPowW, dI2, hp, if_true]; rfl
theorem p60_5 : dPowW (.int (10 ^ 60)) (.int 5) = some (.int ((10 ^ 60) ^ 5), false) := by
  have hp : powWC (10 ^ 60) 5 = true := by decide +kernel
  simp only [dPowW, dI2, hp, if_true]; rfl
theorem p10_18 : dPowW (.int 10) (.int 18) = some (.int (10 ^ 18), false) := by
  have hp : powWC 10 18 = true := by decide +kernel
  simp only [dPowW, dI2, hp, if_true]; rfl
theorem atI_of {α : Type} {xs : List α} {i : Int} (h0 : 0 ≤ i) (h : i < xs.length) : ∃ x, L2.atI xs i = some x ∧ x ∈ xs := by
  obtain ⟨j, rfl⟩ := Int.eq_ofNat_of_zero_le h0
  have hj : j < xs.length := by omega
  exact ⟨xs[j], atI_nat (List.getElem?_eq_getElem hj), List.getElem_mem hj⟩
theorem fInt_b {b : Bool} : fInt [.bl b] = some (.int (if b then 1 else 0), false) := rfl
theorem pot_ev {a b c a2 b2 c2 m m2 : Int} (hc : (cOk a && cOk b && cOk c && cOk a2 && cOk b2 && cOk c2 && cOk m && cOk m2 && decide (m2 ≤ 2305843009213693951) && decide (b ≤ 1000000000000) && decide (b2 ≤ 1000000000000)) = true) {ns : List Int} {place : Int} (h0 : 0 ≤ place) (h1 : place ≤ 10) :
    ∃ t, runP 5 (potC1 a b c) potC2 (potC3 m) (potA a2 b2 c2 m2) [.scr ns, .int place] = some t ∧ Pk 0 t := by
  simp only [Bool.and_eq_true] at hc
  obtain ⟨⟨⟨⟨⟨⟨⟨⟨⟨⟨ha, hb⟩, hc⟩, ha2⟩, hb2⟩, hc2⟩, hm⟩, hm2⟩, hm3⟩, hb3⟩, hb4⟩ := hc
  have ha := cOk.is ha; have hb := cOk.is hb; have hc := cOk.is hc; have ha2 := cOk.is ha2; have hb2 := cOk.is hb2; have hc2 := cOk.is hc2; have hm := cOk.is hm; have hm2 := cOk.is hm2
  have hm3 := of_decide_eq_true hm3; have hb3 := of_decide_eq_true hb3; have hb4 := of_decide_eq_true hb4
  have e1 : ∃ cell : Int, potC1 a b c ⟨[.val (.scr ns), .val (.int place), .no, .no, .no], none⟩ = some (.nx, ⟨[.val (.scr ns), .val (.int place), .val (.int cell), .no, .no], none⟩) := by
    by_cases hl : place < ns.length
    · obtain ⟨x, hx, _⟩ := atI_of h0 hl
      refine ⟨x, ?_⟩
      simp only [cFz, at40, at41, at42, at43, at20, at21, at30, at31, at32, List.set, dMod_ev, Int.reduceMod, Int.reduceLT, Int.reduceSub, Int.reduceMul, Int.reduceToNat, Nat.reduceLT, Int.zero_add, Int.reduceLE, fAll_b, runF, cSeq, cIf, cSet, cRet, cRetN, cSkip, cCont, cBrk, cVar, cD, cBin, cUn, cBi, aNil, aCons, cTup, cLst, bT, bAnd, bOr, bNot, cAnd, cOr, cNot, cIte, cChain, cIsi, dTy, kb1, kb2, kb3, kb4, kb5, kb6, kb7, fAbs_ev, fMax_ev, fMin_ev, wipeS, Function.comp_apply, Function.comp_def, dIx, dGetAny, cPotGet, cPotSet, getP, setP, cCall, fInt, fLen, fTuple, fList, cLenV, dLt, dLe, dGt, dGe, dB2, dAdd, dSub_ev, dNeg, Nat.reduceLeDiff, cs0, cs1, cs2, cs3, cs4, cs5, cs6, cs7, cs8, cs9, cs10, cs11, cs12, Int.ofNat_eq_natCast, dEq_int, dNe_int, dEq_pair, dNe_pair, dIsN, dNotN, cPar, cPar3, cAsg, gN, gT, gsCons, gsNil, bdOf, cSl, oNone, oSome, dSl, iSeq, iRg1, iRg2, cExpr, dRev, List.map_cons, List.map_nil, List.length_cons, List.length_nil, List.cons_append, List.nil_append, List.append_nil, List.replicate, List.getElem?_cons_zero, List.getElem?_cons_succ, List.set_cons_zero, List.set_cons_succ, Option.bind_some, Option.map_some, Option.bind_none, Option.map_none, Nat.reduceAdd, Nat.reduceSub, Int.reduceAdd, Int.reduceNeg, decide_true, decide_false, Bool.not_true, Bool.not_false, if_true, if_false, Bool.false_eq_true, if_pos, reduceIte, reduceCtorEq, Option.some.injEq, Prod.mk.injEq, and_self, and_true, true_and, szOk, potC1, fLen_scr, hl, hx]
    · have e2 := dMul_i (a := b) (b := place) (by omega) (by omega)
      have e3 : fSum [.lst ((cut ns none (some 1)).map .int)] = _ := fSum_l
      refine ⟨(cut ns none (some 1)).sum % a + b * place + c, ?_⟩
      simp only [cFz, at40, at41, at42, at43, at20, at21, at30, at31, at32, List.set, dMod_ev, Int.reduceMod, Int.reduceLT, Int.reduceSub, Int.reduceMul, Int.reduceToNat, Nat.reduceLT, Int.zero_add, Int.reduceLE, fAll_b, runF, cSeq, cIf, cSet, cRet, cRetN, cSkip, cCont, cBrk, cVar, cD, cBin, cUn, cBi, aNil, aCons, cTup, cLst, bT, bAnd, bOr, bNot, cAnd, cOr, cNot, cIte, cChain, cIsi, dTy, kb1, kb2, kb3, kb4, kb5, kb6, kb7, fAbs_ev, fMax_ev, fMin_ev, wipeS, Function.comp_apply, Function.comp_def, dIx, dGetAny, cPotGet, cPotSet, getP, setP, cCall, fInt, fLen, fTuple, fList, cLenV, dLt, dLe, dGt, dGe, dB2, dAdd, dSub_ev, dNeg, Nat.reduceLeDiff, cs0, cs1, cs2, cs3, cs4, cs5, cs6, cs7, cs8, cs9, cs10, cs11, cs12, Int.ofNat_eq_natCast, dEq_int, dNe_int, dEq_pair, dNe_pair, dIsN, dNotN, cPar, cPar3, cAsg, gN, gT, gsCons, gsNil, bdOf, cSl, oNone, oSome, dSl, iSeq, iRg1, iRg2, cExpr, dRev, List.map_cons, List.map_nil, List.length_cons, List.length_nil, List.cons_append, List.nil_append, List.append_nil, List.replicate, List.getElem?_cons_zero, List.getElem?_cons_succ, List.set_cons_zero, List.set_cons_succ, Option.bind_some, Option.map_some, Option.bind_none, Option.map_none, Nat.reduceAdd, Nat.reduceSub, Int.reduceAdd, Int.reduceNeg, decide_true, decide_false, Bool.not_true, Bool.not_false, if_true, if_false, Bool.false_eq_true, if_pos, reduceIte, reduceCtorEq, Option.some.injEq, Prod.mk.injEq, and_self, and_true, true_and, szOk, potC1, fLen_scr, hl, e2, e3, dMod_ev ha.1]
  obtain ⟨cell, e1⟩ := e1
  have hpos : (0 : Int) < (10 ^ 60) ^ 5 := by decide +kernel
  have o0 : 0 ≤ ab cell % (10 ^ 60) ^ 5 := Int.emod_nonneg _ (by omega)
  have o1 : ab cell % (10 ^ 60) ^ 5 < (10 ^ 60) ^ 5 := Int.emod_lt_of_pos _ hpos
  have o2 : Sm (ab cell % (10 ^ 60) ^ 5) := by
    have : (10 ^ 60) ^ 5 < (2 : Nat) ^ 4000 := by decide +kernel
    have h2 : (((10 ^ 60) ^ 5 : Nat) : Int) = (10 ^ 60) ^ 5 := by decide +kernel
    unfold Sm
    omega
  have e2 : ∃ own : Int, 0 ≤ own ∧ Sm own ∧ potC2 ⟨[.val (.scr ns), .val (.int place), .val (.int cell), .no, .no], none⟩ = some (.nx, ⟨[.val (.scr ns), .val (.int place), .val (.int cell), .val (.int own), .no], none⟩) := by
    generalize hz : ab cell % (10 ^ 60) ^ 5 = z at *
    by_cases hg : 10 ^ 18 ≤ ab cell
    · have e3 := dMul_ev (a := z) (b := 1) o2 (.of (by decide) (by decide))
      refine ⟨z * 1, by omega, by rw [Int.mul_one]; exact o2, ?_⟩
      simp only [cFz, at40, at41, at42, at43, at20, at21, at30, at31, at32, List.set, dMod_ev, Int.reduceMod, Int.reduceLT, Int.reduceSub, Int.reduceMul, Int.reduceToNat, Nat.reduceLT, Int.zero_add, Int.reduceLE, fAll_b, runF, cSeq, cIf, cSet, cRet, cRetN, cSkip, cCont, cBrk, cVar, cD, cBin, cUn, cBi, aNil, aCons, cTup, cLst, bT, bAnd, bOr, bNot, cAnd, cOr, cNot, cIte, cChain, cIsi, dTy, kb1, kb2, kb3, kb4, kb5, kb6, kb7, fAbs_ev, fMax_ev, fMin_ev, wipeS, Function.comp_apply, Function.comp_def, dIx, dGetAny, cPotGet, cPotSet, getP, setP, cCall, fInt, fLen, fTuple, fList, cLenV, dLt, dLe, dGt, dGe, dB2, dAdd, dSub_ev, dNeg, Nat.reduceLeDiff, cs0, cs1, cs2, cs3, cs4, cs5, cs6, cs7, cs8, cs9, cs10, cs11, cs12, Int.ofNat_eq_natCast, dEq_int, dNe_int, dEq_pair, dNe_pair, dIsN, dNotN, cPar, cPar3, cAsg, gN, gT, gsCons, gsNil, bdOf, cSl, oNone, oSome, dSl, iSeq, iRg1, iRg2, cExpr, dRev, List.map_cons, List.map_nil, List.length_cons, List.length_nil, List.cons_append, List.nil_append, List.append_nil, List.replicate, List.getElem?_cons_zero, List.getElem?_cons_succ, List.set_cons_zero, List.set_cons_succ, Option.bind_some, Option.map_some, Option.bind_none, Option.map_none, Nat.reduceAdd, Nat.reduceSub, Int.reduceAdd, Int.reduceNeg, decide_true, decide_false, Bool.not_true, Bool.not_false, if_true, if_false, Bool.false_eq_true, if_pos, reduceIte, reduceCtorEq, Option.some.injEq, Prod.mk.injEq, and_self, and_true, true_and, szOk, potC2, p10_60, p60_5, p10_18, dMod_ev hpos, hz, hg, e3, fInt_b]
    · have e3 := dMul_ev (a := z) (b := 0) o2 (.of (by decide) (by decide))
      refine ⟨z * 0, by omega, by rw [Int.mul_zero]; exact .of (by decide) (by decide), ?_⟩
      simp only [cFz, at40, at41, at42, at43, at20, at21, at30, at31, at32, List.set, dMod_ev, Int.reduceMod, Int.reduceLT, Int.reduceSub, Int.reduceMul, Int.reduceToNat, Nat.reduceLT, Int.zero_add, Int.reduceLE, fAll_b, runF, cSeq, cIf, cSet, cRet, cRetN, cSkip, cCont, cBrk, cVar, cD, cBin, cUn, cBi, aNil, aCons, cTup, cLst, bT, bAnd, bOr, bNot, cAnd, cOr, cNot, cIte, cChain, cIsi, dTy, kb1, kb2, kb3, kb4, kb5, kb6, kb7, fAbs_ev, fMax_ev, fMin_ev, wipeS, Function.comp_apply, Function.comp_def, dIx, dGetAny, cPotGet, cPotSet, getP, setP, cCall, fInt, fLen, fTuple, fList, cLenV, dLt, dLe, dGt, dGe, dB2, dAdd, dSub_ev, dNeg, Nat.reduceLeDiff, cs0, cs1, cs2, cs3, cs4, cs5, cs6, cs7, cs8, cs9, cs10, cs11, cs12, Int.ofNat_eq_natCast, dEq_int, dNe_int, dEq_pair, dNe_pair, dIsN, dNotN, cPar, cPar3, cAsg, gN, gT, gsCons, gsNil, bdOf, cSl, oNone, oSome, dSl, iSeq, iRg1, iRg2, cExpr, dRev, List.map_cons, List.map_nil, List.length_cons, List.length_nil, List.cons_append, List.nil_append, List.append_nil, List.replicate, List.getElem?_cons_zero, List.getElem?_cons_succ, List.set_cons_zero, List.set_cons_succ, Option.bind_some, Option.map_some, Option.bind_none, Option.map_none, Nat.reduceAdd, Nat.reduceSub, Int.reduceAdd, Int.reduceNeg, decide_true, decide_false, Bool.not_true, Bool.not_false, if_true, if_false, Bool.false_eq_true, if_pos, reduceIte, reduceCtorEq, Option.some.injEq, Prod.mk.injEq, and_self, and_true, true_and, szOk, potC2, p10_60, p60_5, p10_18, dMod_ev hpos, hz, hg, e3, fInt_b]
  obtain ⟨own, w0, w1, e2⟩ := e2
  have e3 : potC3 m ⟨[.val (.scr ns), .val (.int place), .val (.int cell), .val (.int own), .no], none⟩ = some (.nx, ⟨[.val (.scr ns), .val (.int place), .val (.int cell), .val (.int own), .val (.int (cell % m))], none⟩) := by
    simp only [cFz, at40, at41, at42, at43, at20, at21, at30, at31, at32, List.set, dMod_ev, Int.reduceMod, Int.reduceLT, Int.reduceSub, Int.reduceMul, Int.reduceToNat, Nat.reduceLT, Int.zero_add, Int.reduceLE, fAll_b, runF, cSeq, cIf, cSet, cRet, cRetN, cSkip, cCont, cBrk, cVar, cD, cBin, cUn, cBi, aNil, aCons, cTup, cLst, bT, bAnd, bOr, bNot, cAnd, cOr, cNot, cIte, cChain, cIsi, dTy, kb1, kb2, kb3, kb4, kb5, kb6, kb7, fAbs_ev, fMax_ev, fMin_ev, wipeS, Function.comp_apply, Function.comp_def, dIx, dGetAny, cPotGet, cPotSet, getP, setP, cCall, fInt, fLen, fTuple, fList, cLenV, dLt, dLe, dGt, dGe, dB2, dAdd, dSub_ev, dNeg, Nat.reduceLeDiff, cs0, cs1, cs2, cs3, cs4, cs5, cs6, cs7, cs8, cs9, cs10, cs11, cs12, Int.ofNat_eq_natCast, dEq_int, dNe_int, dEq_pair, dNe_pair, dIsN, dNotN, cPar, cPar3, cAsg, gN, gT, gsCons, gsNil, bdOf, cSl, oNone, oSome, dSl, iSeq, iRg1, iRg2, cExpr, dRev, List.map_cons, List.map_nil, List.length_cons, List.length_nil, List.cons_append, List.nil_append, List.append_nil, List.replicate, List.getElem?_cons_zero, List.getElem?_cons_succ, List.set_cons_zero, List.set_cons_succ, Option.bind_some, Option.map_some, Option.bind_none, Option.map_none, Nat.reduceAdd, Nat.reduceSub, Int.reduceAdd, Int.reduceNeg, decide_true, decide_false, Bool.not_true, Bool.not_false, if_true, if_false, Bool.false_eq_true, if_pos, reduceIte, reduceCtorEq, Option.some.injEq, Prod.mk.injEq, and_self, and_true, true_and, szOk, potC3, dMod_ev hm.1]
  have k0 : 0 ≤ cell % m := Int.emod_nonneg _ (by omega)
  have k1 : cell % m < m := Int.emod_lt_of_pos _ hm.1
  have g1 := dMul_i (a := cell % m) (b := a2) (by omega) (by omega)
  have g2 := dMul_i (a := b2) (b := place) (by omega) (by omega)
  have hbp : 0 ≤ b2 * place ∧ b2 * place ≤ 1000000000000 * 10 := ⟨Int.mul_nonneg (by omega) h0, Int.mul_le_mul hb4 h1 h0 (by decide)⟩
  have g3 := dMul_i (a := b2 * place) (b := place) (by omega) (by omega)
  refine ⟨(own, (cell % m * a2 + b2 * place * place + c2) % m2, 0), ?_, ⟨w0, w1, Int.emod_nonneg _ (by omega), ?_, Int.le_refl 0, Int.le_refl 0⟩⟩
  · unfold runP
    simp only [List.map_cons, List.map_nil, List.length_cons, List.length_nil, List.replicate, List.cons_append, List.nil_append]
    simp only [e1, e2, e3]
    simp only [cFz, at40, at41, at42, at43, at20, at21, at30, at31, at32, List.set, dMod_ev, Int.reduceMod, Int.reduceLT, Int.reduceSub, Int.reduceMul, Int.reduceToNat, Nat.reduceLT, Int.zero_add, Int.reduceLE, fAll_b, runF, cSeq, cIf, cSet, cRet, cRetN, cSkip, cCont, cBrk, cVar, cD, cBin, cUn, cBi, aNil, aCons, cTup, cLst, bT, bAnd, bOr, bNot, cAnd, cOr, cNot, cIte, cChain, cIsi, dTy, kb1, kb2, kb3, kb4, kb5, kb6, kb7, fAbs_ev, fMax_ev, fMin_ev, wipeS, Function.comp_apply, Function.comp_def, dIx, dGetAny, cPotGet, cPotSet, getP, setP, cCall, fInt, fLen, fTuple, fList, cLenV, dLt, dLe, dGt, dGe, dB2, dAdd, dSub_ev, dNeg, Nat.reduceLeDiff, cs0, cs1, cs2, cs3, cs4, cs5, cs6, cs7, cs8, cs9, cs10, cs11, cs12, Int.ofNat_eq_natCast, dEq_int, dNe_int, dEq_pair, dNe_pair, dIsN, dNotN, cPar, cPar3, cAsg, gN, gT, gsCons, gsNil, bdOf, cSl, oNone, oSome, dSl, iSeq, iRg1, iRg2, cExpr, dRev, List.map_cons, List.map_nil, List.length_cons, List.length_nil, List.cons_append, List.nil_append, List.append_nil, List.replicate, List.getElem?_cons_zero, List.getElem?_cons_succ, List.set_cons_zero, List.set_cons_succ, Option.bind_some, Option.map_some, Option.bind_none, Option.map_none, Nat.reduceAdd, Nat.reduceSub, Int.reduceAdd, Int.reduceNeg, decide_true, decide_false, Bool.not_true, Bool.not_false, if_true, if_false, Bool.false_eq_true, if_pos, reduceIte, reduceCtorEq, Option.some.injEq, Prod.mk.injEq, and_self, and_true, true_and, szOk, potA, g1, g2, g3, dMod_ev hm2.1]
  · have := Int.emod_lt_of_pos (cell % m * a2 + b2 * place * place + c2) hm2.1
    show (cell % m * a2 + b2 * place * place + c2) % m2 ≤ _
    omega
/-! the law's other drawings, by its own take -/
def ofC (f : Fn) : SS := (cRet (cBin dGetAny (cVar 1) (cCall f (aCons (cVar 0) (aCons (cBi fLen (aCons (cVar 1) aNil)) aNil)))))
theorem of_ev {f : Fn} (hf : Take f) {ds : List D} {t : Int × Int × Int} {k : Nat} (h : Pk k t) (hk : k ≤ 1000000000) (h0 : 0 < ds.length) (h1 : ds.length ≤ 1000000) {x : D} (hx : x = .lst ds ∨ x = .tup ds) : ∃ d t', runF 2 (ofC f) [.pot, x] (some t) = some (d, some t') ∧ d ∈ ds ∧ Pk (k + 1) t' := by
  obtain ⟨r, t', e, r0, r1, h'⟩ := hf ds.length t k h hk (by omega) (by omega)
  obtain ⟨d, hd, hm⟩ := atI_of r0 r1
  refine ⟨d, t', ?_, hm, h'⟩
  rcases hx with rfl | rfl
  · simp only [cFz, at40, at41, at42, at43, at20, at21, at30, at31, at32, List.set, dMod_ev, Int.reduceMod, Int.reduceLT, Int.reduceSub, Int.reduceMul, Int.reduceToNat, Nat.reduceLT, Int.zero_add, Int.reduceLE, fAll_b, runF, cSeq, cIf, cSet, cRet, cRetN, cSkip, cCont, cBrk, cVar, cD, cBin, cUn, cBi, aNil, aCons, cTup, cLst, bT, bAnd, bOr, bNot, cAnd, cOr, cNot, cIte, cChain, cIsi, dTy, kb1, kb2, kb3, kb4, kb5, kb6, kb7, fAbs_ev, fMax_ev, fMin_ev, wipeS, Function.comp_apply, Function.comp_def, dIx, dGetAny, cPotGet, cPotSet, getP, setP, cCall, fInt, fLen, fTuple, fList, cLenV, dLt, dLe, dGt, dGe, dB2, dAdd, dSub_ev, dNeg, Nat.reduceLeDiff, cs0, cs1, cs2, cs3, cs4, cs5, cs6, cs7, cs8, cs9, cs10, cs11, cs12, Int.ofNat_eq_natCast, dEq_int, dNe_int, dEq_pair, dNe_pair, dIsN, dNotN, cPar, cPar3, cAsg, gN, gT, gsCons, gsNil, bdOf, cSl, oNone, oSome, dSl, iSeq, iRg1, iRg2, cExpr, dRev, List.map_cons, List.map_nil, List.length_cons, List.length_nil, List.cons_append, List.nil_append, List.append_nil, List.replicate, List.getElem?_cons_zero, List.getElem?_cons_succ, List.set_cons_zero, List.set_cons_succ, Option.bind_some, Option.map_some, Option.bind_none, Option.map_none, Nat.reduceAdd, Nat.reduceSub, Int.reduceAdd, Int.reduceNeg, decide_true, decide_false, Bool.not_true, Bool.not_false, if_true, if_false, Bool.false_eq_true, if_pos, reduceIte, reduceCtorEq, Option.some.injEq, Prod.mk.injEq, and_self, and_true, true_and, szOk, ofC, e, hd]
  · simp only [cFz, at40, at41, at42, at43, at20, at21, at30, at31, at32, List.set, dMod_ev, Int.reduceMod, Int.reduceLT, Int.reduceSub, Int.reduceMul, Int.reduceToNat, Nat.reduceLT, Int.zero_add, Int.reduceLE, fAll_b, runF, cSeq, cIf, cSet, cRet, cRetN, cSkip, cCont, cBrk, cVar, cD, cBin, cUn, cBi, aNil, aCons, cTup, cLst, bT, bAnd, bOr, bNot, cAnd, cOr, cNot, cIte, cChain, cIsi, dTy, kb1, kb2, kb3, kb4, kb5, kb6, kb7, fAbs_ev, fMax_ev, fMin_ev, wipeS, Function.comp_apply, Function.comp_def, dIx, dGetAny, cPotGet, cPotSet, getP, setP, cCall, fInt, fLen, fTuple, fList, cLenV, dLt, dLe, dGt, dGe, dB2, dAdd, dSub_ev, dNeg, Nat.reduceLeDiff, cs0, cs1, cs2, cs3, cs4, cs5, cs6, cs7, cs8, cs9, cs10, cs11, cs12, Int.ofNat_eq_natCast, dEq_int, dNe_int, dEq_pair, dNe_pair, dIsN, dNotN, cPar, cPar3, cAsg, gN, gT, gsCons, gsNil, bdOf, cSl, oNone, oSome, dSl, iSeq, iRg1, iRg2, cExpr, dRev, List.map_cons, List.map_nil, List.length_cons, List.length_nil, List.cons_append, List.nil_append, List.append_nil, List.replicate, List.getElem?_cons_zero, List.getElem?_cons_succ, List.set_cons_zero, List.set_cons_succ, Option.bind_some, Option.map_some, Option.bind_none, Option.map_none, Nat.reduceAdd, Nat.reduceSub, Int.reduceAdd, Int.reduceNeg, decide_true, decide_false, Bool.not_true, Bool.not_false, if_true, if_false, Bool.false_eq_true, if_pos, reduceIte, reduceCtorEq, Option.some.injEq, Prod.mk.injEq, and_self, and_true, true_and, szOk, ofC, e, hd]
def rodsC (f : Fn) : SS := (cRet (cBi fTuple (aCons (cLC (iRg1 (aCons (cBin dAdd (cD (.int 1)) (cCall f (aCons (cVar 0) (aCons (cVar 1) aNil)))) aNil)) (gN 3) bYes (cBi fInt (aCons (cBin dAdd (cD (.int 1)) (cCall f (aCons (cVar 0) (aCons (cVar 2) aNil)))) aNil)) [3]) aNil)))
def rodsC2 (f : Fn) : SS := (cRet (cBi fTuple (aCons (cLC (iRg1 (aCons (cBin dAdd (cD (.int 1)) (cCall f (aCons (cVar 0) (aCons (cVar 1) aNil)))) aNil)) (gN 3) bYes (cBin dAdd (cD (.int 1)) (cBi fInt (aCons (cCall f (aCons (cVar 0) (aCons (cVar 2) aNil))) aNil))) [3]) aNil)))
theorem intsP {ds : List D} {lo hi : Int} (h : ∀ d ∈ ds, ∃ i, d = .int i ∧ lo ≤ i ∧ i ≤ hi) : ∃ ns : List Int, ds = ns.map .int ∧ ∀ i ∈ ns, lo ≤ i ∧ i ≤ hi := by
  induction ds with
  | nil => exact ⟨[], rfl, by simp⟩
  | cons d ds ih =>
    obtain ⟨ns, e, hn⟩ := ih fun x hx => h x (.tail _ hx)
    obtain ⟨i, e2, hi⟩ := h d (.head _)
    refine ⟨i :: ns, by rw [List.map_cons, e, e2], fun j hj => ?_⟩
    rcases List.mem_cons.1 hj with rfl | hj
    · exact hi
    · exact hn j hj
theorem rgOk_of {i : Int} (h0 : 0 ≤ i) (h1 : i ≤ 1000000) : rgOk i = true := inR_iff.2 ⟨by omega, by omega⟩
section
variable {f : Fn} {t : Int × Int × Int} {k : Nat} {most long : Int}
theorem rods_ev (hf : Take f) (h : Pk k t) (hk : k ≤ 900000000) (h0 : 0 < most) (h1 : most ≤ 1000) (l0 : 0 < long) (l1 : long ≤ 1000000) :
    ∃ (ns : List Int) (t' : Int × Int × Int), runF 4 (rodsC f) [.pot, .int most, .int long] (some t) = some (.tup (ns.map .int), some t') ∧ 1 ≤ ns.length ∧ (ns.length : Int) ≤ most ∧ (∀ i ∈ ns, 1 ≤ i ∧ i ≤ long) ∧ Pk (k + 1001) t' := by
  obtain ⟨r, t1, e, r0, r1, hp⟩ := hf most t k h (by omega) h0 (by omega)
  have hr : rgOk (1 + r) = true := rgOk_of (by omega) (by omega)
  obtain ⟨xs, p', e2, l, hx, t2, rfl, hj⟩ := lc_pot (it := iRg1 (aCons (cBin dAdd (cD (.int 1)) (cCall f (aCons (cVar 0) (aCons (cVar 1) aNil)))) aNil)) (te := cBi fInt (aCons (cBin dAdd (cD (.int 1)) (cCall f (aCons (cVar 0) (aCons (cVar 2) aNil)))) aNil)) (i := 3) (p := some t1) (r := [.val .pot, .val (.int most), .val (.int long), .no]) (b0 := .no) (s0 := ⟨[.val .pot, .val (.int most), .val (.int long), .no], some t⟩) (ds := rngL 0 (1 + r).toNat)
    (fun j p => ∃ t', p = some t' ∧ Pk j t') (fun x => ∃ i, x = .int i ∧ 1 ≤ i ∧ i ≤ long) (k + 1) (by simp only [cFz, at40, at41, at42, at43, at20, at21, at30, at31, at32, List.set, dMod_ev, Int.reduceMod, Int.reduceLT, Int.reduceSub, Int.reduceMul, Int.reduceToNat, Nat.reduceLT, Int.zero_add, Int.reduceLE, fAll_b, runF, cSeq, cIf, cSet, cRet, cRetN, cSkip, cCont, cBrk, cVar, cD, cBin, cUn, cBi, aNil, aCons, cTup, cLst, bT, bAnd, bOr, bNot, cAnd, cOr, cNot, cIte, cChain, cIsi, dTy, kb1, kb2, kb3, kb4, kb5, kb6, kb7, fAbs_ev, fMax_ev, fMin_ev, wipeS, Function.comp_apply, Function.comp_def, dIx, dGetAny, cPotGet, cPotSet, getP, setP, cCall, fInt, fLen, fTuple, fList, cLenV, dLt, dLe, dGt, dGe, dB2, dAdd, dSub_ev, dNeg, Nat.reduceLeDiff, cs0, cs1, cs2, cs3, cs4, cs5, cs6, cs7, cs8, cs9, cs10, cs11, cs12, Int.ofNat_eq_natCast, dEq_int, dNe_int, dEq_pair, dNe_pair, dIsN, dNotN, cPar, cPar3, cAsg, gN, gT, gsCons, gsNil, bdOf, cSl, oNone, oSome, dSl, iSeq, iRg1, iRg2, cExpr, dRev, List.map_cons, List.map_nil, List.length_cons, List.length_nil, List.cons_append, List.nil_append, List.append_nil, List.replicate, List.getElem?_cons_zero, List.getElem?_cons_succ, List.set_cons_zero, List.set_cons_succ, Option.bind_some, Option.map_some, Option.bind_none, Option.map_none, Nat.reduceAdd, Nat.reduceSub, Int.reduceAdd, Int.reduceNeg, decide_true, decide_false, Bool.not_true, Bool.not_false, if_true, if_false, Bool.false_eq_true, if_pos, reduceIte, reduceCtorEq, Option.some.injEq, Prod.mk.injEq, and_self, and_true, true_and, szOk, e, hr]) rfl rfl (fun j d p hd hj ⟨t', ep, hp'⟩ => by
      subst ep
      rw [rngL_len] at hj
      obtain ⟨r', t2, e', r0', r1', hp2⟩ := hf long t' (k + 1 + j) hp' (by omega) l0 (by omega)
      refine ⟨.int (1 + r'), false, some t2, ?_, ⟨t2, rfl, hp2⟩, 1 + r', rfl, by omega, by omega⟩
      simp only [cFz, at40, at41, at42, at43, at20, at21, at30, at31, at32, List.set, dMod_ev, Int.reduceMod, Int.reduceLT, Int.reduceSub, Int.reduceMul, Int.reduceToNat, Nat.reduceLT, Int.zero_add, Int.reduceLE, fAll_b, runF, cSeq, cIf, cSet, cRet, cRetN, cSkip, cCont, cBrk, cVar, cD, cBin, cUn, cBi, aNil, aCons, cTup, cLst, bT, bAnd, bOr, bNot, cAnd, cOr, cNot, cIte, cChain, cIsi, dTy, kb1, kb2, kb3, kb4, kb5, kb6, kb7, fAbs_ev, fMax_ev, fMin_ev, wipeS, Function.comp_apply, Function.comp_def, dIx, dGetAny, cPotGet, cPotSet, getP, setP, cCall, fInt, fLen, fTuple, fList, cLenV, dLt, dLe, dGt, dGe, dB2, dAdd, dSub_ev, dNeg, Nat.reduceLeDiff, cs0, cs1, cs2, cs3, cs4, cs5, cs6, cs7, cs8, cs9, cs10, cs11, cs12, Int.ofNat_eq_natCast, dEq_int, dNe_int, dEq_pair, dNe_pair, dIsN, dNotN, cPar, cPar3, cAsg, gN, gT, gsCons, gsNil, bdOf, cSl, oNone, oSome, dSl, iSeq, iRg1, iRg2, cExpr, dRev, List.map_cons, List.map_nil, List.length_cons, List.length_nil, List.cons_append, List.nil_append, List.append_nil, List.replicate, List.getElem?_cons_zero, List.getElem?_cons_succ, List.set_cons_zero, List.set_cons_succ, Option.bind_some, Option.map_some, Option.bind_none, Option.map_none, Nat.reduceAdd, Nat.reduceSub, Int.reduceAdd, Int.reduceNeg, decide_true, decide_false, Bool.not_true, Bool.not_false, if_true, if_false, Bool.false_eq_true, if_pos, reduceIte, reduceCtorEq, Option.some.injEq, Prod.mk.injEq, and_self, and_true, true_and, szOk, e']) ⟨t1, rfl, hp⟩ (by rw [rngL_len]; omega)
  obtain ⟨ns, rfl, hn⟩ := intsP hx
  rw [List.length_map, rngL_len] at l
  rw [rngL_len] at hj
  refine ⟨ns, t2, ?_, by omega, by omega, hn, hj.mono (by omega)⟩
  simp only [cFz, at40, at41, at42, at43, at20, at21, at30, at31, at32, List.set, dMod_ev, Int.reduceMod, Int.reduceLT, Int.reduceSub, Int.reduceMul, Int.reduceToNat, Nat.reduceLT, Int.zero_add, Int.reduceLE, fAll_b, runF, cSeq, cIf, cSet, cRet, cRetN, cSkip, cCont, cBrk, cVar, cD, cBin, cUn, cBi, aNil, aCons, cTup, cLst, bT, bAnd, bOr, bNot, cAnd, cOr, cNot, cIte, cChain, cIsi, dTy, kb1, kb2, kb3, kb4, kb5, kb6, kb7, fAbs_ev, fMax_ev, fMin_ev, wipeS, Function.comp_apply, Function.comp_def, dIx, dGetAny, cPotGet, cPotSet, getP, setP, cCall, fInt, fLen, fTuple, fList, cLenV, dLt, dLe, dGt, dGe, dB2, dAdd, dSub_ev, dNeg, Nat.reduceLeDiff, cs0, cs1, cs2, cs3, cs4, cs5, cs6, cs7, cs8, cs9, cs10, cs11, cs12, Int.ofNat_eq_natCast, dEq_int, dNe_int, dEq_pair, dNe_pair, dIsN, dNotN, cPar, cPar3, cAsg, gN, gT, gsCons, gsNil, bdOf, cSl, oNone, oSome, dSl, iSeq, iRg1, iRg2, cExpr, dRev, List.map_cons, List.map_nil, List.length_cons, List.length_nil, List.cons_append, List.nil_append, List.append_nil, List.replicate, List.getElem?_cons_zero, List.getElem?_cons_succ, List.set_cons_zero, List.set_cons_succ, Option.bind_some, Option.map_some, Option.bind_none, Option.map_none, Nat.reduceAdd, Nat.reduceSub, Int.reduceAdd, Int.reduceNeg, decide_true, decide_false, Bool.not_true, Bool.not_false, if_true, if_false, Bool.false_eq_true, if_pos, reduceIte, reduceCtorEq, Option.some.injEq, Prod.mk.injEq, and_self, and_true, true_and, szOk, rodsC, e2]
theorem rods_ev2 (hf : Take f) (h : Pk k t) (hk : k ≤ 900000000) (h0 : 0 < most) (h1 : most ≤ 1000) (l0 : 0 < long) (l1 : long ≤ 1000000) :
    ∃ (ns : List Int) (t' : Int × Int × Int), runF 4 (rodsC2 f) [.pot, .int most, .int long] (some t) = some (.tup (ns.map .int), some t') ∧ 1 ≤ ns.length ∧ (ns.length : Int) ≤ most ∧ (∀ i ∈ ns, 1 ≤ i ∧ i ≤ long) ∧ Pk (k + 1001) t' := by
  obtain ⟨r, t1, e, r0, r1, hp⟩ := hf most t k h (by omega) h0 (by omega)
  have hr : rgOk (1 + r) = true := rgOk_of (by omega) (by omega)
  obtain ⟨xs, p', e2, l, hx, t2, rfl, hj⟩ := lc_pot (it := iRg1 (aCons (cBin dAdd (cD (.int 1)) (cCall f (aCons (cVar 0) (aCons (cVar 1) aNil)))) aNil)) (te := cBin dAdd (cD (.int 1)) (cBi fInt (aCons (cCall f (aCons (cVar 0) (aCons (cVar 2) aNil))) aNil))) (i := 3) (p := some t1) (r := [.val .pot, .val (.int most), .val (.int long), .no]) (b0 := .no) (s0 := ⟨[.val .pot, .val (.int most), .val (.int long), .no], some t⟩) (ds := rngL 0 (1 + r).toNat)
    (fun j p => ∃ t', p = some t' ∧ Pk j t') (fun x => ∃ i, x = .int i ∧ 1 ≤ i ∧ i ≤ long) (k + 1) (by simp only [cFz, at40, at41, at42, at43, at20, at21, at30, at31, at32, List.set, dMod_ev, Int.reduceMod, Int.reduceLT, Int.reduceSub, Int.reduceMul, Int.reduceToNat, Nat.reduceLT, Int.zero_add, Int.reduceLE, fAll_b, runF, cSeq, cIf, cSet, cRet, cRetN, cSkip, cCont, cBrk, cVar, cD, cBin, cUn, cBi, aNil, aCons, cTup, cLst, bT, bAnd, bOr, bNot, cAnd, cOr, cNot, cIte, cChain, cIsi, dTy, kb1, kb2, kb3, kb4, kb5, kb6, kb7, fAbs_ev, fMax_ev, fMin_ev, wipeS, Function.comp_apply, Function.comp_def, dIx, dGetAny, cPotGet, cPotSet, getP, setP, cCall, fInt, fLen, fTuple, fList, cLenV, dLt, dLe, dGt, dGe, dB2, dAdd, dSub_ev, dNeg, Nat.reduceLeDiff, cs0, cs1, cs2, cs3, cs4, cs5, cs6, cs7, cs8, cs9, cs10, cs11, cs12, Int.ofNat_eq_natCast, dEq_int, dNe_int, dEq_pair, dNe_pair, dIsN, dNotN, cPar, cPar3, cAsg, gN, gT, gsCons, gsNil, bdOf, cSl, oNone, oSome, dSl, iSeq, iRg1, iRg2, cExpr, dRev, List.map_cons, List.map_nil, List.length_cons, List.length_nil, List.cons_append, List.nil_append, List.append_nil, List.replicate, List.getElem?_cons_zero, List.getElem?_cons_succ, List.set_cons_zero, List.set_cons_succ, Option.bind_some, Option.map_some, Option.bind_none, Option.map_none, Nat.reduceAdd, Nat.reduceSub, Int.reduceAdd, Int.reduceNeg, decide_true, decide_false, Bool.not_true, Bool.not_false, if_true, if_false, Bool.false_eq_true, if_pos, reduceIte, reduceCtorEq, Option.some.injEq, Prod.mk.injEq, and_self, and_true, true_and, szOk, e, hr]) rfl rfl (fun j d p hd hj ⟨t', ep, hp'⟩ => by
      subst ep
      rw [rngL_len] at hj
      obtain ⟨r', t2, e', r0', r1', hp2⟩ := hf long t' (k + 1 + j) hp' (by omega) l0 (by omega)
      refine ⟨.int (1 + r'), false, some t2, ?_, ⟨t2, rfl, hp2⟩, 1 + r', rfl, by omega, by omega⟩
      simp only [cFz, at40, at41, at42, at43, at20, at21, at30, at31, at32, List.set, dMod_ev, Int.reduceMod, Int.reduceLT, Int.reduceSub, Int.reduceMul, Int.reduceToNat, Nat.reduceLT, Int.zero_add, Int.reduceLE, fAll_b, runF, cSeq, cIf, cSet, cRet, cRetN, cSkip, cCont, cBrk, cVar, cD, cBin, cUn, cBi, aNil, aCons, cTup, cLst, bT, bAnd, bOr, bNot, cAnd, cOr, cNot, cIte, cChain, cIsi, dTy, kb1, kb2, kb3, kb4, kb5, kb6, kb7, fAbs_ev, fMax_ev, fMin_ev, wipeS, Function.comp_apply, Function.comp_def, dIx, dGetAny, cPotGet, cPotSet, getP, setP, cCall, fInt, fLen, fTuple, fList, cLenV, dLt, dLe, dGt, dGe, dB2, dAdd, dSub_ev, dNeg, Nat.reduceLeDiff, cs0, cs1, cs2, cs3, cs4, cs5, cs6, cs7, cs8, cs9, cs10, cs11, cs12, Int.ofNat_eq_natCast, dEq_int, dNe_int, dEq_pair, dNe_pair, dIsN, dNotN, cPar, cPar3, cAsg, gN, gT, gsCons, gsNil, bdOf, cSl, oNone, oSome, dSl, iSeq, iRg1, iRg2, cExpr, dRev, List.map_cons, List.map_nil, List.length_cons, List.length_nil, List.cons_append, List.nil_append, List.append_nil, List.replicate, List.getElem?_cons_zero, List.getElem?_cons_succ, List.set_cons_zero, List.set_cons_succ, Option.bind_some, Option.map_some, Option.bind_none, Option.map_none, Nat.reduceAdd, Nat.reduceSub, Int.reduceAdd, Int.reduceNeg, decide_true, decide_false, Bool.not_true, Bool.not_false, if_true, if_false, Bool.false_eq_true, if_pos, reduceIte, reduceCtorEq, Option.some.injEq, Prod.mk.injEq, and_self, and_true, true_and, szOk, e']) ⟨t1, rfl, hp⟩ (by rw [rngL_len]; omega)
  obtain ⟨ns, rfl, hn⟩ := intsP hx
  rw [List.length_map, rngL_len] at l
  rw [rngL_len] at hj
  refine ⟨ns, t2, ?_, by omega, by omega, hn, hj.mono (by omega)⟩
  simp only [cFz, at40, at41, at42, at43, at20, at21, at30, at31, at32, List.set, dMod_ev, Int.reduceMod, Int.reduceLT, Int.reduceSub, Int.reduceMul, Int.reduceToNat, Nat.reduceLT, Int.zero_add, Int.reduceLE, fAll_b, runF, cSeq, cIf, cSet, cRet, cRetN, cSkip, cCont, cBrk, cVar, cD, cBin, cUn, cBi, aNil, aCons, cTup, cLst, bT, bAnd, bOr, bNot, cAnd, cOr, cNot, cIte, cChain, cIsi, dTy, kb1, kb2, kb3, kb4, kb5, kb6, kb7, fAbs_ev, fMax_ev, fMin_ev, wipeS, Function.comp_apply, Function.comp_def, dIx, dGetAny, cPotGet, cPotSet, getP, setP, cCall, fInt, fLen, fTuple, fList, cLenV, dLt, dLe, dGt, dGe, dB2, dAdd, dSub_ev, dNeg, Nat.reduceLeDiff, cs0, cs1, cs2, cs3, cs4, cs5, cs6, cs7, cs8, cs9, cs10, cs11, cs12, Int.ofNat_eq_natCast, dEq_int, dNe_int, dEq_pair, dNe_pair, dIsN, dNotN, cPar, cPar3, cAsg, gN, gT, gsCons, gsNil, bdOf, cSl, oNone, oSome, dSl, iSeq, iRg1, iRg2, cExpr, dRev, List.map_cons, List.map_nil, List.length_cons, List.length_nil, List.cons_append, List.nil_append, List.append_nil, List.replicate, List.getElem?_cons_zero, List.getElem?_cons_succ, List.set_cons_zero, List.set_cons_succ, Option.bind_some, Option.map_some, Option.bind_none, Option.map_none, Nat.reduceAdd, Nat.reduceSub, Int.reduceAdd, Int.reduceNeg, decide_true, decide_false, Bool.not_true, Bool.not_false, if_true, if_false, Bool.false_eq_true, if_pos, reduceIte, reduceCtorEq, Option.some.injEq, Prod.mk.injEq, and_self, and_true, true_and, szOk, rodsC2, e2]
end

def someC (f : Fn) : SS :=
  (cSeq (cPar 3 4 (cBi fList (aCons (cVar 1) aNil)) (cLst aNil))
  (cSeq (cFor (iRg1 (aCons (cVar 2) aNil)) (gN 5)
  (cApp 4 (cPop 3 (cCall f (aCons (cVar 0) (aCons (cLenV 3) aNil))))))
  (cRet (cVar 4))))
theorem ixN_n {n j : Nat} (hj : j < n) : ixN n (j : Int) = some j := by
  unfold ixN
  rw [if_pos (by omega), if_pos (by omega)]; rfl
theorem perm_erase {α : Type} : ∀ {rem : List α} {j : Nat} (hl : j < rem.length), rem.Perm (rem[j] :: rem.eraseIdx j)
  | a :: r, 0, _ => .refl _
  | a :: r, j + 1, hl => ((perm_erase (rem := r) (j := j) (by simpa using hl)).cons a).trans (.swap ..)
theorem perm_pick {α : Type} {rem fnd : List α} {j : Nat} {d : α} (h : rem[j]? = some d) : (rem.eraseIdx j ++ (fnd ++ [d])).Perm (rem ++ fnd) := by
  obtain ⟨hl, rfl⟩ := List.getElem?_eq_some_iff.1 h
  have h1 : rem.Perm (rem[j] :: rem.eraseIdx j) := perm_erase hl
  have h2 : (rem.eraseIdx j ++ (fnd ++ [rem[j]])).Perm (rem[j] :: (rem.eraseIdx j ++ fnd)) := by
    rw [← List.append_assoc]
    exact List.perm_append_singleton _ _
  exact h2.trans (h1.append_right fnd).symm
/-- what is taken away one by one from what is there -/
theorem some_ev {f : Fn} (hf : Take f) {ds : List D} {t : Int × Int × Int} {k : Nat} (h : Pk k t) (hk : k ≤ 900000000) (h1 : ds.length ≤ 100000) {many : Nat} (hm : many ≤ ds.length) {x : D} (hx : x = .lst ds ∨ x = .tup ds) :
    ∃ (rem fnd : List D) (t' : Int × Int × Int), runF 6 (someC f) [.pot, x, .int many] (some t) = some (.lst fnd, some t') ∧ fnd.length = many ∧ (rem ++ fnd).Perm ds ∧ Pk (k + many) t' := by
  obtain ⟨s', e, rem, fnd, t', b, hs', l1, l2, hp, hk'⟩ := for_inv (g := gN 5) (body := (cApp 4 (cPop 3 (cCall f (aCons (cVar 0) (aCons (cLenV 3) aNil))))))
    (fun j s => ∃ (rem fnd : List D) (t' : Int × Int × Int) (b : Bd), s = ⟨[.val .pot, .val x, .val (.int many), .own (.lst rem), .own (.lst fnd), b], some t'⟩ ∧ fnd.length = j ∧ rem.length + j = ds.length ∧ (rem ++ fnd).Perm ds ∧ Pk (k + j) t')
    (rngL 0 ((many : Nat) : Int).toNat) 0 ⟨[.val .pot, .val x, .val (.int many), .own (.lst ds), .own (.lst []), .no], some t⟩ (fun j d s hd ⟨rem, fnd, t', b, es, l1, l2, hp, hk'⟩ => by
      rw [Nat.zero_add] at l1 l2 hk'
      obtain ⟨hj, rfl⟩ := rngL_get hd
      subst es
      obtain ⟨r, t2, e, r0, r1, hk2⟩ := hf rem.length t' (k + j) hk' (by omega) (by omega) (by omega)
      obtain ⟨q, rfl⟩ := Int.eq_ofNat_of_zero_le r0
      have hq : q < rem.length := by omega
      have z1 : fnd.length ≤ 16777215 := by omega
      have z2 : inR 9223372036854775807 (q : Int) = true := inR_iff.2 ⟨by omega, by omega⟩
      have z3 : rem[q]? = some rem[q] := List.getElem?_eq_getElem hq
      refine ⟨_, rfl, .nx, ⟨[.val .pot, .val x, .val (.int many), .own (.lst (rem.eraseIdx q)), .own (.lst (fnd ++ [rem[q]])), .val (.int (0 + (j : Nat)))], some t2⟩, ?_, .inl rfl, ?_⟩
      · simp only [cFz, at40, at41, at42, at43, at20, at21, at30, at31, at32, List.set, dMod_ev, Int.reduceMod, Int.reduceLT, Int.reduceSub, Int.reduceMul, Int.reduceToNat, Nat.reduceLT, Int.zero_add, Int.reduceLE, fAll_b, runF, cSeq, cIf, cSet, cRet, cRetN, cSkip, cCont, cBrk, cVar, cD, cBin, cUn, cBi, aNil, aCons, cTup, cLst, bT, bAnd, bOr, bNot, cAnd, cOr, cNot, cIte, cChain, cIsi, dTy, kb1, kb2, kb3, kb4, kb5, kb6, kb7, fAbs_ev, fMax_ev, fMin_ev, wipeS, Function.comp_apply, Function.comp_def, dIx, dGetAny, cPotGet, cPotSet, getP, setP, cCall, fInt, fLen, fTuple, fList, cLenV, dLt, dLe, dGt, dGe, dB2, dAdd, dSub_ev, dNeg, Nat.reduceLeDiff, cs0, cs1, cs2, cs3, cs4, cs5, cs6, cs7, cs8, cs9, cs10, cs11, cs12, Int.ofNat_eq_natCast, dEq_int, dNe_int, dEq_pair, dNe_pair, dIsN, dNotN, cPar, cPar3, cAsg, gN, gT, gsCons, gsNil, bdOf, cSl, oNone, oSome, dSl, iSeq, iRg1, iRg2, cExpr, dRev, List.map_cons, List.map_nil, List.length_cons, List.length_nil, List.cons_append, List.nil_append, List.append_nil, List.replicate, List.getElem?_cons_zero, List.getElem?_cons_succ, List.set_cons_zero, List.set_cons_succ, Option.bind_some, Option.map_some, Option.bind_none, Option.map_none, Nat.reduceAdd, Nat.reduceSub, Int.reduceAdd, Int.reduceNeg, decide_true, decide_false, Bool.not_true, Bool.not_false, if_true, if_false, Bool.false_eq_true, if_pos, reduceIte, reduceCtorEq, Option.some.injEq, Prod.mk.injEq, and_self, and_true, true_and, szOk, cApp, cPop, e, z1, z2, z3, ixN_n hq]
      · refine ⟨_, _, t2, _, rfl, by rw [List.length_append, l1]; simp, by rw [List.length_eraseIdx_of_lt hq]; omega, (perm_pick z3).trans hp, hk2.mono (by omega)⟩)
    ⟨ds, [], t, .no, rfl, rfl, by simp, by simp, h⟩
  rw [rngL_len, Nat.zero_add] at l1 l2 hk'
  have hmn : ((many : Nat) : Int).toNat = many := Int.toNat_natCast many
  rw [hmn] at l1 l2 hk' e
  refine ⟨rem, fnd, t', ?_, l1, hp, hk'⟩
  subst hs'
  have hr : rgOk ((many : Nat) : Int) = true := rgOk_of (by omega) (by omega)
  rcases hx with rfl | rfl
  · simp only [cFz, at40, at41, at42, at43, at20, at21, at30, at31, at32, List.set, dMod_ev, Int.reduceMod, Int.reduceLT, Int.reduceSub, Int.reduceMul, Int.reduceToNat, Nat.reduceLT, Int.zero_add, Int.reduceLE, fAll_b, runF, cSeq, cIf, cSet, cRet, cRetN, cSkip, cCont, cBrk, cVar, cD, cBin, cUn, cBi, aNil, aCons, cTup, cLst, bT, bAnd, bOr, bNot, cAnd, cOr, cNot, cIte, cChain, cIsi, dTy, kb1, kb2, kb3, kb4, kb5, kb6, kb7, fAbs_ev, fMax_ev, fMin_ev, wipeS, Function.comp_apply, Function.comp_def, dIx, dGetAny, cPotGet, cPotSet, getP, setP, cCall, fInt, fLen, fTuple, fList, cLenV, dLt, dLe, dGt, dGe, dB2, dAdd, dSub_ev, dNeg, Nat.reduceLeDiff, cs0, cs1, cs2, cs3, cs4, cs5, cs6, cs7, cs8, cs9, cs10, cs11, cs12, Int.ofNat_eq_natCast, dEq_int, dNe_int, dEq_pair, dNe_pair, dIsN, dNotN, cPar, cPar3, cAsg, gN, gT, gsCons, gsNil, bdOf, cSl, oNone, oSome, dSl, iSeq, iRg1, iRg2, cExpr, dRev, List.map_cons, List.map_nil, List.length_cons, List.length_nil, List.cons_append, List.nil_append, List.append_nil, List.replicate, List.getElem?_cons_zero, List.getElem?_cons_succ, List.set_cons_zero, List.set_cons_succ, Option.bind_some, Option.map_some, Option.bind_none, Option.map_none, Nat.reduceAdd, Nat.reduceSub, Int.reduceAdd, Int.reduceNeg, decide_true, decide_false, Bool.not_true, Bool.not_false, if_true, if_false, Bool.false_eq_true, if_pos, reduceIte, reduceCtorEq, Option.some.injEq, Prod.mk.injEq, and_self, and_true, true_and, szOk, someC, cFor, hr, hmn, e, Nat.zero_le]
  · simp only [cFz, at40, at41, at42, at43, at20, at21, at30, at31, at32, List.set, dMod_ev, Int.reduceMod, Int.reduceLT, Int.reduceSub, Int.reduceMul, Int.reduceToNat, Nat.reduceLT, Int.zero_add, Int.reduceLE, fAll_b, runF, cSeq, cIf, cSet, cRet, cRetN, cSkip, cCont, cBrk, cVar, cD, cBin, cUn, cBi, aNil, aCons, cTup, cLst, bT, bAnd, bOr, bNot, cAnd, cOr, cNot, cIte, cChain, cIsi, dTy, kb1, kb2, kb3, kb4, kb5, kb6, kb7, fAbs_ev, fMax_ev, fMin_ev, wipeS, Function.comp_apply, Function.comp_def, dIx, dGetAny, cPotGet, cPotSet, getP, setP, cCall, fInt, fLen, fTuple, fList, cLenV, dLt, dLe, dGt, dGe, dB2, dAdd, dSub_ev, dNeg, Nat.reduceLeDiff, cs0, cs1, cs2, cs3, cs4, cs5, cs6, cs7, cs8, cs9, cs10, cs11, cs12, Int.ofNat_eq_natCast, dEq_int, dNe_int, dEq_pair, dNe_pair, dIsN, dNotN, cPar, cPar3, cAsg, gN, gT, gsCons, gsNil, bdOf, cSl, oNone, oSome, dSl, iSeq, iRg1, iRg2, cExpr, dRev, List.map_cons, List.map_nil, List.length_cons, List.length_nil, List.cons_append, List.nil_append, List.append_nil, List.replicate, List.getElem?_cons_zero, List.getElem?_cons_succ, List.set_cons_zero, List.set_cons_succ, Option.bind_some, Option.map_some, Option.bind_none, Option.map_none, Nat.reduceAdd, Nat.reduceSub, Int.reduceAdd, Int.reduceNeg, decide_true, decide_false, Bool.not_true, Bool.not_false, if_true, if_false, Bool.false_eq_true, if_pos, reduceIte, reduceCtorEq, Option.some.injEq, Prod.mk.injEq, and_self, and_true, true_and, szOk, someC, cFor, hr, hmn, e, Nat.zero_le]
def cellsC : SS := (cRet (cListRg (cBi fMax (aCons (cD (.int 1)) (aCons (cBi fMin (aCons (cVar 1) (aCons (cBi fLen (aCons (cVar 0) aNil)) aNil))) aNil)))))
theorem cells_ev {ns : List Int} {m : Int} (hm : 1 ≤ m ∧ m ≤ 1000) {p : Pt} : ∃ j : Nat, j ≤ m.toNat ∧ runF 2 cellsC [.scr ns, .int m] p = some (.lst (rngL 0 j), p) := by
  refine ⟨(mx 1 (mn m ns.length)).toNat, ?_, ?_⟩
  · unfold mx mn; split <;> split <;> omega
  · have b : 0 ≤ mx 1 (mn m ns.length) ∧ mx 1 (mn m ns.length) ≤ 1000 := by unfold mx mn; split <;> split <;> omega
    have h : rgOk (mx 1 (mn m ns.length)) = true := rgOk_of b.1 (by omega)
    have h2 : Nat.ble (mx 1 (mn m ns.length)).toNat 16777216 = true := by rw [Nat.ble_eq]; omega
    simp only [cFz, at40, at41, at42, at43, at20, at21, at30, at31, at32, List.set, dMod_ev, Int.reduceMod, Int.reduceLT, Int.reduceSub, Int.reduceMul, Int.reduceToNat, Nat.reduceLT, Int.zero_add, Int.reduceLE, fAll_b, runF, cSeq, cIf, cSet, cRet, cRetN, cSkip, cCont, cBrk, cVar, cD, cBin, cUn, cBi, aNil, aCons, cTup, cLst, bT, bAnd, bOr, bNot, cAnd, cOr, cNot, cIte, cChain, cIsi, dTy, kb1, kb2, kb3, kb4, kb5, kb6, kb7, fAbs_ev, fMax_ev, fMin_ev, wipeS, Function.comp_apply, Function.comp_def, dIx, dGetAny, cPotGet, cPotSet, getP, setP, cCall, fInt, fLen, fTuple, fList, cLenV, dLt, dLe, dGt, dGe, dB2, dAdd, dSub_ev, dNeg, Nat.reduceLeDiff, cs0, cs1, cs2, cs3, cs4, cs5, cs6, cs7, cs8, cs9, cs10, cs11, cs12, Int.ofNat_eq_natCast, dEq_int, dNe_int, dEq_pair, dNe_pair, dIsN, dNotN, cPar, cPar3, cAsg, gN, gT, gsCons, gsNil, bdOf, cSl, oNone, oSome, dSl, iSeq, iRg1, iRg2, cExpr, dRev, List.map_cons, List.map_nil, List.length_cons, List.length_nil, List.cons_append, List.nil_append, List.append_nil, List.replicate, List.getElem?_cons_zero, List.getElem?_cons_succ, List.set_cons_zero, List.set_cons_succ, Option.bind_some, Option.map_some, Option.bind_none, Option.map_none, Nat.reduceAdd, Nat.reduceSub, Int.reduceAdd, Int.reduceNeg, decide_true, decide_false, Bool.not_true, Bool.not_false, if_true, if_false, Bool.false_eq_true, if_pos, reduceIte, reduceCtorEq, Option.some.injEq, Prod.mk.injEq, and_self, and_true, true_and, szOk, cellsC, fLen_scr, cListRg, h, h2, Bool.and_self]
def lawC (fc : Fn) (fp : PotFn) (fr : Fn) (m : Int) : SS :=
  (cRet (cBi fAll (aCons (cLC (iSeq (cCall fc (aCons (cVar 0) (aCons (cD (.int m)) aNil)))) (gN 1) bYes (cPotCall fp fr (aCons (cVar 0) (aCons (cVar 1) aNil))) [1]) aNil)))
theorem law_ev {fp : PotFn} {fr : Fn} {m : Int} (hm : 1 ≤ m ∧ m ≤ 5) {ns : List Int} (hp : ∀ place : Int, 0 ≤ place → place ≤ 10 → ∃ t, fp [.scr ns, .int place] = some t ∧ Pk 0 t) (hr : ∀ t, Pk 0 t → ∃ t', fr [.pot] (some t) = some (.bl true, some t')) :
    ∃ p', runF 2 (lawC (runF 2 cellsC) fp fr m) [.scr ns] none = some (.bl true, p') := by
  obtain ⟨j, hj, e⟩ := cells_ev (ns := ns) (m := m) ⟨hm.1, by omega⟩ (p := none)
  have e2 := lc_map (it := iSeq (cCall (runF 2 cellsC) (aCons (cVar 0) (aCons (cD (.int m)) aNil)))) (te := cPotCall fp fr (aCons (cVar 0) (aCons (cVar 1) aNil))) (i := 1) (p := none) (r := [.val (.scr ns), .no]) (b0 := .no) (s0 := ⟨[.val (.scr ns), .no], none⟩) (ds := rngL 0 j) (φ := fun _ => .bl true) (by
    unfold iSeq cCall aCons aNil cVar cD
    simp only [List.getElem?_cons_zero, Option.bind_some, Option.map_some, e]) rfl rfl (fun d hd => by
      obtain ⟨i, hi⟩ := List.getElem?_of_mem hd
      obtain ⟨hj2, rfl⟩ := rngL_get hi
      obtain ⟨t, et, hk⟩ := hp (0 + (i : Nat)) (by omega) (by omega)
      obtain ⟨t', er⟩ := hr t hk
      rw [Int.zero_add] at et
      refine ⟨false, ?_⟩
      simp only [cFz, at40, at41, at42, at43, at20, at21, at30, at31, at32, List.set, dMod_ev, Int.reduceMod, Int.reduceLT, Int.reduceSub, Int.reduceMul, Int.reduceToNat, Nat.reduceLT, Int.zero_add, Int.reduceLE, fAll_b, runF, cSeq, cIf, cSet, cRet, cRetN, cSkip, cCont, cBrk, cVar, cD, cBin, cUn, cBi, aNil, aCons, cTup, cLst, bT, bAnd, bOr, bNot, cAnd, cOr, cNot, cIte, cChain, cIsi, dTy, kb1, kb2, kb3, kb4, kb5, kb6, kb7, fAbs_ev, fMax_ev, fMin_ev, wipeS, Function.comp_apply, Function.comp_def, dIx, dGetAny, cPotGet, cPotSet, getP, setP, cCall, fInt, fLen, fTuple, fList, cLenV, dLt, dLe, dGt, dGe, dB2, dAdd, dSub_ev, dNeg, Nat.reduceLeDiff, cs0, cs1, cs2, cs3, cs4, cs5, cs6, cs7, cs8, cs9, cs10, cs11, cs12, Int.ofNat_eq_natCast, dEq_int, dNe_int, dEq_pair, dNe_pair, dIsN, dNotN, cPar, cPar3, cAsg, gN, gT, gsCons, gsNil, bdOf, cSl, oNone, oSome, dSl, iSeq, iRg1, iRg2, cExpr, dRev, List.map_cons, List.map_nil, List.length_cons, List.length_nil, List.cons_append, List.nil_append, List.append_nil, List.replicate, List.getElem?_cons_zero, List.getElem?_cons_succ, List.set_cons_zero, List.set_cons_succ, Option.bind_some, Option.map_some, Option.bind_none, Option.map_none, Nat.reduceAdd, Nat.reduceSub, Int.reduceAdd, Int.reduceNeg, decide_true, decide_false, Bool.not_true, Bool.not_false, if_true, if_false, Bool.false_eq_true, if_pos, reduceIte, reduceCtorEq, Option.some.injEq, Prod.mk.injEq, and_self, and_true, true_and, szOk, cPotCall, et, er]) (by rw [rngL_len]; omega)
  have e3 : (rngL 0 j).map (fun _ => D.bl true) = ((List.range j).map fun _ => true).map D.bl := by simp [rngL]
  rw [e3] at e2
  refine ⟨none, ?_⟩
  have e4 := e2
  generalize hL : (cLC (iSeq (cCall (runF 2 cellsC) (aCons (cVar 0) (aCons (cD (.int m)) aNil)))) (gN 1) bYes (cPotCall fp fr (aCons (cVar 0) (aCons (cVar 1) aNil))) [1]) = L at e4
  have : runF 2 (cRet (cBi fAll (aCons L aNil))) [.scr ns] none = some (.bl (((List.range j).map fun _ => true).all id), none) := by
    simp only [cFz, at40, at41, at42, at43, at20, at21, at30, at31, at32, List.set, dMod_ev, Int.reduceMod, Int.reduceLT, Int.reduceSub, Int.reduceMul, Int.reduceToNat, Nat.reduceLT, Int.zero_add, Int.reduceLE, fAll_b, runF, cSeq, cIf, cSet, cRet, cRetN, cSkip, cCont, cBrk, cVar, cD, cBin, cUn, cBi, aNil, aCons, cTup, cLst, bT, bAnd, bOr, bNot, cAnd, cOr, cNot, cIte, cChain, cIsi, dTy, kb1, kb2, kb3, kb4, kb5, kb6, kb7, fAbs_ev, fMax_ev, fMin_ev, wipeS, Function.comp_apply, Function.comp_def, dIx, dGetAny, cPotGet, cPotSet, getP, setP, cCall, fInt, fLen, fTuple, fList, cLenV, dLt, dLe, dGt, dGe, dB2, dAdd, dSub_ev, dNeg, Nat.reduceLeDiff, cs0, cs1, cs2, cs3, cs4, cs5, cs6, cs7, cs8, cs9, cs10, cs11, cs12, Int.ofNat_eq_natCast, dEq_int, dNe_int, dEq_pair, dNe_pair, dIsN, dNotN, cPar, cPar3, cAsg, gN, gT, gsCons, gsNil, bdOf, cSl, oNone, oSome, dSl, iSeq, iRg1, iRg2, cExpr, dRev, List.map_cons, List.map_nil, List.length_cons, List.length_nil, List.cons_append, List.nil_append, List.append_nil, List.replicate, List.getElem?_cons_zero, List.getElem?_cons_succ, List.set_cons_zero, List.set_cons_succ, Option.bind_some, Option.map_some, Option.bind_none, Option.map_none, Nat.reduceAdd, Nat.reduceSub, Int.reduceAdd, Int.reduceNeg, decide_true, decide_false, Bool.not_true, Bool.not_false, if_true, if_false, Bool.false_eq_true, if_pos, reduceIte, reduceCtorEq, Option.some.injEq, Prod.mk.injEq, and_self, and_true, true_and, szOk, e4, fAll_b]
  unfold lawC
  rw [hL, this]
  simp
def poseC (f : Fn) : SS := (cRet (cBi fTuple (aCons (cLC (iSeq (cVar 1)) (gN 2) bYes (cBi fInt (aCons (cCall f (aCons (cVar 0) (aCons (cD (.int 4)) aNil))) aNil)) [2]) aNil)))
def poseC2 (f : Fn) : SS := (cRet (cBi fTuple (aCons (cLC (iRg1 (aCons (cVar 1) aNil)) (gN 2) bYes (cBi fInt (aCons (cCall f (aCons (cVar 0) (aCons (cD (.int 4)) aNil))) aNil)) [2]) aNil)))
/-- as many quarters as things are there -/
theorem pose_ev {f : Fn} (hf : Take f) {ds : List D} {t : Int × Int × Int} {k : Nat} (h : Pk k t) (hk : k ≤ 900000000) (h1 : ds.length ≤ 100000) {x : D} (hx : x = .lst ds ∨ x = .tup ds) :
    ∃ (ns : List Int) (t' : Int × Int × Int), runF 3 (poseC f) [.pot, x] (some t) = some (.tup (ns.map .int), some t') ∧ ns.length = ds.length ∧ (∀ i ∈ ns, 0 ≤ i ∧ i ≤ 3) ∧ Pk (k + ds.length) t' := by
  obtain ⟨xs, p', e2, l, hx2, t2, rfl, hj⟩ := lc_pot (it := iSeq (cVar 1)) (te := cBi fInt (aCons (cCall f (aCons (cVar 0) (aCons (cD (.int 4)) aNil))) aNil)) (i := 2) (p := some t) (r := [.val .pot, .val x, .no]) (b0 := .no) (s0 := ⟨[.val .pot, .val x, .no], some t⟩) (ds := ds)
    (fun j p => ∃ t', p = some t' ∧ Pk j t') (fun x => ∃ i, x = .int i ∧ 0 ≤ i ∧ i ≤ 3) k (by rcases hx with rfl | rfl <;> rfl) rfl rfl (fun j d p hd hj ⟨t', ep, hp'⟩ => by
      subst ep
      obtain ⟨r', t2, e', r0', r1', hp2⟩ := hf 4 t' (k + j) hp' (by omega) (by omega) (by omega)
      refine ⟨.int r', false, some t2, ?_, ⟨t2, rfl, hp2⟩, r', rfl, by omega, by omega⟩
      simp only [cFz, at40, at41, at42, at43, at20, at21, at30, at31, at32, List.set, dMod_ev, Int.reduceMod, Int.reduceLT, Int.reduceSub, Int.reduceMul, Int.reduceToNat, Nat.reduceLT, Int.zero_add, Int.reduceLE, fAll_b, runF, cSeq, cIf, cSet, cRet, cRetN, cSkip, cCont, cBrk, cVar, cD, cBin, cUn, cBi, aNil, aCons, cTup, cLst, bT, bAnd, bOr, bNot, cAnd, cOr, cNot, cIte, cChain, cIsi, dTy, kb1, kb2, kb3, kb4, kb5, kb6, kb7, fAbs_ev, fMax_ev, fMin_ev, wipeS, Function.comp_apply, Function.comp_def, dIx, dGetAny, cPotGet, cPotSet, getP, setP, cCall, fInt, fLen, fTuple, fList, cLenV, dLt, dLe, dGt, dGe, dB2, dAdd, dSub_ev, dNeg, Nat.reduceLeDiff, cs0, cs1, cs2, cs3, cs4, cs5, cs6, cs7, cs8, cs9, cs10, cs11, cs12, Int.ofNat_eq_natCast, dEq_int, dNe_int, dEq_pair, dNe_pair, dIsN, dNotN, cPar, cPar3, cAsg, gN, gT, gsCons, gsNil, bdOf, cSl, oNone, oSome, dSl, iSeq, iRg1, iRg2, cExpr, dRev, List.map_cons, List.map_nil, List.length_cons, List.length_nil, List.cons_append, List.nil_append, List.append_nil, List.replicate, List.getElem?_cons_zero, List.getElem?_cons_succ, List.set_cons_zero, List.set_cons_succ, Option.bind_some, Option.map_some, Option.bind_none, Option.map_none, Nat.reduceAdd, Nat.reduceSub, Int.reduceAdd, Int.reduceNeg, decide_true, decide_false, Bool.not_true, Bool.not_false, if_true, if_false, Bool.false_eq_true, if_pos, reduceIte, reduceCtorEq, Option.some.injEq, Prod.mk.injEq, and_self, and_true, true_and, szOk, e']) ⟨t, rfl, h⟩ (by omega)
  obtain ⟨ns, rfl, hn⟩ := intsP hx2
  rw [List.length_map] at l
  refine ⟨ns, t2, ?_, l, hn, hj⟩
  simp only [cFz, at40, at41, at42, at43, at20, at21, at30, at31, at32, List.set, dMod_ev, Int.reduceMod, Int.reduceLT, Int.reduceSub, Int.reduceMul, Int.reduceToNat, Nat.reduceLT, Int.zero_add, Int.reduceLE, fAll_b, runF, cSeq, cIf, cSet, cRet, cRetN, cSkip, cCont, cBrk, cVar, cD, cBin, cUn, cBi, aNil, aCons, cTup, cLst, bT, bAnd, bOr, bNot, cAnd, cOr, cNot, cIte, cChain, cIsi, dTy, kb1, kb2, kb3, kb4, kb5, kb6, kb7, fAbs_ev, fMax_ev, fMin_ev, wipeS, Function.comp_apply, Function.comp_def, dIx, dGetAny, cPotGet, cPotSet, getP, setP, cCall, fInt, fLen, fTuple, fList, cLenV, dLt, dLe, dGt, dGe, dB2, dAdd, dSub_ev, dNeg, Nat.reduceLeDiff, cs0, cs1, cs2, cs3, cs4, cs5, cs6, cs7, cs8, cs9, cs10, cs11, cs12, Int.ofNat_eq_natCast, dEq_int, dNe_int, dEq_pair, dNe_pair, dIsN, dNotN, cPar, cPar3, cAsg, gN, gT, gsCons, gsNil, bdOf, cSl, oNone, oSome, dSl, iSeq, iRg1, iRg2, cExpr, dRev, List.map_cons, List.map_nil, List.length_cons, List.length_nil, List.cons_append, List.nil_append, List.append_nil, List.replicate, List.getElem?_cons_zero, List.getElem?_cons_succ, List.set_cons_zero, List.set_cons_succ, Option.bind_some, Option.map_some, Option.bind_none, Option.map_none, Nat.reduceAdd, Nat.reduceSub, Int.reduceAdd, Int.reduceNeg, decide_true, decide_false, Bool.not_true, Bool.not_false, if_true, if_false, Bool.false_eq_true, if_pos, reduceIte, reduceCtorEq, Option.some.injEq, Prod.mk.injEq, and_self, and_true, true_and, szOk, poseC, e2]
theorem pose_ev2 {f : Fn} (hf : Take f) {n : Nat} {t : Int × Int × Int} {k : Nat} (h : Pk k t) (hk : k ≤ 900000000) (h1 : n ≤ 100000) :
    ∃ (ns : List Int) (t' : Int × Int × Int), runF 3 (poseC2 f) [.pot, .int n] (some t) = some (.tup (ns.map .int), some t') ∧ ns.length = n ∧ (∀ i ∈ ns, 0 ≤ i ∧ i ≤ 3) ∧ Pk (k + n) t' := by
  have hmn : ((n : Nat) : Int).toNat = n := Int.toNat_natCast n
  have hr : rgOk ((n : Nat) : Int) = true := rgOk_of (by omega) (by omega)
  obtain ⟨xs, p', e2, l, hx2, t2, rfl, hj⟩ := lc_pot (it := iRg1 (aCons (cVar 1) aNil)) (te := cBi fInt (aCons (cCall f (aCons (cVar 0) (aCons (cD (.int 4)) aNil))) aNil)) (i := 2) (p := some t) (r := [.val .pot, .val (.int n), .no]) (b0 := .no) (s0 := ⟨[.val .pot, .val (.int n), .no], some t⟩) (ds := rngL 0 n)
    (fun j p => ∃ t', p = some t' ∧ Pk j t') (fun x => ∃ i, x = .int i ∧ 0 ≤ i ∧ i ≤ 3) k (by simp only [cFz, at40, at41, at42, at43, at20, at21, at30, at31, at32, List.set, dMod_ev, Int.reduceMod, Int.reduceLT, Int.reduceSub, Int.reduceMul, Int.reduceToNat, Nat.reduceLT, Int.zero_add, Int.reduceLE, fAll_b, runF, cSeq, cIf, cSet, cRet, cRetN, cSkip, cCont, cBrk, cVar, cD, cBin, cUn, cBi, aNil, aCons, cTup, cLst, bT, bAnd, bOr, bNot, cAnd, cOr, cNot, cIte, cChain, cIsi, dTy, kb1, kb2, kb3, kb4, kb5, kb6, kb7, fAbs_ev, fMax_ev, fMin_ev, wipeS, Function.comp_apply, Function.comp_def, dIx, dGetAny, cPotGet, cPotSet, getP, setP, cCall, fInt, fLen, fTuple, fList, cLenV, dLt, dLe, dGt, dGe, dB2, dAdd, dSub_ev, dNeg, Nat.reduceLeDiff, cs0, cs1, cs2, cs3, cs4, cs5, cs6, cs7, cs8, cs9, cs10, cs11, cs12, Int.ofNat_eq_natCast, dEq_int, dNe_int, dEq_pair, dNe_pair, dIsN, dNotN, cPar, cPar3, cAsg, gN, gT, gsCons, gsNil, bdOf, cSl, oNone, oSome, dSl, iSeq, iRg1, iRg2, cExpr, dRev, List.map_cons, List.map_nil, List.length_cons, List.length_nil, List.cons_append, List.nil_append, List.append_nil, List.replicate, List.getElem?_cons_zero, List.getElem?_cons_succ, List.set_cons_zero, List.set_cons_succ, Option.bind_some, Option.map_some, Option.bind_none, Option.map_none, Nat.reduceAdd, Nat.reduceSub, Int.reduceAdd, Int.reduceNeg, decide_true, decide_false, Bool.not_true, Bool.not_false, if_true, if_false, Bool.false_eq_true, if_pos, reduceIte, reduceCtorEq, Option.some.injEq, Prod.mk.injEq, and_self, and_true, true_and, szOk, hr, hmn]) rfl rfl (fun j d p hd hj ⟨t', ep, hp'⟩ => by
      subst ep
      rw [rngL_len] at hj
      obtain ⟨r', t2, e', r0', r1', hp2⟩ := hf 4 t' (k + j) hp' (by omega) (by omega) (by omega)
      refine ⟨.int r', false, some t2, ?_, ⟨t2, rfl, hp2⟩, r', rfl, by omega, by omega⟩
      simp only [cFz, at40, at41, at42, at43, at20, at21, at30, at31, at32, List.set, dMod_ev, Int.reduceMod, Int.reduceLT, Int.reduceSub, Int.reduceMul, Int.reduceToNat, Nat.reduceLT, Int.zero_add, Int.reduceLE, fAll_b, runF, cSeq, cIf, cSet, cRet, cRetN, cSkip, cCont, cBrk, cVar, cD, cBin, cUn, cBi, aNil, aCons, cTup, cLst, bT, bAnd, bOr, bNot, cAnd, cOr, cNot, cIte, cChain, cIsi, dTy, kb1, kb2, kb3, kb4, kb5, kb6, kb7, fAbs_ev, fMax_ev, fMin_ev, wipeS, Function.comp_apply, Function.comp_def, dIx, dGetAny, cPotGet, cPotSet, getP, setP, cCall, fInt, fLen, fTuple, fList, cLenV, dLt, dLe, dGt, dGe, dB2, dAdd, dSub_ev, dNeg, Nat.reduceLeDiff, cs0, cs1, cs2, cs3, cs4, cs5, cs6, cs7, cs8, cs9, cs10, cs11, cs12, Int.ofNat_eq_natCast, dEq_int, dNe_int, dEq_pair, dNe_pair, dIsN, dNotN, cPar, cPar3, cAsg, gN, gT, gsCons, gsNil, bdOf, cSl, oNone, oSome, dSl, iSeq, iRg1, iRg2, cExpr, dRev, List.map_cons, List.map_nil, List.length_cons, List.length_nil, List.cons_append, List.nil_append, List.append_nil, List.replicate, List.getElem?_cons_zero, List.getElem?_cons_succ, List.set_cons_zero, List.set_cons_succ, Option.bind_some, Option.map_some, Option.bind_none, Option.map_none, Nat.reduceAdd, Nat.reduceSub, Int.reduceAdd, Int.reduceNeg, decide_true, decide_false, Bool.not_true, Bool.not_false, if_true, if_false, Bool.false_eq_true, if_pos, reduceIte, reduceCtorEq, Option.some.injEq, Prod.mk.injEq, and_self, and_true, true_and, szOk, e']) ⟨t, rfl, h⟩ (by rw [rngL_len]; omega)
  obtain ⟨ns, rfl, hn⟩ := intsP hx2
  rw [List.length_map, rngL_len] at l
  rw [rngL_len] at hj
  refine ⟨ns, t2, ?_, l, hn, hj⟩
  simp only [cFz, at40, at41, at42, at43, at20, at21, at30, at31, at32, List.set, dMod_ev, Int.reduceMod, Int.reduceLT, Int.reduceSub, Int.reduceMul, Int.reduceToNat, Nat.reduceLT, Int.zero_add, Int.reduceLE, fAll_b, runF, cSeq, cIf, cSet, cRet, cRetN, cSkip, cCont, cBrk, cVar, cD, cBin, cUn, cBi, aNil, aCons, cTup, cLst, bT, bAnd, bOr, bNot, cAnd, cOr, cNot, cIte, cChain, cIsi, dTy, kb1, kb2, kb3, kb4, kb5, kb6, kb7, fAbs_ev, fMax_ev, fMin_ev, wipeS, Function.comp_apply, Function.comp_def, dIx, dGetAny, cPotGet, cPotSet, getP, setP, cCall, fInt, fLen, fTuple, fList, cLenV, dLt, dLe, dGt, dGe, dB2, dAdd, dSub_ev, dNeg, Nat.reduceLeDiff, cs0, cs1, cs2, cs3, cs4, cs5, cs6, cs7, cs8, cs9, cs10, cs11, cs12, Int.ofNat_eq_natCast, dEq_int, dNe_int, dEq_pair, dNe_pair, dIsN, dNotN, cPar, cPar3, cAsg, gN, gT, gsCons, gsNil, bdOf, cSl, oNone, oSome, dSl, iSeq, iRg1, iRg2, cExpr, dRev, List.map_cons, List.map_nil, List.length_cons, List.length_nil, List.cons_append, List.nil_append, List.append_nil, List.replicate, List.getElem?_cons_zero, List.getElem?_cons_succ, List.set_cons_zero, List.set_cons_succ, Option.bind_some, Option.map_some, Option.bind_none, Option.map_none, Nat.reduceAdd, Nat.reduceSub, Int.reduceAdd, Int.reduceNeg, decide_true, decide_false, Bool.not_true, Bool.not_false, if_true, if_false, Bool.false_eq_true, if_pos, reduceIte, reduceCtorEq, Option.some.injEq, Prod.mk.injEq, and_self, and_true, true_and, szOk, poseC2, e2]
end Rb

namespace Rb
open PySem PySem.Spec PyProof.Rows L2
/-! ### zip of lists and tuples, also one of each -/
/-- a list (false) or a tuple (true) -/
def SqB (b : Bool) (K : PySem.W.Frag) (H : Hp) (a : Addr) (xs : List V) : Prop := match b with
  | false => SqL K H a xs
  | true => SqT K H a xs
def IsIt (b : Bool) (h : Heap) (it l : Addr) (i : Nat) : Prop := match b with
  | false => h.IsListIter it l i
  | true => h.IsTupleIter it l i
def IsSq (b : Bool) (h : Heap) (l : Addr) (items : Array Value) : Prop := match b with
  | false => h.IsList l items
  | true => h.IsTuple l items
section
variable {b : Bool} {h h' : Heap} {it l : Addr} {i : Nat}
theorem IsIt.ob (x : IsIt b h it l i) : ∃ o, h.get? it = some o ∧ ∀ v, o.data ≠ .cell v := by
  cases b with
  | false => obtain ⟨o, e, _, d⟩ := x; exact ⟨o, e, fun v q => by rw [d] at q; cases q⟩
  | true => obtain ⟨o, e, _, d⟩ := x; exact ⟨o, e, fun v q => by rw [d] at q; cases q⟩
theorem IsIt.to (x : IsIt b h it l i) (k : ∀ o, h.get? it = some o → h'.get? it = some o) : IsIt b h' it l i := by
  cases b with
  | false => exact Heap.IsListIter.at x k
  | true => exact Heap.IsTupleIter.at x k
end
theorem drawsB {prog : Program} {w : World} {A : Around} (hh : A.handled = none) (b : Bool) (it l : Addr) (hne : l ≠ it) (items : Array Value) : Draws prog w A it [it, l] items.size (fun i v => items[i]? = some v) (fun i h => IsIt b h it l i ∧ IsSq b h l items) := by
  cases b with
  | false => exact Draws.list hh it l hne items
  | true => exact Draws.tuple hh it l hne items
/-- how an iterator over it begins -/
def itOb (b : Bool) (l : Addr) : Obj := match b with
  | false => { cls := .type "list_iterator", data := .fields #[.ref l, .int 0 0] }
  | true => { cls := .type "tuple_iterator", data := .fields #[.ref l, .int 0 0] }
theorem beginsB (b : Bool) (l : Addr) (items : Array Value) : Begins (.ref l) (itOb b l) fun h => IsSq b h l items := by
  cases b with
  | false => exact begins_list l items
  | true => exact begins_tuple l items
theorem itOb_is {b : Bool} {h : Heap} {it l : Addr} (e : h.get? it = some (itOb b l)) : IsIt b h it l 0 := by
  cases b with
  | false => exact ⟨_, e, rfl, rfl⟩
  | true => exact ⟨_, e, rfl, rfl⟩
section
variable {X : Cx} {pins : List (Addr × Obj)} {σ : L2.St} {H : Hp} {s : Shared} {a : Addr} {xs ys : List V} {b : Bool}
theorem inv_sq (I : Inv X pins σ H s) (h : SqB b X.K H a xs) : ∃ its : List Value, Vals xs its ∧ IsSq b s.heap a its.toArray := by
  cases b with
  | false => obtain ⟨its, r, p, _⟩ := I.list h; exact ⟨its, r, p.isList⟩
  | true => obtain ⟨its, r, p, _⟩ := I.tuple h; exact ⟨its, r, p⟩
theorem inv_sq_inj (I : Inv X pins σ H s) (h : SqB b X.K H a xs) (h' : SqB b X.K H a ys) : xs = ys := by
  cases b with
  | false => exact I.list_inj h h'
  | true => exact I.tuple_inj h h'
theorem isSq_lt {h : Heap} {l : Addr} {items : Array Value} (x : IsSq b h l items) : l < h.objs.size := by
  cases b with
  | false => obtain ⟨_, e, _⟩ := x; exact Heap.lt_size e
  | true => obtain ⟨_, e, _⟩ := x; exact Heap.lt_size e
end
/-- both as they stand at each turn, the items in new pairs -/
def ItzM (K : PySem.W.Frag) (b1 b2 : Bool) (a b : Addr) : It :=
  ⟨fun i H => ∃ (xs ys : List V) (x y : V), SqB b1 K H a xs ∧ SqB b2 K H b ys ∧ xs[i]? = some x ∧ ys[i]? = some y,
    fun i H v H' => ∃ T x y, v = .ref T ∧ H T = none ∧ H' = upd H T (.tup [x, y]) ∧ (∀ xs, SqB b1 K H a xs → xs[i]? = some x) ∧ ∀ ys, SqB b2 K H b ys → ys[i]? = some y,
    fun i H => ∃ xs ys : List V, SqB b1 K H a xs ∧ SqB b2 K H b ys ∧ i ≤ xs.length ∧ i ≤ ys.length ∧ (i = xs.length ∨ i = ys.length)⟩
theorem turn_zipM {P : Program} {w : World} {K : PySem.W.Frag} {elts : List Expr} {kk : Nat} {tpos : Pos} {a b z TI TO i1 i2 : Addr} {b1 b2 : Bool} (S : ZipSep2 z TI TO i1 i2 [i1, a] [i2, b]) (ha : a ≠ i1) (hb : b ≠ i2) (h12 : i1 ≠ i2) :
    Turn P w K (.Tuple elts kk tpos) (ItzM K b1 b2 a b) [z, TI, TO, i1, i2] z (fun i h => IsZip h z TI TO .none ∧ IsTupOf2 h TI (.ref i1) (.ref i2) ∧ (∃ x y, IsTupOf2 h TO x y) ∧ IsIt b1 h i1 a i ∧ IsIt b2 h i2 b i) where
  mem := List.mem_cons_self ..
  obj := fun i h ⟨hz, hTI, ⟨x, y, hTO⟩, h1, h2⟩ c hc => by
    simp only [List.mem_cons, List.not_mem_nil, or_false] at hc
    rcases hc with rfl | rfl | rfl | rfl | rfl
    · exact ⟨_, hz, fun v q => nomatch q⟩
    · exact ⟨_, hTI, fun v q => nomatch q⟩
    · exact ⟨_, hTO, fun v q => nomatch q⟩
    · exact h1.ob
    · exact h2.ob
  keep := fun i h h' ⟨hz, hTI, ⟨x, y, hTO⟩, h1, h2⟩ k => ⟨k z (by simp) _ hz, k TI (by simp) _ hTI, ⟨x, y, k TO (by simp) _ hTO⟩, h1.to fun o q => k i1 (by simp) o q, h2.to fun o q => k i2 (by simp) o q⟩
  item := by
    rintro X rfl rfl rfl hc i pins s σ H E I hf ⟨hz, hTI, ⟨x0, y0, hTO⟩, h1, h2⟩ ⟨xs, ys, x, y, hqx, hqy, hx, hy⟩
    have hh : X.A.in1.handled = none := I.ok.hd hc
    obtain ⟨its1, rv1, p1⟩ := inv_sq I hqx
    obtain ⟨its2, rv2, p2⟩ := inv_sq I hqy
    obtain ⟨u1, hu1, ru1⟩ := rv1.get hx
    obtain ⟨u2, hu2, ru2⟩ := rv2.get hy
    have hzl : z < s.heap.objs.size := Heap.lt_size hz
    have l1 : i < its1.toArray.size := by simpa using (List.getElem?_eq_some_iff.1 hu1).1
    have l2 : i < its2.toArray.size := by simpa using (List.getElem?_eq_some_iff.1 hu2).1
    refine wpAny_pyNext_zipD2_item S (drawsB hh b1 i1 a ha its1.toArray) (drawsB hh b2 i2 b hb its2.toArray) hz hTI hTO ⟨h1, p1⟩ ⟨h2, p2⟩ l1 l2 fun v1 v2 h' tk g1 g2 z' TO' t1 t2 hT hsz hk => ?_
    obtain rfl : u1 = v1 := by
      have : its1[i]? = some v1 := by simpa using g1
      rw [hu1] at this; exact Option.some.inj this
    obtain rfl : u2 = v2 := by
      have : its2[i]? = some v2 := by simpa using g2
      rw [hu2] at this; exact Option.some.inj this
    refine ⟨_, rfl, wpAny_letOwnedTupleGo_zip (s := { s with heap := h', toks := tk }) z' fun h'' z'' sb => ?_⟩
    have hT2 : h''.get? s.heap.objs.size = some { cls := .type "tuple", data := .seq #[u1, u2] } := (sb.2 _ (Nat.ne_of_gt hzl)).trans hT
    have new : ObjOk X.prog X.w (upd H s.heap.objs.size (.tup [x, y])) h'' s.heap.objs.size (.tup [x, y]) :=
      ⟨by show 2 ≤ sizeLine; decide, [u1, u2], .cons ru1 (.cons ru2 .nil), ⟨_, hT2, rfl, _, rfl⟩⟩
    have I1 : Inv X pins σ (upd H s.heap.objs.size (.tup [x, y])) { s with heap := h'', toks := tk } :=
      I.turnedNew (ch := [z, TI, TO, i1, i2]) (fun c o hb q => (sb.2 c fun e => hb (by simp [e])).trans (hk c o (fun e => hb (by simp [e])) (fun e => hb (by simp [e])) (fun e => hb (by simp [e])) (fun e => hb (by simp [e])) q)) hf (Nat.le_refl _) new
    refine ⟨.ref s.heap.objs.size, _, I1, rfl, ⟨_, x, y, rfl, I.hok.fresh (Nat.le_refl _), rfl, fun l hl => by rw [inv_sq_inj I hl hqx]; exact hx, fun l hl => by rw [inv_sq_inj I hl hqy]; exact hy⟩, ⟨z'', ?_, ⟨u1, u2, (sb.2 _ S.TOz).trans TO'⟩, t1.1.to fun o q => (sb.2 _ (Ne.symm S.zi1)).trans q, t2.1.to fun o q => (sb.2 _ (Ne.symm S.zi2)).trans q⟩, fun c hcm => ?_⟩
    · exact (sb.2 _ S.TIz).trans (hk _ _ S.TIz S.TITO S.TIi1 S.TIi2 hTI)
    · obtain ⟨o, ho⟩ : ∃ o, s.heap.get? c = some o := by
        simp only [List.mem_cons, List.not_mem_nil, or_false] at hcm
        rcases hcm with rfl | rfl | rfl | rfl | rfl
        · exact ⟨_, hz⟩
        · exact ⟨_, hTI⟩
        · exact ⟨_, hTO⟩
        · obtain ⟨o, e, _⟩ := h1.ob; exact ⟨o, e⟩
        · obtain ⟨o, e, _⟩ := h2.ob; exact ⟨o, e⟩
      rw [upd_ne (Nat.ne_of_lt (Heap.lt_size ho))]
      exact (hf c hcm).1
  done := by
    rintro X rfl rfl rfl hc i pins s σ H E I hf ⟨hz, hTI, ⟨x0, y0, hTO⟩, h1, h2⟩ ⟨xs, ys, hqx, hqy, e1, e2, he⟩
    have hh : X.A.in1.handled = none := I.ok.hd hc
    obtain ⟨its1, rv1, p1⟩ := inv_sq I hqx
    obtain ⟨its2, rv2, p2⟩ := inv_sq I hqy
    have l1 := rv1.length
    have l2 := rv2.length
    refine wpAny_pyNext_zipD2_end S (drawsB hh b1 i1 a ha its1.toArray) (drawsB hh b2 i2 b hb its2.toArray) hz hTI hTO ⟨h1, p1⟩ ⟨h2, p2⟩ (by simp; omega) (by simp; omega) (by simp; omega) fun h' tk hk => ⟨rfl, ?_⟩
    exact I.turnedL (t' := tk) (ch := [z, TI, TO, i1, i2]) (fun c o hb q => hk c o (fun e => hb (by simp [e])) (fun e => hb (by simp [e])) (fun e => hb (by simp [e])) (fun e => hb (by simp [e])) q) hf
  self := fun A i s Q E st h => wpAny_pyIter_zip st.1 h
theorem vals_cons {x : V} {xs : List V} {us : List Value} (r : Vals (x :: xs) us) : ∃ u vs, us = u :: vs ∧ RelV x u ∧ Vals xs vs := by
  cases r with
  | cons a b => exact ⟨_, _, rfl, a, b⟩
theorem vals_nil {us : List Value} (r : Vals [] us) : us = [] := by
  cases r; rfl
def iZipM (K : PySem.W.Frag) (ta : TA) : TI := fun σ H R => ta σ H fun vs H1 => ∃ a b b1 b2 xs ys, vs = [.ref a, .ref b] ∧ SqB b1 K H1 a xs ∧ SqB b2 K H1 b ys ∧ R (ItzM K b1 b2 a b) H1
theorem pi_zipM {X : Cx} {e e2 : Expr} {ta : TA} {p pos tpos : Pos} {elts : List Expr} {kk : Nat} (hg : Gl X "zip") (hm : X.mg "zip" = none) (ha : PA X [e, e2] ta)
    (hs : starEach [e, e2] X.env = (false, eval e X.env) :: starEach [e2] X.env := by rfl) (hpl : (backTo pos (starEach [e2] X.env)).any (·.1) = false := by rfl) :
    PI X (.Tuple elts kk tpos) (.Call (.Name "zip" p) [e, e2] [] pos) (iZipM X.K ta) := by
  refine ⟨fun pins s σ H R I h => ?_⟩
  refine Call_ (ld_blt I hg hm PyProof.Rows.boot_zip (PyProof.Rows.callWith_type1 (thn (ha.run pos pins s σ H _ I h) fun us s1 ⟨vs, H1, I1, r1, q1⟩ => ?_) hs hpl))
  obtain ⟨a, b, b1, b2, xs, ys, ex, hqx, hqy, q⟩ := q1
  subst ex
  obtain ⟨u1, us2, e0, t1, t2⟩ := vals_cons r1
  obtain ⟨u2, us3, e00, t3, t4⟩ := vals_cons t2
  have e3 := vals_nil t4
  have e1 : u1 = Value.ref a := t1
  have e2 : u2 = Value.ref b := t3
  subst e3 e1 e2 e00 e0
  obtain ⟨its1, rv1, p1⟩ := inv_sq I1 hqx
  obtain ⟨its2, rv2, p2⟩ := inv_sq I1 hqy
  have la := isSq_lt p1
  have lb := isSq_lt p2
  refine zip_begins2 (beginsB b1 a its1.toArray) (beginsB b2 b its2.toArray) p1 p2 fun h' hz hTI hTO h1 h2 hsz hk => wpAny_pyIter_zip hz ?_
  have I2 : Inv X pins σ H1 { s1 with heap := h' } := I1.kept (t' := s1.toks) hk
  have S : ZipSep2 (s1.heap.objs.size + 4) (s1.heap.objs.size + 2) (s1.heap.objs.size + 3) s1.heap.objs.size (s1.heap.objs.size + 1) [s1.heap.objs.size, a] [s1.heap.objs.size + 1, b] :=
    zip_sep2 (N := s1.heap.objs.size) (fp1 := [a]) (fp2 := [b]) (fun c hc => by rw [List.mem_singleton.1 hc]; exact la) (fun c hc => by rw [List.mem_singleton.1 hc]; exact lb)
  have n1 : a ≠ s1.heap.objs.size := Nat.ne_of_lt la
  have n2 : b ≠ s1.heap.objs.size + 1 := Nat.ne_of_lt (Nat.lt_succ_of_lt lb)
  have n3 : s1.heap.objs.size ≠ s1.heap.objs.size + 1 := Nat.ne_of_lt (Nat.lt_succ_self _)
  refine ⟨s1.heap.objs.size + 4, [s1.heap.objs.size + 4, s1.heap.objs.size + 2, s1.heap.objs.size + 3, s1.heap.objs.size, s1.heap.objs.size + 1], _, _, H1, rfl, I2, turn_zipM (b1 := b1) (b2 := b2) S n1 n2 n3, ⟨hz, hTI, ⟨_, _, hTO⟩, itOb_is h1, itOb_is h2⟩, fun c hcm => ?_, q⟩
  have hle : s1.heap.objs.size ≤ c := by
    simp only [List.mem_cons, List.not_mem_nil, or_false] at hcm
    rcases hcm with rfl | rfl | rfl | rfl | rfl
    · exact Nat.le_add_right _ _
    · exact Nat.le_add_right _ _
    · exact Nat.le_add_right _ _
    · exact Nat.le_refl _
    · exact Nat.le_add_right _ _
  exact I1.fpOk hle (I1.hok.fresh hle)
end Rb

namespace Rb
open PySem PySem.Spec PyProof.Rows L2
/-! ### zip, of plain data -/
def seqOf : D → Option (List D)
  | .lst ds => some ds
  | .tup ds => some ds
  | .scr ns => some (ns.map .int)
  | _ => none
def zipD (xs ys : List D) : List D := (List.zip xs ys).map fun z => .tup [z.1, z.2]
theorem zipD_len (xs ys : List D) : (zipD xs ys).length = min xs.length ys.length := by simp [zipD]
theorem zipD_get {xs ys : List D} {i : Nat} {d : D} (h : (zipD xs ys)[i]? = some d) : ∃ x y, xs[i]? = some x ∧ ys[i]? = some y ∧ d = .tup [x, y] := by
  unfold zipD at h
  rw [List.getElem?_map] at h
  cases e : (List.zip xs ys)[i]? with
  | none => rw [e] at h; cases h
  | some z =>
    rw [e] at h
    obtain ⟨h1, h2⟩ := List.getElem?_zip_eq_some.1 e
    exact ⟨z.1, z.2, h1, h2, (Option.some.inj h).symm⟩
section
variable {K : PySem.W.Frag} {P : Option Addr} {F : Hp}
theorem seq_sq {d : D} {v : V} {ds : List D} (h : Rp K P F d v) (e : seqOf d = some ds) : ∃ a b xs, v = .ref a ∧ (∀ H, Ex F H → SqB b K H a xs) ∧ RpL K P F ds xs := by
  unfold seqOf at e
  split at e
  · cases e
    unfold Rp at h
    obtain ⟨a, xs, rfl, h1, h2⟩ := h
    exact ⟨a, false, xs, rfl, fun H x => SqL.of (x _ _ h1), h2⟩
  · cases e
    unfold Rp at h
    obtain ⟨a, xs, rfl, h1, h2⟩ := h
    exact ⟨a, true, xs, rfl, fun H x => sqt_mono x h1, h2⟩
  · cases e
    unfold Rp at h
    obtain ⟨a, rfl, h1⟩ := h
    exact ⟨a, false, _, rfl, fun H x => sql_mono x h1, RpL.ofInts _⟩
  · cases e
theorem walkD_zip {a b : Addr} {b1 b2 : Bool} {xs ys : List V} {ds es : List D} (h1 : ∀ H, Ex F H → SqB b1 K H a xs) (h2 : ∀ H, Ex F H → SqB b2 K H b ys) (r1 : RpL K P F ds xs) (r2 : RpL K P F es ys) : WalkD K P F (zipD ds es) (ItzM K b1 b2 a b) := by
  have l1 := r1.len
  have l2 := r2.len
  have ln := zipD_len ds es
  refine ⟨fun H => SqB b1 K H a xs ∧ SqB b2 K H b ys, fun i H x H' => ∃ T x1 y1, x = .ref T ∧ H T = none ∧ H' = upd H T (.tup [x1, y1]) ∧ xs[i]? = some x1 ∧ ys[i]? = some y1, ⟨fun i H hi ⟨g1, g2⟩ => ?_, fun H ⟨g1, g2⟩ => ?_, fun i H x H' hi ⟨g1, g2⟩ hy => ?_⟩, fun F' H e1 e2 => ⟨h1 H (e1.trans e2), h2 H (e1.trans e2)⟩, fun ω i d x F' σ H H' s hP hd e1 sr hy => ?_⟩
  · have i1 : i < xs.length := by omega
    have i2 : i < ys.length := by omega
    exact ⟨xs, ys, xs[i], ys[i], g1, g2, List.getElem?_eq_getElem i1, List.getElem?_eq_getElem i2⟩
  · exact ⟨xs, ys, g1, g2, by omega, by omega, by omega⟩
  · obtain ⟨T, x1, y1, e1, e2, e3, e4, e5⟩ := hy
    exact ⟨T, x1, y1, e1, e2, e3, e4 xs g1, e5 ys g2⟩
  · obtain ⟨T, x1, y1, rfl, hT, rfl, hx, hy⟩ := hy
    obtain ⟨d1, d2, g1, g2, rfl⟩ := zipD_get hd
    obtain ⟨v1, q1, t1⟩ := r1.get g1
    obtain ⟨v2, q2, t2⟩ := r2.get g2
    rw [hx] at q1; cases q1
    rw [hy] at q2; cases q2
    have ex : Ex F' (upd F' T (.tup [x1, y1])) := Ex.new (sr.sub.none hT)
    refine ⟨_, ex, sr.alloc hT, ?_⟩
    unfold Rp
    exact ⟨T, _, rfl, SqT.of upd_same, .cons (t1.mono (e1.trans ex)) (.cons (t2.mono (e1.trans ex)) .nil)⟩
end
def iZip (t : SA) : SI := fun s => (t s).bind fun p => match p.1 with
  | [x, y] => (seqOf x).bind fun xs => (seqOf y).map fun ys => (zipD xs ys, p.2)
  | _ => none
section
variable {X : Cx}
theorem i_zip {a b : Expr} {t : SA} {p pos tpos : Pos} {elts : List Expr} {kk : Nat} (hg : Gl X "zip") (hm : X.mg "zip" = none) (ha : PA X [a, b] (rdA X.K t))
    (hs : starEach [a, b] X.env = (false, eval a X.env) :: starEach [b] X.env := by rfl) (hpl : (backTo pos (starEach [b] X.env)).any (·.1) = false := by rfl) :
    PI X (.Tuple elts kk tpos) (.Call (.Name "zip" p) [a, b] [] pos) (rdI X.K (iZip t)) :=
  (pi_zipM hg hm ha hs hpl).imp fun σ H R hw => by
    obtain ⟨ω, F, s, ds, s', sr, h, q⟩ := hw
    unfold iZip at h
    obtain ⟨⟨as, s1⟩, e1, h⟩ := bind2 h
    dsimp only at h
    split at h
    · rename_i x y
      obtain ⟨xs, ex, h⟩ := bind2 h
      obtain ⟨ys, ey, h⟩ := map2 h
      cases h

      refine rdA_use sr e1 fun vs F1 H1 x1 r1 hv => ?_
      obtain ⟨v, w, rfl, hx, hy⟩ := RpL.two hv
      obtain ⟨a1, b1, vs1, rfl, g1, t1⟩ := seq_sq hx ex
      obtain ⟨a2, b2, vs2, rfl, g2, t2⟩ := seq_sq hy ey
      exact ⟨a1, a2, b1, b2, vs1, vs2, rfl, g1 H1 r1.sub, g2 H1 r1.sub, q _ F1 H1 x1 r1 (walkD_zip g1 g2 t1 t2)⟩
    · cases h
end
end Rb

namespace Rb
open PySem PySem.Spec PyProof.Rows L2
/-! ### enumerate of a list or a tuple -/
theorem enum_new1 {v : Value} {o : Obj} {Hh : Heap → Prop} (B : Begins v o Hh) :
    Meets (Builtin.«enumerate.__new__» ⟨[.type "enumerate", v], []⟩) (fun _ R s => Hh s.heap ∧
      R (.ok (.ret (.ref (s.heap.push o).objs.size))) { s with heap := (s.heap.push o).push { cls := .type "enumerate", data := .fields #[.none, .bool false, .ref s.heap.objs.size, rawInt 0, .none, .none] } }) :=
  .of_wp fun prog w A R s h => by
    obtain ⟨hp, g, d, tk, os⟩ := s
    obtain ⟨h1, h⟩ := h
    have hsub := sub_enumerate
    have go : ∀ {A' : Around} {E : Value → Shared → Prop} {Q : Value → Shared → Prop}, Q (.ref hp.objs.size) ⟨hp.push o, g, d, tk, os⟩ → wpAny (model prog w) A' (pyIter v) Q E ⟨hp, g, d, tk, os⟩ :=
      fun q => B.iter prog w _ _ ⟨hp, g, d, tk, os⟩ _ h1 q
    wp_walk using go
    refine wpAny_stack_any fun st => wpAny_pure ?_
    split
    · rename_i c _ _ _ _ _
      cases (c == Value.type "enumerate") <;> (wp_walk using go; exact ⟨_, rfl, h⟩)
    · wp_walk using go
      exact ⟨_, rfl, h⟩
theorem enum_call1 {prog : Program} {w : World} {A : Around} {E : Value → Shared → Prop} {s : Shared} {v : Value} {o : Obj} {Hh : Heap → Prop} {Q : Value → Shared → Prop} (B : Begins v o Hh) (h1 : Hh s.heap)
    (h : ∀ h', IsEnum h' (s.heap.objs.size + 1) s.heap.objs.size 0 .none → h'.get? s.heap.objs.size = some o → (∀ b o, s.heap.get? b = some o → h'.get? b = some o) → Q (.ref (s.heap.objs.size + 1)) { s with heap := h' }) :
    wpAny (model prog w) A (call (.type "enumerate") [v]) Q E s := by
  refine callType_new F.called_enumerate (by decide) (F.typeCall_enumerate_1 _) (F.newCall_enumerate_1 _) (fun obj => F.args_object_init_2 obj _) F.entry_enumerate_new (enum_new1 B) ⟨h1, ?_⟩
  have hz : (s.heap.push o).objs.size = s.heap.objs.size + 1 := Heap.size_push ..
  have he := Heap.get?_push_size (s.heap.push o) (o := { cls := .type "enumerate", data := .fields #[.none, .bool false, .ref s.heap.objs.size, rawInt 0, .none, .none] }) rfl
  rw [hz] at he
  show _ ∧ _
  rw [hz]
  exact ⟨⟨_, he, rfl⟩, h _ he (Heap.get?_push_of_some _ (Heap.get?_push_size _ B.free)) fun b o x => Heap.get?_push_of_some _ (Heap.get?_push_of_some _ x)⟩
def IteM (K : PySem.W.Frag) (b : Bool) (a : Addr) : It :=
  ⟨fun i H => ∃ (xs : List V) (x : V), SqB b K H a xs ∧ xs[i]? = some x,
    fun i H v H' => ∃ T x, v = .ref T ∧ H T = none ∧ H' = upd H T (.tup [.int (i : Nat), x]) ∧ ∀ xs, SqB b K H a xs → xs[i]? = some x,
    fun i H => ∃ xs : List V, SqB b K H a xs ∧ i = xs.length⟩
theorem turn_enumM {P : Program} {w : World} {K : PySem.W.Frag} {elts : List Expr} {kk : Nat} {tpos : Pos} {a e it : Addr} {b : Bool} (hei : e ≠ it) (hea : e ≠ a) (ha : a ≠ it) :
    Turn P w K (.Tuple elts kk tpos) (IteM K b a) [e, it] e (fun i h => (∃ old, IsEnum h e it ((i : Nat) : Int) old) ∧ IsIt b h it a i) where
  mem := List.mem_cons_self ..
  obj := fun i h ⟨⟨old, he⟩, hi⟩ c hc => by
    simp only [List.mem_cons, List.not_mem_nil, or_false] at hc
    rcases hc with rfl | rfl
    · exact ⟨_, he, fun v q => nomatch q⟩
    · exact hi.ob
  keep := fun i h h' ⟨⟨old, he⟩, hi⟩ k => ⟨⟨old, k e (by simp) _ he⟩, hi.to fun o q => k it (by simp) o q⟩
  item := by
    rintro X rfl rfl rfl hc i pins s σ H E I hf ⟨⟨old, he⟩, hi⟩ ⟨xs, x, hq, hx⟩
    have hh : X.A.in1.handled = none := I.ok.hd hc
    obtain ⟨its, rv, p⟩ := inv_sq I hq
    obtain ⟨u, hu, ru⟩ := rv.get hx
    have hel : e < s.heap.objs.size := Heap.lt_size he
    have l1 : i < its.toArray.size := by simpa using (List.getElem?_eq_some_iff.1 hu).1
    refine wpAny_pyNext_enum_itemC (drawsB hh b it a ha its.toArray) he ⟨hi, p⟩ l1 hei (by simp [hei, hea]) fun v h' tk g ho t hT hsz hk => ?_
    obtain rfl : u = v := by
      have : its[i]? = some v := by simpa using g
      rw [hu] at this; exact Option.some.inj this
    refine ⟨_, rfl, wpAny_letOwnedTupleGo_enum (s := { s with heap := h', toks := tk + 1 }) ho fun h'' he' sb => ?_⟩
    have hT2 : h''.get? s.heap.objs.size = some { cls := .type "tuple", data := .seq #[.int i tk, u] } := (sb.2 _ (Nat.ne_of_gt hel)).trans hT
    have new : ObjOk X.prog X.w (upd H s.heap.objs.size (.tup [.int (i : Nat), x])) h'' s.heap.objs.size (.tup [.int (i : Nat), x]) :=
      ⟨by show 2 ≤ sizeLine; decide, [.int i tk, u], .cons ⟨_, rfl⟩ (.cons ru .nil), ⟨_, hT2, rfl, _, rfl⟩⟩
    have I1 : Inv X pins σ (upd H s.heap.objs.size (.tup [.int (i : Nat), x])) { s with heap := h'', toks := tk + 1 } :=
      I.turnedNew (ch := [e, it]) (fun c o hb q => (sb.2 c fun z => hb (by simp [z])).trans (hk c o (fun z => hb (by simp [z])) (fun z => hb (by simp [z])) q)) hf (Nat.le_refl _) new
    refine ⟨.ref s.heap.objs.size, _, I1, rfl, ⟨_, x, rfl, I.hok.fresh (Nat.le_refl _), rfl, fun l hl => by rw [inv_sq_inj I hl hq]; exact hx⟩, ⟨⟨u, ?_⟩, t.1.to fun o q => (sb.2 it (Ne.symm hei)).trans q⟩, fun c hcm => ?_⟩
    · have e1 : ((i + 1 : Nat) : Int) = (i : Int) + 1 := by omega
      rw [e1]; exact he'
    · obtain ⟨o, ho⟩ : ∃ o, s.heap.get? c = some o := by
        simp only [List.mem_cons, List.not_mem_nil, or_false] at hcm
        rcases hcm with rfl | rfl
        · exact ⟨_, he⟩
        · obtain ⟨o, q, _⟩ := hi.ob; exact ⟨o, q⟩
      rw [upd_ne (Nat.ne_of_lt (Heap.lt_size ho))]
      exact (hf c hcm).1
  done := by
    rintro X rfl rfl rfl hc i pins s σ H E I hf ⟨⟨old, he⟩, hi⟩ ⟨xs, hq, hl⟩
    have hh : X.A.in1.handled = none := I.ok.hd hc
    obtain ⟨its, rv, p⟩ := inv_sq I hq
    have l1 := rv.length
    have hn : i = its.toArray.size := by simp; omega
    refine wpAny_pyNext_enum_endD (n := its.toArray.size) (drawsB hh b it a ha its.toArray) he ⟨hn ▸ hi, p⟩ fun h' hk => ⟨rfl, ?_⟩
    exact I.turnedL (t' := s.toks) (ch := [e, it]) (fun c o hb q => hk c o (fun z => hb (by simp [z])) q) hf
  self := fun A i s Q E ⟨⟨_, he⟩, _⟩ h => wpAny_pyIter_enum he h
def iEnumM (K : PySem.W.Frag) (ta : TA) : TI := fun σ H R => ta σ H fun vs H1 => ∃ a b xs, vs = [.ref a] ∧ SqB b K H1 a xs ∧ R (IteM K b a) H1
theorem pi_enumM {X : Cx} {e : Expr} {ta : TA} {p pos tpos : Pos} {elts : List Expr} {kk : Nat} (hg : Gl X "enumerate") (hm : X.mg "enumerate" = none) (ha : PA X [e] ta) (hs : starEach [e] X.env = [(false, eval e X.env)] := by rfl) :
    PI X (.Tuple elts kk tpos) (.Call (.Name "enumerate" p) [e] [] pos) (iEnumM X.K ta) := by
  refine ⟨fun pins s σ H R I h => ?_⟩
  refine Call_ (ld_blt I hg hm boot_enumerate (PyProof.Rows.callWith_type1 (thn (ha.run pos pins s σ H _ I h) fun us s1 ⟨vs, H1, I1, r1, q1⟩ => ?_) hs rfl))
  obtain ⟨a, b, xs, ex, hq, q⟩ := q1
  subst ex
  obtain ⟨u1, us2, e0, t1, t2⟩ := vals_cons r1
  have e3 := vals_nil t2
  have e1 : u1 = Value.ref a := t1
  subst e3 e1 e0
  obtain ⟨its, rv, p'⟩ := inv_sq I1 hq
  have la := isSq_lt p'
  refine enum_call1 (beginsB b a its.toArray) p' fun h' he hit hk => wpAny_pyIter_enum he ?_
  have I2 : Inv X pins σ H1 { s1 with heap := h' } := I1.kept (t' := s1.toks) hk
  have n1 : s1.heap.objs.size + 1 ≠ s1.heap.objs.size := Nat.succ_ne_self _
  have n2 : s1.heap.objs.size + 1 ≠ a := Nat.ne_of_gt (Nat.lt_succ_of_lt la)
  have n3 : a ≠ s1.heap.objs.size := Nat.ne_of_lt la
  refine ⟨s1.heap.objs.size + 1, [s1.heap.objs.size + 1, s1.heap.objs.size], _, _, H1, rfl, I2, turn_enumM (b := b) n1 n2 n3, ⟨⟨_, he⟩, itOb_is hit⟩, fun c hcm => ?_, q⟩
  have hle : s1.heap.objs.size ≤ c := by
    simp only [List.mem_cons, List.not_mem_nil, or_false] at hcm
    rcases hcm with rfl | rfl
    · exact Nat.le_add_right _ _
    · exact Nat.le_refl _
  exact I1.fpOk hle (I1.hok.fresh hle)
/-! plain data -/
def enumD (lo : Nat) : List D → List D
  | [] => []
  | d :: ds => .tup [.int (lo : Nat), d] :: enumD (lo + 1) ds
theorem enumD_len : ∀ (lo : Nat) (ds : List D), (enumD lo ds).length = ds.length
  | _, [] => rfl
  | lo, d :: ds => by rw [enumD, List.length_cons, List.length_cons, enumD_len]
theorem enumD_get : ∀ {lo : Nat} {ds : List D} {i : Nat} {d : D}, (enumD lo ds)[i]? = some d → ∃ x, ds[i]? = some x ∧ d = .tup [.int ((lo + i : Nat) : Int), x]
  | lo, [], i, d, h => by simp [enumD] at h
  | lo, e :: ds, 0, d, h => by
    simp only [enumD, List.getElem?_cons_zero, Option.some.injEq] at h
    exact ⟨e, rfl, h.symm⟩
  | lo, e :: ds, i + 1, d, h => by
    simp only [enumD, List.getElem?_cons_succ] at h
    obtain ⟨x, h1, h2⟩ := enumD_get h
    exact ⟨x, by simpa using h1, by rw [h2, show lo + (i + 1) = lo + 1 + i by omega]⟩
theorem walkD_enum {K : PySem.W.Frag} {P : Option Addr} {F : Hp} {a : Addr} {b : Bool} {xs : List V} {ds : List D} (h1 : ∀ H, Ex F H → SqB b K H a xs) (r1 : RpL K P F ds xs) : WalkD K P F (enumD 0 ds) (IteM K b a) := by
  have l1 := r1.len
  have ln := enumD_len 0 ds
  refine ⟨fun H => SqB b K H a xs, fun i H x H' => ∃ T x1, x = .ref T ∧ H T = none ∧ H' = upd H T (.tup [.int (i : Nat), x1]) ∧ xs[i]? = some x1, ⟨fun i H hi g1 => ?_, fun H g1 => ?_, fun i H x H' hi g1 hy => ?_⟩, fun F' H e1 e2 => h1 H (e1.trans e2), fun ω i d x F' σ H H' s hP hd e1 sr hy => ?_⟩
  · have i1 : i < xs.length := by omega
    exact ⟨xs, xs[i], g1, List.getElem?_eq_getElem i1⟩
  · exact ⟨xs, g1, by omega⟩
  · obtain ⟨T, x1, e1, e2, e3, e4⟩ := hy
    exact ⟨T, x1, e1, e2, e3, e4 xs g1⟩
  · obtain ⟨T, x1, rfl, hT, rfl, hx⟩ := hy
    obtain ⟨d1, g1, rfl⟩ := enumD_get hd
    obtain ⟨v1, q1, t1⟩ := r1.get g1
    rw [hx] at q1; cases q1
    have ex : Ex F' (upd F' T (.tup [.int (i : Nat), x1])) := Ex.new (sr.sub.none hT)
    refine ⟨_, ex, sr.alloc hT, ?_⟩
    unfold Rp
    exact ⟨T, _, rfl, SqT.of upd_same, .cons (by unfold Rp; rw [Nat.zero_add]) (.cons (t1.mono (e1.trans ex)) .nil)⟩
def iEnum (t : SA) : SI := fun s => (t s).bind fun p => match p.1 with
  | [x] => (seqOf x).map fun xs => (enumD 0 xs, p.2)
  | _ => none
section
variable {X : Cx}
theorem i_enum {a : Expr} {t : SA} {p pos tpos : Pos} {elts : List Expr} {kk : Nat} (hg : Gl X "enumerate") (hm : X.mg "enumerate" = none) (ha : PA X [a] (rdA X.K t)) (hs : starEach [a] X.env = [(false, eval a X.env)] := by rfl) :
    PI X (.Tuple elts kk tpos) (.Call (.Name "enumerate" p) [a] [] pos) (rdI X.K (iEnum t)) :=
  (pi_enumM hg hm ha hs).imp fun σ H R hw => by
    obtain ⟨ω, F, s, ds, s', sr, h, q⟩ := hw
    unfold iEnum at h
    obtain ⟨⟨as, s1⟩, e1, h⟩ := bind2 h
    dsimp only at h
    split at h
    · obtain ⟨xs, ex, h⟩ := map2 h
      cases h
      refine rdA_use sr e1 fun vs F1 H1 x1 r1 hv => ?_
      obtain ⟨v, rfl, hx⟩ := RpL.one hv
      obtain ⟨a1, b1, vs1, rfl, g1, t1⟩ := seq_sq hx ex
      exact ⟨a1, b1, vs1, rfl, g1 H1 r1.sub, q _ F1 H1 x1 r1 (walkD_enum g1 t1)⟩
    · cases h
end
end Rb

namespace Rb
open PySem PySem.Spec PyProof.Rows L2
/-! ### the module's own tuples -/
theorem rp_tupW {K : PySem.W.Frag} {a : Addr} {od : Option Addr} {its : Array Value} {n : Nat} {sl : Array (Option Value)} {xs : List V} {ds : List D} (l : K.lookup a = some ⟨.type "tuple", od, .seq its n, sl⟩) (hz : its.size ≤ sizeLine) (hv : Vals xs its.toList) (hr : ∀ P F, RpL K P F ds xs) : ∀ P F, Rp K P F (.tup ds) (.ref a) := fun P F => by
  unfold Rp
  exact ⟨a, xs, rfl, .inr ⟨_, its, n, l, rfl, rfl, hz, hv⟩, hr P F⟩
theorem p_gct {X : Cx} {x : Str} {d : D} {pos : Pos} (hg : Gl X x) (hm : ∃ u v, X.mg x = some u ∧ RelV v u ∧ ∀ P F, Rp X.K P F d v) (hd : (x == ("__debug__" : Str)) = false := by decide) : PE X (.Name x pos) (rd X.K (cD d)) := by
  obtain ⟨u, v, h1, h2, h3⟩ := hm
  exact p_c (pe_glob hg h1 h2 hd) h3
theorem rpl_nil {K : PySem.W.Frag} : ∀ P F, RpL K P F [] [] := fun _ _ => .nil
theorem rpl_cons {K : PySem.W.Frag} {d : D} {v : V} {ds : List D} {vs : List V} (h : ∀ P F, Rp K P F d v) (t : ∀ P F, RpL K P F ds vs) : ∀ P F, RpL K P F (d :: ds) (v :: vs) := fun P F => .cons (h P F) (t P F)
end Rb

namespace Rb
open PySem PySem.Spec PyProof.Rows L2
/-! ### starred items -/
def aStar (c : SE) (t : SA) : SA := fun s => (c s).bind fun p => (seqOf p.1.1).bind fun ds => (t p.2).map fun q => (ds ++ q.1, q.2)
theorem a_star {X : Cx} {e : Expr} {es : List Expr} {c : SE} {t : SA} {p : Pos} (h : PE X e (rd X.K c)) (ht : PA X es (rdA X.K t)) (hs : starEach (.Starred e p :: es) X.env = (true, eval e X.env) :: starEach es X.env := by rfl) : PA X (.Starred e p :: es) (rdA X.K (aStar c t)) :=
  (StX.pa_star h ht hs).imp fun σ H Q ⟨ω, F, s, ds, s', sr, h, q⟩ => by
    unfold aStar at h
    obtain ⟨⟨⟨d1, b1⟩, s1⟩, e1, h⟩ := bind2 h
    obtain ⟨xs, e2, h⟩ := bind2 h
    obtain ⟨⟨ds2, s2⟩, e3, h⟩ := map2 h
    cases h
    refine rd_use sr e1 fun v F1 H1 x1 r1 hv => ?_
    obtain ⟨a, b, vs, rfl, g, hr⟩ := seq_sq hv e2
    refine ⟨a, vs, rfl, ?_, rdA_use r1 e3 fun ws F2 H2 x2 r2 hw => q _ F2 H2 (x1.trans x2) r2 ((hr.mono x2).app hw)⟩
    have := g H1 r1.sub
    cases b with
    | false => exact .inr this
    | true => exact .inl this
end Rb

namespace Rb
open PySem PySem.Spec PyProof.Rows L2
/-! ### dicts -/
def cDic0 : SE := fun s => some ((.dic [], true), s)
theorem rpk_nil {K : PySem.W.Frag} {P : Option Addr} {F : Hp} : RpK K P F [] [] := by unfold RpK; rfl
theorem p_dic0 {X : Cx} {pos : Pos} : PE X (.Dict [] [] pos) (rd X.K cDic0) :=
  pe_dnewK.imp fun σ H Q ⟨ω, F, s, d, b, s', sr, e, p⟩ => by
    cases e
    intro q hq
    exact sr.newD hq rpk_nil p
/-- x.get(k, d) of what the slot holds -/
def cGetV (i : Nat) (ck cd : SE) : SE := fun s => match s.r[i]? with
  | some (.own (.dic _)) => (ck s).bind fun p => (cd p.2).bind fun q => match q.2.r[i]?, keyOf p.1.1 with
    | some (.own (.dic ks)), some k => some (((valD ks k).getD q.1.1, false), q.2)
    | _, _ => none
  | some (.val (.dic ks)) => (ck s).bind fun p => (cd p.2).bind fun q => (keyOf p.1.1).map fun k => (((valD ks k).getD q.1.1, false), q.2)
  | _ => none
theorem rp_getD {K : PySem.W.Frag} {P : Option Addr} {F : Hp} {ks : List (Key × D)} {xs : List (Key × V)} {k : Key} {d : D} {v : V} (h : RpK K P F ks xs) (hv : Rp K P F d v) : Rp K P F ((valD ks k).getD d) ((valV xs k).getD v) := by
  rcases h.val k with ⟨e1, e2⟩ | ⟨d1, v1, e1, e2, r⟩
  · rw [e1, e2]; exact hv
  · rw [e1, e2]; exact r
theorem p_getV {X : Cx} {i : Nat} {x : Str} {pn : Pos} {ek ed : Expr} {ck cd : SE} {apos cpos : Pos} (hu : X.A.units + 1 < cLine) (hv : PE X (.Name x pn) (tVar i)) (hk : PE X ek (rd X.K ck)) (hd : PE X ed (rd X.K cd)) (m : M2 X (.Name x pn) "get" apos ek ed cpos) :
    PE X (.Call (.Attribute (.Name x pn) "get" apos) [ek, ed] [] cpos) (rd X.K (cGetV i ck cd)) :=
  (pe_dget2 hu hv hk hd m).imp fun σ H Q ⟨ω, F, s, d, b, s', sr, h, p⟩ => by
    unfold cGetV at h
    split at h
    · rename_i ks0 h0
      obtain ⟨a, xs, hσ, hH, hr⟩ := sr.ownD h0
      obtain ⟨⟨⟨d1, b1⟩, s1⟩, e1, h⟩ := bind2 h
      obtain ⟨⟨⟨d2, b2⟩, s2⟩, e2, h⟩ := bind2 h
      dsimp only at h
      split at h
      · rename_i ks k h1 hk1
        cases h
        refine ⟨_, hσ, a, rfl, .inl ⟨_, .inl hH⟩, rd_use sr e1 fun v F1 H1 x1 r1 hv => rd_use r1 e2 fun w F2 H2 x2 r2 hw => ?_⟩
        obtain ⟨a', ys, hσ', hH', hr'⟩ := r2.ownD h1
        rw [hσ] at hσ'; cases hσ'
        refine ⟨valV ys k, .inl ⟨ys, k, .inl hH', keyOf_rp hv hk1, rfl⟩, r2.here (b := false) (rp_getD hr' hw) (p.mono (x1.trans x2))⟩
      · cases h
    · rename_i ks h0
      obtain ⟨v0, hσ, hr⟩ := sr.sl i _ h0
      unfold Rp at hr
      obtain ⟨a, xs, rfl, hR, hr⟩ := hr
      obtain ⟨⟨⟨d1, b1⟩, s1⟩, e1, h⟩ := bind2 h
      obtain ⟨⟨⟨d2, b2⟩, s2⟩, e2, h⟩ := bind2 h
      obtain ⟨k, hk1, h⟩ := map2 h
      cases h
      refine ⟨_, hσ, a, rfl, .inl ⟨_, rd_mono sr.sub hR⟩, rd_use sr e1 fun v F1 H1 x1 r1 hv => rd_use r1 e2 fun w F2 H2 x2 r2 hw => ?_⟩
      refine ⟨valV xs k, .inl ⟨xs, k, rd_mono ((x1.trans x2).trans r2.sub) hR, keyOf_rp hv hk1, rfl⟩, r2.here (b := false) (rp_getD (hr.mono (x1.trans x2)) hw) (p.mono (x1.trans x2))⟩
    · cases h
end Rb

namespace Rb
open PySem PySem.Spec PyProof.Rows L2
/-! ### d[k] = v -/
def putD (ks : List (Key × D)) (k : Key) (d : D) : List (Key × D) :=
  if (ks.any fun kv => decide (kv.1 = k)) = true then ks.map (fun kv => if kv.1 = k then (kv.1, d) else kv) else ks ++ [(k, d)]
section
variable {K : PySem.W.Frag} {P : Option Addr} {F : Hp}
theorem rpk_cons {k : Key} {d : D} {v : V} {ks : List (Key × D)} {xs : List (Key × V)} (h : Rp K P F d v) (t : RpK K P F ks xs) : RpK K P F ((k, d) :: ks) ((k, v) :: xs) := by unfold RpK; exact ⟨v, xs, rfl, h, t⟩
theorem rpk_len : ∀ {ks : List (Key × D)} {xs : List (Key × V)}, RpK K P F ks xs → xs.length = ks.length
  | [], xs, h => by unfold RpK at h; subst h; rfl
  | (k, d) :: ks, xs, h => by
    unfold RpK at h
    obtain ⟨v, r, rfl, _, t⟩ := h
    rw [List.length_cons, List.length_cons, rpk_len t]
theorem rpk_any (k : Key) : ∀ {ks : List (Key × D)} {xs : List (Key × V)}, RpK K P F ks xs → (xs.any fun kv => decide (kv.1 = k)) = ks.any fun kv => decide (kv.1 = k)
  | [], xs, h => by unfold RpK at h; subst h; rfl
  | (k', d) :: ks, xs, h => by
    unfold RpK at h
    obtain ⟨v, r, rfl, _, t⟩ := h
    rw [List.any_cons, List.any_cons, rpk_any k t]
theorem rpk_app : ∀ {ks ls : List (Key × D)} {xs ys : List (Key × V)}, RpK K P F ks xs → RpK K P F ls ys → RpK K P F (ks ++ ls) (xs ++ ys)
  | [], ls, xs, ys, h, t => by unfold RpK at h; subst h; exact t
  | (k, d) :: ks, ls, xs, ys, h, t => by
    unfold RpK at h
    obtain ⟨v, r, rfl, hv, hr⟩ := h
    exact rpk_cons hv (rpk_app hr t)
theorem rpk_map {k : Key} {d : D} {v : V} (hd : Rp K P F d v) : ∀ {ks : List (Key × D)} {xs : List (Key × V)}, RpK K P F ks xs → RpK K P F (ks.map (fun kv => if kv.1 = k then (kv.1, d) else kv)) (xs.map (fun kv => if kv.1 = k then (kv.1, v) else kv))
  | [], xs, h => by unfold RpK at h; subst h; exact rpk_nil
  | (k', e) :: ks, xs, h => by
    unfold RpK at h
    obtain ⟨w, r, rfl, hw, hr⟩ := h
    rw [List.map_cons, List.map_cons]
    by_cases q : k' = k
    · rw [if_pos q, if_pos q]; exact rpk_cons hd (rpk_map hd hr)
    · rw [if_neg q, if_neg q]; exact rpk_cons hw (rpk_map hd hr)
theorem rpk_put {k : Key} {d : D} {v : V} {ks : List (Key × D)} {xs : List (Key × V)} (h : RpK K P F ks xs) (hd : Rp K P F d v) : RpK K P F (putD ks k d) (putK xs k v) := by
  unfold putD putK
  rw [rpk_any k h]
  split
  · exact rpk_map hd h
  · exact rpk_app h (rpk_cons hd rpk_nil)
end
def cPutD (i : Nat) (ci : SE) (c : SE) : SS := fun s => (c s).bind fun p => match p.2.r[i]? with
  | some (.own (.dic _)) => (ci p.2).bind fun q => match q.2.r[i]?, keyOf q.1.1 with
    | some (.own (.dic ks)), some k => if szOk (ks.length + 1) then some (.nx, { q.2 with r := q.2.r.set i (.own (.dic (putD ks k p.1.1))) }) else none
    | _, _ => none
  | _ => none
theorem s_putD {X : Cx} {i : Nat} {x : Str} {pn : Pos} {e ei : Expr} {c ci : SE} {tpos pos : Pos} (hu : X.A.units + 1 < cLine) (hv : PE X (.Name x pn) (tVar i)) (hi : PE X ei (rd X.K ci)) (he : PE X e (rd X.K c))
    (hs : swapsWith e (some (.Subscript (.Name x pn) ei tpos)) pos.line X.env = pure false) : PS X (.Assign [.Subscript (.Name x pn) ei tpos] e pos) (rdS X.K (cPutD i ci c)) :=
  (ps_dput hu hv hi he hs).imp fun D' σ H hw => by
    obtain ⟨ω, F, s, fl, s', sr, h, p⟩ := hw
    unfold cPutD at h
    obtain ⟨⟨⟨d1, b1⟩, s1⟩, e1, h⟩ := bind2 h
    dsimp only at h
    split at h
    · rename_i ks0 h0
      obtain ⟨⟨⟨d2, b2⟩, s2⟩, e2, h⟩ := bind2 h
      dsimp only at h
      split at h
      · rename_i ks k h1 hk
        split at h
        · rename_i hz
          cases h
          refine rd_use sr e1 fun v F1 H1 x1 r1 hv1 => ?_
          obtain ⟨a, xs, hσ, hH, _⟩ := r1.ownD h0
          refine ⟨_, hσ, rd_use r1 e2 fun w F2 H2 x2 r2 hw2 => ?_⟩
          obtain ⟨a', ys, hσ', hH', hr⟩ := r2.ownD h1
          rw [hσ] at hσ'; cases hσ'
          have hlen : ys.length < sizeLine := by
            have := szOk_le hz
            rw [rpk_len hr]; omega
          rw [keyOf_rp hw2 hk]
          exact ⟨a, _, rfl, DPut.k hH' hlen, p σ F2 _ (x1.trans x2) (r2.mut h1 hσ (.inr ⟨_, _, rfl, rfl, rpk_put hr (hv1.mono x2)⟩))⟩
        · cases h
      · cases h
    · cases h
end Rb

namespace Rb
open PySem PySem.Spec PyProof.Rows L2
/-! ### {k: v} -/
def cDic1 (ck cv : SE) : SE := fun s => (ck s).bind fun p => (cv p.2).bind fun q => (keyOf p.1.1).map fun k => ((.dic [(k, q.1.1)], true), q.2)
theorem p_dic1 {X : Cx} {k v : Expr} {ck cv : SE} {pos : Pos} (hk : PE X k (rd X.K ck)) (hv : PE X v (rd X.K cv)) : PE X (.Dict [some k] [v] pos) (rd X.K (cDic1 ck cv)) :=
  (pe_disp (pps_cons hk hv pps_nil) rfl rfl (by simp) (show 1 ≤ 15 by decide)).imp fun σ H Q ⟨ω, F, s, d, b, s', sr, h, q⟩ => by
    unfold cDic1 at h
    obtain ⟨⟨⟨d1, b1⟩, s1⟩, e1, h⟩ := bind2 h
    obtain ⟨⟨⟨d2, b2⟩, s2⟩, e2, h⟩ := bind2 h
    obtain ⟨k, hk1, h⟩ := map2 h
    cases h
    intro p hp
    have r0 : Sr X.K ω F σ (upd H p (.dK [])) s := sr.allocN hp
    have hO : ¬ Owned σ s p := fun z => by
      obtain ⟨⟨o, e⟩, _⟩ := sr.ownAt z
      rw [hp] at e; cases e
    have hF : F p = none := sr.sub.none hp
    have hP := sr.pt.ne hp
    have h0 := sr.h0 hp
    refine rd_useK r0 e1 fun x F1 H1 x1 r1 hx k1 => ?_
    obtain ⟨g1, g2, g3⟩ := k1 p _ hP hO upd_same
    refine rd_useK r1 e2 fun y F2 H2 x2 r2 hy k2 => ?_
    obtain ⟨g4, g5, g6⟩ := k2 p _ hP g3 g1
    refine ⟨g4, [(k, y)], ?_, (show 1 ≤ 15 by decide), ?_⟩
    · rw [keyOf_rp hx hk1]; rfl
    · refine q _ F2 _ (x1.trans x2) (r2.other (g5 (g2 hF)) g6 h0 hP) ?_
      exact ⟨⟨p, _, rfl, upd_same, g5 (g2 hF), h0, hP, rpk_cons hy rpk_nil⟩, fun i e h1 h2 => g6 ⟨i, e, h1, h2⟩⟩
end Rb

namespace Rb
open PySem PySem.Spec PyProof.Rows L2
/-! ### range, downwards -/
def dwnL (i : Int) (n : Nat) : List D := (List.range n).map fun k => .int (i + (k : Nat) * (-1))
theorem dwnL_len (i : Int) (n : Nat) : (dwnL i n).length = n := by simp [dwnL]
theorem dwnL_get {i : Int} {n k : Nat} {d : D} (h : (dwnL i n)[k]? = some d) : k < n ∧ d = .int (i + (k : Nat) * (-1)) := by
  unfold dwnL at h
  rw [List.getElem?_map] at h
  by_cases q : k < n
  · rw [List.getElem?_range q] at h
    exact ⟨q, (Option.some.inj h).symm⟩
  · rw [List.getElem?_eq_none (by simp; omega)] at h
    cases h
theorem walkD_dwn {K : PySem.W.Frag} {P : Option Addr} {F : Hp} {i : Int} {n : Nat} : WalkD K P F (dwnL i n) (Itc i (-1) n) := by
  refine ⟨_, _, by rw [dwnL_len]; exact walk_rangeC (lo := i) (c := -1) (n := n), fun _ _ _ _ => True.intro, fun ω k d x F' σ H H' s hP hd e1 sr hy => ?_⟩
  obtain ⟨rfl, hx⟩ := hy
  obtain ⟨_, rfl⟩ := dwnL_get hd
  exact ⟨F', Ex.refl _, sr, by unfold Rp; exact hx⟩
def iRg3 (t : SA) : SI := fun s => (t s).bind fun p => match p.1 with
  | [.int i, .int j, .int c] => if c == -1 && (rgOk i && rgOk j) then some (dwnL i (i - j).toNat, p.2) else none
  | _ => none
theorem i_rg3 {X : Cx} {tg a b c : Expr} {t : SA} {p pos : Pos} (hg : Gl X "range") (hm : X.mg "range" = none) (ha : PA X [a, b, c] (rdA X.K t))
    (hs : starEach [a, b, c] X.env = (false, eval a X.env) :: starEach [b, c] X.env := by rfl) (hpl : (backTo pos (starEach [b, c] X.env)).any (·.1) = false := by rfl) :
    PI X tg (.Call (.Name "range" p) [a, b, c] [] pos) (rdI X.K (iRg3 t)) :=
  (pi_range3 hg hm ha hs hpl).imp fun σ H R ⟨ω, F, s, ds, s', sr, h, q⟩ => by
    unfold iRg3 at h
    obtain ⟨⟨l, s1⟩, e1, h⟩ := bind2 h
    dsimp only at h
    split at h
    · rename_i i j c
      split at h
      · rename_i hz
        cases h
        rw [Bool.and_eq_true, Bool.and_eq_true] at hz
        obtain ⟨hc, h1, h2⟩ := hz
        have h1 := rgOk_is h1
        have h2 := rgOk_is h2
        have hc : c = -1 := by simpa using hc
        subst hc
        refine rdA_use sr e1 fun vs F1 H1 x1 r1 hv => ?_
        unfold RpL at hv
        obtain ⟨v1, r2, rfl, g1, hv⟩ := hv
        obtain ⟨v2, v3, rfl, g2, g3⟩ := RpL.two hv
        unfold Rp at g1 g2 g3
        subst g1 g2 g3
        exact ⟨i, j, -1, _, rfl, RgC.neg h1.1 h1.2 h2.1 h2.2, q _ F1 H1 x1 r1 walkD_dwn⟩
      · cases h
    · cases h
end Rb

namespace Rb
open PySem PySem.Spec PyProof.Rows L2
/-! ### a dict is locked, and unlocked -/
def lockH (H : Hp) (a : Addr) (o : HO) : Hp := fun b => if b = a then (H a).map fun _ => o else H b
theorem lockH_ne {H : Hp} {a b : Addr} {o : HO} (h : b ≠ a) : lockH H a o b = H b := if_neg h
theorem lockH_at {H : Hp} {a : Addr} {o : HO} : lockH H a o a = (H a).map fun _ => o := if_pos rfl
def lockW (ω : Wd) (a : Addr) (o : HO) : Wd := ⟨ω.P, lockH ω.H0 a o, lockH ω.F0 a o⟩
section
variable {K : PySem.W.Frag} {ω : Wd} {F : Hp} {σ : L2.St} {H : Hp} {s : S} {a : Addr} {od : Obj} {xs : List (Key × V)}
theorem ok2_lock (hF : F a = some (.dK xs)) : Ok2 F (upd F a (.frz od (.dK xs))) := by
  refine ⟨fun b ys h => ?_, fun b ys h => ?_, fun b ys h => ?_, fun b ys h => ?_⟩
  · by_cases q : b = a
    · subst q
      rcases h with h | ⟨o, h⟩ <;> (rw [hF] at h; cases h)
    · rcases h with h | ⟨o, h⟩
      · exact .inl (by rw [upd_ne q]; exact h)
      · exact .inr ⟨o, by rw [upd_ne q]; exact h⟩
  · by_cases q : b = a
    · subst q; rw [hF] at h; cases h
    · rw [upd_ne q]; exact h
  · by_cases q : b = a
    · subst q
      rcases h with h | ⟨o, h⟩
      · rw [hF] at h; cases h; exact .inr ⟨od, upd_same⟩
      · rw [hF] at h; cases h
    · rcases h with h | ⟨o, h⟩
      · exact .inl (by rw [upd_ne q]; exact h)
      · exact .inr ⟨o, by rw [upd_ne q]; exact h⟩
  · by_cases q : b = a
    · subst q
      rcases h with h | ⟨o, h⟩ <;> (rw [hF] at h; cases h)
    · rcases h with h | ⟨o, h⟩
      · exact .inl (by rw [upd_ne q]; exact h)
      · exact .inr ⟨o, by rw [upd_ne q]; exact h⟩
theorem ok2_unlock (hF : F a = some (.frz od (.dK xs))) : Ok2 F (upd F a (.dK xs)) := by
  refine ⟨fun b ys h => ?_, fun b ys h => ?_, fun b ys h => ?_, fun b ys h => ?_⟩
  · by_cases q : b = a
    · subst q
      rcases h with h | ⟨o, h⟩ <;> (rw [hF] at h; cases h)
    · rcases h with h | ⟨o, h⟩
      · exact .inl (by rw [upd_ne q]; exact h)
      · exact .inr ⟨o, by rw [upd_ne q]; exact h⟩
  · by_cases q : b = a
    · subst q; rw [hF] at h; cases h
    · rw [upd_ne q]; exact h
  · by_cases q : b = a
    · subst q
      rcases h with h | ⟨o, h⟩
      · rw [hF] at h; cases h
      · rw [hF] at h; cases h; exact .inl upd_same
    · rcases h with h | ⟨o, h⟩
      · exact .inl (by rw [upd_ne q]; exact h)
      · exact .inr ⟨o, by rw [upd_ne q]; exact h⟩
  · by_cases q : b = a
    · subst q
      rcases h with h | ⟨o, h⟩ <;> (rw [hF] at h; cases h)
    · rcases h with h | ⟨o, h⟩
      · exact .inl (by rw [upd_ne q]; exact h)
      · exact .inr ⟨o, by rw [upd_ne q]; exact h⟩

theorem Sr.noP (r : Sr K ω F σ H s) (hF : F a = some o) : ω.P ≠ some a := fun e => by
  have hp := r.pt
  cases ht : s.p with
  | none =>
    rw [ht] at hp
    rw [show ω.P = none from hp] at e
    cases e
  | some t =>
    rw [ht] at hp
    obtain ⟨q, e2, _, h2⟩ := hp
    rw [e] at e2; cases e2
    rw [hF] at h2; cases h2
/-- all that is known stands when the facts change at one known dict alone -/
theorem SlOk.facts {F' H' : Hp} {ω' : Wd} {b : Bd} {x : Option (Option V)} (h : SlOk K ω F H x b) (hP : ω'.P = ω.P) (e : Ok2 F F') (hown : ∀ c, x = some (some (.ref c)) → (∃ d, b = .own d) → H' c = H c ∧ F' c = F c ∧ ω'.H0 c = ω.H0 c) : SlOk K ω' F' H' x b := by
  cases b with
  | no => trivial
  | val d =>
    obtain ⟨v, h1, h2⟩ := h
    exact ⟨v, h1, by rw [hP]; exact Rp.mono2 e d v h2⟩
  | own d =>
    obtain ⟨v, h1, h2⟩ := h
    refine ⟨v, h1, ?_⟩
    cases d <;> first | exact h2.elim | skip
    · obtain ⟨c, xs, g1, g2, g3, g4, g5, g6⟩ := h2
      obtain ⟨k1, k2, k3⟩ := hown c (by rw [h1, g1]) ⟨_, rfl⟩
      exact ⟨c, xs, g1, by rw [k1]; exact g2, by rw [k2]; exact g3, by rw [k3]; exact g4, by rw [hP]; exact g5, by rw [hP]; exact RpL.mono2 e _ _ g6⟩
    · obtain ⟨c, xs, g1, g2, g3, g4, g5, g6⟩ := h2
      obtain ⟨k1, k2, k3⟩ := hown c (by rw [h1, g1]) ⟨_, rfl⟩
      exact ⟨c, xs, g1, by rw [k1]; exact g2, by rw [k2]; exact g3, by rw [k3]; exact g4, by rw [hP]; exact g5, by rw [hP]; exact RpK.mono2 e _ _ g6⟩
theorem Sr.lock (r : Sr K ω F σ H s) (hF : F a = some (.dK xs)) : Sr K (lockW ω a (.frz od (.dK xs))) (upd F a (.frz od (.dK xs))) σ (upd H a (.frz od (.dK xs))) s where
  len := r.len
  sub := fun b o h => by
    by_cases q : b = a
    · subst q; rw [upd_same] at h ⊢; exact h
    · rw [upd_ne q] at h ⊢; exact r.sub b o h
  frm := fun b o hP h => by
    by_cases q : b = a
    · subst q
      rw [show (lockW ω b (.frz od (.dK xs))).H0 b = _ from lockH_at] at h
      cases e : ω.H0 b with
      | none => rw [e] at h; cases h
      | some u => rw [e] at h; cases h; exact upd_same
    · rw [show (lockW ω a (.frz od (.dK xs))).H0 b = _ from lockH_ne q] at h
      rw [upd_ne q]; exact r.frm b o hP h
  new := fun b o h => by
    by_cases q : b = a
    · subst q
      rw [upd_same] at h; cases h
      rcases r.new b _ hF with g | g
      · exact .inl (by show lockH ω.F0 b _ b = _; rw [lockH_at, g]; rfl)
      · exact .inr (by show lockH ω.H0 b _ b = _; rw [lockH_at, g]; rfl)
    · rw [upd_ne q] at h
      rcases r.new b o h with g | g
      · exact .inl (by show lockH ω.F0 a _ b = _; rw [lockH_ne q]; exact g)
      · exact .inr (by show lockH ω.H0 a _ b = _; rw [lockH_ne q]; exact g)
  pt := r.pt.ext (fun q e => upd_ne fun z => r.noP hF (by rw [e, z])) (fun q e => upd_ne fun z => r.noP hF (by rw [e, z]))
  sl := fun i b e => (r.sl i b e).facts rfl (ok2_lock hF) fun c hc ⟨d, hd⟩ => by
    obtain ⟨_, g, _, _⟩ := r.ownAt (⟨i, d, by rw [e, hd], hc⟩ : Owned σ s c)
    have q : c ≠ a := fun z => by subst z; rw [hF] at g; cases g
    exact ⟨upd_ne q, upd_ne q, lockH_ne q⟩
  dis := r.dis
/-- back again; what was true ahead of the lock at a stands anew -/
theorem Sr.unlock {F5 H5 : Hp} {σ5 : L2.St} {s5 : S} (r0 : Sr K ω F σ H s) (hF : F a = some (.dK xs)) (r : Sr K (lockW ω a (.frz od (.dK xs))) F5 σ5 H5 s5) (x : Ex (upd F a (.frz od (.dK xs))) F5) :
    H5 a = some (.frz od (.dK xs)) ∧ Ex F (upd F5 a (.dK xs)) ∧ Ok2 F5 (upd F5 a (.dK xs)) ∧ Sr K ω (upd F5 a (.dK xs)) σ5 (upd H5 a (.dK xs)) s5 := by
  have h5 : F5 a = some (.frz od (.dK xs)) := x a _ upd_same
  refine ⟨r.sub _ _ h5, fun b o h => ?_, ok2_unlock h5, ?_⟩
  · by_cases q : b = a
    · subst q; rw [upd_same]; rw [hF] at h; exact h
    · rw [upd_ne q]; exact x b o (by rw [upd_ne q]; exact h)
  · refine ⟨r.len, fun b o h => ?_, fun b o hP h => ?_, fun b o h => ?_, r.pt.ext (fun q e => upd_ne fun z => r.noP h5 (by rw [e, z])) (fun q e => upd_ne fun z => r.noP h5 (by rw [e, z])), fun i b e => (r.sl i b e).facts (ω' := ω) rfl (ok2_unlock h5) fun c hc ⟨d, hd⟩ => ?_, r.dis⟩
    · by_cases q : b = a
      · subst q; rw [upd_same] at h ⊢; exact h
      · rw [upd_ne q] at h ⊢; exact r.sub b o h
    · by_cases q : b = a
      · subst q
        have g := r0.frm b o hP h
        rw [r0.sub _ _ hF] at g
        rw [upd_same]; exact g
      · rw [upd_ne q]
        exact r.frm b o hP (by show lockH ω.H0 a _ b = _; rw [lockH_ne q]; exact h)
    · by_cases q : b = a
      · subst q
        rw [upd_same] at h
        rw [h] at hF
        exact r0.new b o hF
      · rw [upd_ne q] at h
        rcases r.new b o h with g | g
        · exact .inl (by rw [show (lockW ω a (.frz od (.dK xs))).F0 b = _ from lockH_ne q] at g; exact g)
        · exact .inr (by rw [show (lockW ω a (.frz od (.dK xs))).H0 b = _ from lockH_ne q] at g; exact g)
    · obtain ⟨_, g, _, _⟩ := r.ownAt (⟨i, d, by rw [e, hd], hc⟩ : Owned σ5 s5 c)
      have q : c ≠ a := fun z => by subst z; rw [h5] at g; cases g
      exact ⟨upd_ne q, upd_ne q, (lockH_ne q).symm⟩
end
end Rb

namespace Rb
open PySem PySem.Spec PyProof.Rows L2
/-! ### for k, v in x.items(): the slot i holds the dict -/
def kD : Key → D
  | .inl i => .int i
  | .inr x => .str x
theorem kD_rp {K : PySem.W.Frag} {P : Option Addr} {F : Hp} (k : Key) : Rp K P F (kD k) (kV k) := by
  cases k <;> (unfold kD Rp; rfl)
def itemsD (ks : List (Key × D)) : List D := ks.map fun kv => .tup [kD kv.1, kv.2]
theorem rpk_get {K : PySem.W.Frag} {P : Option Addr} {F : Hp} : ∀ {ks : List (Key × D)} {xs : List (Key × V)} {i : Nat} {k : Key} {v : V}, RpK K P F ks xs → xs[i]? = some (k, v) → ∃ d, ks[i]? = some (k, d) ∧ Rp K P F d v
  | [], xs, i, k, v, h, e => by unfold RpK at h; subst h; simp at e
  | (k', d) :: ks, xs, 0, k, v, h, e => by
    unfold RpK at h
    obtain ⟨w, r, rfl, hw, hr⟩ := h
    simp at e
    obtain ⟨rfl, rfl⟩ := e
    exact ⟨d, rfl, hw⟩
  | (k', d) :: ks, xs, i + 1, k, v, h, e => by
    unfold RpK at h
    obtain ⟨w, r, rfl, hw, hr⟩ := h
    obtain ⟨d2, h1, h2⟩ := rpk_get (i := i) hr (by simpa using e)
    exact ⟨d2, by simpa using h1, h2⟩
theorem walkD_items {K : PySem.W.Frag} {P : Option Addr} {F : Hp} {a : Addr} {od : Obj} {xs : List (Key × V)} {ks : List (Key × D)} (h : F a = some (.frz od (.dK xs))) (hr : RpK K P F ks xs) : WalkD K P F (itemsD ks) (Iti a od xs) := by
  have hl := rpk_len hr
  have hn : (itemsD ks).length = ks.length := by simp [itemsD]
  refine ⟨fun H => H a = some (.frz od (.dK xs)), fun i H x H' => ∃ T k v, xs[i]? = some (k, v) ∧ x = .ref T ∧ H T = none ∧ H' = upd H T (.tup [kV k, v]), ⟨fun i H hi g => ⟨g, by omega⟩, fun H g => ⟨g, by omega⟩, fun i H x H' hi g hy => hy⟩, fun F' H e1 e2 => e2 _ _ (e1 _ _ h), fun ω i d x F' σ H H' s hP hd e1 sr hy => ?_⟩
  obtain ⟨T, k, v, hx, rfl, hT, rfl⟩ := hy
  obtain ⟨d1, g1, g2⟩ := rpk_get hr hx
  unfold itemsD at hd
  rw [List.getElem?_map, g1] at hd
  obtain rfl := (Option.some.inj hd).symm
  have ex : Ex F' (upd F' T (.tup [kV k, v])) := Ex.new (sr.sub.none hT)
  refine ⟨_, ex, sr.alloc hT, ?_⟩
  unfold Rp
  exact ⟨T, _, rfl, SqT.of upd_same, .cons (kD_rp k) (.cons (g2.mono (e1.trans ex)) .nil)⟩
end Rb

namespace Rb
open PySem PySem.Spec PyProof.Rows L2
def cForI (i : Nat) (g : D → S → Option S) (body : SS) : SS := fun s => match s.r[i]? with
  | some (.val (.dic ks)) => forL g body (itemsD ks) s
  | some (.own (.dic ks)) => forL g body (itemsD ks) { s with r := s.r.set i (.val (.dic ks)) }
  | _ => none
theorem endLock {K : PySem.W.Frag} {ω : Wd} {F0 F : Hp} {σ : L2.St} {H : Hp} {s s' : S} {a : Addr} {od : Obj} {xs : List (Key × V)} {D' : Ends} {fl : Fl} (r0 : Sr K ω F σ H s) (hF : F a = some (.dK xs)) (x0 : Ex F0 F) (p : EndOk K ω F0 D' s' fl) :
    EndOk K (lockW ω a (.frz od (.dK xs))) (upd F a (.frz od (.dK xs))) ⟨fun σ' H' => H' a = some (.frz od (.dK xs)) ∧ D'.nx σ' (upd H' a (.dK xs)), fun v H' => H' a = some (.frz od (.dK xs)) ∧ D'.rt v (upd H' a (.dK xs)), fun σ' H' => H' a = some (.frz od (.dK xs)) ∧ D'.bk σ' (upd H' a (.dK xs)), fun σ' H' => H' a = some (.frz od (.dK xs)) ∧ D'.ct σ' (upd H' a (.dK xs))⟩ s' fl := by
  cases fl with
  | nx =>
    intro σ5 F5 H5 x5 r5
    obtain ⟨u1, u2, _, u4⟩ := r0.unlock hF r5 x5
    exact ⟨u1, p σ5 _ _ (x0.trans u2) u4⟩
  | ct =>
    intro σ5 F5 H5 x5 r5
    obtain ⟨u1, u2, _, u4⟩ := r0.unlock hF r5 x5
    exact ⟨u1, p σ5 _ _ (x0.trans u2) u4⟩
  | bk =>
    intro σ5 F5 H5 x5 r5
    obtain ⟨u1, u2, _, u4⟩ := r0.unlock hF r5 x5
    exact ⟨u1, p σ5 _ _ (x0.trans u2) u4⟩
  | rt d =>
    intro v σ5 F5 H5 x5 r5 hv
    obtain ⟨u1, u2, u3, u4⟩ := r0.unlock hF r5 x5
    exact ⟨u1, p v σ5 _ _ (x0.trans u2) u4 (Rp.mono2 u3 d v hv)⟩
theorem ps_either {X : Cx} {st : Stmt} {t t' : TS} (h : PS X st t) (h' : PS X st t') : PS X st (fun D σ H => t D σ H ∨ t' D σ H) :=
  ⟨fun pins s σ H D I hw => hw.elim (h.run pins s σ H D I) (h'.run pins s σ H D I)⟩
theorem s_forI {X : Cx} {i : Nat} {x : Str} {pn : Pos} {elts : List Expr} {kk : Nat} {tpos apos cpos pos : Pos} {body : List Stmt} {ts : List Nat} {g : D → S → Option S} {c : SS} (hp : PassesOwn (model X.prog X.w) X.A X.env X.xe) (hc : X.calm = true) (hv : PE X (.Name x pn) (tVar i))
    (hg : PG X (.Tuple elts kk tpos) (rdG X.K ts g)) (hb : PSs X body (rdS X.K c))
    (hbase : attributeBase (.Name x pn) "items" X.env (eval (.Name x pn) X.env) = eval (.Name x pn) X.env) (hline : (apos.endLine == cpos.line) = true)
    (hs : ∀ z, foldedSetIterable (.Call (.Attribute (.Name x pn) "items" apos) [] [] cpos) X.env z = pure z) :
    PS X (.For (.Tuple elts kk tpos) (.Call (.Attribute (.Name x pn) "items" apos) [] [] cpos) body [] pos) (rdS X.K (cForI i g c)) :=
  (ps_either (ps_lock (ps_for hp hc (pi_items hv hbase hline) hg hb hs)) (ps_for hp hc (pi_items hv hbase hline) hg hb hs)).imp fun D' σ H ⟨ω, F, s, fl, s', sr, h, p⟩ => by
    -- the slot becomes known
    have hk : ∃ (F0 : Hp) (s1 : S) (ks : List (Key × D)) (v : V), Ex F F0 ∧ σ[i]? = some (some v) ∧ Sr X.K ω F0 σ H s1 ∧ Rp X.K ω.P F0 (.dic ks) v ∧ forL g c (itemsD ks) s1 = some (fl, s') := by
      unfold cForI at h
      split at h
      · rename_i ks h0
        obtain ⟨v, hσ, hr⟩ := sr.sl i _ h0
        exact ⟨F, s, ks, v, Ex.refl _, hσ, sr, hr, h⟩
      · rename_i ks h0
        obtain ⟨F0, v, x0, hσ, r0, hr⟩ := sr.frzSlot h0
        exact ⟨F0, _, ks, v, x0, hσ, r0, hr, h⟩
      · cases h
    obtain ⟨F0, s1, ks, v, x0, hσ, r0, hr, h⟩ := hk
    unfold Rp at hr
    obtain ⟨a, xs, rfl, hR, hr⟩ := hr
    rcases hR with hF | ⟨od, hF⟩
    · left
      refine ⟨a, .dK xs, r0.sub _ _ hF, trivial, fun od => ⟨_, hσ, a, od, xs, rfl, upd_same, ?_⟩⟩
      have r1 := r0.lock (od := od) hF
      have p1 := endLock (od := od) r0 hF x0 p
      have hr1 : RpK X.K ω.P (upd F0 a (.frz od (.dK xs))) ks xs := RpK.mono2 (ok2_lock hF) _ _ hr
      obtain ⟨G, Y, w, hG, hY⟩ := walkD_items (P := ω.P) upd_same hr1
      generalize hω : lockW ω a (.frz od (.dK xs)) = ω1 at *
      have hP1 : ω1.P = ω.P := by rw [← hω]; rfl
      generalize hds : itemsD ks = ds at *
      generalize hF1 : upd F0 a (.frz od (.dK xs)) = F1 at *
      refine for_it w (fun i σ' H' => i ≤ ds.length ∧ ∃ F2 s2, Ex F1 F2 ∧ Sr X.K ω1 F2 σ' H' s2 ∧ forL g c (ds.drop i) s2 = some (fl, s')) ⟨Nat.zero_le _, F1, s1, Ex.refl _, r1, by simpa using h⟩ (fun i σ' H' _ ⟨_, F2, s2, x2, r2, _⟩ => hG F2 H' x2 r2.sub) (fun i x σ' H' H2 hi ⟨_, F2, s2, x2, r2, e2⟩ hy => ?_) (fun σ' H' ⟨_, F2, s2, x2, r2, e2⟩ => ?_)
      · have hd : ds[i]? = some ds[i] := List.getElem?_eq_getElem hi
        rw [List.drop_eq_getElem_cons hi] at e2
        unfold forL at e2
        obtain ⟨s3, e3, e2⟩ := bind2 e2
        obtain ⟨⟨f4, s4⟩, e4, e2⟩ := bind2 e2
        obtain ⟨F3, x3, r3, hv⟩ := hY ω1 i _ x F2 σ' H' H2 s2 hP1 hd x2 r2 hy
        refine ⟨ω1, F3, s2, ds[i], s3, r3, (by rw [hP1]; exact hv), e3, fun σ4 F4 H4 _ x4 r4 => ?_⟩
        refine ⟨ω1, F4, s3, f4, s4, r4, e4, ?_⟩
        have xx := (x2.trans x3).trans x4
        cases f4 with
        | nx => exact fun σ5 F5 H5 x5 r5 => ⟨hi, F5, s4, xx.trans x5, r5, e2⟩
        | ct => exact fun σ5 F5 H5 x5 r5 => ⟨hi, F5, s4, xx.trans x5, r5, e2⟩
        | bk => cases e2; exact fun σ5 F5 H5 x5 r5 => p1 σ5 F5 H5 (xx.trans x5) r5
        | rt d => cases e2; exact fun v σ5 F5 H5 x5 r5 hv => p1 v σ5 F5 H5 (xx.trans x5) r5 hv
      · rw [List.drop_eq_nil_of_le (Nat.le_refl _)] at e2
        cases e2
        exact p1 σ' F2 H' x2 r2
    · right
      refine ⟨_, hσ, a, od, xs, rfl, r0.sub _ _ hF, ?_⟩
      have p1 := p.mono x0
      obtain ⟨G, Y, w, hG, hY⟩ := walkD_items (P := ω.P) hF hr
      have r1 := r0
      have hP1 : ω.P = ω.P := rfl
      generalize hω : ω = ω1 at *
      generalize hds : itemsD ks = ds at *
      generalize hF1 : F0 = F1 at *
      refine for_it w (fun i σ' H' => i ≤ ds.length ∧ ∃ F2 s2, Ex F1 F2 ∧ Sr X.K ω1 F2 σ' H' s2 ∧ forL g c (ds.drop i) s2 = some (fl, s')) ⟨Nat.zero_le _, F1, s1, Ex.refl _, r1, by simpa using h⟩ (fun i σ' H' _ ⟨_, F2, s2, x2, r2, _⟩ => hG F2 H' x2 r2.sub) (fun i x σ' H' H2 hi ⟨_, F2, s2, x2, r2, e2⟩ hy => ?_) (fun σ' H' ⟨_, F2, s2, x2, r2, e2⟩ => ?_)
      · have hd : ds[i]? = some ds[i] := List.getElem?_eq_getElem hi
        rw [List.drop_eq_getElem_cons hi] at e2
        unfold forL at e2
        obtain ⟨s3, e3, e2⟩ := bind2 e2
        obtain ⟨⟨f4, s4⟩, e4, e2⟩ := bind2 e2
        obtain ⟨F3, x3, r3, hv⟩ := hY ω1 i _ x F2 σ' H' H2 s2 hP1 hd x2 r2 hy
        refine ⟨ω1, F3, s2, ds[i], s3, r3, hv, e3, fun σ4 F4 H4 _ x4 r4 => ?_⟩
        refine ⟨ω1, F4, s3, f4, s4, r4, e4, ?_⟩
        have xx := (x2.trans x3).trans x4
        cases f4 with
        | nx => exact fun σ5 F5 H5 x5 r5 => ⟨hi, F5, s4, xx.trans x5, r5, e2⟩
        | ct => exact fun σ5 F5 H5 x5 r5 => ⟨hi, F5, s4, xx.trans x5, r5, e2⟩
        | bk => cases e2; exact fun σ5 F5 H5 x5 r5 => p1 σ5 F5 H5 (xx.trans x5) r5
        | rt d => cases e2; exact fun v σ5 F5 H5 x5 r5 hv => p1 v σ5 F5 H5 (xx.trans x5) r5 hv
      · rw [List.drop_eq_nil_of_le (Nat.le_refl _)] at e2
        cases e2
        exact p1 σ' F2 H' x2 r2
end Rb

namespace Rb
open PySem PySem.Spec PyProof.Rows L2
/-! ### for k in x: the slot i holds the dict -/
def keysD (ks : List (Key × D)) : List D := ks.map fun kv => kD kv.1
theorem walkD_keys {K : PySem.W.Frag} {P : Option Addr} {F : Hp} {a : Addr} {od : Obj} {xs : List (Key × V)} {ks : List (Key × D)} (h : F a = some (.frz od (.dK xs))) (hr : RpK K P F ks xs) : WalkD K P F (keysD ks) (Itk a od xs) := by
  have hl := rpk_len hr
  have hn : (keysD ks).length = ks.length := by simp [keysD]
  refine ⟨fun H => H a = some (.frz od (.dK xs)), fun i H x H' => H' = H ∧ ∃ k v, xs[i]? = some (k, v) ∧ x = kV k, ⟨fun i H hi g => ⟨g, by omega⟩, fun H g => ⟨g, by omega⟩, fun i H x H' hi g hy => hy⟩, fun F' H e1 e2 => e2 _ _ (e1 _ _ h), fun ω i d x F' σ H H' s hP hd e1 sr hy => ?_⟩
  obtain ⟨rfl, k, v, hx, rfl⟩ := hy
  obtain ⟨d1, g1, g2⟩ := rpk_get hr hx
  unfold keysD at hd
  rw [List.getElem?_map, g1] at hd
  obtain rfl := (Option.some.inj hd).symm
  exact ⟨F', Ex.refl _, sr, kD_rp k⟩
def cForK (i : Nat) (g : D → S → Option S) (body : SS) : SS := fun s => match s.r[i]? with
  | some (.val (.dic ks)) => forL g body (keysD ks) s
  | some (.own (.dic ks)) => forL g body (keysD ks) { s with r := s.r.set i (.val (.dic ks)) }
  | _ => none
theorem s_forK {X : Cx} {i : Nat} {x : Str} {pn : Pos} {tg : Expr} {pos : Pos} {body : List Stmt} {ts : List Nat} {g : D → S → Option S} {c : SS} (hp : PassesOwn (model X.prog X.w) X.A X.env X.xe) (hc : X.calm = true) (hv : PE X (.Name x pn) (tVar i))
    (hg : PG X tg (rdG X.K ts g)) (hb : PSs X body (rdS X.K c)) (hs : ∀ z, foldedSetIterable (.Name x pn) X.env z = pure z) :
    PS X (.For tg (.Name x pn) body [] pos) (rdS X.K (cForK i g c)) :=
  (ps_either (ps_lock (ps_for hp hc (pi_keys hv) hg hb hs)) (ps_for hp hc (pi_keys hv) hg hb hs)).imp fun D' σ H ⟨ω, F, s, fl, s', sr, h, p⟩ => by
    -- the slot becomes known
    have hk : ∃ (F0 : Hp) (s1 : S) (ks : List (Key × D)) (v : V), Ex F F0 ∧ σ[i]? = some (some v) ∧ Sr X.K ω F0 σ H s1 ∧ Rp X.K ω.P F0 (.dic ks) v ∧ forL g c (keysD ks) s1 = some (fl, s') := by
      unfold cForK at h
      split at h
      · rename_i ks h0
        obtain ⟨v, hσ, hr⟩ := sr.sl i _ h0
        exact ⟨F, s, ks, v, Ex.refl _, hσ, sr, hr, h⟩
      · rename_i ks h0
        obtain ⟨F0, v, x0, hσ, r0, hr⟩ := sr.frzSlot h0
        exact ⟨F0, _, ks, v, x0, hσ, r0, hr, h⟩
      · cases h
    obtain ⟨F0, s1, ks, v, x0, hσ, r0, hr, h⟩ := hk
    unfold Rp at hr
    obtain ⟨a, xs, rfl, hR, hr⟩ := hr
    rcases hR with hF | ⟨od, hF⟩
    · left
      refine ⟨a, .dK xs, r0.sub _ _ hF, trivial, fun od => ⟨_, hσ, a, od, rfl, .inl ⟨xs, upd_same, ?_⟩⟩⟩
      have r1 := r0.lock (od := od) hF
      have p1 := endLock (od := od) r0 hF x0 p
      have hr1 : RpK X.K ω.P (upd F0 a (.frz od (.dK xs))) ks xs := RpK.mono2 (ok2_lock hF) _ _ hr
      obtain ⟨G, Y, w, hG, hY⟩ := walkD_keys (P := ω.P) upd_same hr1
      generalize hω : lockW ω a (.frz od (.dK xs)) = ω1 at *
      have hP1 : ω1.P = ω.P := by rw [← hω]; rfl
      generalize hds : keysD ks = ds at *
      generalize hF1 : upd F0 a (.frz od (.dK xs)) = F1 at *
      refine for_it w (fun i σ' H' => i ≤ ds.length ∧ ∃ F2 s2, Ex F1 F2 ∧ Sr X.K ω1 F2 σ' H' s2 ∧ forL g c (ds.drop i) s2 = some (fl, s')) ⟨Nat.zero_le _, F1, s1, Ex.refl _, r1, by simpa using h⟩ (fun i σ' H' _ ⟨_, F2, s2, x2, r2, _⟩ => hG F2 H' x2 r2.sub) (fun i x σ' H' H2 hi ⟨_, F2, s2, x2, r2, e2⟩ hy => ?_) (fun σ' H' ⟨_, F2, s2, x2, r2, e2⟩ => ?_)
      · have hd : ds[i]? = some ds[i] := List.getElem?_eq_getElem hi
        rw [List.drop_eq_getElem_cons hi] at e2
        unfold forL at e2
        obtain ⟨s3, e3, e2⟩ := bind2 e2
        obtain ⟨⟨f4, s4⟩, e4, e2⟩ := bind2 e2
        obtain ⟨F3, x3, r3, hv⟩ := hY ω1 i _ x F2 σ' H' H2 s2 hP1 hd x2 r2 hy
        refine ⟨ω1, F3, s2, ds[i], s3, r3, (by rw [hP1]; exact hv), e3, fun σ4 F4 H4 _ x4 r4 => ?_⟩
        refine ⟨ω1, F4, s3, f4, s4, r4, e4, ?_⟩
        have xx := (x2.trans x3).trans x4
        cases f4 with
        | nx => exact fun σ5 F5 H5 x5 r5 => ⟨hi, F5, s4, xx.trans x5, r5, e2⟩
        | ct => exact fun σ5 F5 H5 x5 r5 => ⟨hi, F5, s4, xx.trans x5, r5, e2⟩
        | bk => cases e2; exact fun σ5 F5 H5 x5 r5 => p1 σ5 F5 H5 (xx.trans x5) r5
        | rt d => cases e2; exact fun v σ5 F5 H5 x5 r5 hv => p1 v σ5 F5 H5 (xx.trans x5) r5 hv
      · rw [List.drop_eq_nil_of_le (Nat.le_refl _)] at e2
        cases e2
        exact p1 σ' F2 H' x2 r2
    · right
      refine ⟨_, hσ, a, od, rfl, .inl ⟨xs, r0.sub _ _ hF, ?_⟩⟩
      have p1 := p.mono x0
      obtain ⟨G, Y, w, hG, hY⟩ := walkD_keys (P := ω.P) hF hr
      have r1 := r0
      have hP1 : ω.P = ω.P := rfl
      generalize hω : ω = ω1 at *
      generalize hds : keysD ks = ds at *
      generalize hF1 : F0 = F1 at *
      refine for_it w (fun i σ' H' => i ≤ ds.length ∧ ∃ F2 s2, Ex F1 F2 ∧ Sr X.K ω1 F2 σ' H' s2 ∧ forL g c (ds.drop i) s2 = some (fl, s')) ⟨Nat.zero_le _, F1, s1, Ex.refl _, r1, by simpa using h⟩ (fun i σ' H' _ ⟨_, F2, s2, x2, r2, _⟩ => hG F2 H' x2 r2.sub) (fun i x σ' H' H2 hi ⟨_, F2, s2, x2, r2, e2⟩ hy => ?_) (fun σ' H' ⟨_, F2, s2, x2, r2, e2⟩ => ?_)
      · have hd : ds[i]? = some ds[i] := List.getElem?_eq_getElem hi
        rw [List.drop_eq_getElem_cons hi] at e2
        unfold forL at e2
        obtain ⟨s3, e3, e2⟩ := bind2 e2
        obtain ⟨⟨f4, s4⟩, e4, e2⟩ := bind2 e2
        obtain ⟨F3, x3, r3, hv⟩ := hY ω1 i _ x F2 σ' H' H2 s2 hP1 hd x2 r2 hy
        refine ⟨ω1, F3, s2, ds[i], s3, r3, hv, e3, fun σ4 F4 H4 _ x4 r4 => ?_⟩
        refine ⟨ω1, F4, s3, f4, s4, r4, e4, ?_⟩
        have xx := (x2.trans x3).trans x4
        cases f4 with
        | nx => exact fun σ5 F5 H5 x5 r5 => ⟨hi, F5, s4, xx.trans x5, r5, e2⟩
        | ct => exact fun σ5 F5 H5 x5 r5 => ⟨hi, F5, s4, xx.trans x5, r5, e2⟩
        | bk => cases e2; exact fun σ5 F5 H5 x5 r5 => p1 σ5 F5 H5 (xx.trans x5) r5
        | rt d => cases e2; exact fun v σ5 F5 H5 x5 r5 hv => p1 v σ5 F5 H5 (xx.trans x5) r5 hv
      · rw [List.drop_eq_nil_of_le (Nat.le_refl _)] at e2
        cases e2
        exact p1 σ' F2 H' x2 r2
end Rb

namespace Rb
open PySem PySem.Spec PyProof.Rows L2
/-! ### zip whose pair is held -/
section
variable {prog : Program} {w : World} {A : Around} {E : Value → Shared → Prop} {s : Shared} {z TI TO T i1 i2 : Addr} {fp1 fp2 : List Addr} {n1 n2 i : Nat} {P1 P2 : Nat → Value → Prop} {St1 St2 : Nat → Heap → Prop} {f : Bool} {oT : Obj}
theorem zipH_item {Q : Value → Shared → Prop} (S : ZipSep2 z TI TO i1 i2 fp1 fp2) (D1 : Draws prog w A i1 fp1 n1 P1 St1) (D2 : Draws prog w A i2 fp2 n2 P2 St2)
    (hz : IsZipHeld s.heap z TI TO T f) (hT : s.heap.get? T = some oT) (hTI : IsTupOf2 s.heap TI (.ref i1) (.ref i2)) (st1 : St1 i s.heap) (st2 : St2 i s.heap) (g1 : i < n1) (g2 : i < n2)
    (hQ : ∀ x y h' tk, P1 i x → P2 i y → IsZipHeld h' z TI TO T true → St1 (i + 1) h' → St2 (i + 1) h' → IsTupOf2 h' s.heap.objs.size x y → h'.objs.size = s.heap.objs.size + 1 →
      (∀ c o, c ≠ z → c ≠ i1 → c ≠ i2 → s.heap.get? c = some o → h'.get? c = some o) → Q (.ref s.heap.objs.size) { s with heap := h', toks := tk }) :
    wpAny (model prog w) A (Builtin.«zip.__next__» ⟨[.ref z], []⟩) (fun fin s' => ∃ v, fin = .done (.ret v) ∧ Q v s') E s := by
  obtain ⟨hp, g, d, tk0, os⟩ := s
  show wpAny _ _ (field (.ref z) 2 >>= _) _ _ _
  refine wpAny_bind (wpAny_field hz rfl (x := .bool false) rfl ?_)
  show wpAny _ _ (field (.ref z) 3 >>= _) _ _ _
  refine wpAny_bind (wpAny_field hz rfl (x := .ref TI) rfl ?_)
  refine wpAny_bind (wpAny_seqItems hTI rfl ?_)
  show wpAny _ _ (Builtin.SmallTypes.ownedTupleIsFree (.ref z) >>= _) _ _ _
  refine wpAny_bind (wpAny_tupleHeld_zip hz hT fun h1 hz1 hs1 => ?_)
  replace hs1 : Heap.SameBut z hp h1 := hs1
  simp only [Bool.false_eq_true, if_false]
  refine wpAny_bind ?_
  rw [← Array.forIn_toList]
  simp only [List.forIn_cons, List.forIn_nil]
  refine wpAny_bind (wpAny_bind (wpAny_holding ?_))
  show wpAny _ _ (Builtin.SmallTypes.nextOf (.ref i1) >>= _) _ _ ⟨h1, g, d, tk0, os⟩
  refine wpAny_bind (D1.item i _ _ _ g1 (D1.over st1 hs1 S.zf1) fun x h2 tk1 hx sn1 hs2 => wpAny_pure ?_)
  replace hs2 : Heap.SameBut i1 h1 h2 := hs2
  refine wpAny_pure ?_
  refine wpAny_bind (wpAny_bind (wpAny_holding ?_))
  show wpAny _ _ (Builtin.SmallTypes.nextOf (.ref i2) >>= _) _ _ ⟨h2, g, d, tk1, os⟩
  refine wpAny_bind (D2.item i _ _ _ g2 (D2.over (D2.over st2 hs1 S.zf2) hs2 S.sep1_2) fun y h3 tk2 hy sn2 hs3 => wpAny_pure ?_)
  replace hs3 : Heap.SameBut i2 h2 h3 := hs3
  refine wpAny_pure (wpAny_pure ?_)
  show wpAny _ _ (newTuple [x, y] >>= _) _ _ _
  refine wpAny_bind (wpAny_newTuple ?_)
  have hsz : h3.objs.size = hp.objs.size := by rw [hs3.1, hs2.1, hs1.1]
  have hz3 : IsZipHeld h3 z TI TO T true := hs3.extBut _ _ S.zi2 (hs2.extBut _ _ S.zi1 hz1)
  have hk : ∀ c o, c ≠ z → c ≠ i1 → c ≠ i2 → hp.get? c = some o → h3.get? c = some o := fun c o c1 c2 c3 e => hs3.extBut _ _ c3 (hs2.extBut _ _ c2 (hs1.extBut _ _ c1 e))
  have hj1 : St1 (i + 1) h3 := D1.over sn1 hs3 S.sep2_1
  refine wpAny_pure ⟨_, rfl, ?_⟩
  show Q (.ref h3.objs.size) _
  have hp2 : IsTupOf2 (h3.push { cls := .type "tuple", data := .seq #[x, y] }) h3.objs.size x y := Heap.get?_push_size _ rfl
  have hz4 : (h3.push { cls := .type "tuple", data := .seq #[x, y] }).objs.size = h3.objs.size + 1 := Heap.size_push ..
  rw [hsz] at hp2 hz4 ⊢
  exact hQ x y _ tk2 hx hy (Heap.get?_push_of_some _ hz3) (D1.frame _ _ _ hj1 fun b _ o e => Heap.get?_push_of_some _ e) (D2.frame _ _ _ sn2 fun b _ o e => Heap.get?_push_of_some _ e) hp2 hz4 fun c o c1 c2 c3 e => Heap.get?_push_of_some _ (hk c o c1 c2 c3 e)
theorem zipH_end {Q : Fin → Shared → Prop} (S : ZipSep2 z TI TO i1 i2 fp1 fp2) (D1 : Draws prog w A i1 fp1 n1 P1 St1) (D2 : Draws prog w A i2 fp2 n2 P2 St2)
    (hz : IsZipHeld s.heap z TI TO T f) (hT : s.heap.get? T = some oT) (hTI : IsTupOf2 s.heap TI (.ref i1) (.ref i2)) (st1 : St1 i s.heap) (st2 : St2 i s.heap) (l1 : i ≤ n1) (l2 : i ≤ n2) (he : i = n1 ∨ i = n2)
    (hE : ∀ h' tk e, (∀ c o, c ≠ z → c ≠ i1 → c ≠ i2 → s.heap.get? c = some o → h'.get? c = some o) → (∃ o, h'.get? e = some o ∧ o.cls = .type "StopIteration") → E (.ref e) { s with heap := h', toks := tk }) :
    wpAny (model prog w) A (Builtin.«zip.__next__» ⟨[.ref z], []⟩) Q E s := by
  obtain ⟨hp, g, d, tk0, os⟩ := s
  show wpAny _ _ (field (.ref z) 2 >>= _) _ _ _
  refine wpAny_bind (wpAny_field hz rfl (x := .bool false) rfl ?_)
  show wpAny _ _ (field (.ref z) 3 >>= _) _ _ _
  refine wpAny_bind (wpAny_field hz rfl (x := .ref TI) rfl ?_)
  refine wpAny_bind (wpAny_seqItems hTI rfl ?_)
  show wpAny _ _ (Builtin.SmallTypes.ownedTupleIsFree (.ref z) >>= _) _ _ _
  refine wpAny_bind (wpAny_tupleHeld_zip hz hT fun h1 hz1 hs1 => ?_)
  replace hs1 : Heap.SameBut z hp h1 := hs1
  simp only [Bool.false_eq_true, if_false]
  refine wpAny_bind ?_
  rw [← Array.forIn_toList]
  simp only [List.forIn_cons, List.forIn_nil]
  refine wpAny_bind (wpAny_bind (wpAny_holding ?_))
  show wpAny _ _ (Builtin.SmallTypes.nextOf (.ref i1) >>= _) _ _ ⟨h1, g, d, tk0, os⟩
  by_cases q1 : i = n1
  · subst q1
    exact wpAny_bind (D1.done _ _ _ (D1.over st1 hs1 S.zf1) fun h2 e hs2 he => hE h2 tk0 e (fun c o c1 c2 _ x => hs2 _ _ c2 (hs1.extBut _ _ c1 x)) he)
  · have q2 : i = n2 := he.resolve_left q1
    refine wpAny_bind (D1.item i _ _ _ (by omega) (D1.over st1 hs1 S.zf1) fun x h2 tk1 hx sn1 hs2 => wpAny_pure ?_)
    replace hs2 : Heap.SameBut i1 h1 h2 := hs2
    refine wpAny_pure ?_
    refine wpAny_bind (wpAny_bind (wpAny_holding ?_))
    show wpAny _ _ (Builtin.SmallTypes.nextOf (.ref i2) >>= _) _ _ ⟨h2, g, d, tk1, os⟩
    subst q2
    exact wpAny_bind (D2.done _ _ _ (D2.over (D2.over st2 hs1 S.zf2) hs2 S.sep1_2) fun h3 e hs3 he => hE h3 tk1 e (fun c o c1 c2 c3 x => hs3 _ _ c3 (hs2.extBut _ _ c2 (hs1.extBut _ _ c1 x))) he)
end
end Rb

namespace Rb
open PySem PySem.Spec PyProof.Rows L2
section
variable {prog : Program} {w : World} {A : Around} {E : Value → Shared → Prop} {s : Shared} {z TI TO T i1 i2 : Addr} {fp1 fp2 : List Addr} {n1 n2 i : Nat} {P1 P2 : Nat → Value → Prop} {St1 St2 : Nat → Heap → Prop} {f : Bool} {oT : Obj}
theorem pyNext_zipH_item {Q : Option Value → Shared → Prop} (S : ZipSep2 z TI TO i1 i2 fp1 fp2) (D1 : Draws prog w A.in1 i1 fp1 n1 P1 St1) (D2 : Draws prog w A.in1 i2 fp2 n2 P2 St2)
    (hz : IsZipHeld s.heap z TI TO T f) (hT : s.heap.get? T = some oT) (hTI : IsTupOf2 s.heap TI (.ref i1) (.ref i2)) (st1 : St1 i s.heap) (st2 : St2 i s.heap) (g1 : i < n1) (g2 : i < n2)
    (hQ : ∀ x y h' tk, P1 i x → P2 i y → IsZipHeld h' z TI TO T true → St1 (i + 1) h' → St2 (i + 1) h' → IsTupOf2 h' s.heap.objs.size x y → h'.objs.size = s.heap.objs.size + 1 →
      (∀ c o, c ≠ z → c ≠ i1 → c ≠ i2 → s.heap.get? c = some o → h'.get? c = some o) → Q (some (.ref s.heap.objs.size)) { s with heap := h', toks := tk }) :
    wpAny (model prog w) A (pyNext (.ref z)) Q E s := by
  have hTy : s.TypeIs (.ref z) "zip" := ⟨_, hz, rfl⟩
  unfold pyNext
  exact wpAny_bind (wpAny_attempt (wpAny_callSpecial?_slot (name := Str.ofString "__next__") hTy F.slot_zip_next
    (wpAny_call_entry F.slot_zip_next hTy F.entry_zip_next
      (zipH_item S D1 D2 hz hT hTI st1 st2 g1 g2 fun x y h' tk a1 a2 a3 a4 a5 a6 a7 a8 => wpAny_pure (hQ x y h' tk a1 a2 a3 a4 a5 a6 a7 a8)) (F.args_zip_next_1 _))))
theorem pyNext_zipH_end {Q : Option Value → Shared → Prop} (S : ZipSep2 z TI TO i1 i2 fp1 fp2) (D1 : Draws prog w A.in1 i1 fp1 n1 P1 St1) (D2 : Draws prog w A.in1 i2 fp2 n2 P2 St2)
    (hz : IsZipHeld s.heap z TI TO T f) (hT : s.heap.get? T = some oT) (hTI : IsTupOf2 s.heap TI (.ref i1) (.ref i2)) (st1 : St1 i s.heap) (st2 : St2 i s.heap) (l1 : i ≤ n1) (l2 : i ≤ n2) (he : i = n1 ∨ i = n2)
    (hQ : ∀ h' tk, (∀ c o, c ≠ z → c ≠ i1 → c ≠ i2 → s.heap.get? c = some o → h'.get? c = some o) → Q none { s with heap := h', toks := tk }) : wpAny (model prog w) A (pyNext (.ref z)) Q E s := by
  have hTy : s.TypeIs (.ref z) "zip" := ⟨_, hz, rfl⟩
  unfold pyNext
  refine wpAny_bind (wpAny_attempt (wpAny_callSpecial?_slot (name := Str.ofString "__next__") hTy F.slot_zip_next
    (wpAny_call_entry F.slot_zip_next hTy F.entry_zip_next (zipH_end S D1 D2 hz hT hTI st1 st2 l1 l2 he fun h' tk e hk hx => ?_) (F.args_zip_next_1 _))))
  obtain ⟨o, ho, hc⟩ := hx
  exact wpAny_bind (wpAny_isInstance (T := "StopIteration") (b := true) ⟨o, ho, hc⟩ isSubtype_stop (wpAny_pure (hQ _ _ hk)))
end
end Rb

namespace Rb
open PySem PySem.Spec PyProof.Rows L2
/-! ### list(zip(a, b)): the loop that fills the list -/
structure ZL (b1 b2 : Bool) (S z TI TO i1 i2 a b : Addr) (its1 its2 : Array Value) (N0 : Nat) (h0 : Heap) (h : Heap) (Ts : List Addr) : Prop where
  ls : ∃ c, h.get? S = some { cls := .type "list", dict := none, data := .seq (Ts.map Value.ref).toArray c, slots := #[] }
  ti : IsTupOf2 h TI (.ref i1) (.ref i2)
  zz : (IsZip h z TI TO .none ∧ ∃ x y, IsTupOf2 h TO x y) ∨ ∃ T f oT, IsZipHeld h z TI TO T f ∧ h.get? T = some oT ∧ N0 ≤ T
  s1 : IsIt b1 h i1 a Ts.length ∧ IsSq b1 h a its1
  s2 : IsIt b2 h i2 b Ts.length ∧ IsSq b2 h b its2
  pr : ∀ (j : Nat) (T : Addr), Ts[j]? = some T → ∃ x y, its1[j]? = some x ∧ its2[j]? = some y ∧ IsTupOf2 h T x y
  nd : Ts.Nodup
  nw : ∀ T ∈ Ts, N0 ≤ T
  sz : N0 ≤ h.objs.size
  od : ∀ c o, c ∉ [S, z, TO, i1, i2] → h0.get? c = some o → h.get? c = some o
section
variable {b1 b2 : Bool} {S z TI TO i1 i2 a b : Addr} {its1 its2 : Array Value} {N0 : Nat} {h0 h h' : Heap} {Ts : List Addr}
theorem ZL.lt (x : ZL b1 b2 S z TI TO i1 i2 a b its1 its2 N0 h0 h Ts) {T : Addr} (m : T ∈ Ts) : T < h.objs.size := by
  obtain ⟨j, hj, e⟩ := List.getElem_of_mem m
  obtain ⟨u, v, _, _, q⟩ := x.pr j T (by rw [List.getElem?_eq_getElem hj, e])
  exact Heap.lt_size q
theorem IsSq.to {b : Bool} {l : Addr} {items : Array Value} (x : IsSq b h l items) (k : ∀ o, h.get? l = some o → h'.get? l = some o) : IsSq b h' l items := by
  cases b with
  | false => exact Heap.IsList.at x k
  | true => exact Heap.IsTuple.at x k
theorem ZL.pr' (x : ZL b1 b2 S z TI TO i1 i2 a b its1 its2 N0 h0 h Ts) (hlt : ∀ c ∈ [S, z, TO, i1, i2], c < N0) (k : ∀ c o, c ∉ [S, z, TO, i1, i2] → h.get? c = some o → h'.get? c = some o) :
    ∀ (j : Nat) (T : Addr), Ts[j]? = some T → ∃ x y, its1[j]? = some x ∧ its2[j]? = some y ∧ IsTupOf2 h' T x y := by
  intro j T e
  obtain ⟨u, v, e1, e2, q⟩ := x.pr j T e
  refine ⟨u, v, e1, e2, k T _ (fun m => ?_) q⟩
  exact Nat.lt_irrefl _ (Nat.lt_of_lt_of_le (hlt T m) (x.nw T (List.mem_of_getElem? e)))
/-- one more item: what a call of the zip's next did, then the push -/
theorem ZL.step (x : ZL b1 b2 S z TI TO i1 i2 a b its1 its2 N0 h0 h Ts) (hlt : ∀ c ∈ [S, z, TO, i1, i2], c < N0) (hS : ∀ c ∈ [z, TI, TO, i1, i2, a, b], c ≠ S)
    (hTI : TI ∉ [S, z, TO, i1, i2]) {v1 v2 : Value} {f : Bool} {T : Addr} {oT : Obj} (k : ∀ c o, c ∉ [z, TO, i1, i2] → h.get? c = some o → h'.get? c = some o)
    (e1 : its1[Ts.length]? = some v1) (e2 : its2[Ts.length]? = some v2) (hz : IsZipHeld h' z TI TO T f) (hT : h'.get? T = some oT) (hN : N0 ≤ T)
    (t1 : IsIt b1 h' i1 a (Ts.length + 1) ∧ IsSq b1 h' a its1) (t2 : IsIt b2 h' i2 b (Ts.length + 1) ∧ IsSq b2 h' b its2) (hn : IsTupOf2 h' h.objs.size v1 v2) (hs : h'.objs.size = h.objs.size + 1) :
    ZL b1 b2 S z TI TO i1 i2 a b its1 its2 N0 h0 (h'.update S (Obj.mapSeq (·.push (.ref h.objs.size)))) (Ts ++ [h.objs.size]) := by
  obtain ⟨c, hc⟩ := x.ls
  have nS : S ∉ [z, TO, i1, i2] := fun m => by
    simp only [List.mem_cons, List.not_mem_nil, or_false] at m
    rcases m with m | m | m | m <;> exact hS S (by simp [← m]) rfl
  have hc' := k S _ nS hc
  have oth : ∀ {c : Addr} {o : Obj}, c ≠ S → h'.get? c = some o → (h'.update S (Obj.mapSeq (·.push (.ref h.objs.size)))).get? c = some o := fun ne e => (Heap.get?_update_other _ _ (Ne.symm ne)).trans e
  have k2 : ∀ c o, c ∉ [S, z, TO, i1, i2] → h.get? c = some o → (h'.update S (Obj.mapSeq (·.push (.ref h.objs.size)))).get? c = some o := fun c o m e => oth (fun e => m (by simp [e])) (k c o (fun m' => m (List.mem_cons_of_mem _ m')) e)
  have hlen : (Ts ++ [h.objs.size]).length = Ts.length + 1 := by simp
  have hszS : S < h.objs.size := Heap.lt_size hc
  refine ⟨?_, ?_, .inr ⟨T, f, oT, oth (hS z (by simp)) hz, oth ?_ hT, hN⟩, ?_, ?_, ?_, ?_, ?_, ?_, ?_⟩
  · have := Heap.get?_update_self (Obj.mapSeq (·.push (Value.ref h.objs.size))) hc' rfl
    rw [List.map_append, List.map_cons, List.map_nil, ← List.push_toArray]
    exact ⟨_, this⟩
  · exact k2 TI _ hTI x.ti
  · exact fun e => Nat.lt_irrefl _ (Nat.lt_of_lt_of_le (hlt S (by simp)) (by rw [← e]; exact hN))
  · rw [hlen]; exact ⟨t1.1.to fun o e => oth (hS i1 (by simp)) e, t1.2.to fun o e => oth (hS a (by simp)) e⟩
  · rw [hlen]; exact ⟨t2.1.to fun o e => oth (hS i2 (by simp)) e, t2.2.to fun o e => oth (hS b (by simp)) e⟩
  · intro j U e
    by_cases hj : j < Ts.length
    · rw [List.getElem?_append_left hj] at e
      exact x.pr' hlt k2 j U e
    · rw [List.getElem?_append_right (by omega)] at e
      have hj0 : j - Ts.length = 0 := by
        cases q : j - Ts.length with
        | zero => rfl
        | succ m => rw [q] at e; simp at e
      have hj' : j = Ts.length := by omega
      subst hj'
      rw [hj0] at e
      cases e
      exact ⟨v1, v2, e1, e2, oth (Nat.ne_of_gt hszS) hn⟩
  · rw [List.nodup_append]
    refine ⟨x.nd, by simp, fun u hu w hw => ?_⟩
    simp only [List.mem_singleton] at hw
    subst hw
    exact Nat.ne_of_lt (x.lt hu)
  · intro U hU
    rcases List.mem_append.1 hU with m | m
    · exact x.nw U m
    · rw [List.mem_singleton.1 m]; exact x.sz
  · have := (Heap.size_update (f := Obj.mapSeq (·.push (Value.ref h.objs.size))) (h := h') (a := S))
    rw [this, hs]
    have := x.sz
    omega
  · exact fun c o m e => k2 c o m (x.od c o m e)
end
end Rb

namespace Rb
open PySem PySem.Spec PyProof.Rows L2
theorem zl_loop {prog : Program} {w : World} {A : Around} (hh : A.in1.in1.handled = none) {b1 b2 : Bool} {S z TI TO i1 i2 a b : Addr} {its1 its2 : Array Value} {N0 : Nat} {h0 : Heap}
    (D : ZipSep2 z TI TO i1 i2 [i1, a] [i2, b]) (ha : a ≠ i1) (hb : b ≠ i2) (hlt : ∀ c ∈ [S, z, TO, i1, i2], c < N0) (hS : ∀ c ∈ [z, TI, TO, i1, i2, a, b], c ≠ S) (hTI : TI ∉ [S, z, TO, i1, i2])
    (hsz : min its1.size its2.size ≤ 1000000) (res : Value) (R : Result → Shared → Prop) (g : Array GenState) (dr : Drawn) (os : OsState)
    (hR : ∀ (h : Heap) (tk : Nat) (Ts : List Addr) (c : Nat), h.get? S = some { cls := .type "list", dict := none, data := .seq (Ts.map Value.ref).toArray c, slots := #[] } → Ts.length = min its1.size its2.size → Ts.Nodup → (∀ T ∈ Ts, N0 ≤ T) →
      (∀ (j : Nat) (T : Addr), Ts[j]? = some T → ∃ x y, its1[j]? = some x ∧ its2[j]? = some y ∧ IsTupOf2 h T x y) → (∀ c o, c ∉ [S, z, TO, i1, i2] → h0.get? c = some o → h.get? c = some o) → R (.ok (.ret res)) ⟨h, g, dr, tk, os⟩) :
    ∀ (k : Nat) (h : Heap) (tk : Nat) (Ts : List Addr), min its1.size its2.size - Ts.length = k → Ts.length ≤ min its1.size its2.size → ZL b1 b2 S z TI TO i1 i2 a b its1 its2 N0 h0 h Ts →
      codeAny (model prog w) A (.builtin "list.extend.loop" ⟨[.ref S, .ref z, res], []⟩) R ⟨h, g, dr, tk, os⟩ := by
  have zne : ∀ c, c ∈ [z, TO, i1, i2] → c ∈ [S, z, TO, i1, i2] := fun c m => List.mem_cons_of_mem _ m
  intro k
  induction k with
  | zero =>
    intro h tk Ts hk hi x
    have hin : Ts.length = min its1.size its2.size := by omega
    refine codeAny_builtin F.entry_extend_loop ?_
    rw [Around.under_plainId F.plain_extend_loop _]
    show wpAny _ A.in1 (pyNext (.ref z) >>= _) _ _ _
    refine wpAny_bind ?_
    have fin : ∀ (h' : Heap) (tk' : Nat), (∀ c o, c ∉ [z, TO, i1, i2] → h.get? c = some o → h'.get? c = some o) → R (.ok (.ret res)) ⟨h', g, dr, tk', os⟩ := by
      intro h' tk' kk
      obtain ⟨c, hc⟩ := x.ls
      refine hR h' tk' Ts c (kk S _ (fun m => ?_) hc) hin x.nd x.nw (x.pr' hlt fun c o m e => kk c o (fun m' => m (zne c m')) e) fun c o m e => kk c o (fun m' => m (zne c m')) (x.od c o m e)
      simp only [List.mem_cons, List.not_mem_nil, or_false] at m
      rcases m with m | m | m | m <;> exact hS S (by simp [← m]) rfl
    have nt : ∀ {p q r t c : Addr}, c ≠ p → c ≠ q → c ≠ r → c ≠ t → c ∉ [p, q, r, t] := fun h1 h2 h3 h4 m => by
      simp only [List.mem_cons, List.not_mem_nil, or_false] at m
      rcases m with m | m | m | m
      · exact h1 m
      · exact h2 m
      · exact h3 m
      · exact h4 m
    rcases x.zz with ⟨hz, u, v, hTO⟩ | ⟨T, f, oT, hz, hT, hN⟩
    · exact wpAny_pyNext_zipD2_end D (drawsB hh b1 i1 a ha its1) (drawsB hh b2 i2 b hb its2) hz x.ti hTO x.s1 x.s2 (by omega) (by omega) (by omega) fun h' tk' kk =>
        wpAny_pure (fin h' tk' fun c o m e => kk c o (fun e => m (by simp [e])) (fun e => m (by simp [e])) (fun e => m (by simp [e])) (fun e => m (by simp [e])) e)
    · exact pyNext_zipH_end D (drawsB hh b1 i1 a ha its1) (drawsB hh b2 i2 b hb its2) hz hT x.ti x.s1 x.s2 (by omega) (by omega) (by omega) fun h' tk' kk =>
        wpAny_pure (fin h' tk' fun c o m e => kk c o (fun e => m (by simp [e])) (fun e => m (by simp [e])) (fun e => m (by simp [e])) e)
  | succ k ih =>
    intro h tk Ts hk hi x
    have l1 : Ts.length < its1.size := by omega
    have l2 : Ts.length < its2.size := by omega
    refine codeAny_builtin F.entry_extend_loop ?_
    rw [Around.under_plainId F.plain_extend_loop _]
    show wpAny _ A.in1 (pyNext (.ref z) >>= _) _ _ _
    refine wpAny_bind ?_
    have go : ∀ (v1 v2 : Value) (h' : Heap) (tk' : Nat) (T : Addr) (f : Bool) (oT : Obj), its1[Ts.length]? = some v1 → its2[Ts.length]? = some v2 → IsZipHeld h' z TI TO T f → h'.get? T = some oT → N0 ≤ T →
        (IsIt b1 h' i1 a (Ts.length + 1) ∧ IsSq b1 h' a its1) → (IsIt b2 h' i2 b (Ts.length + 1) ∧ IsSq b2 h' b its2) → IsTupOf2 h' h.objs.size v1 v2 → h'.objs.size = h.objs.size + 1 →
        (∀ c o, c ∉ [z, TO, i1, i2] → h.get? c = some o → h'.get? c = some o) →
        wpAny (model prog w) A.in1 (updateSeq S (·.push (.ref h.objs.size)) >>= fun _ => again (.builtin "list.extend.loop" ⟨[.ref S, .ref z, res], []⟩))
          (fun fin s' => match fin with | .done f => R (.ok f) s' | .again c' => c'.quiet = true ∧ codeAny (model prog w) A c' R s') (fun e s' => R (.error e) s') ⟨h', g, dr, tk', os⟩ := by
      intro v1 v2 h' tk' T f oT e1 e2 hz hT hN t1 t2 hn hs kk
      obtain ⟨c, hc⟩ := x.ls
      have hc' := kk S _ (fun m => by
        simp only [List.mem_cons, List.not_mem_nil, or_false] at m
        rcases m with m | m | m | m <;> exact hS S (by simp [← m]) rfl) hc
      refine wpAny_bind ?_
      refine wpAny_updateSeq hc' rfl (wpAny_pure ⟨plainId_quiet F.plain_extend_loop _, ih _ _ (Ts ++ [h.objs.size]) (by simp; omega) (by simp; omega) (x.step hlt hS hTI kk e1 e2 hz hT hN t1 t2 hn hs)⟩)
        (by simp [sizeLine_eq]; omega) (by simp [sizeLine_eq]; omega)
    rcases x.zz with ⟨hz, u, v, hTO⟩ | ⟨T, f, oT, hz, hT, hN⟩
    · refine wpAny_pyNext_zipD2_item D (drawsB hh b1 i1 a ha its1) (drawsB hh b2 i2 b hb its2) hz x.ti hTO x.s1 x.s2 l1 l2 fun v1 v2 h' tk' e1 e2 hz' hTO' t1 t2 hn hs kk => ?_
      exact go v1 v2 h' tk' h.objs.size false _ e1 e2 hz' hn x.sz t1 t2 hn hs fun c o m e => kk c o (fun e => m (by simp [e])) (fun e => m (by simp [e])) (fun e => m (by simp [e])) (fun e => m (by simp [e])) e
    · refine pyNext_zipH_item D (drawsB hh b1 i1 a ha its1) (drawsB hh b2 i2 b hb its2) hz hT x.ti x.s1 x.s2 l1 l2 fun v1 v2 h' tk' e1 e2 hz' t1 t2 hn hs kk => ?_
      have tl : ∀ c ∈ [S, z, TO, i1, i2], T ≠ c := fun c m e => Nat.lt_irrefl _ (Nat.lt_of_lt_of_le (hlt c m) (by rw [← e]; exact hN))
      exact go v1 v2 h' tk' T true oT e1 e2 hz' (kk T _ (tl z (by simp)) (tl i1 (by simp)) (tl i2 (by simp)) hT) hN t1 t2 hn hs fun c o m e => kk c o (fun e => m (by simp [e])) (fun e => m (by simp [e])) (fun e => m (by simp [e])) e
end Rb

namespace Rb
open PySem PySem.Spec PyProof.Rows L2
theorem zip_no_len : typeLookup (.type "zip") "__len__" = pure none := by rw [typeLookup_type, builtinLookup_eq_fast]; kernel_rfl
theorem zip_no_hint : typeLookup (.type "zip") "__length_hint__" = pure none := by rw [typeLookup_type, builtinLookup_eq_fast]; kernel_rfl
section
variable {prog : Program} {w : World} {A : Around} {E : Value → Shared → Prop} {s : Shared} {b1 b2 : Bool} {z TI TO i1 i2 a b : Addr} {its1 its2 : Array Value}
/-- what a list of a zip ends with -/
def ZFin (b1 b2 : Bool) (S z TO i1 i2 : Addr) (its1 its2 : Array Value) (h0 : Heap) (h : Heap) (Ts : List Addr) : Prop :=
  (∃ c, h.get? S = some { cls := .type "list", dict := none, data := .seq (Ts.map Value.ref).toArray c, slots := #[] }) ∧ Ts.length = min its1.size its2.size ∧ Ts.Nodup ∧ (∀ T ∈ Ts, S + 1 ≤ T) ∧
    (∀ (j : Nat) (T : Addr), Ts[j]? = some T → ∃ x y, its1[j]? = some x ∧ its2[j]? = some y ∧ IsTupOf2 h T x y) ∧ ∀ c o, c ∉ [S, z, TO, i1, i2] → h0.get? c = some o → h.get? c = some o
theorem extend_zip {R : Result → Shared → Prop} {S : Addr} {x0 y0 : Value} (hh : A.in1.in1.handled = none) (D : ZipSep2 z TI TO i1 i2 [i1, a] [i2, b]) (ha : a ≠ i1) (hb : b ≠ i2) (hz : IsZip s.heap z TI TO .none)
    (hTI : IsTupOf2 s.heap TI (.ref i1) (.ref i2)) (hTO : IsTupOf2 s.heap TO x0 y0) (s1 : IsIt b1 s.heap i1 a 0 ∧ IsSq b1 s.heap a its1) (s2 : IsIt b2 s.heap i2 b 0 ∧ IsSq b2 s.heap b its2) (hsz : min its1.size its2.size ≤ 1000000) (res : Value) (c₀ : Nat)
    (hS : s.heap.get? S = some { cls := .type "list", data := .seq #[] c₀ }) (hm : ∀ c ∈ [z, TI, TO, i1, i2, a, b], c ≠ S) (hSz : ∀ c o, s.heap.get? c = some o → c ≤ S)
    (hN : S + 1 ≤ s.heap.objs.size)
    (hR : ∀ h' tk Ts, ZFin b1 b2 S z TO i1 i2 its1 its2 s.heap h' Ts → R (.ok (.ret res)) { s with heap := h', toks := tk }) :
    wpAny (model prog w) A.in1 (Builtin.List.listExtendWith (.ref S) (.ref z) res)
      (fun fin s' => match fin with | .done f => R (.ok f) s' | .again c' => c'.quiet = true ∧ codeAny (model prog w) A c' R s') (fun e s' => R (.error e) s') s := by
  have hSI : S ≠ z := (hm z (by simp)).symm
  have hT : ∀ s' : Shared, IsZip s'.heap z TI TO .none → s'.TypeIs (.ref z) "zip" := fun s' h => ⟨_, h, rfl⟩
  unfold Builtin.List.listExtendWith
  refine wpAny_bind (wpAny_typeOf (hT _ hz) ?_)
  have h1 : Builtin.List.listSameRef (.ref S) (.ref z) = false := by simp [Builtin.List.listSameRef, hSI]
  have h2 : (Value.type "zip" == Value.type "list") = false := by decide
  have h3 : (Value.type "zip" == Value.type "tuple") = false := by decide
  simp only [h1, h2, h3, Bool.or_false, Bool.false_eq_true, if_false]
  refine wpAny_bind (wpAny_pyIter_zip hz ?_)
  refine wpAny_bind (wpAny_holding ?_)
  unfold Builtin.List.listLengthHint
  refine wpAny_bind (wpAny_specialOf (hT _ hz) zip_no_len ?_)
  show wpAny _ A.in1 (specialOf (Value.ref z) (Str.ofString "__length_hint__") >>= _) _ _ _
  refine wpAny_bind (wpAny_specialOf (hT _ hz) zip_no_hint ?_)
  refine wpAny_pure ?_
  show wpAny _ A.in1 (rule "list.extend.makes-room" >>= fun _ => Builtin.List.listTouch (.ref S) >>= fun _ =>
    again (.builtin "list.extend.loop" ⟨[.ref S, .ref z, res], []⟩)) _ _ _
  refine wpAny_bind (wpAny_rule ?_)
  refine wpAny_bind ?_
  show wpAny _ A.in1 (updateSeq S (·.push .none) >>= fun _ => updateSeq S (·.pop)) _ _ _
  refine wpAny_bind (wpAny_updateSeq hS rfl ?_)
  have hS₂ := Heap.get?_update_self (Obj.mapSeq (·.push Value.none)) hS rfl
  refine wpAny_updateSeq (hz := by seq_fits) hS₂ rfl ?_
  have hS₃ := Heap.get?_update_self (Obj.mapSeq (·.pop)) hS₂ rfl
  have oth : ∀ b o, b ≠ S → s.heap.get? b = some o → ((s.heap.update S (Obj.mapSeq (·.push Value.none))).update S (Obj.mapSeq (·.pop))).get? b = some o :=
    fun b o hb e => (Heap.get?_update_other _ _ (Ne.symm hb)).trans ((Heap.get?_update_other _ _ (Ne.symm hb)).trans e)
  obtain ⟨hp, g, d, tk0, os⟩ := s
  have lt : ∀ c ∈ [S, z, TO, i1, i2], c < S + 1 := by
    intro c m
    simp only [List.mem_cons, List.not_mem_nil, or_false] at m
    rcases m with rfl | rfl | rfl | rfl | rfl
    · exact Nat.lt_succ_self _
    · exact Nat.lt_succ_of_le (hSz _ _ hz)
    · exact Nat.lt_succ_of_le (hSz _ _ hTO)
    · obtain ⟨o, e, _⟩ := s1.1.ob; exact Nat.lt_succ_of_le (hSz _ _ e)
    · obtain ⟨o, e, _⟩ := s2.1.ob; exact Nat.lt_succ_of_le (hSz _ _ e)
  have nTI : TI ∉ [S, z, TO, i1, i2] := fun m => by
    simp only [List.mem_cons, List.not_mem_nil, or_false] at m
    rcases m with m | m | m | m | m
    · exact hm TI (by simp) m
    · exact D.TIz m
    · exact D.TITO m
    · exact D.TIi1 m
    · exact D.TIi2 m
  refine wpAny_pure ⟨plainId_quiet F.plain_extend_loop _, zl_loop (N0 := S + 1) (h0 := hp) (b1 := b1) (b2 := b2) (its1 := its1) (its2 := its2) hh D ha hb lt hm nTI hsz res R g d os (fun h tk Ts c q1 q2 q3 q4 q5 q6 => hR h tk Ts ⟨⟨c, q1⟩, q2, q3, q4, q5, q6⟩) _ _ _ [] rfl (Nat.zero_le _) ?_⟩
  refine ⟨⟨_, hS₃⟩, oth _ _ (hm TI (by simp)) hTI, .inl ⟨oth _ _ (hm z (by simp)) hz, x0, y0, oth _ _ (hm TO (by simp)) hTO⟩, ⟨s1.1.to fun o e => oth _ _ (hm i1 (by simp)) e, s1.2.to fun o e => oth _ _ (hm a (by simp)) e⟩,
    ⟨s2.1.to fun o e => oth _ _ (hm i2 (by simp)) e, s2.2.to fun o e => oth _ _ (hm b (by simp)) e⟩, fun j T e => by simp at e, List.nodup_nil, fun T m => by simp at m, ?_, fun c o m e => oth c o (fun e' => m (by simp [e'])) e⟩
  show S + 1 ≤ _
  rw [Heap.size_update, Heap.size_update]
  exact hN
theorem call_list_zip {Q : Value → Shared → Prop} {x0 y0 : Value} (hh : A.handled = none) (D : ZipSep2 z TI TO i1 i2 [i1, a] [i2, b]) (ha : a ≠ i1) (hb : b ≠ i2) (hz : IsZip s.heap z TI TO .none)
    (hTI : IsTupOf2 s.heap TI (.ref i1) (.ref i2)) (hTO : IsTupOf2 s.heap TO x0 y0) (s1 : IsIt b1 s.heap i1 a 0 ∧ IsSq b1 s.heap a its1) (s2 : IsIt b2 s.heap i2 b 0 ∧ IsSq b2 s.heap b its2) (hsz : min its1.size its2.size ≤ 1000000)
    (hQ : ∀ h' tk Ts, ZFin b1 b2 s.heap.objs.size z TO i1 i2 its1 its2 s.heap h' Ts → Q (.ref s.heap.objs.size) { s with heap := h', toks := tk }) :
    wpAny (model prog w) A (call (.type "list") [.ref z]) Q E s := by
  refine callType_codes (Q₁ := fun obj s₁ => obj = .ref s.heap.objs.size ∧ s₁ = { s with heap := s.heap.push { cls := .type "list", data := .seq #[] } }) F.called_list (F.typeCall_list_1 _) F.entry_list_init
    (code_list_new _ ⟨rfl, rfl⟩) fun obj s₁ h₁ => ?_
  obtain ⟨rfl, rfl⟩ := h₁
  have hS : (s.heap.push { cls := .type "list", data := .seq #[] }).get? s.heap.objs.size = some { cls := .type "list", data := .seq #[] } := Heap.get?_push_size _ rfl
  refine ⟨⟨_, hS, rfl⟩, F.args_list_init_2 _ _, ?_⟩
  show wpAny _ A.in1.in1 (do let old ← Builtin.List.listItems (.ref s.heap.objs.size); Builtin.List.listUpdate (.ref s.heap.objs.size) (fun _ => #[]); letGo old.toList.reverse; Builtin.List.listExtendWith (.ref s.heap.objs.size) (.ref z) .none) _ _ _
  refine wpAny_bind ?_
  unfold Builtin.List.listItems
  refine wpAny_bind (wpAny_seqItems hS rfl (wpAny_pure ?_))
  show wpAny _ A.in1.in1 (updateSeq s.heap.objs.size (fun _ => #[]) >>= fun _ => letGo (#[] : Array Value).toList.reverse >>= fun _ => Builtin.List.listExtendWith (.ref s.heap.objs.size) (.ref z) .none) _ _ _
  refine wpAny_bind (wpAny_updateSeq hS rfl ?_)
  have hS₂ := Heap.get?_update_self (Obj.mapSeq (fun _ => (#[] : Array Value))) hS rfl
  have ne : ∀ {c o}, s.heap.get? c = some o → c ≠ s.heap.objs.size := fun e => Nat.ne_of_lt (Heap.lt_size e)
  have oth : ∀ b o, s.heap.get? b = some o → ((s.heap.push { cls := .type "list", data := .seq #[] }).update s.heap.objs.size (Obj.mapSeq (fun _ => (#[] : Array Value)))).get? b = some o :=
    fun b o e => (Heap.get?_update_other _ _ (Ne.symm (ne e))).trans (Heap.get?_push_of_some _ e)
  refine wpAny_bind (wpAny_letGo ?_)
  have hsize : ((s.heap.push { cls := .type "list", data := .seq #[] }).update s.heap.objs.size (Obj.mapSeq (fun _ => (#[] : Array Value)))).objs.size = s.heap.objs.size + 1 := by
    rw [Heap.size_update]; exact Heap.size_push ..
  have ob : ∀ {b : Bool} {l : Addr} {items : Array Value}, IsSq b s.heap l items → ∃ o, s.heap.get? l = some o := fun {b l items} x => by
    cases b with
    | false => obtain ⟨_, e, _⟩ := x; exact ⟨_, e⟩
    | true => obtain ⟨_, e, _⟩ := x; exact ⟨_, e⟩
  refine extend_zip (A := A.in1) (s := { s with heap := (s.heap.push { cls := .type "list", data := .seq #[] }).update s.heap.objs.size (Obj.mapSeq (fun _ => (#[] : Array Value))) }) hh D ha hb (oth _ _ hz) (oth _ _ hTI) (oth _ _ hTO)
    ⟨s1.1.to fun o e => oth _ _ e, s1.2.to fun o e => oth _ _ e⟩ ⟨s2.1.to fun o e => oth _ _ e, s2.2.to fun o e => oth _ _ e⟩ hsz .none _ hS₂ (fun c m => ?_) (fun c o e => ?_) (by rw [hsize]; exact Nat.le_refl _) fun h' tk Ts fin => ⟨rfl, ?_⟩
  · simp only [List.mem_cons, List.not_mem_nil, or_false] at m
    rcases m with rfl | rfl | rfl | rfl | rfl | rfl | rfl
    · exact ne hz
    · exact ne hTI
    · exact ne hTO
    · obtain ⟨o, e, _⟩ := s1.1.ob; exact ne e
    · obtain ⟨o, e, _⟩ := s2.1.ob; exact ne e
    · obtain ⟨o, e⟩ := ob s1.2; exact ne e
    · obtain ⟨o, e⟩ := ob s2.2; exact ne e
  · have := Heap.lt_size e
    rw [hsize] at this
    exact Nat.le_of_lt_succ this
  · obtain ⟨q1, q2, q3, q4, q5, q6⟩ := fin
    refine hQ h' tk Ts ⟨q1, q2, q3, q4, q5, fun c o m e => q6 c o m (oth c o e)⟩
end
end Rb

namespace Rb
open PySem PySem.Spec PyProof.Rows L2
/-! ### list(zip(a, b)): the rule -/
def adopt (ts : List (Addr × V × V)) (H : Hp) : Hp := ts.foldl (fun H t => upd H t.1 (.tup [t.2.1, t.2.2])) H
theorem adopt_none : ∀ (ts : List (Addr × V × V)) (H : Hp) (q : Addr), H q = none → (∀ t ∈ ts, t.1 ≠ q) → adopt ts H q = none
  | [], _, _, h, _ => h
  | t :: ts, H, q, h, hn => adopt_none ts (upd H t.1 (.tup [t.2.1, t.2.2])) q (by rw [upd_ne (hn t (List.mem_cons_self ..)).symm]; exact h) fun u m => hn u (List.mem_cons_of_mem _ m)
theorem inv_adopt {X : Cx} {pins : List (Addr × Obj)} {σ : L2.St} {H : Hp} {s : Shared} {c : Addr} {ob : HO} (I : Inv X pins σ H s) (hf : FpOk X pins H c) (new : ObjOk X.prog X.w (upd H c ob) s.heap c ob) : Inv X pins σ (upd H c ob) s := by
  have hn : H c = none := hf.1
  have nb : ∀ {b : Addr}, b ∉ [c] → b ≠ c := fun m e => m (by simp [e])
  have ht : ∀ b o, H b = some o → upd H c ob b = some o := fun b o e => by rw [upd_ne (ne_of_none e hn)]; exact e
  refine I.step (h' := s.heap) (t' := s.toks) (g' := s.gens) (d' := s.drawn) (ch := [c]) (fun b hb => ?_) (fun b o _ _ _ e _ => e) (fun b o _ _ _ e _ => ⟨o.slots, e⟩)
    (fun b o hc _ n => by rw [upd_ne (nb hc)]; exact n) (fun b o _ e => ⟨o, e⟩) (fun b xs e => ht b _ e) (fun b o u e => ht b _ e) (fun b ps e => ⟨#[], by rw [ht b _ e]; simp⟩) (fun m hm => hm) (fun b u e => ?_) I.bare
  · rw [List.mem_singleton.1 hb]
    exact ⟨hf.2.2.2.1, hf.2.1, hf.2.2.2.2.1, hf.2.2.2.2.2⟩
  · by_cases hb : b = c
    · subst hb; rw [upd_same] at e; cases e; exact new
    · rw [upd_ne hb] at e
      exact (I.hok b u e).stay (fun _ _ _ q => q) (fun c q => ht _ _ q) fun c xs q => ht _ _ q
theorem inv_adopts {X : Cx} {pins : List (Addr × Obj)} {σ : L2.St} {s : Shared} : ∀ (ts : List (Addr × V × V)) (H : Hp), Inv X pins σ H s → (∀ t ∈ ts, ∀ H' : Hp, H' t.1 = none → FpOk X pins H' t.1) → (∀ t ∈ ts, H t.1 = none) → (ts.map (·.1)).Nodup →
    (∀ t ∈ ts, ∃ x y, RelV t.2.1 x ∧ RelV t.2.2 y ∧ IsTupOf2 s.heap t.1 x y) → Inv X pins σ (adopt ts H) s
  | [], _, I, _, _, _, _ => I
  | t :: ts, H, I, hf, hn, nd, ht => by
    have m0 : t ∈ t :: ts := List.mem_cons_self ..
    obtain ⟨x, y, r1, r2, e⟩ := ht t m0
    rw [List.map_cons, List.nodup_cons] at nd
    refine inv_adopts ts (upd H t.1 (.tup [t.2.1, t.2.2])) (inv_adopt I (hf t m0 H (hn t m0)) ⟨by show 2 ≤ sizeLine; decide, [x, y], .cons r1 (.cons r2 .nil), ⟨_, e, rfl, _, rfl⟩⟩)
      (fun u m => hf u (List.mem_cons_of_mem _ m)) (fun u m => ?_) nd.2 fun u m => ht u (List.mem_cons_of_mem _ m)
    rw [upd_ne (fun e => nd.1 (by rw [← e]; exact List.mem_map_of_mem (f := (·.1)) m))]
    exact hn u (List.mem_cons_of_mem _ m)
def tListZip (K : PySem.W.Frag) (ta : TA) : TE := fun σ H Q => ta σ H fun vs H1 => ∃ a b b1 b2 xs ys, vs = [.ref a, .ref b] ∧ SqB b1 K H1 a xs ∧ SqB b2 K H1 b ys ∧ min xs.length ys.length ≤ 1000000 ∧
   ∀ (ts : List (Addr × V × V)) q, ts.map (·.2) = List.zip xs ys → (ts.map (·.1)).Nodup → (∀ t ∈ ts, H1 t.1 = none ∧ t.1 ≠ q) → H1 q = none → Q (.ref q) (upd (adopt ts H1) q (.lst (ts.map fun t => .ref t.1)))
theorem pe_listZip {X : Cx} {e e2 : Expr} {ta : TA} {p pz pos zpos : Pos} (hc : X.calm = true) (hgl : Gl X "list") (hml : X.mg "list" = none) (hg : Gl X "zip") (hm : X.mg "zip" = none) (ha : PA X [e, e2] ta)
    (hs : starEach [e, e2] X.env = (false, eval e X.env) :: starEach [e2] X.env := by rfl) (hpl : (backTo zpos (starEach [e2] X.env)).any (·.1) = false := by rfl)
    (na : starEach [.Call (.Name "zip" pz) [e, e2] [] zpos] X.env = (false, eval (.Call (.Name "zip" pz) [e, e2] [] zpos) X.env) :: starEach [] X.env := by rfl) :
    PE X (.Call (.Name "list" p) [.Call (.Name "zip" pz) [e, e2] [] zpos] [] pos) (tListZip X.K ta) := by
  refine ⟨fun pins s σ H Q I h => ?_⟩
  refine Call_ (ld_blt I hgl hml boot_list (PyProof.Rows.callWith_type1 (args_cons (thn (Q := fun v s2 => ∃ (s1 : Shared) (H1 : Hp) (a b : Addr) (b1 b2 : Bool) (xs ys : List V), Inv X pins σ H1 s1 ∧ v = .ref (s1.heap.objs.size + 4) ∧ SqB b1 X.K H1 a xs ∧ SqB b2 X.K H1 b ys ∧ min xs.length ys.length ≤ 1000000 ∧
    (∀ (ts : List (Addr × V × V)) q, ts.map (·.2) = List.zip xs ys → (ts.map (·.1)).Nodup → (∀ t ∈ ts, H1 t.1 = none ∧ t.1 ≠ q) → H1 q = none → Q (.ref q) (upd (adopt ts H1) q (.lst (ts.map fun t => .ref t.1)))) ∧
    ∃ h', s2 = { s1 with heap := h' } ∧ IsZip h' (s1.heap.objs.size + 4) (s1.heap.objs.size + 2) (s1.heap.objs.size + 3) .none ∧ IsTupOf2 h' (s1.heap.objs.size + 2) (.ref s1.heap.objs.size) (.ref (s1.heap.objs.size + 1)) ∧
      IsTupOf2 h' (s1.heap.objs.size + 3) .none .none ∧ h'.get? s1.heap.objs.size = some (itOb b1 a) ∧ h'.get? (s1.heap.objs.size + 1) = some (itOb b2 b) ∧ h'.objs.size = s1.heap.objs.size + 5 ∧ (∀ c o, s1.heap.get? c = some o → h'.get? c = some o)) ?_ fun v s2 hp => args_nil ?_) na) na))
  · refine Call_ (ld_blt I hg hm PyProof.Rows.boot_zip (PyProof.Rows.callWith_type1 (thn (ha.run zpos pins s σ H _ I h) fun us s1 ⟨vs, H1, I1, r1, q1⟩ => ?_) hs hpl))
    obtain ⟨a, b, b1, b2, xs, ys, ex, hqx, hqy, hz, q⟩ := q1
    subst ex
    obtain ⟨u1, us2, e0, t1, t2⟩ := vals_cons r1
    obtain ⟨u2, us3, e00, t3, t4⟩ := vals_cons t2
    have e3 := vals_nil t4
    have e1 : u1 = Value.ref a := t1
    have e2 : u2 = Value.ref b := t3
    subst e3 e1 e2 e00 e0
    obtain ⟨its1, rv1, p1⟩ := inv_sq I1 hqx
    obtain ⟨its2, rv2, p2⟩ := inv_sq I1 hqy
    refine zip_begins2 (beginsB b1 a its1.toArray) (beginsB b2 b its2.toArray) p1 p2 fun h' hz' hTI hTO h1 h2 hsz hk => ?_
    exact ⟨s1, H1, a, b, b1, b2, xs, ys, I1, rfl, hqx, hqy, hz, q, h', rfl, hz', hTI, hTO, h1, h2, hsz, hk⟩
  · obtain ⟨s1, H1, a, b, b1, b2, xs, ys, I1, rfl, hqx, hqy, hz0, q, h', rfl, hz, hTI, hTO, h1, h2, hsz, hk⟩ := hp
    obtain ⟨its1, rv1, p1⟩ := inv_sq I1 hqx
    obtain ⟨its2, rv2, p2⟩ := inv_sq I1 hqy
    have la := isSq_lt p1
    have lb := isSq_lt p2
    have l1 := rv1.length
    have l2 := rv2.length
    have S : ZipSep2 (s1.heap.objs.size + 4) (s1.heap.objs.size + 2) (s1.heap.objs.size + 3) s1.heap.objs.size (s1.heap.objs.size + 1) [s1.heap.objs.size, a] [s1.heap.objs.size + 1, b] :=
      zip_sep2 (N := s1.heap.objs.size) (fp1 := [a]) (fp2 := [b]) (fun c hc => by rw [List.mem_singleton.1 hc]; exact la) (fun c hc => by rw [List.mem_singleton.1 hc]; exact lb)
    have ksq : ∀ {b : Bool} {l : Addr} {items : Array Value}, IsSq b s1.heap l items → IsSq b h' l items := fun {b l items} x => x.to fun o e => hk _ o e
    refine call_list_zip (s := { s1 with heap := h' }) (b1 := b1) (b2 := b2) (a := a) (b := b) (its1 := its1.toArray) (its2 := its2.toArray) (I1.ok.hd hc) S (Nat.ne_of_lt la) (Nat.ne_of_lt (Nat.lt_succ_of_lt lb)) hz hTI hTO ⟨itOb_is h1, ksq p1⟩ ⟨itOb_is h2, ksq p2⟩ (by simp; omega) fun h'' tk Ts fin => ?_
    obtain ⟨⟨c', q1⟩, q2, q3, q4, q5, q6⟩ := fin
    replace q1 : h''.get? h'.objs.size = _ := q1
    replace q4 : ∀ T ∈ Ts, h'.objs.size + 1 ≤ T := q4
    have I3 : Inv X pins σ H1 { s1 with heap := h'', toks := tk } := I1.kept fun c o e => q6 c o (fun m => by
      have lc := Heap.lt_size e
      simp only [List.mem_cons, List.not_mem_nil, or_false] at m
      have e5 : h'.objs.size = s1.heap.objs.size + 5 := hsz
      rcases m with m | m | m | m | m
      · replace m : c = h'.objs.size := m
        rw [m] at lc
        have lc' : (h'.objs.size : Nat) < s1.heap.objs.size := lc
        omega
      · rw [m] at lc
        have lc' : (s1.heap.objs.size + 4 : Nat) < s1.heap.objs.size := lc
        omega
      · rw [m] at lc
        have lc' : (s1.heap.objs.size + 3 : Nat) < s1.heap.objs.size := lc
        omega
      · rw [m] at lc
        have lc' : (s1.heap.objs.size : Nat) < s1.heap.objs.size := lc
        omega
      · rw [m] at lc
        have lc' : (s1.heap.objs.size + 1 : Nat) < s1.heap.objs.size := lc
        omega) (hk c o e)
    have hlen : Ts.length = (List.zip xs ys).length := by rw [q2, List.length_zip]; simp; omega
    have n1 : ((Ts.zip (List.zip xs ys)).map (·.1)) = Ts := List.map_fst_zip (by omega)
    have n2 : ((Ts.zip (List.zip xs ys)).map (·.2)) = List.zip xs ys := List.map_snd_zip (by omega)
    have nf : ∀ c, h'.objs.size ≤ c → H1 c = none := fun c hc => I1.hok.fresh (by omega)
    have tm : ∀ t ∈ Ts.zip (List.zip xs ys), h'.objs.size + 1 ≤ t.1 := fun t m => q4 _ (by rw [← n1]; exact List.mem_map_of_mem (f := (·.1)) m)
    have hS : H1 h'.objs.size = none := nf _ (Nat.le_refl _)
    have I4 := inv_adopts (Ts.zip (List.zip xs ys)) H1 I3 (fun t m H' e => I1.fpOk (by have := tm t m; omega) e) (fun t m => nf _ (by have := tm t m; omega)) (by rw [n1]; exact q3) fun t m => by
      obtain ⟨j, hj, e⟩ := List.getElem_of_mem m
      have ej : (Ts.zip (List.zip xs ys))[j]? = some t := by rw [List.getElem?_eq_getElem hj, e]
      obtain ⟨z1, z2⟩ := List.getElem?_zip_eq_some.1 ej
      obtain ⟨z3, z4⟩ := List.getElem?_zip_eq_some.1 z2
      obtain ⟨x, y, y1, y2, y3⟩ := q5 j _ z1
      obtain ⟨u1, hu1, ru1⟩ := rv1.get z3
      obtain ⟨u2, hu2, ru2⟩ := rv2.get z4
      have w1 : x = u1 := by
        have : its1[j]? = some x := by simpa using y1
        rw [hu1] at this; exact (Option.some.inj this).symm
      have w2 : y = u2 := by
        have : its2[j]? = some y := by simpa using y2
        rw [hu2] at this; exact (Option.some.inj this).symm
      subst w1 w2
      exact ⟨_, _, ru1, ru2, y3⟩
    have hnone : adopt (Ts.zip (List.zip xs ys)) H1 h'.objs.size = none := adopt_none _ _ _ hS fun t m e => Nat.not_succ_le_self _ (by have := tm t m; rw [e] at this; exact this)
    have fpS : FpOk X pins (adopt (Ts.zip (List.zip xs ys)) H1) h'.objs.size := I1.fpOk (by omega) hnone
    have vl : ∀ (l : List (Addr × V × V)), Vals (l.map fun t => V.ref t.1) ((l.map (·.1)).map Value.ref) := fun l => by
      induction l with
      | nil => exact .nil
      | cons t l ih => exact .cons rfl ih
    have hv := vl (Ts.zip (List.zip xs ys))
    rw [n1] at hv
    have new : ObjOk X.prog X.w (upd (adopt (Ts.zip (List.zip xs ys)) H1) h'.objs.size (.lst ((Ts.zip (List.zip xs ys)).map fun t => V.ref t.1))) h'' h'.objs.size (.lst ((Ts.zip (List.zip xs ys)).map fun t => V.ref t.1)) :=
      ⟨by rw [List.length_map, List.length_zip, sizeLine_eq]; rw [List.length_zip] at hlen ⊢; omega, Ts.map Value.ref, c', hv, q1⟩
    exact ⟨.ref h'.objs.size, _, inv_adopt (s := { s1 with heap := h'', toks := tk }) I4 fpS new, rfl, q _ _ n2 (by rw [n1]; exact q3) (fun t m => ⟨nf _ (by have := tm t m; omega), fun e => Nat.not_succ_le_self _ (by have := tm t m; rw [e] at this; exact this)⟩) hS⟩
/-! of plain data -/
def cLZip (t : SA) : SE := fun s => (t s).bind fun p => match p.1 with
  | [x, y] => (seqOf x).bind fun xs => (seqOf y).bind fun ys => if Nat.ble (min xs.length ys.length) 1000000 then some ((.lst (zipD xs ys), true), p.2) else none
  | _ => none
theorem sr_adopt {K : PySem.W.Frag} {ω : Wd} {σ : L2.St} {s : S} : ∀ (ts : List (Addr × V × V)) (F H : Hp), Sr K ω F σ H s → (∀ t ∈ ts, H t.1 = none) → (ts.map (·.1)).Nodup →
    ∃ F', Ex F F' ∧ Sr K ω F' σ (adopt ts H) s ∧ ∀ t ∈ ts, F' t.1 = some (.tup [t.2.1, t.2.2])
  | [], F, H, r, _, _ => ⟨F, Ex.refl F, r, fun t m => by simp at m⟩
  | t :: ts, F, H, r, hn, nd => by
    rw [List.map_cons, List.nodup_cons] at nd
    have h0 := hn t (List.mem_cons_self ..)
    obtain ⟨F', e1, r1, g⟩ := sr_adopt ts (upd F t.1 (.tup [t.2.1, t.2.2])) (upd H t.1 (.tup [t.2.1, t.2.2])) (r.alloc h0) (fun u m => by
      rw [upd_ne (fun e => nd.1 (by rw [← e]; exact List.mem_map_of_mem (f := (·.1)) m))]
      exact hn u (List.mem_cons_of_mem _ m)) nd.2
    refine ⟨F', (Ex.new (r.sub.none h0)).trans e1, r1, fun u m => ?_⟩
    rcases List.mem_cons.1 m with rfl | m
    · exact e1 _ _ upd_same
    · exact g u m
theorem p_listZip {X : Cx} {a b : Expr} {t : SA} {p pz pos zpos : Pos} (hc : X.calm = true) (hgl : Gl X "list") (hml : X.mg "list" = none) (hg : Gl X "zip") (hm : X.mg "zip" = none) (ha : PA X [a, b] (rdA X.K t))
    (hs : starEach [a, b] X.env = (false, eval a X.env) :: starEach [b] X.env := by rfl) (hpl : (backTo zpos (starEach [b] X.env)).any (·.1) = false := by rfl)
    (na : starEach [.Call (.Name "zip" pz) [a, b] [] zpos] X.env = (false, eval (.Call (.Name "zip" pz) [a, b] [] zpos) X.env) :: starEach [] X.env := by rfl) :
    PE X (.Call (.Name "list" p) [.Call (.Name "zip" pz) [a, b] [] zpos] [] pos) (rd X.K (cLZip t)) :=
  (pe_listZip hc hgl hml hg hm ha hs hpl na).imp fun σ H Q hw => by
    obtain ⟨ω, F, s, d, b0, s', sr, h, q⟩ := hw
    unfold cLZip at h
    obtain ⟨⟨as, s1⟩, e1, h⟩ := bind2 h
    dsimp only at h
    split at h
    · rename_i x y
      obtain ⟨xs, ex, h⟩ := bind2 h
      obtain ⟨ys, ey, h⟩ := bind2 h
      split at h
      · rename_i hz
        cases h
        refine rdA_use sr e1 fun vs F1 H1 x1 r1 hv => ?_
        obtain ⟨v, w, rfl, hx, hy⟩ := RpL.two hv
        obtain ⟨a1, b1, vs1, rfl, g1, t1⟩ := seq_sq hx ex
        obtain ⟨a2, b2, vs2, rfl, g2, t2⟩ := seq_sq hy ey
        refine ⟨a1, a2, b1, b2, vs1, vs2, rfl, g1 H1 r1.sub, g2 H1 r1.sub, by rw [t1.len, t2.len]; exact Nat.le_of_ble_eq_true hz, fun ts q0 m2 nd hn hq => ?_⟩
        obtain ⟨F2, y1, r2, g⟩ := sr_adopt ts F1 H1 r1 (fun t m => (hn t m).1) nd
        refine r2.newL (adopt_none ts H1 q0 hq fun t m => (hn t m).2) ?_ (q.mono (x1.trans y1))
        have l1 := t1.len
        have l2 := t2.len
        have l3 : ts.length = (List.zip vs1 vs2).length := by rw [← m2, List.length_map]
        rw [List.length_zip] at l3
        refine .of_get (by rw [zipD_len, List.length_map]; omega) fun i d x h1 h2 => ?_
        obtain ⟨d1, d2, g3, g4, rfl⟩ := zipD_get h1
        obtain ⟨v1, q3, z1⟩ := t1.get g3
        obtain ⟨v2, q4, z2⟩ := t2.get g4
        rw [List.getElem?_map] at h2
        cases et : ts[i]? with
        | none => rw [et] at h2; cases h2
        | some t =>
          rw [et] at h2
          cases h2
          have em : (ts.map (·.2))[i]? = some t.2 := by rw [List.getElem?_map, et]; rfl
          rw [m2] at em
          obtain ⟨w1, w2⟩ := List.getElem?_zip_eq_some.1 em
          rw [q3] at w1; cases w1
          rw [q4] at w2; cases w2
          unfold Rp
          exact ⟨t.1, _, rfl, SqT.of (g t (List.mem_of_getElem? et)), .cons (z1.mono y1) (.cons (z2.mono y1) .nil)⟩
      · cases h
    · cases h
end Rb

namespace Rb
open PySem PySem.Spec PyProof.Rows L2
/-! ### comprehensions of any target; enumerate, zip of numbers -/
theorem lcL_g {g : D → S → Option S} {te : SE} {sl : List Nat} {p : Pt} {w : List Bd} {φ : D → D} : ∀ (ds acc : List D), (∀ d ∈ ds, ∃ r1, g d ⟨w, p⟩ = some ⟨r1, p⟩ ∧ (∃ b, te ⟨r1, p⟩ = some ((φ d, b), ⟨r1, p⟩)) ∧ wipeB r1 sl = w) → acc.length + ds.length ≤ 1000000 →
    lcL g bYes te sl ds ⟨w, p⟩ acc = some (acc ++ ds.map φ, ⟨w, p⟩)
  | [], acc, _, _ => by simp [lcL]
  | d :: ds, acc, h, hz => by
    obtain ⟨r1, e1, ⟨b, e2⟩, e3⟩ := h d (.head _)
    have hz1 : acc.length + 1 ≤ 16777216 := by rw [List.length_cons] at hz; omega
    simp only [lcL, e1, Option.bind_some, bYes, if_true, e2, szOk, hz1, decide_true, wipeS, e3]
    have ih := lcL_g (te := te) (φ := φ) ds (acc ++ [φ d]) (fun e he => h e (.tail _ he)) (by rw [List.length_append, List.length_singleton]; rw [List.length_cons] at hz; omega)
    rw [ih]
    simp
theorem lc_g {it : SI} {g : D → S → Option S} {te : SE} {sl : List Nat} {p : Pt} {r : List Bd} {s0 : S} {ds : List D} {φ : D → D} (hit : it s0 = some (ds, ⟨r, p⟩)) (hno : noOwn sl ⟨r, p⟩ = true) (hr : restB r (wipeB r sl) sl = r)
    (h : ∀ d ∈ ds, ∃ r1, g d ⟨wipeB r sl, p⟩ = some ⟨r1, p⟩ ∧ (∃ b, te ⟨r1, p⟩ = some ((φ d, b), ⟨r1, p⟩)) ∧ wipeB r1 sl = wipeB r sl) (hz : ds.length ≤ 1000000) :
    cLC it g bYes te sl s0 = some ((.lst (ds.map φ), true), ⟨r, p⟩) := by
  simp only [cLC, hit, Option.bind_some, hno, if_true, wipeS]
  rw [lcL_g ds [] h (by simpa using hz)]
  simp only [Option.map_some, hr, List.nil_append]
theorem rest2 {r : List Bd} {i j : Nat} (hi : i < r.length) (hj : j < r.length) : restB r (wipeB r [i, j]) [i, j] = r := by
  show ((((r.set j .no).set i .no).set j (r.getD j .no)).set i (r.getD i .no)) = r
  refine List.ext_getElem? fun k => ?_
  simp only [List.getElem?_set, List.length_set, List.getD_eq_getElem?_getD]
  by_cases h1 : i = k
  · subst h1; simp [hi]
  · by_cases h2 : j = k
    · subst h2; simp [hj, h1]
    · simp [h1, h2]
theorem wipe2 {r : List Bd} {i j : Nat} {x y : Bd} : wipeB (((wipeB r [i, j]).set i x).set j y) [i, j] = wipeB r [i, j] := by
  show (((((r.set j .no).set i .no).set i x).set j y).set j .no).set i .no = (r.set j .no).set i .no
  refine List.ext_getElem? fun k => ?_
  simp only [List.getElem?_set, List.length_set]
  by_cases h1 : i = k
  · simp [h1]
  · by_cases h2 : j = k
    · simp [h1, h2]
    · simp [h1, h2]
/-- two names, pairs -/
theorem lc_two {it : SI} {te : SE} {i j : Nat} {p : Pt} {r : List Bd} {s0 : S} {ds : List D} {φ : D → D} {bi bj : Bd} (hit : it s0 = some (ds, ⟨r, p⟩)) (hi : r[i]? = some bi) (hj : r[j]? = some bj) (ni : notOwn bi = true) (nj : notOwn bj = true)
    (h : ∀ d ∈ ds, ∃ x y, d = .tup [x, y] ∧ ∃ b, te ⟨((wipeB r [i, j]).set i (.val x)).set j (.val y), p⟩ = some ((φ d, b), ⟨((wipeB r [i, j]).set i (.val x)).set j (.val y), p⟩)) (hz : ds.length ≤ 1000000) :
    cLC it (gT 2 (gsCons (gN i) (gsCons (gN j) gsNil))) bYes te [i, j] s0 = some ((.lst (ds.map φ), true), ⟨r, p⟩) := by
  refine lc_g hit ?_ (rest2 (List.getElem?_eq_some_iff.1 hi).1 (List.getElem?_eq_some_iff.1 hj).1) (fun d hd => ?_) hz
  · simp only [noOwn, List.all_cons, List.all_nil, Bool.and_true, hi, hj]
    cases bi <;> cases bj <;> simp_all [notOwn]
  · obtain ⟨x, y, rfl, b, e⟩ := h d hd
    exact ⟨_, rfl, ⟨b, e⟩, wipe2⟩
/-- a walk with pairs -/
theorem zipD_ints (ns ms : List Int) : zipD (ns.map .int) (ms.map .int) = (List.zip ns ms).map fun z => .tup [.int z.1, .int z.2] := by
  unfold zipD
  rw [List.zip_map, List.map_map]
  rfl
end Rb

namespace Rb
open PySem PySem.Spec PyProof.Rows L2
/-! ### a tuple times a number, once or never too -/
theorem tuple_mul1 (l : Addr) (items : Array Value) (n : Nat) (dd : Option Addr) (sl : Array (Option Value)) (u : Tok) :
    Meets (Builtin.«tuple.__mul__» ⟨[.ref l, .int 1 u], []⟩) (fun _ R s => s.heap.get? l = some { cls := .type "tuple", dict := dd, data := .seq items n, slots := sl } ∧
      R (.ok (.ret (Value.ref l))) s) :=
  .of_wp fun prog w A R s h => by
    obtain ⟨hp, g, d, tk, os⟩ := s
    obtain ⟨hl, h⟩ := h
    have f1 := AutoSeq1.idx_int
    wp_walk using wpAny_loadPart' hl
    have e1 : (items.isEmpty || (1 : Int) == 1) = true := by simp
    simp only [e1, if_true]
    wp_walk using wpAny_loadPart' hl
    exact ⟨_, rfl, h⟩
theorem tuple_mul0 (l : Addr) (items : Array Value) (n : Nat) (dd : Option Addr) (sl : Array (Option Value)) (x : Int) (u : Tok) (c0 : (decide (x < -(2 ^ 63)) || decide (x ≥ 2 ^ 63)) = false) (c1 : (items.isEmpty || x == 1) = false) (c2 : (decide (x ≤ 0) || items.isEmpty) = true) :
    Meets (Builtin.«tuple.__mul__» ⟨[.ref l, .int x u], []⟩) (fun _ R s => s.heap.get? l = some { cls := .type "tuple", dict := dd, data := .seq items n, slots := sl } ∧
      R (.ok (.ret (Value.ref s.heap.objs.size))) { s with heap := s.heap.push { cls := Value.type "tuple", data := Data.seq #[] }, toks := s.toks }) :=
  .of_wp fun prog w A R s h => by
    obtain ⟨hp, g, d, tk, os⟩ := s
    obtain ⟨hl, h⟩ := h
    have f1 := AutoSeq1.idx_int
    wp_walk using wpAny_loadPart' hl
    repeat (first
      | (refine wpAny_ite_false (decide_eq_false (by rw [c0]; exact Bool.false_ne_true)) ?_; wp_walk using wpAny_loadPart' hl)
      | (refine wpAny_ite_false (decide_eq_false (by rw [c1]; exact Bool.false_ne_true)) ?_; wp_walk using wpAny_loadPart' hl)
      | (refine wpAny_ite_true (decide_eq_true c2) ?_; wp_walk using wpAny_loadPart' hl))
    exact ⟨_, rfl, h⟩
def rRep1 (K : PySem.W.Frag) : R2 := fun x y H Q => ∃ l k xs, x = .ref l ∧ y = .int k ∧ SqT K H l xs ∧ xs ≠ [] ∧ -1000 ≤ k ∧ k ≤ 1 ∧ (k = 1 → Q (.ref l) H) ∧ (k ≤ 0 → ∀ p, H p = none → Q (.ref p) (upd H p (.tup [])))
theorem op_rep1 {X : Cx} : OpR X (binaryOp .Mult) (rRep1 X.K) := by
  intro pins s σ H x y v u Q I rx ry h
  obtain ⟨l, k, xs, rfl, rfl, hT, hne, h1, h2, q1, q0⟩ := h
  cases rx
  obtain ⟨t, rfl⟩ := ry
  obtain ⟨its, r, ⟨⟨cls, dd, data, sl⟩, ho, hc, n, hd⟩, hs⟩ := I.tuple hT
  simp only at hc hd
  subst hc hd
  have hle : its.length = xs.length := r.length.symm
  have hn : its ≠ [] := fun e => hne (by
    rw [e] at hle
    exact List.eq_nil_of_length_eq_zero hle.symm)
  have hi : its.toArray.isEmpty = false := by
    cases its with
    | nil => exact absurd rfl hn
    | cons a b => rfl
  by_cases hk : k = 1
  · subst hk
    exact wpAny_binaryOp_repeat_ref (T := "tuple") (U := "int") (by decide) ⟨_, ho, rfl⟩ (fun s' => typeIs_int s' 1 t) noFill_tuple_mul F.fills_int_mul F.slot_int_rmul repeat_tuple F.slot_int_index.lookup
      (call_meets F.slot_int_rmul (typeIs_int s 1 t) F.entry_int_rmul (F.args_int_rmul_2 _ _) (int_rmul_tuple 1 t l its.toArray n dd sl)
        ⟨ho, rfl, ⟨_, ho, rfl⟩, call_meets F.slot_tuple_mul ⟨_, ho, rfl⟩ F.entry_tuple_mul (F.args_tuple_mul_2 _ _) (tuple_mul1 l its.toArray n dd sl t) ⟨ho, .ref l, H, I, rfl, q1 rfl⟩⟩)
  · have c0 : (decide (k < -(2 ^ 63)) || decide (k ≥ 2 ^ 63)) = false := by
      rw [decide_eq_false (by omega), decide_eq_false (by omega)] <;> rfl
    have c1 : (its.toArray.isEmpty || k == 1) = false := by
      rw [hi, Bool.false_or]
      exact beq_eq_false_iff_ne.mpr hk
    have c2 : (decide (k ≤ 0) || its.toArray.isEmpty) = true := by
      rw [decide_eq_true (by omega)]; rfl
    exact wpAny_binaryOp_repeat_ref (T := "tuple") (U := "int") (by decide) ⟨_, ho, rfl⟩ (fun s' => typeIs_int s' k t) noFill_tuple_mul F.fills_int_mul F.slot_int_rmul repeat_tuple F.slot_int_index.lookup
      (call_meets F.slot_int_rmul (typeIs_int s k t) F.entry_int_rmul (F.args_int_rmul_2 _ _) (int_rmul_tuple k t l its.toArray n dd sl)
        ⟨ho, rfl, ⟨_, ho, rfl⟩, call_meets F.slot_tuple_mul ⟨_, ho, rfl⟩ F.entry_tuple_mul (F.args_tuple_mul_2 _ _) (tuple_mul0 l its.toArray n dd sl k t c0 c1 c2)
          ⟨ho, .ref s.heap.objs.size, _, I.laid (t' := s.toks) (o := .tup []) (fun b ob q => Heap.get?_push_of_some _ q) (Nat.le_refl _) ⟨by show 0 ≤ sizeLine; omega, [], .nil, IsTup.new _ _⟩, rfl, q0 (by omega) _ (I.hok.fresh (Nat.le_refl _))⟩⟩)
def dRepT : D → D → Option (D × Bool)
  | .tup x, .int k => if decide (1 ≤ x.length ∧ x.length ≤ 1000 ∧ -1000 ≤ k ∧ k ≤ 1000) then some (.tup (List.replicate k.toNat x).flatten, false) else none
  | _, _ => none
def rRepA (K : PySem.W.Frag) : R2 := fun x y H Q => rRepT K x y H Q ∨ rRep1 K x y H Q
theorem op_repA {X : Cx} : OpR X (binaryOp .Mult) (rRepA X.K) := op_repT.or op_rep1
theorem ok_repA {K : PySem.W.Frag} : BinOk K dRepT (rRepA K) := fun ω F σ H s x y z b v u Q sr hx hy e p => by
  unfold dRepT at e
  split at e
  · split at e
    · rename_i x0 k hz
      cases e
      obtain ⟨z1, z2, z3, z4⟩ := of_decide_eq_true hz
      unfold Rp at hx hy
      obtain ⟨a, xs, rfl, h1, h2⟩ := hx
      subst hy
      have hl := h2.len
      have hne : xs ≠ [] := fun e => by rw [e] at hl; simp at hl; omega
      by_cases hk : 2 ≤ k
      · exact .inl ⟨a, k, xs, rfl, rfl, sqt_mono sr.sub h1, hne, hk, z4, by omega, fun q hq => sr.newT hq (h2.rep k.toNat) p⟩
      · refine .inr ⟨a, k, xs, rfl, rfl, sqt_mono sr.sub h1, hne, z3, by omega, fun e => ?_, fun e q hq => ?_⟩
        · subst e
          have h3 := h2.rep 1
          have e1 : (List.replicate 1 xs).flatten = xs := by simp
          rw [e1] at h3
          exact sr.here (b := false) (by show Rp _ _ _ _ _; unfold Rp; exact ⟨a, xs, rfl, h1, h3⟩) p
        · have e0 : k.toNat = 0 := by omega
          have h3 := h2.rep 0
          rw [e0] at p
          exact sr.newT hq h3 p
    · cases e
  · cases e
end Rb

namespace Rb
open PySem PySem.Spec PyProof.Rows L2
/-! ### enumerate of any iterator, told by what its next does -/
section
variable {prog : Program} {w : World} {A : Around} {E : Value → Shared → Prop} {s : Shared}
theorem enum_next_gen {e it : Addr} {c : Int} {old : Value} {ch : List Addr} {R : Value → Heap → Prop} {Q : Value → Shared → Prop} (he : IsEnum s.heap e it c old) (hec : e ∉ ch)
    (hn : ∀ Q' : Value → Shared → Prop, (∀ x h' tk, R x h' → (∀ b o, b ∉ ch → s.heap.get? b = some o → h'.get? b = some o) → s.heap.objs.size ≤ h'.objs.size → Q' x { s with heap := h', toks := tk }) → wpAny (model prog w) A (Builtin.SmallTypes.nextOf (.ref it)) Q' E s)
    (hQ : ∀ x h1 h' tk, R x h1 → (∀ b o, b ∉ ch → s.heap.get? b = some o → h1.get? b = some o) → s.heap.objs.size ≤ h1.objs.size → IsEnumOut h' e it (c + 1) x h1.objs.size →
      h'.get? h1.objs.size = some { cls := .type "tuple", data := .seq #[.int c tk, x] } → h'.objs.size = h1.objs.size + 1 →
      (∀ b o, b ≠ e → h1.get? b = some o → h'.get? b = some o) → Q (.ref h1.objs.size) { s with heap := h', toks := tk + 1 }) :
    wpAny (model prog w) A (Builtin.«enumerate.__next__» ⟨[.ref e], []⟩) (fun fin s' => ∃ v, fin = .done (.ret v) ∧ Q v s') E s := by
  obtain ⟨hp, g, d, tk₀, os⟩ := s
  show wpAny _ _ (field (.ref e) 2 >>= _) _ _ _
  refine wpAny_bind (wpAny_field he rfl (x := .ref it) rfl ?_)
  refine wpAny_bind (hn _ fun x h₁ tk hR kk hsz1 => ?_)
  have he₁ : IsEnum h₁ e it c old := kk e _ hec he
  have hel : e < h₁.objs.size := Heap.lt_size he₁
  show wpAny _ _ (field (.ref e) 3 >>= _) _ _ ⟨h₁, g, d, tk, os⟩
  refine wpAny_bind (wpAny_field he₁ rfl (x := rawInt c) rfl ?_)
  show wpAny _ _ (field (.ref e) 4 >>= _) _ _ ⟨h₁, g, d, tk, os⟩
  refine wpAny_bind (wpAny_field he₁ rfl (x := .none) rfl ?_)
  show wpAny _ _ (mkInt c >>= _) _ _ ⟨h₁, g, d, tk, os⟩
  refine wpAny_bind (wpAny_mkInt ?_)
  show wpAny _ _ (setField (.ref e) 3 (rawInt (c + 1)) >>= _) _ _ ⟨h₁, g, d, tk + 1, os⟩
  refine wpAny_bind (wpAny_setField_rec he₁ (by simp) fun h₂ he₂ hs₂ => ?_)
  replace hs₂ : Heap.SameBut e h₁ h₂ := hs₂
  replace he₂ : IsEnum h₂ e it (c + 1) old := he₂
  show wpAny _ _ (setField (.ref e) 4 .none >>= _) _ _ ⟨h₂, g, d, tk + 1, os⟩
  refine wpAny_bind (wpAny_setField_rec he₂ (by simp) fun h₃ he₃ hs₃ => ?_)
  replace hs₃ : Heap.SameBut e h₂ h₃ := hs₃
  replace he₃ : IsEnum h₃ e it (c + 1) old := he₃
  show wpAny _ _ (newTuple [.int c tk, x] >>= _) _ _ ⟨h₃, g, d, tk + 1, os⟩
  refine wpAny_bind (wpAny_newTuple ?_)
  have he₄ : IsEnum (h₃.push { cls := .type "tuple", data := .seq #[.int c tk, x] }) e it (c + 1) old := Heap.get?_push_of_some _ he₃
  generalize hh₄ : h₃.push { cls := .type "tuple", data := .seq #[.int c tk, x] } = h₄ at he₄
  have hsz : h₃.objs.size = h₁.objs.size := by rw [hs₃.1, hs₂.1]
  have ht₄ : h₄.get? h₁.objs.size = some { cls := .type "tuple", data := .seq #[.int c tk, x] } := by rw [← hh₄, ← hsz]; exact Heap.get?_push_size _ rfl
  have hz₄ : h₄.objs.size = h₁.objs.size + 1 := by rw [← hh₄, Heap.size_push, hsz]
  have hk₄ : ∀ b o, b ≠ e → h₁.get? b = some o → h₄.get? b = some o := fun b o hbe hb => by
    rw [← hh₄]; exact Heap.get?_push_of_some _ (hs₃.extBut b o hbe (hs₂.extBut b o hbe hb))
  show wpAny _ _ (Builtin.SmallTypes.ownedTupleIsFree (.ref e) >>= _) _ _ ⟨h₄, g, d, tk + 1, os⟩
  rw [hsz]
  clear hh₄ he₃ hs₃ he₂ hs₂ he₁ hsz h₃ h₂
  refine wpAny_bind ?_
  · unfold Builtin.SmallTypes.ownedTupleIsFree
    refine wpAny_bind (wpAny_field he₄ rfl (x := .none) rfl (wpAny_pure ?_))
    simp only [if_true]
    refine wpAny_bind (wpAny_rule ?_)
    refine wpAny_bind (wpAny_field he₄ rfl (x := old) rfl ?_)
    refine wpAny_bind (wpAny_setField_rec he₄ (by simp) fun h₅ he₅ hs₅ => ?_)
    replace hs₅ : Heap.SameBut e h₄ h₅ := hs₅
    replace he₅ : IsEnum h₅ e it (c + 1) x := he₅
    show wpAny _ _ (Builtin.SmallTypes.ownedTupleHandOut (.ref e) (.ref h₁.objs.size) >>= _) _ _ ⟨h₅, g, d, tk + 1, os⟩
    refine wpAny_bind ?_
    · unfold Builtin.SmallTypes.ownedTupleHandOut
      refine wpAny_bind (wpAny_setField_rec he₅ (by simp) fun h₆ he₆ hs₆ => ?_)
      replace hs₆ : Heap.SameBut e h₅ h₆ := hs₆
      replace he₆ : IsEnumOut h₆ e it (c + 1) x h₁.objs.size := he₆
      refine wpAny_setField_rec he₆ (by simp) fun h₇ he₇ hs₇ => ?_
      replace hs₇ : Heap.SameBut e h₆ h₇ := hs₇
      replace he₇ : IsEnumOut h₇ e it (c + 1) x h₁.objs.size := he₇
      refine wpAny_bind (wpAny_letGo (wpAny_pure ⟨_, rfl, hQ x h₁ h₇ tk hR kk hsz1 he₇ ?_ ?_ ?_⟩))
      · exact hs₇.extBut _ _ (Nat.ne_of_gt hel) (hs₆.extBut _ _ (Nat.ne_of_gt hel) (hs₅.extBut _ _ (Nat.ne_of_gt hel) ht₄))
      · rw [hs₇.1, hs₆.1, hs₅.1, hz₄]
      · exact fun b o hbe hb => hs₇.extBut b o hbe (hs₆.extBut b o hbe (hs₅.extBut b o hbe (hk₄ b o hbe hb)))
theorem pyNext_enum_gen {e it : Addr} {c : Int} {old : Value} {ch : List Addr} {R : Value → Heap → Prop} {Q : Option Value → Shared → Prop} (he : IsEnum s.heap e it c old) (hec : e ∉ ch)
    (hn : ∀ (E' : Value → Shared → Prop) (Q' : Value → Shared → Prop), (∀ x h' tk, R x h' → (∀ b o, b ∉ ch → s.heap.get? b = some o → h'.get? b = some o) → s.heap.objs.size ≤ h'.objs.size → Q' x { s with heap := h', toks := tk }) → wpAny (model prog w) A.in1 (Builtin.SmallTypes.nextOf (.ref it)) Q' E' s)
    (hQ : ∀ x h1 h' tk, R x h1 → (∀ b o, b ∉ ch → s.heap.get? b = some o → h1.get? b = some o) → s.heap.objs.size ≤ h1.objs.size → IsEnumOut h' e it (c + 1) x h1.objs.size →
      h'.get? h1.objs.size = some { cls := .type "tuple", data := .seq #[.int c tk, x] } → h'.objs.size = h1.objs.size + 1 →
      (∀ b o, b ≠ e → h1.get? b = some o → h'.get? b = some o) → Q (some (.ref h1.objs.size)) { s with heap := h', toks := tk + 1 }) :
    wpAny (model prog w) A (pyNext (.ref e)) Q E s := by
  have hT : s.TypeIs (.ref e) "enumerate" := ⟨_, he, rfl⟩
  unfold pyNext
  exact wpAny_bind (wpAny_attempt (wpAny_callSpecial?_slot (name := Str.ofString "__next__") hT F.slot_enumerate_next
    (wpAny_call_entry F.slot_enumerate_next hT F.entry_enumerate_next
      (enum_next_gen he hec (hn _) fun x h1 h' tk a b c d k q r => wpAny_pure (hQ x h1 h' tk a b c d k q r)) (F.args_enumerate_next_1 _))))
theorem pyNext_enum_end {e it : Addr} {c : Int} {old : Value} {ch : List Addr} {Q : Option Value → Shared → Prop} (he : IsEnum s.heap e it c old)
    (hn : ∀ (E' : Value → Shared → Prop) (Q' : Value → Shared → Prop), (∀ h' tk x, (∀ b o, b ∉ ch → s.heap.get? b = some o → h'.get? b = some o) → (∃ o, h'.get? x = some o ∧ o.cls = .type "StopIteration") → E' (.ref x) { s with heap := h', toks := tk }) → wpAny (model prog w) A.in1 (Builtin.SmallTypes.nextOf (.ref it)) Q' E' s)
    (hQ : ∀ h' tk, (∀ b o, b ∉ ch → s.heap.get? b = some o → h'.get? b = some o) → Q none { s with heap := h', toks := tk }) : wpAny (model prog w) A (pyNext (.ref e)) Q E s := by
  have hT : s.TypeIs (.ref e) "enumerate" := ⟨_, he, rfl⟩
  unfold pyNext
  refine wpAny_bind (wpAny_attempt (wpAny_callSpecial?_slot (name := Str.ofString "__next__") hT F.slot_enumerate_next
    (wpAny_call_entry F.slot_enumerate_next hT F.entry_enumerate_next ?_ (F.args_enumerate_next_1 _))))
  show wpAny _ _ (field (.ref e) 2 >>= _) _ _ _
  refine wpAny_bind (wpAny_field he rfl (x := .ref it) rfl ?_)
  refine wpAny_bind (hn _ _ fun h' tk x hk hx => ?_)
  obtain ⟨o, ho, hc⟩ := hx
  refine wpAny_bind (wpAny_isInstance (T := "StopIteration") (b := true) ⟨o, ho, hc⟩ isSubtype_stop ?_)
  exact wpAny_pure (hQ _ _ hk)
end
end Rb

namespace Rb
open PySem PySem.Spec PyProof.Rows L2
/-! ### the next of a zip whose pair is out, or is not there any more -/
abbrev IsZipG (h : Heap) (z TI TO : Addr) (f0 : Value) (f : Bool) : Prop :=
  h.get? z = some { cls := .type "zip", dict := none, data := .fields #[f0, .bool f, .bool false, .ref TI, .ref TO], slots := #[] }
/-- its last pair is free to be used again -/
def GFree (h : Heap) (f0 : Value) : Prop := f0 = .none ∨ ∃ T : Addr, f0 = rawInt T ∧ h.get? T = none
section
variable {prog : Program} {w : World} {A : Around} {E : Value → Shared → Prop} {s : Shared} {z TI TO i1 i2 : Addr} {fp1 fp2 : List Addr} {n1 n2 i : Nat} {P1 P2 : Nat → Value → Prop} {St1 St2 : Nat → Heap → Prop} {a1 a2 f0 : Value} {f : Bool}
theorem free_zip {Q : Bool → Shared → Prop} (hz : IsZipG s.heap z TI TO f0 f) (hf : GFree s.heap f0) (h : Q true s) : wpAny (model prog w) A (Builtin.SmallTypes.ownedTupleIsFree (.ref z)) Q E s := by
  unfold Builtin.SmallTypes.ownedTupleIsFree
  rcases hf with rfl | ⟨T, rfl, hT⟩
  · exact wpAny_bind (wpAny_field hz rfl (x := .none) rfl (wpAny_pure h))
  · refine wpAny_bind (wpAny_field hz rfl (x := rawInt T) rfl ?_)
    show wpAny _ _ (loadIfAlive ((T : Int).toNat) >>= _) _ _ _
    rw [Int.toNat_natCast]
    refine wpAny_bind ?_
    have h' : ∀ R : Option Obj → Shared → Prop, R none s → wpAny (model prog w) A (loadIfAlive T) R E s := fun R q => by
      have q' : R (s.heap.get? T) s := by rw [hT]; exact q
      exact fun _ _ _ => q'
    refine h' _ ?_
    simp only [Option.isNone_none, if_true]
    exact wpAny_pure h
theorem zipG_item {Q : Value → Shared → Prop} (S : ZipSep2 z TI TO i1 i2 fp1 fp2) (D1 : Draws prog w A i1 fp1 n1 P1 St1) (D2 : Draws prog w A i2 fp2 n2 P2 St2)
    (hz : IsZipG s.heap z TI TO f0 f) (hf : GFree s.heap f0) (hTI : IsTupOf2 s.heap TI (.ref i1) (.ref i2)) (hTO : IsTupOf2 s.heap TO a1 a2) (st1 : St1 i s.heap) (st2 : St2 i s.heap) (g1 : i < n1) (g2 : i < n2)
    (hQ : ∀ x y h' tk, P1 i x → P2 i y → IsZipG h' z TI TO (rawInt s.heap.objs.size) false → (∃ u v, IsTupOf2 h' TO u v) → St1 (i + 1) h' → St2 (i + 1) h' → IsTupOf2 h' s.heap.objs.size x y → h'.objs.size = s.heap.objs.size + 1 →
      (∀ c o, c ∉ [z, TO, i1, i2] → s.heap.get? c = some o → h'.get? c = some o) → Q (.ref s.heap.objs.size) { s with heap := h', toks := tk }) :
    wpAny (model prog w) A (Builtin.«zip.__next__» ⟨[.ref z], []⟩) (fun fin s' => ∃ v, fin = .done (.ret v) ∧ Q v s') E s := by
  obtain ⟨hp, g, d, tk0, os⟩ := s
  show wpAny _ _ (field (.ref z) 2 >>= _) _ _ _
  refine wpAny_bind (wpAny_field hz rfl (x := .bool false) rfl ?_)
  show wpAny _ _ (field (.ref z) 3 >>= _) _ _ _
  refine wpAny_bind (wpAny_field hz rfl (x := .ref TI) rfl ?_)
  refine wpAny_bind (wpAny_seqItems hTI rfl ?_)
  show wpAny _ _ (Builtin.SmallTypes.ownedTupleIsFree (.ref z) >>= _) _ _ _
  refine wpAny_bind (free_zip hz hf ?_)
  simp only [if_true]
  refine wpAny_bind (wpAny_rule ?_)
  refine wpAny_bind (wpAny_field hz rfl (x := .ref TO) rfl ?_)
  refine wpAny_bind (wpAny_setField_rec hz (by simp) fun c0 hz0 hs0 => ?_)
  replace hz0 : IsZipG c0 z TI TO .ellipsis f := hz0
  replace hs0 : Heap.SameBut z hp c0 := hs0
  refine wpAny_bind ?_
  simp only [List.zipIdx_cons, List.zipIdx_nil, List.forIn_cons, List.forIn_nil]
  refine wpAny_bind (wpAny_bind (wpAny_onRaise ?_))
  show wpAny _ _ (Builtin.SmallTypes.nextOf (.ref i1) >>= _) _ _ ⟨c0, g, d, tk0, os⟩
  refine wpAny_bind (D1.item i _ _ _ g1 (D1.over st1 hs0 S.zf1) fun x c1 tk1 hx sn1 hp1 => wpAny_pure ?_)
  replace hp1 : Heap.SameBut i1 c0 c1 := hp1
  have hU1 : IsTupOf2 c1 TO a1 a2 := hp1.extBut _ _ S.Ti1 (hs0.extBut _ _ S.TOz hTO)
  refine wpAny_bind (wpAny_seqItems (s := ⟨c1, g, d, tk1, os⟩) hU1 rfl ?_)
  refine wpAny_bind (updateSeq_IsTupOf2 (s := ⟨c1, g, d, tk1, os⟩) hU1 fun c2 hT1 hs1 => ?_)
  replace hT1 : IsTupOf2 c2 TO x a2 := hT1
  replace hs1 : Heap.SameBut TO c1 c2 := hs1
  refine wpAny_bind (wpAny_letGo (wpAny_pure ?_))
  refine wpAny_bind (wpAny_bind (wpAny_onRaise ?_))
  show wpAny _ _ (Builtin.SmallTypes.nextOf (.ref i2) >>= _) _ _ ⟨c2, g, d, tk1, os⟩
  refine wpAny_bind (D2.item i _ _ _ g2 (D2.over (D2.over (D2.over st2 hs0 S.zf2) hp1 S.sep1_2) hs1 S.Tf2) fun y c3 tk2 hy sn2 hp2 => wpAny_pure ?_)
  replace hp2 : Heap.SameBut i2 c2 c3 := hp2
  have hU2 : IsTupOf2 c3 TO x a2 := hp2.extBut _ _ S.Ti2 hT1
  refine wpAny_bind (wpAny_seqItems (s := ⟨c3, g, d, tk2, os⟩) hU2 rfl ?_)
  refine wpAny_bind (updateSeq_IsTupOf2 (s := ⟨c3, g, d, tk2, os⟩) hU2 fun c4 hT2 hs2 => ?_)
  replace hT2 : IsTupOf2 c4 TO x y := hT2
  replace hs2 : Heap.SameBut TO c3 c4 := hs2
  refine wpAny_bind (wpAny_letGo (wpAny_pure (wpAny_pure ?_)))
  refine wpAny_bind (wpAny_seqItems (s := ⟨c4, g, d, tk2, os⟩) hT2 rfl ?_)
  refine wpAny_bind (wpAny_newTuple ?_)
  have hsz : c4.objs.size = hp.objs.size := by rw [hs2.1, hp2.1, hs1.1, hp1.1, hs0.1]
  have hzz : IsZipG c4 z TI TO .ellipsis f := (hs2.extBut _ _ S.TOz.symm (hp2.extBut _ _ S.zi2 (hs1.extBut _ _ S.TOz.symm (hp1.extBut _ _ S.zi1 hz0))))
  have hkk : ∀ c o, c ∉ [z, TO, i1, i2] → hp.get? c = some o → c4.get? c = some o := fun c o m e => by
    simp only [List.mem_cons, List.not_mem_nil, or_false, not_or] at m
    exact hs2.extBut _ _ m.2.1 (hp2.extBut _ _ m.2.2.2 (hs1.extBut _ _ m.2.1 (hp1.extBut _ _ m.2.2.1 (hs0.extBut _ _ m.1 e))))
  have hj1 : St1 (i + 1) c4 := (D1.over (D1.over (D1.over sn1 hs1 S.Tf1) hp2 S.sep2_1) hs2 S.Tf1)
  have hj2 : St2 (i + 1) c4 := (D2.over sn2 hs2 S.Tf2)
  have hzlt : z < c4.objs.size := Heap.lt_size hzz
  show wpAny _ _ (Builtin.SmallTypes.ownedTupleHandOut (.ref z) (.ref c4.objs.size) >>= _) _ _ ⟨c4.push { cls := .type "tuple", data := .seq #[x, y] }, g, d, tk2, os⟩
  refine wpAny_bind ?_
  unfold Builtin.SmallTypes.ownedTupleHandOut
  have hz6 : IsZipG (c4.push { cls := .type "tuple", data := .seq #[x, y] }) z TI TO .ellipsis f := Heap.get?_push_of_some _ hzz
  refine wpAny_bind (wpAny_setField_rec hz6 (by simp) fun c7 hz7 hs7 => ?_)
  replace hz7 : IsZipG c7 z TI TO (rawInt c4.objs.size) f := hz7
  refine wpAny_setField_rec hz7 (by simp) fun c8 hz8 hs8 => ?_
  replace hz8 : IsZipG c8 z TI TO (rawInt c4.objs.size) false := hz8
  replace hs7 : Heap.SameBut z (c4.push { cls := .type "tuple", data := .seq #[x, y] }) c7 := hs7
  replace hs8 : Heap.SameBut z c7 c8 := hs8
  have up : ∀ c o, c ≠ z → c4.get? c = some o → c8.get? c = some o := fun c o q e => hs8.extBut _ _ q (hs7.extBut _ _ q (Heap.get?_push_of_some _ e))
  have hT8 : IsTupOf2 c8 c4.objs.size x y := hs8.extBut _ _ (Nat.ne_of_gt hzlt) (hs7.extBut _ _ (Nat.ne_of_gt hzlt) (Heap.get?_push_size _ rfl))
  have hsz8 : c8.objs.size = c4.objs.size + 1 := by rw [hs8.1, hs7.1, Heap.size_push]
  rw [hsz] at hz8 hT8 hsz8
  refine wpAny_pure ⟨_, rfl, ?_⟩
  show Q (.ref c4.objs.size) ⟨c8, g, d, tk2, os⟩
  rw [hsz]
  exact hQ x y c8 tk2 hx hy hz8 ⟨x, y, up _ _ S.TOz hT2⟩ (D1.frame _ _ _ hj1 fun b hb o e => up b o (fun q => S.zf1 (q ▸ hb)) e) (D2.frame _ _ _ hj2 fun b hb o e => up b o (fun q => S.zf2 (q ▸ hb)) e) hT8 hsz8
    fun c o m e => up c o (fun q => m (by simp [q])) (hkk c o m e)
theorem zipG_end {Q : Fin → Shared → Prop} (S : ZipSep2 z TI TO i1 i2 fp1 fp2) (D1 : Draws prog w A i1 fp1 n1 P1 St1) (D2 : Draws prog w A i2 fp2 n2 P2 St2)
    (hz : IsZipG s.heap z TI TO f0 f) (hf : GFree s.heap f0) (hTI : IsTupOf2 s.heap TI (.ref i1) (.ref i2)) (hTO : IsTupOf2 s.heap TO a1 a2) (st1 : St1 i s.heap) (st2 : St2 i s.heap) (l1 : i ≤ n1) (l2 : i ≤ n2) (hend : i = n1 ∨ i = n2)
    (hE : ∀ h' tk e, (∀ c o, c ∉ [z, TO, i1, i2] → s.heap.get? c = some o → h'.get? c = some o) → (∃ o, h'.get? e = some o ∧ o.cls = .type "StopIteration") → E (.ref e) { s with heap := h', toks := tk }) :
    wpAny (model prog w) A (Builtin.«zip.__next__» ⟨[.ref z], []⟩) Q E s := by
  obtain ⟨hp, g, d, tk0, os⟩ := s
  have nm : ∀ {c : Addr}, c ∉ [z, TO, i1, i2] → c ≠ z ∧ c ≠ TO ∧ c ≠ i1 ∧ c ≠ i2 := fun m => by
    simpa only [List.mem_cons, List.not_mem_nil, or_false, not_or] using m
  show wpAny _ _ (field (.ref z) 2 >>= _) _ _ _
  refine wpAny_bind (wpAny_field hz rfl (x := .bool false) rfl ?_)
  show wpAny _ _ (field (.ref z) 3 >>= _) _ _ _
  refine wpAny_bind (wpAny_field hz rfl (x := .ref TI) rfl ?_)
  refine wpAny_bind (wpAny_seqItems hTI rfl ?_)
  show wpAny _ _ (Builtin.SmallTypes.ownedTupleIsFree (.ref z) >>= _) _ _ _
  refine wpAny_bind (free_zip hz hf ?_)
  simp only [if_true]
  refine wpAny_bind (wpAny_rule ?_)
  refine wpAny_bind (wpAny_field hz rfl (x := .ref TO) rfl ?_)
  refine wpAny_bind (wpAny_setField_rec hz (by simp) fun c0 hz0 hs0 => ?_)
  replace hz0 : IsZipG c0 z TI TO .ellipsis f := hz0
  replace hs0 : Heap.SameBut z hp c0 := hs0
  refine wpAny_bind ?_
  simp only [List.zipIdx_cons, List.zipIdx_nil, List.forIn_cons, List.forIn_nil]
  refine wpAny_bind (wpAny_bind (wpAny_onRaise ?_))
  show wpAny _ _ (Builtin.SmallTypes.nextOf (.ref i1) >>= _) _ _ ⟨c0, g, d, tk0, os⟩
  by_cases g1 : i < n1
  · refine wpAny_bind (D1.item i _ _ _ g1 (D1.over st1 hs0 S.zf1) fun x c1 tk1 hx sn1 hp1 => wpAny_pure ?_)
    replace hp1 : Heap.SameBut i1 c0 c1 := hp1
    have hU1 : IsTupOf2 c1 TO a1 a2 := hp1.extBut _ _ S.Ti1 (hs0.extBut _ _ S.TOz hTO)
    refine wpAny_bind (wpAny_seqItems (s := ⟨c1, g, d, tk1, os⟩) hU1 rfl ?_)
    refine wpAny_bind (updateSeq_IsTupOf2 (s := ⟨c1, g, d, tk1, os⟩) hU1 fun c2 hT1 hs1 => ?_)
    replace hT1 : IsTupOf2 c2 TO x a2 := hT1
    replace hs1 : Heap.SameBut TO c1 c2 := hs1
    refine wpAny_bind (wpAny_letGo (wpAny_pure ?_))
    have q2 : i = n2 := by omega
    refine wpAny_bind (wpAny_bind (wpAny_onRaise ?_))
    show wpAny _ _ (Builtin.SmallTypes.nextOf (.ref i2) >>= _) _ _ ⟨c2, g, d, tk1, os⟩
    subst q2
    refine wpAny_bind (D2.done ⟨c2, g, d, tk1, os⟩ _ _ (D2.over (D2.over (D2.over st2 hs0 S.zf2) hp1 S.sep1_2) hs1 S.Tf2) fun q e hq he => ?_)
    replace hq : Heap.ExtBut i2 c2 q := hq
    obtain ⟨oe, hoe, hce⟩ := he
    replace hoe : q.get? e = some oe := hoe
    have hzq : IsZipG q z TI TO .ellipsis f := hq _ _ S.zi2 (hs1.extBut _ _ S.TOz.symm (hp1.extBut _ _ S.zi1 hz0))
    have hez : e ≠ z := fun x => by subst x; rw [hzq] at hoe; cases hoe; simp at hce
    refine wpAny_setField_rec (s := ⟨q, g, d, tk1, os⟩) hzq (by simp) fun q' _ hq' => ?_
    replace hq' : Heap.SameBut z q q' := hq'
    exact hE q' tk1 e (fun c o m x => hq'.extBut _ _ (nm m).1 (hq _ _ (nm m).2.2.2 (hs1.extBut _ _ (nm m).2.1 (hp1.extBut _ _ (nm m).2.2.1 (hs0.extBut _ _ (nm m).1 x))))) ⟨oe, hq'.extBut _ _ hez hoe, hce⟩
  · have q1 : i = n1 := by omega
    subst q1
    refine wpAny_bind (D1.done ⟨c0, g, d, tk0, os⟩ _ _ (D1.over st1 hs0 S.zf1) fun q e hq he => ?_)
    replace hq : Heap.ExtBut i1 c0 q := hq
    obtain ⟨oe, hoe, hce⟩ := he
    replace hoe : q.get? e = some oe := hoe
    have hzq : IsZipG q z TI TO .ellipsis f := hq _ _ S.zi1 hz0
    have hez : e ≠ z := fun x => by subst x; rw [hzq] at hoe; cases hoe; simp at hce
    refine wpAny_setField_rec (s := ⟨q, g, d, tk0, os⟩) hzq (by simp) fun q' _ hq' => ?_
    replace hq' : Heap.SameBut z q q' := hq'
    exact hE q' tk0 e (fun c o m x => hq'.extBut _ _ (nm m).1 (hq _ _ (nm m).2.2.1 (hs0.extBut _ _ (nm m).1 x))) ⟨oe, hq'.extBut _ _ hez hoe, hce⟩
end
/-! ### any state of a zip that goes on -/
structure ZS (b1 b2 : Bool) (z TI TO i1 i2 a b : Addr) (h : Heap) (i : Nat) : Prop where
  ti : IsTupOf2 h TI (.ref i1) (.ref i2)
  zz : ∃ f0 f, IsZipG h z TI TO f0 f ∧ (f0 = .none ∨ ∃ T : Addr, f0 = rawInt T)
  to : ∃ x y, IsTupOf2 h TO x y
  s1 : IsIt b1 h i1 a i
  s2 : IsIt b2 h i2 b i
section
variable {prog : Program} {w : World} {A : Around} {E : Value → Shared → Prop} {s : Shared} {b1 b2 : Bool} {z TI TO i1 i2 a b : Addr} {i : Nat} {its1 its2 : Array Value}
theorem nTI (D : ZipSep2 z TI TO i1 i2 [i1, a] [i2, b]) : TI ∉ [z, TO, i1, i2] := fun m => by
  simp only [List.mem_cons, List.not_mem_nil, or_false] at m
  rcases m with m | m | m | m
  · exact D.TIz m
  · exact D.TITO m
  · exact D.TIi1 m
  · exact D.TIi2 m
theorem zs_item {Q : Value → Shared → Prop} (hh : A.in1.handled = none) (D : ZipSep2 z TI TO i1 i2 [i1, a] [i2, b]) (ha : a ≠ i1) (hb : b ≠ i2)
    (x : ZS b1 b2 z TI TO i1 i2 a b s.heap i) (p1 : IsSq b1 s.heap a its1) (p2 : IsSq b2 s.heap b its2) (l1 : i < its1.size) (l2 : i < its2.size)
    (hQ : ∀ v1 v2 h' tk, its1[i]? = some v1 → its2[i]? = some v2 → ZS b1 b2 z TI TO i1 i2 a b h' (i + 1) → IsTupOf2 h' s.heap.objs.size v1 v2 → h'.objs.size = s.heap.objs.size + 1 →
      (∀ c o, c ∉ [z, TO, i1, i2] → s.heap.get? c = some o → h'.get? c = some o) → Q (.ref s.heap.objs.size) { s with heap := h', toks := tk }) : wpAny (model prog w) A (Builtin.SmallTypes.nextOf (.ref z)) Q E s := by
  obtain ⟨f0, f, hz, hf⟩ := x.zz
  obtain ⟨u, v, hTO⟩ := x.to
  have hTy : s.TypeIs (.ref z) "zip" := ⟨_, hz, rfl⟩
  unfold Builtin.SmallTypes.nextOf
  have free : GFree s.heap f0 → wpAny (model prog w) A.in1 (Builtin.«zip.__next__» ⟨[.ref z], []⟩) (fun fin s' => ∃ v, fin = .done (.ret v) ∧ Q v s') E s := fun gf =>
    zipG_item D (drawsB hh b1 i1 a ha its1) (drawsB hh b2 i2 b hb its2) hz gf x.ti hTO ⟨x.s1, p1⟩ ⟨x.s2, p2⟩ l1 l2 fun v1 v2 h' tk e1 e2 hz' hTO' t1 t2 hn hs kk =>
      hQ v1 v2 h' tk e1 e2 ⟨kk _ _ (nTI D) x.ti, ⟨_, _, hz', .inr ⟨_, rfl⟩⟩, hTO', t1.1, t2.1⟩ hn hs kk
  have main : wpAny (model prog w) A.in1 (Builtin.«zip.__next__» ⟨[.ref z], []⟩) (fun fin s' => ∃ v, fin = .done (.ret v) ∧ Q v s') E s := by
    rcases hf with rfl | ⟨T, rfl⟩
    · exact free (.inl rfl)
    · cases hT : s.heap.get? T with
      | none => exact free (.inr ⟨T, rfl, hT⟩)
      | some oT =>
        refine zipH_item D (drawsB hh b1 i1 a ha its1) (drawsB hh b2 i2 b hb its2) hz hT x.ti ⟨x.s1, p1⟩ ⟨x.s2, p2⟩ l1 l2 fun v1 v2 h' tk e1 e2 hz' t1 t2 hn hs kk => ?_
        have k' : ∀ c o, c ∉ [z, TO, i1, i2] → s.heap.get? c = some o → h'.get? c = some o := fun c o m e => kk c o (fun e => m (by simp [e])) (fun e => m (by simp [e])) (fun e => m (by simp [e])) e
        exact hQ v1 v2 h' tk e1 e2 ⟨k' _ _ (nTI D) x.ti, ⟨_, _, hz', .inr ⟨_, rfl⟩⟩, ⟨u, v, kk _ _ D.TOz D.Ti1 D.Ti2 hTO⟩, t1.1, t2.1⟩ hn hs k'
  refine wpAny_bind (wpAny_callSpecial?_slot (name := Str.ofString "__next__") hTy F.slot_zip_next (wpAny_call_entry F.slot_zip_next hTy F.entry_zip_next ?_ (F.args_zip_next_1 _)))
  refine wpAny_mono main (fun fin s' hr => ?_) fun _ _ x => x
  obtain ⟨v, rfl, q⟩ := hr
  exact ⟨v, rfl, wpAny_pure q⟩
theorem zs_done {Q : Value → Shared → Prop} (hh : A.in1.handled = none) (D : ZipSep2 z TI TO i1 i2 [i1, a] [i2, b]) (ha : a ≠ i1) (hb : b ≠ i2)
    (x : ZS b1 b2 z TI TO i1 i2 a b s.heap i) (p1 : IsSq b1 s.heap a its1) (p2 : IsSq b2 s.heap b its2) (l1 : i ≤ its1.size) (l2 : i ≤ its2.size) (he : i = its1.size ∨ i = its2.size)
    (hE : ∀ h' tk x, (∀ c o, c ∉ [z, TO, i1, i2] → s.heap.get? c = some o → h'.get? c = some o) → (∃ o, h'.get? x = some o ∧ o.cls = .type "StopIteration") → E (.ref x) { s with heap := h', toks := tk }) : wpAny (model prog w) A (Builtin.SmallTypes.nextOf (.ref z)) Q E s := by
  obtain ⟨f0, f, hz, hf⟩ := x.zz
  obtain ⟨u, v, hTO⟩ := x.to
  have hTy : s.TypeIs (.ref z) "zip" := ⟨_, hz, rfl⟩
  unfold Builtin.SmallTypes.nextOf
  refine wpAny_bind (wpAny_callSpecial?_slot (name := Str.ofString "__next__") hTy F.slot_zip_next (wpAny_call_entry F.slot_zip_next hTy F.entry_zip_next ?_ (F.args_zip_next_1 _)))
  have free : GFree s.heap f0 → ∀ Q : Fin → Shared → Prop, wpAny (model prog w) A.in1 (Builtin.«zip.__next__» ⟨[.ref z], []⟩) Q E s := fun gf Q =>
    zipG_end D (drawsB hh b1 i1 a ha its1) (drawsB hh b2 i2 b hb its2) hz gf x.ti hTO ⟨x.s1, p1⟩ ⟨x.s2, p2⟩ l1 l2 he fun h' tk y kk hy => hE h' tk y kk hy
  rcases hf with rfl | ⟨T, rfl⟩
  · exact free (.inl rfl) _
  · cases hT : s.heap.get? T with
    | none => exact free (.inr ⟨T, rfl, hT⟩) _
    | some oT =>
      exact zipH_end D (drawsB hh b1 i1 a ha its1) (drawsB hh b2 i2 b hb its2) hz hT x.ti ⟨x.s1, p1⟩ ⟨x.s2, p2⟩ l1 l2 he fun h' tk y kk hy =>
        hE h' tk y (fun c o m e => kk c o (fun e => m (by simp [e])) (fun e => m (by simp [e])) (fun e => m (by simp [e])) e) hy
end
end Rb

namespace Rb
open PySem PySem.Spec PyProof.Rows L2
/-! ### for i, (x, y) in enumerate(zip(a, b)) -/
theorem enum_newZ (z TI TO : Addr) :
    Meets (Builtin.«enumerate.__new__» ⟨[.type "enumerate", .ref z], []⟩) (fun _ R s => IsZip s.heap z TI TO .none ∧
      R (.ok (.ret (.ref s.heap.objs.size))) { s with heap := s.heap.push { cls := .type "enumerate", data := .fields #[.none, .bool false, .ref z, rawInt 0, .none, .none] } }) :=
  .of_wp fun prog w A R s h => by
    obtain ⟨hp, g, d, tk, os⟩ := s
    obtain ⟨h1, h⟩ := h
    have hsub := sub_enumerate
    have go : ∀ {A' : Around} {E : Value → Shared → Prop} {Q : Value → Shared → Prop}, Q (.ref z) ⟨hp, g, d, tk, os⟩ → wpAny (model prog w) A' (pyIter (.ref z)) Q E ⟨hp, g, d, tk, os⟩ :=
      fun q => wpAny_pyIter_zip h1 q
    wp_walk using go
    refine wpAny_stack_any fun st => wpAny_pure ?_
    split
    · rename_i c _ _ _ _ _
      cases (c == Value.type "enumerate") <;> (wp_walk using go; exact ⟨_, rfl, h⟩)
    · wp_walk using go
      exact ⟨_, rfl, h⟩
theorem enum_callZ {prog : Program} {w : World} {A : Around} {E : Value → Shared → Prop} {s : Shared} {z TI TO : Addr} {Q : Value → Shared → Prop} (h1 : IsZip s.heap z TI TO .none)
    (h : ∀ h', IsEnum h' s.heap.objs.size z 0 .none → h'.objs.size = s.heap.objs.size + 1 → (∀ b o, s.heap.get? b = some o → h'.get? b = some o) → Q (.ref s.heap.objs.size) { s with heap := h' }) :
    wpAny (model prog w) A (call (.type "enumerate") [.ref z]) Q E s := by
  refine callType_new F.called_enumerate (by decide) (F.typeCall_enumerate_1 _) (F.newCall_enumerate_1 _) (fun obj => F.args_object_init_2 obj _) F.entry_enumerate_new (enum_newZ z TI TO) ⟨h1, ?_⟩
  have he := Heap.get?_push_size s.heap (o := { cls := .type "enumerate", data := .fields #[.none, .bool false, .ref z, rawInt 0, .none, .none] }) rfl
  exact ⟨⟨_, he, rfl⟩, h _ he (Heap.size_push ..) fun b o x => Heap.get?_push_of_some _ x⟩
def ItEZ (K : PySem.W.Frag) (b1 b2 : Bool) (a b : Addr) : It :=
  ⟨fun i H => ∃ (xs ys : List V) (x y : V), SqB b1 K H a xs ∧ SqB b2 K H b ys ∧ xs[i]? = some x ∧ ys[i]? = some y,
    fun i H v H' => ∃ T1 T2 x y, v = .ref T2 ∧ H T1 = none ∧ H T2 = none ∧ T2 ≠ T1 ∧ H' = upd (upd H T1 (.tup [x, y])) T2 (.tup [.int (i : Nat), .ref T1]) ∧ (∀ xs, SqB b1 K H a xs → xs[i]? = some x) ∧ ∀ ys, SqB b2 K H b ys → ys[i]? = some y,
    fun i H => ∃ xs ys : List V, SqB b1 K H a xs ∧ SqB b2 K H b ys ∧ i ≤ xs.length ∧ i ≤ ys.length ∧ (i = xs.length ∨ i = ys.length)⟩
theorem turn_EZ {P : Program} {w : World} {K : PySem.W.Frag} {elts : List Expr} {kk : Nat} {tpos : Pos} {a b e z TI TO i1 i2 : Addr} {b1 b2 : Bool} (D : ZipSep2 z TI TO i1 i2 [i1, a] [i2, b]) (ha : a ≠ i1) (hb : b ≠ i2) (he : ∀ c ∈ [z, TI, TO, i1, i2, a, b], e ≠ c) :
    Turn P w K (.Tuple elts kk tpos) (ItEZ K b1 b2 a b) [e, z, TI, TO, i1, i2] e (fun i h => (∃ old, IsEnum h e z ((i : Nat) : Int) old) ∧ ZS b1 b2 z TI TO i1 i2 a b h i) where
  mem := List.mem_cons_self ..
  obj := fun i h ⟨⟨old, h0⟩, x⟩ c hc => by
    simp only [List.mem_cons, List.not_mem_nil, or_false] at hc
    obtain ⟨f0, f, hz, _⟩ := x.zz
    obtain ⟨u, v, hTO⟩ := x.to
    rcases hc with rfl | rfl | rfl | rfl | rfl | rfl
    · exact ⟨_, h0, fun v q => nomatch q⟩
    · exact ⟨_, hz, fun v q => nomatch q⟩
    · exact ⟨_, x.ti, fun v q => nomatch q⟩
    · exact ⟨_, hTO, fun v q => nomatch q⟩
    · exact x.s1.ob
    · exact x.s2.ob
  keep := fun i h h' ⟨⟨old, h0⟩, x⟩ k => by
    obtain ⟨f0, f, hz, hf⟩ := x.zz
    obtain ⟨u, v, hTO⟩ := x.to
    exact ⟨⟨old, k e (by simp) _ h0⟩, k TI (by simp) _ x.ti, ⟨f0, f, k z (by simp) _ hz, hf⟩, ⟨u, v, k TO (by simp) _ hTO⟩, x.s1.to fun o q => k i1 (by simp) o q, x.s2.to fun o q => k i2 (by simp) o q⟩
  item := by
    rintro X rfl rfl rfl hc i pins s σ H E I hf ⟨⟨old, h0⟩, st⟩ ⟨xs, ys, x, y, hqx, hqy, hx, hy⟩
    have hh : X.A.in1.handled = none := I.ok.hd hc
    obtain ⟨its1, rv1, p1⟩ := inv_sq I hqx
    obtain ⟨its2, rv2, p2⟩ := inv_sq I hqy
    obtain ⟨u1, hu1, ru1⟩ := rv1.get hx
    obtain ⟨u2, hu2, ru2⟩ := rv2.get hy
    have hel : e < s.heap.objs.size := Heap.lt_size h0
    have l1 : i < its1.toArray.size := by simpa using (List.getElem?_eq_some_iff.1 hu1).1
    have l2 : i < its2.toArray.size := by simpa using (List.getElem?_eq_some_iff.1 hu2).1
    have hec : e ∉ [z, TO, i1, i2] := fun m => by
      simp only [List.mem_cons, List.not_mem_nil, or_false] at m
      rcases m with m | m | m | m
      · exact he z (by simp) m
      · exact he TO (by simp) m
      · exact he i1 (by simp) m
      · exact he i2 (by simp) m
    refine pyNext_enum_gen (ch := [z, TO, i1, i2]) (R := fun v h' => v = .ref s.heap.objs.size ∧ ZS b1 b2 z TI TO i1 i2 a b h' (i + 1) ∧ IsTupOf2 h' s.heap.objs.size u1 u2 ∧ h'.objs.size = s.heap.objs.size + 1) h0 hec
      (fun E' Q' q => zs_item hh D ha hb st p1 p2 l1 l2 fun v1 v2 h' tk e1 e2 st' hn hs k => q _ h' tk ⟨rfl, st', ?_, hs⟩ k (by omega)) fun v h1 h' tk hR k1 hs1 ho ht hs2 k2 => ?_
    · have w1 : u1 = v1 := by
        have : its1[i]? = some v1 := by simpa using e1
        rw [hu1] at this; exact Option.some.inj this
      have w2 : u2 = v2 := by
        have : its2[i]? = some v2 := by simpa using e2
        rw [hu2] at this; exact Option.some.inj this
      rw [w1, w2]; exact hn
    obtain ⟨rfl, st', hn, hs1'⟩ := hR
    refine ⟨_, rfl, wpAny_letOwnedTupleGo_enum (s := { s with heap := h', toks := tk + 1 }) ho fun h'' he' sb => ?_⟩
    have hne1 : s.heap.objs.size ≠ e := Nat.ne_of_gt hel
    have hne2 : h1.objs.size ≠ e := Nat.ne_of_gt (Nat.lt_of_lt_of_le hel hs1)
    have k3 : ∀ c o, c ≠ e → h1.get? c = some o → h''.get? c = some o := fun c o q x => (sb.2 c q).trans (k2 c o q x)
    have hT1 : IsTupOf2 h'' s.heap.objs.size u1 u2 := k3 _ _ hne1 hn
    have hT2 : h''.get? h1.objs.size = some { cls := .type "tuple", data := .seq #[.int i tk, .ref s.heap.objs.size] } := (sb.2 _ hne2).trans ht
    have I0 : Inv X pins σ H { s with heap := h'', toks := tk + 1 } := I.turnedL (t' := tk + 1) (ch := [e, z, TI, TO, i1, i2]) (fun c o m q => k3 c o (fun q => m (by simp [q])) (k1 c o (fun m' => m (by
      simp only [List.mem_cons, List.not_mem_nil, or_false] at m' ⊢
      rcases m' with m' | m' | m' | m'
      · exact .inr (.inl m')
      · exact .inr (.inr (.inr (.inl m')))
      · exact .inr (.inr (.inr (.inr (.inl m'))))
      · exact .inr (.inr (.inr (.inr (.inr m')))))) q)) hf
    have hN1 : H s.heap.objs.size = none := I.hok.fresh (Nat.le_refl _)
    have hN2 : H h1.objs.size = none := I.hok.fresh hs1
    have n12 : h1.objs.size ≠ s.heap.objs.size := by
      have : (h1.objs.size : Nat) = s.heap.objs.size + 1 := hs1'
      exact fun q => absurd (this.symm.trans q) (Nat.succ_ne_self _)
    have I1 := inv_adopt (c := s.heap.objs.size) (ob := .tup [x, y]) I0 (I.fpOk (Nat.le_refl _) hN1) ⟨by show 2 ≤ sizeLine; decide, [u1, u2], .cons ru1 (.cons ru2 .nil), ⟨_, hT1, rfl, _, rfl⟩⟩
    have I2 := inv_adopt (c := h1.objs.size) (ob := .tup [.int (i : Nat), .ref s.heap.objs.size]) I1 (I.fpOk hs1 (by rw [upd_ne n12]; exact hN2)) ⟨by show 2 ≤ sizeLine; decide, [.int i tk, .ref s.heap.objs.size], .cons ⟨_, rfl⟩ (.cons rfl .nil), ⟨_, hT2, rfl, _, rfl⟩⟩
    refine ⟨.ref h1.objs.size, _, I2, rfl, ⟨s.heap.objs.size, h1.objs.size, x, y, rfl, hN1, hN2, n12, rfl, fun l hl => by rw [inv_sq_inj I hl hqx]; exact hx, fun l hl => by rw [inv_sq_inj I hl hqy]; exact hy⟩, ⟨⟨.ref s.heap.objs.size, ?_⟩, ?_⟩, fun c hcm => ?_⟩
    · have e1 : ((i + 1 : Nat) : Int) = (i : Int) + 1 := by omega
      rw [e1]; exact he'
    · obtain ⟨f0, f, hz, hf0⟩ := st'.zz
      obtain ⟨u, v, hTO⟩ := st'.to
      exact ⟨k3 _ _ (he TI (by simp)).symm st'.ti, ⟨f0, f, k3 _ _ (he z (by simp)).symm hz, hf0⟩, ⟨u, v, k3 _ _ (he TO (by simp)).symm hTO⟩, st'.s1.to fun o q => k3 _ _ (he i1 (by simp)).symm q, st'.s2.to fun o q => k3 _ _ (he i2 (by simp)).symm q⟩
    · have hcl : c < s.heap.objs.size := by
        obtain ⟨f0, f, hz, _⟩ := st.zz
        obtain ⟨u, v, hTO⟩ := st.to
        simp only [List.mem_cons, List.not_mem_nil, or_false] at hcm
        rcases hcm with rfl | rfl | rfl | rfl | rfl | rfl
        · exact hel
        · exact Heap.lt_size hz
        · exact Heap.lt_size st.ti
        · exact Heap.lt_size hTO
        · obtain ⟨o, q, _⟩ := st.s1.ob; exact Heap.lt_size q
        · obtain ⟨o, q, _⟩ := st.s2.ob; exact Heap.lt_size q
      rw [upd_ne (Nat.ne_of_lt (Nat.lt_of_lt_of_le hcl hs1)), upd_ne (Nat.ne_of_lt hcl)]
      exact (hf c hcm).1
  done := by
    rintro X rfl rfl rfl hc i pins s σ H E I hf ⟨⟨old, h0⟩, st⟩ ⟨xs, ys, hqx, hqy, q1, q2, hend⟩
    have hh : X.A.in1.handled = none := I.ok.hd hc
    obtain ⟨its1, rv1, p1⟩ := inv_sq I hqx
    obtain ⟨its2, rv2, p2⟩ := inv_sq I hqy
    have l1 := rv1.length
    have l2 := rv2.length
    refine pyNext_enum_end (ch := [z, TO, i1, i2]) h0 (fun E' Q' q => zs_done (its1 := its1.toArray) (its2 := its2.toArray) hh D ha hb st p1 p2 (by simp; omega) (by simp; omega) (by simp; omega) fun h' tk x k hx => q h' tk x k hx) fun h' tk k => ⟨rfl, ?_⟩
    exact I.turnedL (t' := tk) (ch := [e, z, TI, TO, i1, i2]) (fun c o m q => k c o (fun m' => m (by
      simp only [List.mem_cons, List.not_mem_nil, or_false] at m' ⊢
      rcases m' with m' | m' | m' | m'
      · exact .inr (.inl m')
      · exact .inr (.inr (.inr (.inl m')))
      · exact .inr (.inr (.inr (.inr (.inl m'))))
      · exact .inr (.inr (.inr (.inr (.inr m')))))) q) hf
  self := fun A i s Q E ⟨⟨_, h0⟩, _⟩ h => wpAny_pyIter_enum h0 h
end Rb

namespace Rb
open PySem PySem.Spec PyProof.Rows L2
def iEZM (K : PySem.W.Frag) (ta : TA) : TI := fun σ H R => ta σ H fun vs H1 => ∃ a b b1 b2 xs ys, vs = [.ref a, .ref b] ∧ SqB b1 K H1 a xs ∧ SqB b2 K H1 b ys ∧ R (ItEZ K b1 b2 a b) H1
theorem pi_EZ {X : Cx} {e e2 : Expr} {ta : TA} {p pz pos zpos tpos : Pos} {elts : List Expr} {kk : Nat} (hge : Gl X "enumerate") (hme : X.mg "enumerate" = none) (hg : Gl X "zip") (hm : X.mg "zip" = none) (ha : PA X [e, e2] ta)
    (hs : starEach [e, e2] X.env = (false, eval e X.env) :: starEach [e2] X.env := by rfl) (hpl : (backTo zpos (starEach [e2] X.env)).any (·.1) = false := by rfl)
    (na : starEach [.Call (.Name "zip" pz) [e, e2] [] zpos] X.env = (false, eval (.Call (.Name "zip" pz) [e, e2] [] zpos) X.env) :: starEach [] X.env := by rfl) :
    PI X (.Tuple elts kk tpos) (.Call (.Name "enumerate" p) [.Call (.Name "zip" pz) [e, e2] [] zpos] [] pos) (iEZM X.K ta) := by
  refine ⟨fun pins s σ H R I h => ?_⟩
  refine Call_ (ld_blt I hge hme boot_enumerate (PyProof.Rows.callWith_type1 (args_cons (thn (Q := fun v s2 => ∃ (s1 : Shared) (H1 : Hp) (a b : Addr) (b1 b2 : Bool) (xs ys : List V), Inv X pins σ H1 s1 ∧ v = .ref (s1.heap.objs.size + 4) ∧ SqB b1 X.K H1 a xs ∧ SqB b2 X.K H1 b ys ∧ R (ItEZ X.K b1 b2 a b) H1 ∧
    ∃ h', s2 = { s1 with heap := h' } ∧ IsZip h' (s1.heap.objs.size + 4) (s1.heap.objs.size + 2) (s1.heap.objs.size + 3) .none ∧ IsTupOf2 h' (s1.heap.objs.size + 2) (.ref s1.heap.objs.size) (.ref (s1.heap.objs.size + 1)) ∧
      IsTupOf2 h' (s1.heap.objs.size + 3) .none .none ∧ h'.get? s1.heap.objs.size = some (itOb b1 a) ∧ h'.get? (s1.heap.objs.size + 1) = some (itOb b2 b) ∧ h'.objs.size = s1.heap.objs.size + 5 ∧ (∀ c o, s1.heap.get? c = some o → h'.get? c = some o)) ?_ fun v s2 hp => args_nil ?_) na) na))
  · refine Call_ (ld_blt I hg hm PyProof.Rows.boot_zip (PyProof.Rows.callWith_type1 (thn (ha.run zpos pins s σ H _ I h) fun us s1 ⟨vs, H1, I1, r1, q1⟩ => ?_) hs hpl))
    obtain ⟨a, b, b1, b2, xs, ys, ex, hqx, hqy, q⟩ := q1
    subst ex
    obtain ⟨u1, us2, e0, t1, t2⟩ := vals_cons r1
    obtain ⟨u2, us3, e00, t3, t4⟩ := vals_cons t2
    have e3 := vals_nil t4
    have e1 : u1 = Value.ref a := t1
    have e2 : u2 = Value.ref b := t3
    subst e3 e1 e2 e00 e0
    obtain ⟨its1, rv1, p1⟩ := inv_sq I1 hqx
    obtain ⟨its2, rv2, p2⟩ := inv_sq I1 hqy
    refine zip_begins2 (beginsB b1 a its1.toArray) (beginsB b2 b its2.toArray) p1 p2 fun h' hz' hTI hTO h1 h2 hsz hk => ?_
    exact ⟨s1, H1, a, b, b1, b2, xs, ys, I1, rfl, hqx, hqy, q, h', rfl, hz', hTI, hTO, h1, h2, hsz, hk⟩
  · obtain ⟨s1, H1, a, b, b1, b2, xs, ys, I1, rfl, hqx, hqy, q, h', rfl, hz, hTI, hTO, h1, h2, hsz, hk⟩ := hp
    obtain ⟨its1, rv1, p1⟩ := inv_sq I1 hqx
    obtain ⟨its2, rv2, p2⟩ := inv_sq I1 hqy
    have la := isSq_lt p1
    have lb := isSq_lt p2
    have S : ZipSep2 (s1.heap.objs.size + 4) (s1.heap.objs.size + 2) (s1.heap.objs.size + 3) s1.heap.objs.size (s1.heap.objs.size + 1) [s1.heap.objs.size, a] [s1.heap.objs.size + 1, b] :=
      zip_sep2 (N := s1.heap.objs.size) (fp1 := [a]) (fp2 := [b]) (fun c hc => by rw [List.mem_singleton.1 hc]; exact la) (fun c hc => by rw [List.mem_singleton.1 hc]; exact lb)
    refine enum_callZ (s := { s1 with heap := h' }) hz fun h'' he hsz2 hk2 => wpAny_pyIter_enum he ?_
    have e5 : (h'.objs.size : Nat) = s1.heap.objs.size + 5 := hsz
    have I2 : Inv X pins σ H1 { s1 with heap := h'' } := I1.kept (t' := s1.toks) fun b u x => hk2 b u (hk b u x)
    have lt : ∀ c : Nat, c < s1.heap.objs.size + 5 → (h'.objs.size : Addr) ≠ c := fun c hc q => by
      have : (h'.objs.size : Nat) = c := q
      omega
    refine ⟨h'.objs.size, [h'.objs.size, s1.heap.objs.size + 4, s1.heap.objs.size + 2, s1.heap.objs.size + 3, s1.heap.objs.size, s1.heap.objs.size + 1], _, _, H1, rfl, I2,
      turn_EZ (b1 := b1) (b2 := b2) S (Nat.ne_of_lt la) (Nat.ne_of_lt (Nat.lt_succ_of_lt lb)) (fun c hc => ?_),
      ⟨⟨_, he⟩, ⟨hk2 _ _ hTI, ⟨_, _, hk2 _ _ hz, .inl rfl⟩, ⟨_, _, hk2 _ _ hTO⟩, itOb_is (hk2 _ _ h1), itOb_is (hk2 _ _ h2)⟩⟩, fun c hcm => ?_, q⟩
    · simp only [List.mem_cons, List.not_mem_nil, or_false] at hc
      rcases hc with rfl | rfl | rfl | rfl | rfl | rfl | rfl
      · exact lt _ (by omega)
      · exact lt _ (by omega)
      · exact lt _ (by omega)
      · exact lt _ (by omega)
      · exact lt _ (by omega)
      · exact lt c (Nat.lt_of_lt_of_le la (by omega))
      · exact lt c (Nat.lt_of_lt_of_le lb (by omega))
    · have hle : s1.heap.objs.size ≤ c := by
        simp only [List.mem_cons, List.not_mem_nil, or_false] at hcm
        rcases hcm with rfl | rfl | rfl | rfl | rfl | rfl
        · show (s1.heap.objs.size : Nat) ≤ h'.objs.size
          omega
        · exact Nat.le_add_right _ _
        · exact Nat.le_add_right _ _
        · exact Nat.le_add_right _ _
        · exact Nat.le_refl _
        · exact Nat.le_add_right _ _
      exact I1.fpOk hle (I1.hok.fresh hle)
/-! of plain data -/
theorem enumD_get' {lo : Nat} {ds : List D} {i : Nat} {d : D} (h : (enumD lo ds)[i]? = some d) : ∃ x, ds[i]? = some x ∧ d = .tup [.int ((lo + i : Nat) : Int), x] := enumD_get h
theorem walkD_EZ {K : PySem.W.Frag} {P : Option Addr} {F : Hp} {a b : Addr} {b1 b2 : Bool} {xs ys : List V} {ds es : List D} (h1 : ∀ H, Ex F H → SqB b1 K H a xs) (h2 : ∀ H, Ex F H → SqB b2 K H b ys) (r1 : RpL K P F ds xs) (r2 : RpL K P F es ys) : WalkD K P F (enumD 0 (zipD ds es)) (ItEZ K b1 b2 a b) := by
  have l1 := r1.len
  have l2 := r2.len
  have ln : (enumD 0 (zipD ds es)).length = min ds.length es.length := by rw [enumD_len, zipD_len]
  refine ⟨fun H => SqB b1 K H a xs ∧ SqB b2 K H b ys, fun i H v H' => ∃ T1 T2 x1 y1, v = .ref T2 ∧ H T1 = none ∧ H T2 = none ∧ T2 ≠ T1 ∧ H' = upd (upd H T1 (.tup [x1, y1])) T2 (.tup [.int (i : Nat), .ref T1]) ∧ xs[i]? = some x1 ∧ ys[i]? = some y1, ⟨fun i H hi ⟨g1, g2⟩ => ?_, fun H ⟨g1, g2⟩ => ?_, fun i H x H' hi ⟨g1, g2⟩ hy => ?_⟩, fun F' H e1 e2 => ⟨h1 H (e1.trans e2), h2 H (e1.trans e2)⟩, fun ω i d x F' σ H H' s hP hd e1 sr hy => ?_⟩
  · have i1 : i < xs.length := by omega
    have i2 : i < ys.length := by omega
    exact ⟨xs, ys, xs[i], ys[i], g1, g2, List.getElem?_eq_getElem i1, List.getElem?_eq_getElem i2⟩
  · exact ⟨xs, ys, g1, g2, by omega, by omega, by omega⟩
  · obtain ⟨T1, T2, x1, y1, e1, e2, e3, e4, e5, e6, e7⟩ := hy
    exact ⟨T1, T2, x1, y1, e1, e2, e3, e4, e5, e6 xs g1, e7 ys g2⟩
  · obtain ⟨T1, T2, x1, y1, rfl, hT1, hT2, n12, rfl, hx, hy⟩ := hy
    obtain ⟨dz, hz, rfl⟩ := enumD_get' hd
    obtain ⟨d1, d2, g1, g2, rfl⟩ := zipD_get hz
    obtain ⟨v1, q1, t1⟩ := r1.get g1
    obtain ⟨v2, q2, t2⟩ := r2.get g2
    rw [hx] at q1; cases q1
    rw [hy] at q2; cases q2
    have ex1 : Ex F' (upd F' T1 (.tup [x1, y1])) := Ex.new (sr.sub.none hT1)
    have sr1 := sr.alloc (o := .tup [x1, y1]) hT1
    have hT2' : upd H T1 (.tup [x1, y1]) T2 = none := by rw [upd_ne n12]; exact hT2
    have ex2 : Ex (upd F' T1 (.tup [x1, y1])) (upd (upd F' T1 (.tup [x1, y1])) T2 (.tup [.int (i : Nat), .ref T1])) := Ex.new (sr1.sub.none hT2')
    refine ⟨_, ex1.trans ex2, sr1.alloc hT2', ?_⟩
    have rT : Rp K P (upd (upd F' T1 (.tup [x1, y1])) T2 (.tup [.int (i : Nat), .ref T1])) (.tup [d1, d2]) (.ref T1) := by
      unfold Rp
      exact ⟨T1, _, rfl, SqT.of (by rw [upd_ne n12.symm]; exact upd_same), .cons (t1.mono (e1.trans (ex1.trans ex2))) (.cons (t2.mono (e1.trans (ex1.trans ex2))) .nil)⟩
    have ri : Rp K P (upd (upd F' T1 (.tup [x1, y1])) T2 (.tup [.int (i : Nat), .ref T1])) (.int ((0 + i : Nat) : Int)) (.int (i : Nat)) := by
      unfold Rp
      rw [Nat.zero_add]
    rw [← hP] at *
    unfold Rp
    exact ⟨T2, _, rfl, SqT.of upd_same, .cons ri (.cons rT .nil)⟩
def iEZ (t : SA) : SI := fun s => (t s).bind fun p => match p.1 with
  | [x, y] => (seqOf x).bind fun xs => (seqOf y).map fun ys => (enumD 0 (zipD xs ys), p.2)
  | _ => none
theorem i_EZ {X : Cx} {a b : Expr} {t : SA} {p pz pos zpos tpos : Pos} {elts : List Expr} {kk : Nat} (hge : Gl X "enumerate") (hme : X.mg "enumerate" = none) (hg : Gl X "zip") (hm : X.mg "zip" = none) (ha : PA X [a, b] (rdA X.K t))
    (hs : starEach [a, b] X.env = (false, eval a X.env) :: starEach [b] X.env := by rfl) (hpl : (backTo zpos (starEach [b] X.env)).any (·.1) = false := by rfl)
    (na : starEach [.Call (.Name "zip" pz) [a, b] [] zpos] X.env = (false, eval (.Call (.Name "zip" pz) [a, b] [] zpos) X.env) :: starEach [] X.env := by rfl) :
    PI X (.Tuple elts kk tpos) (.Call (.Name "enumerate" p) [.Call (.Name "zip" pz) [a, b] [] zpos] [] pos) (rdI X.K (iEZ t)) :=
  (pi_EZ hge hme hg hm ha hs hpl na).imp fun σ H R hw => by
    obtain ⟨ω, F, s, ds, s', sr, h, q⟩ := hw
    unfold iEZ at h
    obtain ⟨⟨as, s1⟩, e1, h⟩ := bind2 h
    dsimp only at h
    split at h
    · rename_i x y
      obtain ⟨xs, ex, h⟩ := bind2 h
      obtain ⟨ys, ey, h⟩ := map2 h
      cases h
      refine rdA_use sr e1 fun vs F1 H1 x1 r1 hv => ?_
      obtain ⟨v, w, rfl, hx, hy⟩ := RpL.two hv
      obtain ⟨a1, b1, vs1, rfl, g1, t1⟩ := seq_sq hx ex
      obtain ⟨a2, b2, vs2, rfl, g2, t2⟩ := seq_sq hy ey
      exact ⟨a1, a2, b1, b2, vs1, vs2, rfl, g1 H1 r1.sub, g2 H1 r1.sub, q _ F1 H1 x1 r1 (walkD_EZ g1 g2 t1 t2)⟩
    · cases h
end Rb

namespace Rb
open PySem PySem.Spec PyProof.Rows L2
/-! ### sorted of pairs of numbers -/
def lexLe (p q : Int × Int) : Bool := !SrtO.lexB q p
def srtP (ps : List (Int × Int)) : List (Int × Int) := ps.mergeSort lexLe
theorem srtP_perm (ps : List (Int × Int)) : (srtP ps).Perm ps := List.mergeSort_perm _ _
theorem lexLe_iff {p q : Int × Int} : lexLe p q = true ↔ p.1 < q.1 ∨ (p.1 = q.1 ∧ p.2 ≤ q.2) := by
  unfold lexLe
  rw [Bool.not_eq_true', SrtO.lexB_no]
  omega
theorem srtP_sorted (ps : List (Int × Int)) : (srtP ps).Pairwise fun p q => lexLe p q = true :=
  List.pairwise_mergeSort (le := lexLe) (fun a b c h1 h2 => by rw [lexLe_iff] at *; omega) (fun a b => by simp only [Bool.or_eq_true]; rw [lexLe_iff, lexLe_iff]; omega) ps
theorem srtP_uniq {ps qs : List (Int × Int)} (h : qs.Perm ps) (hs : qs.Pairwise fun p q => lexLe p q = true) : qs = srtP ps :=
  List.Perm.eq_of_pairwise (le := fun a b : Int × Int => lexLe a b = true) (fun a b _ _ h1 h2 => by
    rw [lexLe_iff] at h1 h2
    exact Prod.ext (by omega) (by omega)) hs (srtP_sorted ps) (h.trans (srtP_perm ps).symm)
def rSortedPX (K : PySem.W.Frag) : List V → Hp → VK → Prop := fun vs H Q => ∃ (a : Addr) (xs : List V) (ps : List (Int × Int)), vs = [V.ref a] ∧ SqL K H a xs ∧ xs.length = ps.length ∧
  (∀ (i : Nat) (x : V) (p : Int × Int), xs[i]? = some x → ps[i]? = some p → ∃ t, x = V.ref t ∧ SqT K H t [.int p.1, .int p.2]) ∧
  ∀ (ys : List V) (q0 : Addr), ys.length = (srtP ps).length → (∀ (i : Nat) (y : V) (q : Int × Int), ys[i]? = some y → (srtP ps)[i]? = some q → ∃ j : Nat, xs[j]? = some y ∧ ps[j]? = some q) → H q0 = none → Q (.ref q0) (upd H q0 (.lst ys))
/-- the pair of a thing -/
def kOf : List V → List (Int × Int) → V → Int × Int
  | x :: xs, p :: ps, v => if x = v then p else kOf xs ps v
  | _, _, _ => (0, 0)
theorem kOf_at : ∀ {xs : List V} {ps : List (Int × Int)} {v : V}, xs.length = ps.length → v ∈ xs → ∃ i : Nat, xs[i]? = some v ∧ ps[i]? = some (kOf xs ps v)
  | [], _, v, _, h => by simp at h
  | x :: xs, [], v, e, _ => by simp at e
  | x :: xs, p :: ps, v, e, h => by
    unfold kOf
    by_cases q : x = v
    · rw [if_pos q]; exact ⟨0, by simp [q], rfl⟩
    · rw [if_neg q]
      obtain ⟨i, h1, h2⟩ := kOf_at (xs := xs) (ps := ps) (v := v) (by simpa using e) ((List.mem_cons.1 h).resolve_left fun z => q z.symm)
      exact ⟨i + 1, by simpa using h1, by simpa using h2⟩
theorem cr_sortedPX {X : Cx} : CallR X (.builtin "sorted") (rSortedPX X.K) := by
  intro pins s σ H vs us Q I r h
  obtain ⟨a, xs, ps, rfl, hs, hlen, hx, q⟩ := h
  obtain ⟨its, rv, hl, hz⟩ := I.list hs
  obtain ⟨u, rfl, ru⟩ := vals1 r
  obtain rfl : u = Value.ref a := ru
  have hx' : ∀ x ∈ xs, ∃ t, x = V.ref t ∧ SqT X.K H t [.int (kOf xs ps x).1, .int (kOf xs ps x).2] := fun x m => by
    obtain ⟨i, h1, h2⟩ := kOf_at hlen m
    exact hx i x _ h1 h2
  obtain ⟨e1, e2⟩ := refs_back rv fun x m => by
    obtain ⟨t, e, _⟩ := hx' x m
    exact ⟨t, e⟩
  have hk : ∀ (i : Nat) (x : V) (p : Int × Int), xs[i]? = some x → ps[i]? = some p → kOf xs ps x = p := fun i x p h1 h2 => by
    obtain ⟨t, rfl, s1⟩ := hx i x p h1 h2
    obtain ⟨t', e, s2⟩ := hx' _ (List.mem_of_getElem? h1)
    cases e
    have := inv_sq_inj (b := true) I s1 s2
    simp only [List.cons.injEq, V.int.injEq, and_true] at this
    exact (Prod.ext this.1 this.2).symm
  have hmap : xs.map (kOf xs ps) = ps := by
    refine List.ext_getElem? fun i => ?_
    rw [List.getElem?_map]
    by_cases h : i < xs.length
    · have h1 := List.getElem?_eq_getElem h
      have h2 := List.getElem?_eq_getElem (show i < ps.length by omega)
      rw [h1, h2, Option.map_some, hk i _ _ h1 h2]
    · rw [List.getElem?_eq_none (by omega), List.getElem?_eq_none (by omega)]; rfl
  refine SrtO.sorted_pairsO (k := fun u => kOf xs ps (backV u)) hl.isList (by rw [← rv.length]; exact hz) (fun v hv => ?_) fun h' d out h1 h2 kp hd hn => ?_
  · obtain ⟨t, rfl⟩ := e2 v hv
    have hm : V.ref t ∈ xs := by rw [e1]; exact List.mem_map.mpr ⟨_, hv, rfl⟩
    obtain ⟨t', e, ht⟩ := hx' _ hm
    cases e
    obtain ⟨its2, r2, ⟨o, ho, hc, n, hd⟩, _⟩ := I.tuple ht
    obtain ⟨u1, u2, rfl, ri, rj⟩ := vals2 r2
    obtain ⟨t1, rfl⟩ := ri
    obtain ⟨t2, rfl⟩ := rj
    exact ⟨t, o, t1, t2, n, rfl, ho, hc, hd⟩
  · have h3 : ∀ u ∈ out, ∃ a, u = Value.ref a := fun u hu => e2 u (h2.perm.mem_iff.mp hu)
    obtain ⟨n, hn⟩ := hn
    have hb : SrtO.Stb (ltP (kOf xs ps)) (out.map backV) xs := by
      have := SrtO.Stb.map (ltP_swo (kOf xs ps)) backV h2
      rwa [← e1] at this
    have hsrt : SrtO.Srtd (ltP (kOf xs ps)) (out.map backV) := SrtO.srtd_map h1
    have hys : (out.map backV).map (kOf xs ps) = srtP ps := by
      refine srtP_uniq ?_ ?_
      · have := hb.perm.map (kOf xs ps)
        rwa [hmap] at this
      · rw [List.pairwise_map]
        refine hsrt.imp fun {x y} hxy => ?_
        show (!SrtO.lexB _ _) = true
        rw [show SrtO.lexB (kOf xs ps y) (kOf xs ps x) = false from hxy]; rfl
    refine ⟨.ref d, upd H d (.lst (out.map backV)), I.laid (t' := s.toks) kp hd ⟨?_, out, n, vals_back h3, hn⟩, rfl, q _ d (by rw [← hys]; simp) (fun i y qq h4 h5 => ?_) (I.hok.fresh hd)⟩
    · rw [hb.len]
      exact hz
    · rw [← hys, List.getElem?_map, h4] at h5
      cases h5
      exact kOf_at hlen (hb.perm.mem_iff.1 (List.mem_of_getElem? h4))
/-! plain data -/
def prD (p : Int × Int) : D := .tup [.int p.1, .int p.2]
def prOf : D → Option (Int × Int)
  | .tup [.int a, .int b] => some (a, b)
  | _ => none
def prsOf : List D → Option (List (Int × Int))
  | [] => some []
  | d :: ds => (prOf d).bind fun p => (prsOf ds).map fun ps => p :: ps
theorem prOf_is {d : D} {p : Int × Int} (h : prOf d = some p) : d = prD p := by
  unfold prOf at h
  split at h
  · cases h; rfl
  · cases h
theorem prsOf_is : ∀ {ds : List D} {ps : List (Int × Int)}, prsOf ds = some ps → ds = ps.map prD
  | [], ps, h => by cases h; rfl
  | d :: ds, ps, h => by
    unfold prsOf at h
    obtain ⟨p, e1, h⟩ := bind2 h
    obtain ⟨qs, e2, h⟩ := map2 h
    cases h
    rw [prOf_is e1, prsOf_is e2]; rfl
theorem prsOf_map : ∀ ps : List (Int × Int), prsOf (ps.map prD) = some ps
  | [] => rfl
  | p :: ps => by
    rw [List.map_cons, prsOf, prsOf_map ps]
    rfl
def fSortedP : List D → Option (D × Bool)
  | [.lst ds] => (prsOf ds).map fun ps => (.lst ((srtP ps).map prD), true)
  | _ => none
theorem ok_sortedP {K : PySem.W.Frag} : BiOk K fSortedP (rSortedPX K) := fun ω F σ H s xs z b vs Q sr hx e p => by
  unfold fSortedP at e
  split at e
  · rename_i ds
    obtain ⟨ps, e1, e2⟩ := map2 e
    cases e2
    obtain ⟨v, rfl, hv⟩ := hx.one
    rw [prsOf_is e1] at hv
    unfold Rp at hv
    obtain ⟨a, ys, rfl, h1, h2⟩ := hv
    have hl := h2.len
    rw [List.length_map] at hl
    refine ⟨a, ys, ps, rfl, SqL.of (sr.sub _ _ h1), by omega, fun i x p0 g1 g2 => ?_, fun zs q0 hz hy hq => ?_⟩
    · obtain ⟨w, w1, w2⟩ := h2.get (i := i) (d := prD p0) (by rw [List.getElem?_map, g2]; rfl)
      rw [g1] at w1; cases w1
      unfold prD Rp at w2
      obtain ⟨t, us, rfl, h3, h4⟩ := w2
      obtain ⟨u1, u2, rfl, k1, k2⟩ := RpL.two h4
      unfold Rp at k1 k2
      subst k1 k2
      exact ⟨t, rfl, sqt_mono sr.sub h3⟩
    · refine sr.newL hq (.of_get (by rw [List.length_map]; omega) fun i d x g1 g2 => ?_) p
      rw [List.getElem?_map] at g1
      cases hqi : (srtP ps)[i]? with
      | none => rw [hqi] at g1; cases g1
      | some q =>
        rw [hqi] at g1
        cases g1
        obtain ⟨j, j1, j2⟩ := hy i x q g2 hqi
        obtain ⟨w, w1, w2⟩ := h2.get (i := j) (d := prD q) (by rw [List.getElem?_map, j2]; rfl)
        rw [j1] at w1; cases w1
        exact w2
  · cases e
/-! a list times a number -/
def dRepL : D → D → Option (D × Bool)
  | .lst x, .int k => if inR 1000000 k && szOk (x.length * k.toNat) then some (.lst (List.replicate k.toNat x).flatten, true) else none
  | _, _ => none
theorem ok_repL {K : PySem.W.Frag} : BinOk K dRepL rRep := fun ω F σ H s x y z b v u Q sr hx hy e p => by
  unfold dRepL at e
  split at e
  · split at e
    · rename_i x0 k hz
      cases e
      rw [Bool.and_eq_true] at hz
      have hk := inR_iff.1 hz.1
      unfold Rp at hx hy
      obtain ⟨a, xs, rfl, h1, h2⟩ := hx
      subst hy
      exact ⟨a, k, xs, rfl, rfl, sr.sub _ _ h1, by omega, by omega, by rw [h2.len]; exact szOk_le hz.2, fun q hq => sr.newL hq (h2.rep k.toNat) p⟩
    · cases e
  · cases e
end Rb

namespace Rb
open PySem PySem.Spec PyProof.Rows L2
/-! ### a list of lists, each filled on its own: made, then filled by a walk -/
section
variable {K : PySem.W.Frag} {ω : Wd} {F F' : Hp} {σ σ' : L2.St} {H H' : Hp} {s s' : S} {a : Addr}
theorem Sr.adoptF {o : HO} (r : Sr K ω F σ H s) (ha : H a = some o) (hF : F a = none) (h0 : ω.H0 a = none) (hP : ω.P ≠ some a) (hO : ¬ Owned σ s a) : Sr K ω (upd F a o) σ H s := by
  refine ⟨r.len, fun b u q => ?_, r.frm, fun b u q => ?_, r.pt.ext (fun _ _ => rfl) (fun q z => upd_ne fun y => hP (by rw [z, y])), fun i b q => (r.sl i b q).mono (Ex.new hF) fun c hc hx hH hFc => ?_, r.dis⟩
  · by_cases z : b = a
    · subst z; rw [upd_same] at q; cases q; exact ha
    · rw [upd_ne z] at q; exact r.sub b u q
  · by_cases z : b = a
    · subst z; exact .inr h0
    · rw [upd_ne z] at q; exact r.new b u q
  · refine ⟨rfl, ?_⟩
    have : c ≠ a := fun z => by
      obtain ⟨d', rfl⟩ := hc
      exact hO ⟨i, d', q, by rw [hx, z]⟩
    rw [upd_ne this]; exact hFc
theorem Sr.setNo {i : Nat} {v : V} (r : Sr K ω F σ H s) : Sr K ω F (σ.set i (some v)) H { s with r := s.r.set i .no } where
  len := by simp [r.len]
  sub := r.sub
  frm := r.frm
  new := r.new
  pt := r.pt
  sl j b h := by
    have h : (s.r.set i .no)[j]? = some b := h
    by_cases q : i = j
    · subst q
      by_cases hi : i < s.r.length
      · rw [List.getElem?_set_self hi] at h; cases h; trivial
      · rw [List.getElem?_eq_none (by simp; omega)] at h; cases h
    · rw [List.getElem?_set_ne q] at h
      rw [List.getElem?_set_ne q]
      exact r.sl j b h
  dis j k d e w hjk h1 h2 h3 h4 := by
    have h1 : (s.r.set i .no)[j]? = some (.own d) := h1
    have h2 : (s.r.set i .no)[k]? = some (.own e) := h2
    have key : ∀ {j : Nat} {d : D}, (s.r.set i .no)[j]? = some (.own d) → i ≠ j ∧ s.r[j]? = some (.own d) := fun {j d} h => by
      by_cases q : i = j
      · subst q
        by_cases hi : i < s.r.length
        · rw [List.getElem?_set_self hi] at h; cases h
        · rw [List.getElem?_eq_none (by simp; omega)] at h; cases h
      · rw [List.getElem?_set_ne q] at h; exact ⟨q, h⟩
    obtain ⟨n1, g1⟩ := key h1
    obtain ⟨n2, g2⟩ := key h2
    rw [List.getElem?_set_ne n1] at h3
    rw [List.getElem?_set_ne n2] at h4
    exact r.dis j k d e w hjk g1 g2 h3 h4
theorem Owned.setNo {i : Nat} {v : V} (h : Owned (σ.set i (some v)) { s with r := s.r.set i .no } a) : Owned σ s a := by
  obtain ⟨j, d, h1, h2⟩ := h
  have h1 : (s.r.set i .no)[j]? = some (.own d) := h1
  by_cases q : i = j
  · subst q
    by_cases hi : i < s.r.length
    · rw [List.getElem?_set_self hi] at h1; cases h1
    · rw [List.getElem?_eq_none (by simp; omega)] at h1; cases h1
  · rw [List.getElem?_set_ne q] at h1 h2
    exact ⟨j, d, h1, h2⟩
end
theorem nodup_at : ∀ {l : List Addr} {i j : Nat} {a : Addr}, l.Nodup → l[i]? = some a → l[j]? = some a → i = j
  | [], i, j, a, _, h, _ => by simp at h
  | b :: l, 0, 0, a, _, _, _ => rfl
  | b :: l, 0, j + 1, a, n, h1, h2 => by
    rw [List.nodup_cons] at n
    simp at h1 h2
    subst h1
    exact absurd (List.mem_of_getElem? h2) n.1
  | b :: l, i + 1, 0, a, n, h1, h2 => by
    rw [List.nodup_cons] at n
    simp at h1 h2
    subst h2
    exact absurd (List.mem_of_getElem? h1) n.1
  | b :: l, i + 1, j + 1, a, n, h1, h2 => by
    rw [List.nodup_cons] at n
    exact congrArg (· + 1) (nodup_at n.2 (by simpa using h1) (by simpa using h2))
/-- lists that nobody else knows: D0 holds them, each has its things -/
structure Jk (K : PySem.W.Frag) (ω : Wd) (F : Hp) (σ : L2.St) (H : Hp) (s : S) (D0 : Addr) (Ls : List Addr) (dss : List (List D)) : Prop where
  dP : ω.P ≠ some D0
  d0 : ω.H0 D0 = none
  dF : F D0 = none
  dO : ¬ Owned σ s D0
  dH : H D0 = some (.lst (Ls.map V.ref))
  lP : ∀ a ∈ Ls, ω.P ≠ some a
  l0 : ∀ a ∈ Ls, ω.H0 a = none
  lF : ∀ a ∈ Ls, F a = none
  lO : ∀ a ∈ Ls, ¬ Owned σ s a
  len : Ls.length = dss.length
  lH : ∀ (j : Nat) (a : Addr) (ds : List D), Ls[j]? = some a → dss[j]? = some ds → ∃ ys, H a = some (.lst ys) ∧ RpL K ω.P F ds ys
  nd : Ls.Nodup
  nD : D0 ∉ Ls
section
variable {K : PySem.W.Frag} {ω : Wd} {F F' : Hp} {σ σ' : L2.St} {H H' : Hp} {s s' : S} {D0 : Addr} {Ls : List Addr} {dss : List (List D)}
theorem Jk.at (x : Jk K ω F σ H s D0 Ls dss) {a : Addr} (m : a ∈ Ls) : ∃ ys, H a = some (.lst ys) := by
  obtain ⟨j, hj, e⟩ := List.getElem_of_mem m
  obtain ⟨ys, h, _⟩ := x.lH j a (dss[j]'(by rw [← x.len]; exact hj)) (by rw [List.getElem?_eq_getElem hj, e]) (List.getElem?_eq_getElem _)
  exact ⟨ys, h⟩
theorem Jk.kept (x : Jk K ω F σ H s D0 Ls dss) (e : Ex F F') (k : Kept ω F σ H s F' σ' H' s') : Jk K ω F' σ' H' s' D0 Ls dss := by
  obtain ⟨kH, kF, kO⟩ := k D0 _ x.dP x.dO x.dH
  have kk : ∀ a ∈ Ls, ∀ o, H a = some o → H' a = some o ∧ (F a = none → F' a = none) ∧ ¬ Owned σ' s' a := fun a m o h => k a o (x.lP a m) (x.lO a m) h
  refine ⟨x.dP, x.d0, kF x.dF, kO, kH, x.lP, x.l0, fun a m => ?_, fun a m => ?_, x.len, fun j a ds h1 h2 => ?_, x.nd, x.nD⟩
  · obtain ⟨ys, h⟩ := x.at m
    exact (kk a m _ h).2.1 (x.lF a m)
  · obtain ⟨ys, h⟩ := x.at m
    exact (kk a m _ h).2.2
  · obtain ⟨ys, h, hr⟩ := x.lH j a ds h1 h2
    exact ⟨ys, (kk a (List.mem_of_getElem? h1) _ h).1, hr.mono e⟩
/-- a new empty list at the end -/
theorem Jk.more (x : Jk K ω F σ H s D0 Ls dss) (r : Sr K ω F σ H s) {q : Addr} (hq : H q = none) : Sr K ω F σ (upd (upd H q (.lst [])) D0 (.lst (Ls.map V.ref ++ [.ref q]))) s ∧
    Jk K ω F σ (upd (upd H q (.lst [])) D0 (.lst (Ls.map V.ref ++ [.ref q]))) s D0 (Ls ++ [q]) (dss ++ [[]]) := by
  have nq : q ≠ D0 := fun z => by rw [z, x.dH] at hq; cases hq
  have nL : q ∉ Ls := fun m => by obtain ⟨ys, h⟩ := x.at m; rw [hq] at h; cases h
  have r1 := (r.allocN (o := .lst []) hq).other (o := .lst (Ls.map V.ref ++ [.ref q])) x.dF x.dO x.d0 x.dP
  have oq : ¬ Owned σ s q := fun z => by obtain ⟨⟨o, h⟩, _⟩ := r.ownAt z; rw [hq] at h; cases h
  refine ⟨r1, x.dP, x.d0, x.dF, x.dO, ?_, fun a m => ?_, fun a m => ?_, fun a m => ?_, fun a m => ?_, by simp [x.len], fun j a ds h1 h2 => ?_, ?_, ?_⟩
  · rw [upd_same, List.map_append]; rfl
  · rcases List.mem_append.1 m with m | m
    · exact x.lP a m
    · rw [List.mem_singleton.1 m]; exact r.pt.ne hq
  · rcases List.mem_append.1 m with m | m
    · exact x.l0 a m
    · rw [List.mem_singleton.1 m]; exact r.h0 hq
  · rcases List.mem_append.1 m with m | m
    · exact x.lF a m
    · rw [List.mem_singleton.1 m]; exact r.sub.none hq
  · rcases List.mem_append.1 m with m | m
    · exact x.lO a m
    · rw [List.mem_singleton.1 m]; exact oq
  · by_cases hj : j < Ls.length
    · rw [List.getElem?_append_left hj] at h1
      rw [List.getElem?_append_left (by rw [← x.len]; exact hj)] at h2
      obtain ⟨ys, h, hr⟩ := x.lH j a ds h1 h2
      have m := List.mem_of_getElem? h1
      have na : a ≠ D0 := fun z => x.nD (by rw [← z]; exact m)
      have na2 : a ≠ q := fun z => nL (by rw [← z]; exact m)
      exact ⟨ys, by rw [upd_ne na, upd_ne na2]; exact h, hr⟩
    · have hjj : j = Ls.length := by
        have := (List.getElem?_eq_some_iff.1 h1).1
        simp at this; omega
      subst hjj
      rw [List.getElem?_append_right (Nat.le_refl _), Nat.sub_self] at h1
      rw [List.getElem?_append_right (by rw [x.len]; exact Nat.le_refl _), x.len, Nat.sub_self] at h2
      cases h1; cases h2
      exact ⟨[], by rw [upd_ne nq]; exact upd_same, .nil⟩
  · rw [List.nodup_append]
    exact ⟨x.nd, by simp, fun u hu w hw => by rw [List.mem_singleton] at hw; subst hw; exact fun z => nL (z ▸ hu)⟩
  · rw [List.mem_append, List.mem_singleton]
    exact fun z => z.elim x.nD fun z => nq z.symm
/-- one of them gets a thing more -/
theorem Jk.put (x : Jk K ω F σ H s D0 Ls dss) (r : Sr K ω F σ H s) {j : Nat} {a : Addr} {es : List D} {d : D} {v : V} {ys : List V} (ha : Ls[j]? = some a) (hd : dss[j]? = some es) (hy : H a = some (.lst ys)) (hr : RpL K ω.P F es ys) (hv : Rp K ω.P F d v) :
    Sr K ω F σ (upd H a (.lst (ys ++ [v]))) s ∧ Jk K ω F σ (upd H a (.lst (ys ++ [v]))) s D0 Ls (dss.set j (es ++ [d])) := by
  have m := List.mem_of_getElem? ha
  refine ⟨r.other (x.lF a m) (x.lO a m) (x.l0 a m) (x.lP a m), x.dP, x.d0, x.dF, x.dO, by rw [upd_ne (show D0 ≠ a from fun z => x.nD (by rw [z]; exact m))]; exact x.dH, x.lP, x.l0, x.lF, x.lO, by rw [List.length_set]; exact x.len, fun k b ds h1 h2 => ?_, x.nd, x.nD⟩
  by_cases q : j = k
  · subst q
    rw [ha] at h1; cases h1
    rw [List.getElem?_set_self (List.getElem?_eq_some_iff.1 hd).1] at h2
    cases h2
    exact ⟨_, upd_same, hr.app (.cons hv .nil)⟩
  · rw [List.getElem?_set_ne q] at h2
    obtain ⟨zs, h, hr2⟩ := x.lH k b ds h1 h2
    have nb : b ≠ a := fun z => q (nodup_at x.nd ha (by rw [← z]; exact h1))
    exact ⟨zs, by rw [upd_ne nb]; exact h, hr2⟩
/-- all become known -/
theorem jk_known : ∀ (Ls : List Addr) (dss : List (List D)) (F : Hp), Sr K ω F σ H s → (∀ a ∈ Ls, ω.P ≠ some a) → (∀ a ∈ Ls, ω.H0 a = none) → (∀ a ∈ Ls, F a = none) → (∀ a ∈ Ls, ¬ Owned σ s a) → Ls.length = dss.length → Ls.Nodup → F D0 = none → D0 ∉ Ls →
    (∀ (j : Nat) (a : Addr) (ds : List D), Ls[j]? = some a → dss[j]? = some ds → ∃ ys, H a = some (.lst ys) ∧ RpL K ω.P F ds ys) →
    ∃ F', Ex F F' ∧ Sr K ω F' σ H s ∧ F' D0 = none ∧ RpL K ω.P F' (dss.map .lst) (Ls.map V.ref)
  | [], [], F, r, _, _, _, _, _, _, hD, _, _ => ⟨F, Ex.refl F, r, hD, .nil⟩
  | [], _ :: _, F, r, _, _, _, _, e, _, _, _, _ => by simp at e
  | _ :: _, [], F, r, _, _, _, _, e, _, _, _, _ => by simp at e
  | a :: Ls, ds :: dss, F, r, hP, h0, hF, hO, e, nd, hD, nD, hH => by
    obtain ⟨ys, hy, hr⟩ := hH 0 a ds rfl rfl
    have m : a ∈ a :: Ls := .head _
    have r1 := r.adoptF hy (hF a m) (h0 a m) (hP a m) (hO a m)
    have x1 : Ex F (upd F a (.lst ys)) := Ex.new (hF a m)
    rw [List.nodup_cons] at nd
    have nDa : D0 ≠ a := fun z => nD (z ▸ m)
    obtain ⟨F2, x2, r2, hD2, hL⟩ := jk_known Ls dss (upd F a (.lst ys)) r1 (fun b q => hP b (.tail _ q)) (fun b q => h0 b (.tail _ q)) (fun b q => by rw [upd_ne (show b ≠ a from fun z => nd.1 (by rw [← z]; exact q))]; exact hF b (.tail _ q)) (fun b q => hO b (.tail _ q)) (by simpa using e) nd.2
      (by rw [upd_ne nDa]; exact hD) (fun q => nD (.tail _ q)) (fun j b es g1 g2 => by
        obtain ⟨zs, h1, h2⟩ := hH (j + 1) b es (by simpa using g1) (by simpa using g2)
        exact ⟨zs, h1, h2.mono x1⟩)
    refine ⟨F2, x1.trans x2, r2, hD2, .cons ?_ hL⟩
    unfold Rp
    exact ⟨a, ys, rfl, x2 _ _ upd_same, hr.mono (x1.trans x2)⟩
theorem Jk.known (x : Jk K ω F σ H s D0 Ls dss) (r : Sr K ω F σ H s) : ∃ F', Ex F F' ∧ Sr K ω F' σ H s ∧ Rp K ω.P F' (.lst (dss.map .lst)) (.ref D0) := by
  obtain ⟨F1, x1, r1, hD, hL⟩ := jk_known (D0 := D0) Ls dss F r x.lP x.l0 x.lF x.lO x.len x.nd x.dF x.nD x.lH
  have r2 := r1.adoptF x.dH hD x.d0 x.dP x.dO
  have x2 : Ex F1 (upd F1 D0 (.lst (Ls.map V.ref))) := Ex.new hD
  refine ⟨_, x1.trans x2, r2, ?_⟩
  unfold Rp
  exact ⟨D0, _, rfl, upd_same, hL.mono x2⟩
end
end Rb

namespace Rb
open PySem PySem.Spec PyProof.Rows L2
/-- the walk that fills -/
def bL (g : D → S → Option S) (cI cX : SE) : List D → S → List (List D) → Option (List (List D) × S)
  | [], s, dss => some (dss, s)
  | d :: ds, s, dss => (g d s).bind fun s1 => (cI s1).bind fun p => match p.1.1 with
    | .int k => (cX p.2).bind fun q => (ixN dss.length k).bind fun j => (dss[j]?).bind fun es => if szOk (es.length + 1) then bL g cI cX ds q.2 (dss.set j (es ++ [q.1.1])) else none
    | _ => none
def cBeats (ib k : Nat) (it1 it2 : SI) (g : D → S → Option S) (cI cX : SE) : SS := fun s => (it1 s).bind fun p => if (noOwn [k] p.2 && szOk p.1.length) && decide (ib < p.2.r.length) then
    (it2 { p.2 with r := (restB p.2.r (wipeB p.2.r [k]) [k]).set ib .no }).bind fun q => (bL g cI cX q.1 q.2 (List.replicate p.1.length [])).map fun t => (.nx, { t.2 with r := t.2.r.set ib (.val (.lst (t.1.map .lst))) }) else none
section
variable {X : Cx}
/-- [[] for x in ..]: the lists as they stand -/
theorem lists_made {K : PySem.W.Frag} {ω : Wd} {F : Hp} {σ : L2.St} {H : Hp} {s : S} {it1 : SI} {k : Nat} {ds : List D} {s1 : S} {Q : VK} (sr : Sr K ω F σ H s) (e1 : it1 s = some (ds, s1)) (hno : noOwn [k] s1 = true) (hz : szOk ds.length = true)
    (q : ∀ D0 Ls F' H', Ex F F' → Sr K ω F' σ H' { s1 with r := restB s1.r (wipeB s1.r [k]) [k] } → Jk K ω F' σ H' { s1 with r := restB s1.r (wipeB s1.r [k]) [k] } D0 Ls (List.replicate ds.length []) → Q (.ref D0) H') :
    tLc (rdI K it1) (rdG K [k] (gN k)) (rdT K bYes) (tLst tNil) [k] σ H Q := by
  refine ⟨protW ω F σ H s, F, s, ds, s1, sr.prot, e1, fun J F1 H1 x1 r1' ⟨G, Y, w, hG, hY⟩ D0 hD => ?_⟩
  have r1 := sr.unprot r1'
  have hF1 : F1 D0 = none := r1.sub.none hD
  have h0 := r1.h0 hD
  have hP := r1.pt.ne hD
  have rw1 : Sr K ω F1 (L2.wipe σ [k]) (upd H1 D0 (.lst [])) (wipeS [k] s1) := (r1.wipe [k]).allocN hD
  have nO1 : ¬ Owned (L2.wipe σ [k]) (wipeS [k] s1) D0 := fun z => by
    obtain ⟨⟨o, q⟩, _⟩ := (r1.wipe [k]).ownAt z
    rw [hD] at q; cases q
  have wiped : ∀ s : S, wipeS [k] (wipeS [k] s) = wipeS [k] s := fun s => by
    unfold wipeS
    congr 1
    refine List.ext_getElem? fun j => ?_
    rw [wipeB_get, wipeB_get, wipeB_len]
    by_cases q : j ∈ [k] <;> simp [q]
  have ww : L2.wipe (L2.wipe σ [k]) [k] = L2.wipe σ [k] := by
    refine List.ext_getElem? fun j => ?_
    rw [wipe_get, wipe_get, wipe_length]
    by_cases q : j ∈ [k] <;> simp [q]
  refine lc_it w (fun i H' => ∃ F2 Ls, Ex F1 F2 ∧ Sr K ω F2 (L2.wipe σ [k]) H' (wipeS [k] s1) ∧ Jk K ω F2 (L2.wipe σ [k]) H' (wipeS [k] s1) D0 Ls (List.replicate i []))
    ⟨F1, [], Ex.refl _, rw1, ⟨hP, h0, hF1, nO1, upd_same, fun a m => by simp at m, fun a m => by simp at m, fun a m => by simp at m, fun a m => by simp at m, rfl, fun j a ds h => by simp at h, List.nodup_nil, by simp⟩⟩
    (fun i H' _ ⟨F2, Ls, x2, r2, _⟩ => hG F2 H' x2 r2.sub) (fun i x H' H2 hi ⟨F2, Ls, x2, r2, jk⟩ hy => ?_) (fun H' ⟨F2, Ls, x2, r2, jk⟩ => ?_)
  · have hd : ds[i]? = some ds[i] := List.getElem?_eq_getElem hi
    obtain ⟨F3, x3, r3p, hv⟩ := hY (protW ω F2 (L2.wipe σ [k]) H' (wipeS [k] s1)) i _ x F2 (L2.wipe σ [k]) H' H2 (wipeS [k] s1) rfl hd x2 r2.prot hy
    have kp3 := r2.kept r3p
    have r3 := r2.unprot r3p
    have jk3 := jk.kept x3 kp3
    have eg : gN k ds[i] (wipeS [k] s1) = some { wipeS [k] s1 with r := (wipeS [k] s1).r.set k (.val ds[i]) } := rfl
    refine rdG_useK r3 hv eg fun σ4 F4 H4 w4 x4 r4 kp4 => ?_
    have w4' : L2.wipe σ4 [k] = L2.wipe σ [k] := (w4 [k] fun _ z => z).trans ww
    refine ⟨w4', ?_⟩
    have jk4 := jk3.kept x4 kp4
    refine rdT_keep r4 rfl fun F5 H5 x5 r5 kp5 => ?_
    have jk5 := jk4.kept x5 kp5
    rw [if_pos rfl]
    show 0 ≤ sizeLine ∧ ∀ p, H5 p = none → _
    refine ⟨Nat.zero_le _, fun p hp => ?_⟩
    have e5 : wipeS [k] { wipeS [k] s1 with r := (wipeS [k] s1).r.set k (.val ds[i]) } = wipeS [k] s1 := by
      unfold wipeS
      congr 1
      refine List.ext_getElem? fun j => ?_
      rw [wipeB_get, wipeB_get, List.length_set, wipeB_len]
      by_cases q : j ∈ [k]
      · simp [q]
      · have : k ≠ j := fun z => q (by simp [z])
        rw [if_neg q, if_neg q, List.getElem?_set_ne this, wipeB_get, if_neg q]
    have r6 := r5.wipe [k]
    rw [w4', e5] at r6
    have own6 : ∀ a, ¬ Owned σ4 { wipeS [k] s1 with r := (wipeS [k] s1).r.set k (.val ds[i]) } a → ¬ Owned (L2.wipe σ [k]) (wipeS [k] s1) a := fun a hn z => by
      obtain ⟨j, d, g1, g2⟩ := z
      have g1 : (wipeB s1.r [k])[j]? = some (.own d) := g1
      rw [wipeB_get] at g1
      by_cases q : j ∈ [k]
      · rw [if_pos q] at g1; split at g1 <;> cases g1
      · rw [if_neg q] at g1
        rw [← w4', wipe_get, if_neg q] at g2
        have nk : k ≠ j := fun z => q (by simp [z])
        refine hn ⟨j, d, ?_, g2⟩
        show ((wipeB s1.r [k]).set k (.val ds[i]))[j]? = _
        rw [List.getElem?_set_ne nk, wipeB_get, if_neg q]
        exact g1
    have jk6 : Jk K ω F5 (L2.wipe σ [k]) H5 (wipeS [k] s1) D0 Ls (List.replicate i []) := ⟨jk5.dP, jk5.d0, jk5.dF, own6 _ jk5.dO, jk5.dH, jk5.lP, jk5.l0, jk5.lF, fun a m => own6 a (jk5.lO a m), jk5.len, jk5.lH, jk5.nd, jk5.nD⟩
    obtain ⟨r7, jk7⟩ := jk6.more r6 hp
    have hpD : p ≠ D0 := fun z => by rw [z, jk6.dH] at hp; cases hp
    have hlen : Ls.length = i := by rw [jk.len, List.length_replicate]
    refine ⟨Ls.map V.ref, by rw [upd_ne hpD.symm]; exact jk6.dH, by rw [List.length_map, hlen]; have := szOk_le hz; omega, F5, Ls ++ [p], ((x2.trans x3).trans x4).trans x5, r7, ?_⟩
    have : List.replicate (i + 1) ([] : List D) = List.replicate i [] ++ [[]] := by rw [List.replicate_succ']
    rw [this]
    exact jk7
  · have t := r1.rest hno x2 r2
    refine q D0 Ls F2 H' (x1.trans x2) t ⟨jk.dP, jk.d0, jk.dF, ?_, jk.dH, jk.lP, jk.l0, jk.lF, fun a m => ?_, jk.len, jk.lH, jk.nd, jk.nD⟩
    all_goals
      rintro ⟨j, e, g1, g2⟩
      have g1 : (restB s1.r (wipeB s1.r [k]) [k])[j]? = some (.own e) := g1
      rw [restB_get] at g1
      by_cases q : j ∈ [k]
      · rw [if_pos q] at g1
        split at g1
        · have wz := List.all_eq_true.mp hno j q
          cases z : s1.r[j]? with
          | none => rw [List.getD_eq_getElem?_getD, z] at g1; cases g1
          | some c =>
            rw [z] at wz
            rw [List.getD_eq_getElem?_getD, z] at g1
            cases g1
            cases wz
        · cases g1
      · rw [if_neg q] at g1
        have hO : Owned (L2.wipe σ [k]) (wipeS [k] s1) _ := ⟨j, e, g1, by rw [wipe_get, if_neg q]; exact g2⟩
        first
          | exact jk.dO hO
          | exact jk.lO a m hO
end
end Rb

namespace Rb
open PySem PySem.Spec PyProof.Rows L2
theorem Sr.setVal {K : PySem.W.Frag} {ω : Wd} {F : Hp} {σ : L2.St} {H : Hp} {s : S} {i : Nat} {v : V} {d : D} (r : Sr K ω F σ H s) (hσ : σ[i]? = some (some v)) (h : Rp K ω.P F d v) : Sr K ω F σ H { s with r := s.r.set i (.val d) } := by
  have t := r.setS (i := i) (b := false) (v := v) (d := d) h
  have e : σ.set i (some v) = σ := by
    obtain ⟨hl, e⟩ := List.getElem?_eq_some_iff.1 hσ
    rw [← e]
    exact List.set_getElem_self hl
  rw [e] at t
  exact t
section
variable {X : Cx}
theorem ss_beats {ib k : Nat} {y : Str} {py : Pos} {tg iter : Expr} {scope : Scope} {own : List (Str × Nat)} {pos spos lpos pn sp ap cp ep fp : Pos} {it1 it2 : SI} {tg2 iter2 ei ex : Expr} {ts2 : List Nat} {g2 : D → S → Option S} {cI cX : SE} {rest : List Stmt} {cr : SS}
    (hc : X.calm = true) (hN : X.N.Nodup) (hy : X.N[ib]? = some y) (hyl : X.env.scope.names.lookup y = some .local)
    (hsw : swapsWith (.ListComp (.List [] lpos) [⟨tg, iter, [], 0⟩] scope pos) (some (.Name y py)) spos.line X.env = pure true) (hi : PI X tg iter (rdI X.K it1)) (ok : BlkOk X.N X.env.scope scope own) (hown : own.map (·.2) = [k])
    (hg : ∀ (s : Shared) (H : Hp) (C : Addr) (cl : List (Str × Addr)) (fp : List Addr), PG (X.blk s H scope (compEnvC scope cl C X.env) fp) tg (rdG X.K [k] (gN k)))
    (hs1 : ∀ x, foldedSetIterable iter X.env x = pure x)
    (hp : PassesOwn (model X.prog X.w) X.A X.env X.xe) (hi2 : PI X tg2 iter2 (rdI X.K it2)) (hg2 : PG X tg2 (rdG X.K ts2 g2)) (hv : PE X (.Name y pn) (tVar ib)) (hI : PE X ei (rd X.K cI)) (hX : PE X ex (rd X.K cX)) (hpl : PlainIx ei) (nts : ib ∉ ts2)
    (hs2 : ∀ x, foldedSetIterable iter2 X.env x = pure x)
    (hb : attributeBase (.Subscript (.Name y pn) ei sp) "append" X.env (eval (.Subscript (.Name y pn) ei sp) X.env) = eval (.Subscript (.Name y pn) ei sp) X.env)
    (hfew : ((backTo cp (starEach [ex] X.env)).all (fun x => !x.1) && (backToKw cp (keywordEach [] X.env)).all (fun x => x.1.isSome)
      && decide (([ex] : List Expr).length + ([] : List Keyword).length + (if ([] : List Keyword).isEmpty then 0 else 1) < 30)) = true)
    (hline : (ap.endLine == cp.line) = true) (hst : starEach [ex] X.env = (false, eval ex X.env) :: starEach [] X.env) (hpa : (backTo cp (starEach [] X.env)).any (·.1) = false)
    (hsw2 : swapsWith (.Call (.Attribute (.Subscript (.Name y pn) ei sp) "append" ap) [ex] [] cp) none ep.line X.env = pure false)
    (hr : PSs X rest (rdS X.K cr)) :
    PSs X (.Assign [.Name y py] (.ListComp (.List [] lpos) [⟨tg, iter, [], 0⟩] scope pos) spos :: .For tg2 iter2 [.Expr (.Call (.Attribute (.Subscript (.Name y pn) ei sp) "append" ap) [ex] [] cp) ep] [] fp :: rest)
      (rdS X.K (cSeq (cBeats ib k it1 it2 g2 cI cX) cr)) :=
  (pss_cons (ps_setLc (tt := rdT X.K bYes) hc hN hy hyl hsw hi ok hg (fun _ _ _ _ _ => ts_nil) (fun _ _ _ _ _ => pe_lst pa_nil) hs1)
    (pss_cons (ps_for hp hc hi2 hg2 (pss_one (ps_expr (pe_bm PySem.F.plainAttrs_list PySem.F.slot_list_append PySem.F.type_list_append mt_append (pe_ix ix_list hv hI hpl) (pa_cons hX pa_nil hst) hb hfew hline hst hpa) hsw2)) hs2) hr)).imp
  fun D' σ H ⟨ω, F, s, fl, s', sr, h, p⟩ => by
    unfold cSeq at h
    obtain ⟨⟨f1, sB⟩, eB, h⟩ := bind2 h
    unfold cBeats at eB
    obtain ⟨⟨ds, s1⟩, e1, eB⟩ := bind2 eB
    split at eB
    · rename_i hz0
      rw [Bool.and_eq_true, Bool.and_eq_true] at hz0
      obtain ⟨hz0, hil⟩ := hz0
      have hil := of_decide_eq_true hil
      obtain ⟨⟨ds2, s2⟩, e2, eB⟩ := bind2 eB
      obtain ⟨⟨dssF, sF⟩, e3, eB⟩ := map2 eB
      cases eB
      dsimp only at h e2 e3
      unfold tSeq tAsg
      dsimp only
      rw [hown]
      refine lists_made sr e1 hz0.1 hz0.2 fun D0 Ls F1 H1 x1 r1 jk => ?_
      have r2 := r1.setNo (i := ib) (v := .ref D0)
      have jk2 : Jk X.K ω F1 (σ.set ib (some (.ref D0))) H1 { s1 with r := (restB s1.r (wipeB s1.r [k]) [k]).set ib .no } D0 Ls (List.replicate ds.length []) :=
        ⟨jk.dP, jk.d0, jk.dF, fun z => jk.dO z.setNo, jk.dH, jk.lP, jk.l0, jk.lF, fun a m z => jk.lO a m z.setNo, jk.len, jk.lH, jk.nd, jk.nD⟩
      have hib : ib < σ.length := by
        have h1 := r1.len
        rw [h1]
        show ib < (restB s1.r (wipeB s1.r [k]) [k]).length
        rw [restB_len, wipeB_len]
        exact hil
      have hσ2 : (σ.set ib (some (.ref D0)))[ib]? = some (some (.ref D0)) := List.getElem?_set_self hib
      refine ⟨protW ω F1 (σ.set ib (some (.ref D0))) H1 _, F1, _, ds2, s2, r2.prot, e2, fun J F2 H2 x2 r3' ⟨G, Y, w, hG, hY⟩ => ?_⟩
      have r3 := r2.unprot r3'
      have jk3 := jk2.kept x2 (r2.kept r3')
      have p1 := p.mono (x1.trans x2)
      refine for_it w (fun i σ' H' => i ≤ ds2.length ∧ ∃ F4 s4 dss, Ex F2 F4 ∧ Sr X.K ω F4 σ' H' s4 ∧ Jk X.K ω F4 σ' H' s4 D0 Ls dss ∧ σ'[ib]? = some (some (.ref D0)) ∧ bL g2 cI cX (ds2.drop i) s4 dss = some (dssF, sF))
        ⟨Nat.zero_le _, F2, s2, _, Ex.refl _, r3, jk3, hσ2, by simpa using e3⟩ (fun i σ' H' _ ⟨_, F4, s4, dss, x4, r4, _⟩ => hG F4 H' x4 r4.sub) (fun i x σ' H' H4 hi ⟨_, F4, s4, dss, x4, r4, jk4, hσ4, e4⟩ hy4 => ?_) (fun σ' H' ⟨_, F4, s4, dss, x4, r4, jk4, hσ4, e4⟩ => ?_)
      · have hd : ds2[i]? = some ds2[i] := List.getElem?_eq_getElem hi
        rw [List.drop_eq_getElem_cons hi] at e4
        unfold bL at e4
        obtain ⟨s5, e5, e4⟩ := bind2 e4
        obtain ⟨⟨⟨dI, bI⟩, s6⟩, e6, e4⟩ := bind2 e4
        dsimp only at e4
        split at e4
        · rename_i kk
          obtain ⟨⟨⟨dX, bX⟩, s7⟩, e7, e4⟩ := bind2 e4
          obtain ⟨j, ej, e4⟩ := bind2 e4
          obtain ⟨es, ees, e4⟩ := bind2 e4
          split at e4
          · rename_i hsz
            obtain ⟨F5, x5, r5p, hv5⟩ := hY (protW ω F4 σ' H' s4) i _ x F4 σ' H' H4 s4 rfl hd x4 r4.prot hy4
            have kp5 := r4.kept r5p
            have r5 := r4.unprot r5p
            have jk5 := jk4.kept x5 kp5
            refine rdG_useK r5 hv5 e5 fun σ6 F6 H6 w6 x6 r6 kp6 => ?_
            have jk6 := jk5.kept x6 kp6
            have hσ6 : σ6[ib]? = some (some (.ref D0)) := by
              have := congrArg (fun l => l[ib]?) (w6 ts2 fun _ z => z)
              simp only [wipe_get, if_neg nts] at this
              rw [this]; exact hσ4
            refine ⟨.ref D0, hσ6, ?_⟩
            refine rd_useK r6 e6 fun v F7 H7 x7 r7 hv7 kp7 => ?_
            have jk7 := jk6.kept x7 kp7
            have hv7' : v = .int kk := by
              unfold Rp at hv7; exact hv7
            subst hv7'
            have hjl : j < Ls.length := by rw [jk7.len]; exact (List.getElem?_eq_some_iff.1 ees).1
            have hLj : Ls[j]? = some Ls[j] := List.getElem?_eq_getElem hjl
            obtain ⟨ys, hya, hyr⟩ := jk7.lH j _ es hLj ees
            refine ⟨D0, Ls.map V.ref, kk, .ref Ls[j], rfl, rfl, SqL.of jk7.dH, ?_, ?_⟩
            · unfold L2.atI
              rw [List.length_map, jk7.len, ej]
              show (Ls.map V.ref)[j]? = _
              rw [List.getElem?_map, hLj]; rfl
            refine ⟨Or.inl ⟨rfl, _, SqL.of hya⟩, ?_⟩
            refine rd_useK r7 e7 fun wv F8 H8 x8 r8 hw kp8 => ?_
            have jk8 := jk7.kept x8 kp8
            obtain ⟨ys8, hy8, hr8⟩ := jk8.lH j _ es hLj ees
            obtain ⟨r9, jk9⟩ := jk8.put r8 hLj ees hy8 hr8 hw
            refine ⟨Ls[j], ys8, wv, rfl, rfl, hy8, by rw [hr8.len]; have := szOk_le hsz; omega, ?_⟩
            exact ⟨hi, F8, s7, _, (((x4.trans x5).trans x6).trans x7).trans x8, r9, jk9, hσ6, e4⟩
          · cases e4
        · cases e4
      · rw [List.drop_eq_nil_of_le (Nat.le_refl _)] at e4
        cases e4
        obtain ⟨F5, x5, r5, hv5⟩ := jk4.known r4
        exact ⟨ω, F5, _, fl, s', r5.setVal hσ4 hv5, h, p1.mono (x4.trans x5)⟩
    · cases eB
end
end Rb

namespace Rb
open PySem PySem.Spec PyProof.Rows L2
/-! ### a call that gives a list of its own -/
abbrev FnL := List D → Pt → Option (List D × Pt)
def runO (n : Nat) (c : SE) : FnL := fun ds p => match c ⟨ds.map .val ++ List.replicate (n - ds.length) .no, p⟩ with
  | some ((.lst es, true), s) => some (es, s.p)
  | _ => none
def spO (K : PySem.W.Frag) (k : Nat) (f : FnL) : Sp := fun vs H Q _ => vs.length = k ∧ ∃ P F ds p es p', Ex F H ∧ PtOk P F H p ∧ RpL K P F ds vs ∧ f ds p = some (es, p') ∧
  ∀ a xs F' H', Ex F F' → Ex F' H' → PtOk P F' H' p' → (∀ a o, P ≠ some a → H a = some o → H' a = some o) → (∀ a o, F' a = some o → F a = some o ∨ H a = none) → H' a = some (.lst xs) → F' a = none → H a = none → P ≠ some a → RpL K P F' es xs → Q (.ref a) H'
def cCallO (f : FnL) (t : SA) : SE := fun s => (t s).bind fun p => (f p.1 p.2.p).map fun q => ((.lst q.1, true), { p.2 with p := q.2 })
structure DefO (P : Program) (w : World) (K : PySem.W.Frag) (mg : Str → Option Value) (base : Heap) (x : Str) (k n : Nat) (f : FnL) : Prop where
  ex : ∃ (a : Addr) (fd : FuncData) (ps : List Str), mg x = some (.ref a) ∧ PySem.W.keepIn K (.ref a) = true ∧ FnOk P w K mg base CX0 k a fd ps (spO K n f) ∧ Binds K fd ps []
section
variable {P : Program} {w : World} {K : PySem.W.Frag} {mg : Str → Option Value} {base : Heap}
theorem def_okO {x qual : Str} {st : Stmt} {f : Addr} {fd : FuncData} {N ps : List Str} {k n : Nat} {c : SE} {e : Expr} {rp : Pos} (hg : mg x = some (.ref f)) (F : Fun K x qual st f fd) (hb : Binds K fd ps []) (S : FnScope N ps (defScope st)) (hn : ps.length = n) (hst : defBody st = [.Return (some e) rp])
    (hbody : ∀ (cdv : Value) (A : Around) (outer : List Env) (s : Shared) (H : Hp) (E : XK), Room k (A.deeper (envOfC qual (defScope st) s.heap.objs.size f cdv)) →
      PE (cxOf CX0 P w K mg base N qual (defScope st) f cdv A outer s H E).nox e (rd K c)) : DefO P w K mg base x (k + 1) n (runO N.length c) := by
  refine ⟨f, fd, ps, hg, F.kp, ?_, hb⟩
  subst hn
  refine F.ok S (fun vs H Q E h => h.1) (fun cdv A outer s H vs Q E hr hsp => ⟨tRet (rd K c), by rw [hst]; exact pss_one (ps_ret (hbody cdv A outer s H E hr)), ?_⟩)
  obtain ⟨hl, P0, F0, ds, p, es, p', h1, h2, h3, h4, h5⟩ := hsp
  have hN : vs.length ≤ N.length := by
    have := congrArg List.length S.pre
    rw [List.length_take] at this; omega
  unfold runO at h4
  have sr := startB hN h1 h2 h3
  split at h4
  · rename_i es1 s1 e1
    cases h4
    refine rd_keep sr e1 fun v F' H' x r hv kp hx => ?_
    obtain ⟨⟨a, xs, rfl, g1, g2, g3, g4, g5⟩, _⟩ := hv
    refine h5 a xs F' H' x r.sub r.pt (fun a o hP ha => r.frm a o hP ha) r.new g1 g2 ?_ g4 g5
    rcases hx rfl a rfl with q | q
    · obtain ⟨i, d, q1, _⟩ := q
      have q1 : (ds.map Bd.val ++ List.replicate (N.length - ds.length) .no)[i]? = some (.own d) := q1
      by_cases q : i < ds.length
      · rw [List.getElem?_append_left (by simpa using q), List.getElem?_map, List.getElem?_eq_getElem q] at q1
        cases q1
      · rw [List.getElem?_append_right (by simpa using q), List.getElem?_replicate] at q1
        split at q1 <;> cases q1
    · exact q
  · cases h4
end
section
variable {X : Cx}
theorem call_useO {K : PySem.W.Frag} {n : Nat} {f : FnL} {t : SA} {σ : L2.St} {H : Hp} {Q : VK} {E : XK} (hlen : ∀ s ds s', t s = some (ds, s') → ds.length = n) (hw : rd K (cCallO f t) σ H Q) : tCall (spO K n f) [] E (rdA K t) σ H Q := by
  obtain ⟨ω, F, s, d, b, s', sr, h, p⟩ := hw
  unfold cCallO at h
  obtain ⟨⟨ds, s1⟩, e1, h⟩ := bind2 h
  obtain ⟨⟨es, p2⟩, e2, h⟩ := map2 h
  cases h
  refine rdA_use sr e1 fun vs F1 H1 x1 r1 hv => ?_
  rw [List.append_nil]
  refine ⟨by rw [hv.len]; exact hlen _ _ _ e1, ω.P, F1, ds, s1.p, _, p2, r1.sub, r1.pt, hv, e2, fun a xs F2 H2 x2 e3 pt2 kp nw g1 g2 g3 g4 g5 => ?_⟩
  refine p (.ref a) F2 H2 (x1.trans x2) ⟨r1.len, e3, fun a o hP ha => kp a o hP (r1.frm a o hP ha), fun a o ha => ?_, pt2, fun i c hc => ?_, r1.dis⟩ ⟨⟨a, xs, rfl, g1, g2, r1.h0 g3, g4, g5⟩, fun i e q1 q2 => ?_⟩
  · rcases nw a o ha with q | q
    · exact r1.new a o q
    · exact .inr (r1.h0 q)
  · refine (r1.sl i c hc).mono x2 fun a hown hσ hne hF => ?_
    obtain ⟨d0, rfl⟩ := hown
    obtain ⟨⟨o, ho⟩, _, _, hP⟩ := r1.ownAt ⟨i, d0, hc, hσ⟩
    refine ⟨(kp a o hP ho).trans ho.symm, ?_⟩
    cases q : F2 a with
    | none => rfl
    | some u =>
      rcases nw a u q with q2 | q2
      · rw [hF] at q2; cases q2
      · rw [q2] at ho; cases ho
  · obtain ⟨⟨o, ho⟩, _⟩ := r1.ownAt ⟨i, e, q1, q2⟩
    rw [g3] at ho; cases ho
theorem p_callO {x : Str} {k j n : Nat} {f : FnL} {t : SA} {e : Expr} {es : List Expr} {p pos : Pos} (hd : DefO X.prog X.w X.K X.mg X.base x k n f) (hr : Room j X.A) (hkj : k ≤ j) (hg : Gl X x) (ha : PA X (e :: es) (rdA X.K t)) (hlen : ∀ s ds s', t s = some (ds, s') → ds.length = n) (hdb : (x == ("__debug__" : Str)) = false := by decide)
    (he : starEach (e :: es) X.env = (false, eval e X.env) :: starEach es X.env := by rfl) (hpl : (backTo pos (starEach es X.env)).any (·.1) = false := by rfl) : PE X (.Call (.Name x p) (e :: es) [] pos) (rd X.K (cCallO f t)) := by
  obtain ⟨a, fd, ps, h1, h2, h3, h4⟩ := hd.ex
  exact (pe_call (E := E0) h3 (hr.mono hkj) hg h1 h2 h4 .nil pass0 ha hdb he hpl).imp fun _ _ _ => call_useO hlen
end
end Rb

namespace Rb
open PySem PySem.Spec PyProof.Rows L2
/-! ### dicts that expressions give are walked: locked behind their making -/
def Nf (X : Cx) (a : Addr) : Prop := ∀ o' u', X.H_0 a ≠ some (.frz o' u')
def iKeysB (X : Cx) (td : TE) : TI := fun σ H R => td σ H fun v H1 => ∃ a xs, v = .ref a ∧ ((H1 a = some (.dK xs) ∧ ∀ od, Nf X a → R (Itk a od xs) (upd H1 a (.frz od (.dK xs)))) ∨ ∃ od, H1 a = some (.frz od (.dK xs)) ∧ R (Itk a od xs) H1)
theorem pi_keysB {X : Cx} {tg e : Expr} {td : TE} (he : PE X e td) : PI X tg e (iKeysB X td) := by
  refine ⟨fun pins s σ H R I h => ?_⟩
  refine thn (he.run pins s σ H _ I h) fun u s1 ⟨x, H1, I1, rx, a, xs, ex, q⟩ => ?_
  subst ex
  obtain rfl : u = Value.ref a := rx
  rcases q with ⟨hd, q⟩ | ⟨od, hd, q⟩
  · have nf := I1.nofrz hd trivial
    obtain ⟨od, I2⟩ := I1.lock hd trivial
    obtain ⟨hs, hgd, hx, es, ep, vs, hdt, hsz, kv, hm⟩ := I2.frzK upd_same
    refine iter_keys hs hgd hx hdt (pi_one (tk := s1.toks) I2 _ (turn_keys _ hdt) ⟨_, Heap.get?_push_size _ rfl, rfl, ?_⟩ (q od nf))
    rw [hsz] <;> rfl
  · obtain ⟨hs, hgd, hx, es, ep, vs, hdt, hsz, kv, hm⟩ := I1.frzK hd
    refine iter_keys hs hgd hx hdt (pi_one (tk := s1.toks) I1 _ (turn_keys _ hdt) ⟨_, Heap.get?_push_size _ rfl, rfl, ?_⟩ q)
    rw [hsz] <;> rfl
/-- what is locked may be unlocked at the end -/
def unlQ (X : Cx) (Q : VK) : VK := fun v H' => Q v H' ∨ ∃ a od u, Nf X a ∧ H' a = some (.frz od u) ∧ Q v (upd H' a u)
theorem pe_unl {X : Cx} {e : Expr} {t : TE} (h : PE X e t) : PE X e (fun σ H Q => t σ H (unlQ X Q)) := by
  refine ⟨fun pins s σ H Q I hw => ?_⟩
  refine thn (h.run pins s σ H _ I hw) fun v s1 ⟨x, H1, I1, r, q⟩ => ?_
  rcases q with q | ⟨a, od, u, nf, e1, q⟩
  · exact ⟨x, H1, I1, r, q⟩
  · exact ⟨x, _, I1.unlock e1 nf, r, q⟩
def unlD (X : Cx) (D : Ends) : Ends := ⟨fun σ H => D.nx σ H ∨ ∃ a od u, Nf X a ∧ H a = some (.frz od u) ∧ D.nx σ (upd H a u), unlQ X D.rt, fun σ H => D.bk σ H ∨ ∃ a od u, Nf X a ∧ H a = some (.frz od u) ∧ D.bk σ (upd H a u), fun σ H => D.ct σ H ∨ ∃ a od u, Nf X a ∧ H a = some (.frz od u) ∧ D.ct σ (upd H a u)⟩
theorem ps_unl {X : Cx} {st : Stmt} {t : TS} (h : PS X st t) : PS X st (fun D σ H => t (unlD X D) σ H) := by
  refine ⟨fun pins s σ H D I hw => ?_⟩
  refine thn (h.run pins s σ _ _ I hw) fun f s1 q => ?_
  cases f with
  | next =>
    obtain ⟨σ', H', I2, q⟩ := q
    rcases q with q | ⟨a, od, u, nf, e1, q⟩
    · exact ⟨σ', H', I2, q⟩
    · exact ⟨σ', _, I2.unlock e1 nf, q⟩
  | brk =>
    obtain ⟨σ', H', I2, q⟩ := q
    rcases q with q | ⟨a, od, u, nf, e1, q⟩
    · exact ⟨σ', H', I2, q⟩
    · exact ⟨σ', _, I2.unlock e1 nf, q⟩
  | cont =>
    obtain ⟨σ', H', I2, q⟩ := q
    rcases q with q | ⟨a, od, u, nf, e1, q⟩
    · exact ⟨σ', H', I2, q⟩
    · exact ⟨σ', _, I2.unlock e1 nf, q⟩
  | ret v =>
    obtain ⟨x, σ', H', I2, r, q⟩ := q
    rcases q with q | ⟨a, od, u, nf, e1, q⟩
    · exact ⟨x, σ', H', I2, r, q⟩
    · exact ⟨x, σ', _, I2.unlock e1 nf, r, q⟩
/-- the reading of a comprehension, from where its things are walked -/
theorem lc_in {K : PySem.W.Frag} {ω : Wd} {F : Hp} {s1 s2 : S} {ds res : List D} {ts vs : List Nat} {g : D → S → Option S} {tt : ST} {te : SE} {σ : L2.St} {Q : VK} (hts : ∀ i ∈ ts, i ∈ vs) (hno : noOwn vs s1 = true) (e2 : lcL g tt te vs ds (wipeS vs s1) [] = some (res, s2))
    (p : Post K ω F σ { s2 with r := restB s1.r s2.r vs } (.lst res) true Q) {J : It} {F1 H1 : Hp} (x1 : Ex F F1) (r1 : Sr K ω F1 σ H1 s1) (wd : WalkD K ω.P F1 ds J) : tLc (fun _ _ R => R J H1) (rdG K ts g) (rdT K tt) (rd K te) vs σ H1 Q := by
    obtain ⟨G, Y, w, hG, hY⟩ := wd
    intro D0 hD
    have hF1 : F1 D0 = none := r1.sub.none hD
    have h0 := r1.h0 hD
    have hP := r1.pt.ne hD
    have rw1 : Sr K ω F1 (L2.wipe σ vs) (upd H1 D0 (.lst [])) (wipeS vs s1) := (r1.wipe vs).allocN hD
    have nO1 : ¬ Owned (L2.wipe σ vs) (wipeS vs s1) D0 := fun z => by
      obtain ⟨⟨o, q⟩, _⟩ := (r1.wipe vs).ownAt z
      rw [hD] at q; cases q
    refine lc_it w (fun i H' => ∃ F2 s3 acc xs, Ex F1 F2 ∧ Sr K ω F2 (L2.wipe σ vs) H' s3 ∧ H' D0 = some (.lst xs) ∧ F2 D0 = none ∧ ¬ Owned (L2.wipe σ vs) s3 D0 ∧ RpL K ω.P F2 acc xs ∧ wipeS vs s3 = s3 ∧ lcL g tt te vs (ds.drop i) s3 acc = some (res, s2))
      ⟨F1, wipeS vs s1, [], [], Ex.refl _, rw1, upd_same, hF1, nO1, .nil, ?_, by simpa using e2⟩ (fun i H' _ ⟨F2, s3, acc, xs, x2, r2, _⟩ => hG F2 H' x2 r2.sub) (fun i x H' H2 hi ⟨F2, s3, acc, xs, x2, r2, hD2, hF2, hO2, ha2, hw2, e3⟩ hy => ?_) (fun H' ⟨F2, s3, acc, xs, x2, r2, hD2, hF2, hO2, ha2, hw2, e3⟩ => ?_)
    · unfold wipeS
      congr 1
      refine List.ext_getElem? fun j => ?_
      rw [wipeB_get, wipeB_get, wipeB_len]
      by_cases q : j ∈ vs <;> simp [q]
    · have hd : ds[i]? = some ds[i] := List.getElem?_eq_getElem hi
      rw [List.drop_eq_getElem_cons hi] at e3
      unfold lcL at e3
      obtain ⟨s4, e4, e3⟩ := bind2 e3
      obtain ⟨⟨b5, s5⟩, e5, e3⟩ := bind2 e3
      -- the item
      obtain ⟨F3, x3, r3p, hv⟩ := hY (protW ω F2 (L2.wipe σ vs) H' s3) i _ x F2 (L2.wipe σ vs) H' H2 s3 rfl hd x2 r2.prot hy
      have kp3 := r2.kept r3p
      have r3 := r2.unprot r3p
      obtain ⟨hD3, hF3, hO3⟩ := kp3 D0 _ hP hO2 hD2
      refine rdG_useK r3 hv e4 fun σ4 F4 H4 w4 x4 r4 kp4 => ⟨w4 vs hts |>.trans (by
        refine List.ext_getElem? fun j => ?_
        rw [wipe_get, wipe_get, wipe_length]
        by_cases q : j ∈ vs <;> simp [q]), ?_⟩
      obtain ⟨hD4, hF4, hO4⟩ := kp4 D0 _ hP hO3 hD3
      refine rdT_keep r4 e5 fun F5 H5 x5 r5 kp5 => ?_
      obtain ⟨hD5, hF5, hO5⟩ := kp5 D0 _ hP hO4 hD4
      have w4' := w4 vs hts
      have ww : L2.wipe (L2.wipe σ vs) vs = L2.wipe σ vs := by
        refine List.ext_getElem? fun j => ?_
        rw [wipe_get, wipe_get, wipe_length]
        by_cases q : j ∈ vs <;> simp [q]
      rw [ww] at w4'
      have wiped : ∀ s : S, wipeS vs (wipeS vs s) = wipeS vs s := fun s => by
        unfold wipeS
        congr 1
        refine List.ext_getElem? fun j => ?_
        rw [wipeB_get, wipeB_get, wipeB_len]
        by_cases q : j ∈ vs <;> simp [q]
      have wipO : ∀ {s : S} {F : Hp} {H : Hp}, Sr K ω F σ4 H s → ¬ Owned σ4 s D0 → ¬ Owned (L2.wipe σ vs) (wipeS vs s) D0 := fun {s F H} r hn ⟨k, d, g1, g2⟩ => by
        have g1 : (wipeB s.r vs)[k]? = some (.own d) := g1
        rw [wipeB_get] at g1
        by_cases q : k ∈ vs
        · rw [if_pos q] at g1; split at g1 <;> cases g1
        · rw [if_neg q] at g1
          rw [← w4', wipe_get, if_neg q] at g2
          exact hn ⟨k, d, g1, g2⟩
      cases b5 with
      | false =>
        refine ⟨F5, wipeS vs s5, acc, xs, ((x2.trans x3).trans x4).trans x5, ?_, hD5, hF5 (hF4 (hF3 hF2)), wipO r5 hO5, ha2.mono ((x3.trans x4).trans x5), wiped s5, e3⟩
        rw [← w4']; exact r5.wipe vs
      | true =>
        rw [if_pos rfl] at e3
        obtain ⟨⟨⟨d6, b6⟩, s6⟩, e6, e3⟩ := bind2 e3
        split at e3
        · rename_i hz
          refine rd_useK r5 e6 fun y F6 H6 x6 r6 hy6 kp6 => ?_
          obtain ⟨hD6, hF6, hO6⟩ := kp6 D0 _ hP hO5 hD5
          have hF6' := hF6 (hF5 (hF4 (hF3 hF2)))
          have xx := (((x2.trans x3).trans x4).trans x5).trans x6
          refine ⟨xs, hD6, by rw [ha2.len]; have := szOk_le hz; omega, F6, wipeS vs s6, acc ++ [d6], xs ++ [y], xx, ?_, upd_same, hF6', wipO r6 hO6, (ha2.mono (((x3.trans x4).trans x5).trans x6)).app (.cons hy6 .nil), wiped s6, e3⟩
          rw [← w4']
          exact (r6.other hF6' hO6 h0 hP).wipe vs
        · cases e3
    · rw [List.drop_eq_nil_of_le (Nat.le_refl _)] at e3
      cases e3
      have t := r1.rest hno x2 r2
      refine p _ F2 H' (x1.trans x2) t ⟨⟨D0, xs, rfl, hD2, hF2, h0, hP, ha2⟩, fun j e g1 g2 => ?_⟩
      have g1 : (restB s1.r s2.r vs)[j]? = some (.own e) := g1
      rw [restB_get] at g1
      by_cases q : j ∈ vs
      · rw [if_pos q] at g1
        split at g1
        · have wz := List.all_eq_true.mp hno j q
          cases z : s1.r[j]? with
          | none => rw [List.getD_eq_getElem?_getD, z] at g1; cases g1
          | some c =>
            rw [z] at wz
            rw [List.getD_eq_getElem?_getD, z] at g1
            cases g1
            cases wz
        · cases g1
      · rw [if_neg q] at g1
        exact hO2 ⟨j, e, g1, by rw [wipe_get, if_neg q]; exact g2⟩
def iKey (c : SE) : SI := fun s => (c s).bind fun p => match p.1.1 with
  | .dic ks => some (keysD ks, p.2)
  | _ => none
theorem postLock {X : Cx} {ω : Wd} {F : Hp} {σ : L2.St} {H : Hp} {s s' : S} {a : Addr} {od : Obj} {xs : List (Key × V)} {ds : List D} {Q : VK} (nf : Nf X a) (r0 : Sr X.K ω F σ H s) (hF : F a = some (.dK xs)) (p : Post X.K ω F σ s' (.lst ds) true Q) :
    Post X.K (lockW ω a (.frz od (.dK xs))) (upd F a (.frz od (.dK xs))) σ s' (.lst ds) true (unlQ X Q) := fun v F5 H5 x5 r5 hv => by
  obtain ⟨u1, u2, u3, u4⟩ := r0.unlock hF r5 x5
  have h5 : F5 a = some (.frz od (.dK xs)) := x5 a _ upd_same
  refine .inr ⟨a, od, _, nf, u1, p v _ _ u2 u4 ?_⟩
  obtain ⟨⟨D0, ys, rfl, g1, g2, g3, g4, g5⟩, hn⟩ := hv
  have q : D0 ≠ a := fun z => by subst z; rw [h5] at g2; cases g2
  refine ⟨⟨D0, ys, rfl, by rw [upd_ne q]; exact g1, by rw [upd_ne q]; exact g2, ?_, g4, RpL.mono2 u3 _ _ g5⟩, hn⟩
  have g3 : lockH ω.H0 a _ D0 = none := g3
  rw [lockH_ne q] at g3
  exact g3
theorem p_lcK {X : Cx} {elt tg iter : Expr} {ifs : List Expr} {scope : Scope} {own : List (Str × Nat)} {pos : Pos} {c : SE} {ts : List Nat} {g : D → S → Option S} {tt : ST} {te : SE} (hc : X.calm = true) (hN : X.N.Nodup) (hi : PE X iter (rd X.K c)) (ok : BlkOk X.N X.env.scope scope own)
    (hts : ∀ i ∈ ts, i ∈ own.map (·.2))
    (hg : ∀ (s : Shared) (H : Hp) (C : Addr) (cl : List (Str × Addr)) (fp : List Addr), PG (X.blk s H scope (compEnvC scope cl C X.env) fp) tg (rdG X.K ts g)) (ht : ∀ (s : Shared) (H : Hp) (C : Addr) (cl : List (Str × Addr)) (fp : List Addr), PTs (X.blk s H scope (compEnvC scope cl C X.env) fp) ifs (rdT X.K tt))
    (he : ∀ (s : Shared) (H : Hp) (C : Addr) (cl : List (Str × Addr)) (fp : List Addr), PE (X.blk s H scope (compEnvC scope cl C X.env) fp) elt (rd X.K te)) (hs : ∀ x, foldedSetIterable iter X.env x = pure x := by intro _; rfl) :
    PE X (.ListComp elt [⟨tg, iter, ifs, 0⟩] scope pos) (rd X.K (cLC (iKey c) g tt te (own.map (·.2)))) :=
  (pe_unl (pe_lc hc hN (pi_keysB hi) ok hg ht he hs)).imp fun σ H Q hw => by
    obtain ⟨ω, F, s, d, b, s', sr, h, p⟩ := hw
    unfold cLC at h
    obtain ⟨⟨ds, s1⟩, e1, h⟩ := bind2 h
    split at h
    · rename_i hno
      obtain ⟨⟨res, s2⟩, e2, h⟩ := map2 h
      cases h
      unfold iKey at e1
      obtain ⟨⟨⟨dv, bv⟩, s3⟩, e0, e1⟩ := bind2 e1
      dsimp only at e1
      split at e1
      · rename_i ks
        cases e1
        show iKeysB X (rd X.K c) σ H fun J H1 => tLc (fun _ _ R => R J H1) (rdG X.K ts g) (rdT X.K tt) (rd X.K te) (own.map (·.2)) σ H1 (unlQ X Q)
        refine rd_use sr e0 fun v F1 H1 x1 r1 hv => ?_
        unfold Rp at hv
        obtain ⟨a, xs, rfl, hR, hr⟩ := hv
        refine ⟨a, xs, rfl, ?_⟩
        rcases hR with hF | ⟨od, hF⟩
        · refine .inl ⟨r1.sub _ _ hF, fun od nf => ?_⟩
          have hr1 : RpK X.K ω.P (upd F1 a (.frz od (.dK xs))) ks xs := RpK.mono2 (ok2_lock hF) _ _ hr
          exact lc_in hts hno e2 (postLock (od := od) nf r1 hF (p.mono x1)) (Ex.refl _) (r1.lock (od := od) hF) (walkD_keys (P := ω.P) upd_same hr1)
        · refine .inr ⟨od, r1.sub _ _ hF, ?_⟩
          refine lc_in hts hno e2 (Q := unlQ X Q) (fun v F5 H5 x5 r5 hv => .inl (p v F5 H5 (x1.trans x5) r5 hv)) (Ex.refl _) r1 (walkD_keys hF hr)
      · cases e1
    · cases h
end Rb

namespace Rb
open PySem PySem.Spec PyProof.Rows L2
/-! ### for x in a dict that an expression gives -/
/-- the reading of a loop, from where its things are walked -/
theorem for_in {K : PySem.W.Frag} {ω : Wd} {ds : List D} {ts : List Nat} {g : D → S → Option S} {c : SS} {σ : L2.St} {D' : Ends} {fl : Fl} {s1 s' : S} {J : It} {F1 H1 : Hp} (r1 : Sr K ω F1 σ H1 s1) (h : forL g c ds s1 = some (fl, s')) (p : EndOk K ω F1 D' s' fl) (wd : WalkD K ω.P F1 ds J) : tFor (fun _ _ R => R J H1) (rdG K ts g) (rdS K c) D' σ H1 := by
  obtain ⟨G, Y, w, hG, hY⟩ := wd
  refine for_it w (fun i σ' H' => i ≤ ds.length ∧ ∃ F2 s2, Ex F1 F2 ∧ Sr K ω F2 σ' H' s2 ∧ forL g c (ds.drop i) s2 = some (fl, s')) ⟨Nat.zero_le _, F1, s1, Ex.refl _, r1, by simpa using h⟩ (fun i σ' H' _ ⟨_, F2, s2, x2, r2, _⟩ => hG F2 H' x2 r2.sub) (fun i x σ' H' H2 hi ⟨_, F2, s2, x2, r2, e2⟩ hy => ?_) (fun σ' H' ⟨_, F2, s2, x2, r2, e2⟩ => ?_)
  · have hd : ds[i]? = some ds[i] := List.getElem?_eq_getElem hi
    rw [List.drop_eq_getElem_cons hi] at e2
    unfold forL at e2
    obtain ⟨s3, e3, e2⟩ := bind2 e2
    obtain ⟨⟨f4, s4⟩, e4, e2⟩ := bind2 e2
    obtain ⟨F3, x3, r3, hv⟩ := hY ω i _ x F2 σ' H' H2 s2 rfl hd x2 r2 hy
    refine ⟨ω, F3, s2, ds[i], s3, r3, hv, e3, fun σ4 F4 H4 _ x4 r4 => ?_⟩
    refine ⟨ω, F4, s3, f4, s4, r4, e4, ?_⟩
    have xx := (x2.trans x3).trans x4
    cases f4 with
    | nx => exact fun σ5 F5 H5 x5 r5 => ⟨hi, F5, s4, xx.trans x5, r5, e2⟩
    | ct => exact fun σ5 F5 H5 x5 r5 => ⟨hi, F5, s4, xx.trans x5, r5, e2⟩
    | bk => cases e2; exact fun σ5 F5 H5 x5 r5 => p σ5 F5 H5 (xx.trans x5) r5
    | rt d => cases e2; exact fun v σ5 F5 H5 x5 r5 hv => p v σ5 F5 H5 (xx.trans x5) r5 hv
  · rw [List.drop_eq_nil_of_le (Nat.le_refl _)] at e2
    cases e2
    exact p σ' F2 H' x2 r2
theorem endLockD {X : Cx} {ω : Wd} {F : Hp} {σ : L2.St} {H : Hp} {s s' : S} {a : Addr} {od : Obj} {xs : List (Key × V)} {D' : Ends} {fl : Fl} (nf : Nf X a) (r0 : Sr X.K ω F σ H s) (hF : F a = some (.dK xs)) (p : EndOk X.K ω F D' s' fl) :
    EndOk X.K (lockW ω a (.frz od (.dK xs))) (upd F a (.frz od (.dK xs))) (unlD X D') s' fl := by
  cases fl with
  | nx =>
    intro σ5 F5 H5 x5 r5
    obtain ⟨u1, u2, _, u4⟩ := r0.unlock hF r5 x5
    exact .inr ⟨a, od, _, nf, u1, p σ5 _ _ u2 u4⟩
  | ct =>
    intro σ5 F5 H5 x5 r5
    obtain ⟨u1, u2, _, u4⟩ := r0.unlock hF r5 x5
    exact .inr ⟨a, od, _, nf, u1, p σ5 _ _ u2 u4⟩
  | bk =>
    intro σ5 F5 H5 x5 r5
    obtain ⟨u1, u2, _, u4⟩ := r0.unlock hF r5 x5
    exact .inr ⟨a, od, _, nf, u1, p σ5 _ _ u2 u4⟩
  | rt d =>
    intro v σ5 F5 H5 x5 r5 hv
    obtain ⟨u1, u2, u3, u4⟩ := r0.unlock hF r5 x5
    exact .inr ⟨a, od, _, nf, u1, p v σ5 _ _ u2 u4 (Rp.mono2 u3 d v hv)⟩
theorem endUnl {X : Cx} {ω : Wd} {F F1 : Hp} {s' : S} {D' : Ends} {fl : Fl} (x : Ex F F1) (p : EndOk X.K ω F D' s' fl) : EndOk X.K ω F1 (unlD X D') s' fl := by
  cases fl with
  | nx => exact fun σ5 F5 H5 x5 r5 => .inl (p σ5 F5 H5 (x.trans x5) r5)
  | ct => exact fun σ5 F5 H5 x5 r5 => .inl (p σ5 F5 H5 (x.trans x5) r5)
  | bk => exact fun σ5 F5 H5 x5 r5 => .inl (p σ5 F5 H5 (x.trans x5) r5)
  | rt d => exact fun v σ5 F5 H5 x5 r5 hv => .inl (p v σ5 F5 H5 (x.trans x5) r5 hv)
theorem s_forKE {X : Cx} {tg iter : Expr} {pos : Pos} {body : List Stmt} {ts : List Nat} {g : D → S → Option S} {ci : SE} {c : SS} (hp : PassesOwn (model X.prog X.w) X.A X.env X.xe) (hc : X.calm = true) (hi : PE X iter (rd X.K ci))
    (hg : PG X tg (rdG X.K ts g)) (hb : PSs X body (rdS X.K c)) (hs : ∀ z, foldedSetIterable iter X.env z = pure z := by intro _; rfl) :
    PS X (.For tg iter body [] pos) (rdS X.K (cFor (iKey ci) g c)) :=
  (ps_unl (ps_for hp hc (pi_keysB hi) hg hb hs)).imp fun D' σ H ⟨ω, F, s, fl, s', sr, h, p⟩ => by
    unfold cFor at h
    obtain ⟨⟨ds, s1⟩, e1, h⟩ := bind2 h
    unfold iKey at e1
    obtain ⟨⟨⟨dv, bv⟩, s3⟩, e0, e1⟩ := bind2 e1
    dsimp only at e1
    split at e1
    · rename_i ks
      cases e1
      show iKeysB X (rd X.K ci) σ H fun J H1 => tFor (fun _ _ R => R J H1) (rdG X.K ts g) (rdS X.K c) (unlD X D') σ H1
      refine rd_use sr e0 fun v F1 H1 x1 r1 hv => ?_
      unfold Rp at hv
      obtain ⟨a, xs, rfl, hR, hr⟩ := hv
      refine ⟨a, xs, rfl, ?_⟩
      have p1 : EndOk X.K ω F1 D' s' fl := p.mono x1
      rcases hR with hF | ⟨od, hF⟩
      · refine .inl ⟨r1.sub _ _ hF, fun od nf => ?_⟩
        have hr1 : RpK X.K ω.P (upd F1 a (.frz od (.dK xs))) ks xs := RpK.mono2 (ok2_lock hF) _ _ hr
        exact for_in (r1.lock (od := od) hF) h (endLockD (od := od) nf r1 hF p1) (walkD_keys (P := ω.P) upd_same hr1)
      · exact .inr ⟨od, r1.sub _ _ hF, for_in r1 h (endUnl (Ex.refl _) p1) (walkD_keys hF hr)⟩
    · cases e1
end Rb

namespace Rb
open PySem PySem.Spec PyProof.Rows L2
/-! ### min of pairs; sorted, len of a dict -/
def minP (p : Int × Int) (ps : List (Int × Int)) : Int × Int := ps.foldl (fun a y => if SrtO.lexB y a then y else a) p
theorem lexLt2 (p q : Int × Int) : HT.lexLt [p.1, p.2] [q.1, q.2] = SrtO.lexB p q := by
  rw [HT.lexLt_cons, HT.lexLt_cons, HT.lexLt_nil_nil]
  unfold SrtO.lexB
  by_cases h : p.1 = q.1
  · rw [if_pos h, if_pos h]
    by_cases h2 : p.2 = q.2
    · rw [if_pos h2]; simp [h2]
    · rw [if_neg h2]
  · rw [if_neg h, if_neg h]
def rMinP (K : PySem.W.Frag) : List V → Hp → VK → Prop := fun vs H Q => ∃ (a : Addr) (xs : List V) (p : Int × Int) (ps : List (Int × Int)), vs = [V.ref a] ∧ SqL K H a xs ∧ xs.length = (p :: ps).length ∧
  (∀ (i : Nat) (x : V) (q : Int × Int), xs[i]? = some x → (p :: ps)[i]? = some q → ∃ t, x = V.ref t ∧ SqT K H t [.int q.1, .int q.2]) ∧ ∀ (i : Nat) (x : V), xs[i]? = some x → (p :: ps)[i]? = some (minP p ps) → Q x H
theorem vals_at {xs : List V} {its : List Value} (r : Vals xs its) : ∀ (i : Nat) (v : Value), its[i]? = some v → ∃ x, xs[i]? = some x ∧ RelV x v := by
  unfold Vals at r
  induction r with
  | nil => intro i v h; simp at h
  | cons h t ih =>
    intro i v e
    cases i with
    | zero => simp at e; subst e; exact ⟨_, rfl, h⟩
    | succ i => exact ih i v (by simpa using e)
theorem cr_minP {X : Cx} (hc : X.calm = true) (hu : X.A.units + 1 < cLine) : CallR X (.builtin "min") (rMinP X.K) := by
  intro pins s σ H vs us Q I r h
  obtain ⟨a, xs, p, ps, rfl, hs, hlen, hx, q⟩ := h
  obtain ⟨its, rv, hl, hz⟩ := I.list hs
  obtain ⟨u, rfl, ru⟩ := vals1 r
  obtain rfl : u = Value.ref a := ru
  have hsz : its.toArray.size = ps.length + 1 := by rw [List.size_toArray, ← rv.length, hlen]; simp
  refine call_min_walkH (PySem.W.iter_listW (A := X.A.in1) (I.ok.hd hc) hl.isList fun s₂ e W st hfp hw hk => ?_)
  refine ⟨_, _, _, _, _, _, _, s.heap, (fun i j => SrtO.lexB ((p :: ps).getD i (0, 0)) ((p :: ps).getD j (0, 0))), rfl, W, st, hfp, by omega, hw, hk, fun i j vi vj s' Q' E' hkeep hi hj hQ => ?_, fun v s' hP m => ?_⟩
  · have one : ∀ (i : Nat) (v : Value), its.toArray[i]? = some v → ∃ t its2, v = .ref t ∧ IsTup s.heap t (its2 : List Value).toArray ∧ IntsAre its2 [((p :: ps).getD i (0, 0)).1, ((p :: ps).getD i (0, 0)).2] := fun i v hv => by
      obtain ⟨x, e1, e2⟩ := vals_at rv i v (by simpa using hv)
      have hi : i < xs.length := (List.getElem?_eq_some_iff.1 e1).1
      have e3 : (p :: ps)[i]? = some ((p :: ps).getD i (0, 0)) := by
        rw [List.getD_eq_getElem?_getD, List.getElem?_eq_getElem (by omega)]; rfl
      obtain ⟨t, rfl, ht⟩ := hx i x _ e1 e3
      obtain rfl : v = Value.ref t := e2
      obtain ⟨its2, r2, h2, _⟩ := I.tuple ht
      obtain ⟨u1, u2, rfl, ri, rj⟩ := vals2 r2
      obtain ⟨t1, rfl⟩ := ri
      obtain ⟨t2, rfl⟩ := rj
      exact ⟨t, _, rfl, h2, .cons _ _ (.cons _ _ .nil)⟩
    obtain ⟨t1, i1, rfl, h1, n1⟩ := one i vi hi
    obtain ⟨t2, i2, rfl, h2, n2⟩ := one j vj hj
    have k1 : IsTup s'.heap t1 i1.toArray := by obtain ⟨o, ho, r⟩ := h1; exact ⟨o, hkeep _ _ ho, r⟩
    have k2 : IsTup s'.heap t2 i2.toArray := by obtain ⟨o, ho, r⟩ := h2; exact ⟨o, hkeep _ _ ho, r⟩
    refine HT.lt_tupInts k1 k2 n1 n2 (by show X.A.units + 1 < cLine; exact hu) ?_
    rw [lexLt2]
    exact hQ
  · obtain ⟨h', tk, rfl, hk'⟩ := PySem.W.moved_old e rfl m
    have e1 : its.toArray.size - 1 = ps.length := by omega
    have fd := PySem.W.argBest_fold SrtO.lexB (0, 0) p ps ps.length (Nat.le_refl _)
    rw [List.take_length] at fd
    rw [e1] at hP
    generalize argBest (fun i j => SrtO.lexB ((p :: ps).getD i (0, 0)) ((p :: ps).getD j (0, 0))) ps.length = b at fd hP
    obtain ⟨x, e2, e3⟩ := vals_at rv b v (by simpa using hP)
    refine ⟨x, H, I.kept (t' := tk) hk', e3, q b x e2 ?_⟩
    rw [show minP p ps = _ from fd.2.symm, List.getD_eq_getElem?_getD, List.getElem?_eq_getElem (by rw [List.length_cons]; omega)]
    rfl
def fMinP : List D → Option (D × Bool)
  | [.lst ds] => match prsOf ds with
    | some (p :: ps) => some (prD (minP p ps), false)
    | _ => none
  | _ => none
theorem ok_minP {K : PySem.W.Frag} : BiOk K fMinP (rMinP K) := fun ω F σ H s xs z b vs Q sr hx e p => by
  unfold fMinP at e
  split at e
  · rename_i ds
    split at e
    · rename_i p0 ps e1
      cases e
      obtain ⟨v, rfl, hv⟩ := hx.one
      rw [prsOf_is e1] at hv
      unfold Rp at hv
      obtain ⟨a, ys, rfl, h1, h2⟩ := hv
      have hl := h2.len
      rw [List.length_map] at hl
      refine ⟨a, ys, p0, ps, rfl, SqL.of (sr.sub _ _ h1), by omega, fun i x q g1 g2 => ?_, fun i x g1 g2 => ?_⟩
      · obtain ⟨w, w1, w2⟩ := h2.get (i := i) (d := prD q) (by rw [List.getElem?_map, g2]; rfl)
        rw [g1] at w1; cases w1
        unfold prD Rp at w2
        obtain ⟨t, us, rfl, h3, h4⟩ := w2
        obtain ⟨u1, u2, rfl, k1, k2⟩ := RpL.two h4
        unfold Rp at k1 k2
        subst k1 k2
        exact ⟨t, rfl, sqt_mono sr.sub h3⟩
      · obtain ⟨w, w1, w2⟩ := h2.get (i := i) (d := prD (minP p0 ps)) (by rw [List.getElem?_map, g2]; rfl)
        rw [g1] at w1; cases w1
        exact sr.here (b := false) (by show Rp _ _ _ _ _; exact w2) p
    · cases e
  · cases e
/-! dicts with whole numbers as keys -/
def keysI : List (Key × D) → Option (List Int)
  | [] => some []
  | (.inl i, _) :: ks => (keysI ks).map (i :: ·)
  | (.inr _, _) :: _ => none
theorem keysI_is : ∀ {ks : List (Key × D)} {is : List Int}, keysI ks = some is → ks.map (·.1) = is.map Sum.inl
  | [], is, h => by cases h; rfl
  | (.inl i, _) :: ks, is, h => by
    unfold keysI at h
    obtain ⟨js, e, h⟩ := map2 h
    cases h
    rw [List.map_cons, keysI_is e]; rfl
  | (.inr _, _) :: ks, is, h => by cases h
def fSortedD : List D → Option (D × Bool)
  | [.dic ks] => (keysI ks).bind fun is => if is.length < 64 then some (.lst ((srt is).map .int), true) else none
  | _ => none
theorem rpk_keys {K : PySem.W.Frag} {P : Option Addr} {F : Hp} {xs : List (Key × V)} {ks : List (Key × D)} (h : RpK K P F ks xs) : xs.map (·.1) = ks.map (·.1) := by
  have hl := rpk_len h
  refine List.ext_getElem? fun i => ?_
  rw [List.getElem?_map, List.getElem?_map]
  cases e : xs[i]? with
  | none => rw [List.getElem?_eq_none (by have := List.getElem?_eq_none_iff.1 e; omega)]; rfl
  | some kv =>
    obtain ⟨d1, g1, g2⟩ := rpk_get (k := kv.1) (v := kv.2) h e
    rw [g1]; rfl
def rSortedD : List V → Hp → VK → Prop := fun xs H Q => ∃ (a : Addr) (kvs : List (Key × V)) (ks : List Int), xs = [.ref a] ∧ Rd H a (.dK kvs) ∧ kvs.map (·.1) = ks.map Sum.inl ∧ ks.length < 64 ∧
    ∀ (ys : List Int) (p : Addr), ys.Perm ks → ys.Pairwise (· ≤ ·) → H p = none → Q (.ref p) (upd H p (.lst (ys.map V.int)))
theorem cr_sortedD {X : Cx} (hc : X.calm = true) : CallR X (.builtin "sorted") rSortedD := call_sortedDI hc
theorem ok_sortedD {K : PySem.W.Frag} : BiOk K fSortedD rSortedD := fun ω F σ H s xs z b vs Q sr hx e p => by
  unfold fSortedD at e
  split at e
  · rename_i ks
    obtain ⟨is, e1, e⟩ := bind2 e
    split at e
    · rename_i h64
      cases e
      obtain ⟨v, rfl, hv⟩ := hx.one
      unfold Rp at hv
      obtain ⟨a, ys, rfl, hR, h2⟩ := hv
      refine ⟨a, ys, is, rfl, rd_mono sr.sub hR, (rpk_keys h2).trans (keysI_is e1), h64, fun zs q0 hp ho hq => ?_⟩
      have ez : zs = srt is := srt_uniq hp ho
      rw [ez]
      exact sr.newL hq (RpL.ofInts _) p
    · cases e
  · cases e
end Rb

namespace Rb
open PySem PySem.Spec PyProof.Rows L2
/-! ### len of a dict; x in what a slot holds alone; range with a step -/
def rLenD : List V → Hp → VK → Prop := fun xs H Q => ∃ (a : Addr) (kvs : List (Key × V)), xs = [.ref a] ∧ Rd H a (.dK kvs) ∧ Q (.int kvs.length) H
theorem cr_lenD {X : Cx} : CallR X (.builtin "len") rLenD := by
  intro pins s σ H xs us Q I r h
  obtain ⟨a, kvs, rfl, hd, q⟩ := h
  obtain ⟨u, rfl, ru⟩ := vals1 r
  obtain rfl : u = Value.ref a := ru
  exact d_len I hd fun t s' I' => ⟨.int _, H, I', ⟨_, rfl⟩, q⟩
def fLenD : List D → Option (D × Bool)
  | [.dic ks] => some (.int ks.length, false)
  | _ => none
theorem ok_lenD {K : PySem.W.Frag} : BiOk K fLenD rLenD := fun ω F σ H s xs z b vs Q sr hx e p => by
  unfold fLenD at e
  split at e
  · rename_i ks
    cases e
    obtain ⟨v, rfl, hv⟩ := hx.one
    unfold Rp at hv
    obtain ⟨a, ys, rfl, hR, h2⟩ := hv
    exact ⟨a, ys, rfl, rd_mono sr.sub hR, sr.here (b := false) (by show Rp _ _ _ _ _; unfold Rp; rw [rpk_len h2]) p⟩
  · cases e
def cNotInV (i : Nat) (c : SE) : SE := fun s => match s.r[i]? with
  | some (.own (.dic _)) => (c s).bind fun p => match p.2.r[i]?, keyOf p.1.1 with
    | some (.own (.dic ks)), some k => some ((.bl (!(valD ks k).isSome), false), p.2)
    | _, _ => none
  | _ => none
theorem p_notinV {X : Cx} {i : Nat} {x : Str} {pn : Pos} {a : Expr} {c : SE} {pos : Pos} (hu : X.A.units + 1 < cLine) (ha : PE X a (rd X.K c)) (hv : PE X (.Name x pn) (tVar i)) (hm : behindInMarks .NotIn (.Name x pn) = false) : PE X (.Compare a [.NotIn] [.Name x pn] pos) (rd X.K (cNotInV i c)) :=
  (pe_cmp (pc_dnotin hu ha hv) hm).imp fun σ H Q hw => by
    obtain ⟨ω, F, s, d, b, s', sr, h, p⟩ := hw
    unfold cNotInV at h
    split at h
    · rename_i ks0 h0
      obtain ⟨⟨⟨d1, b1⟩, s1⟩, e1, h⟩ := bind2 h
      dsimp only at h
      split at h
      · rename_i ks k h1 hk1
        cases h
        refine rd_use sr e1 fun v F1 H1 x1 r1 hv => ?_
        obtain ⟨a', ys, hσ', hH', hr'⟩ := r1.ownD h1
        refine ⟨_, hσ', a', valV ys k, rfl, .inl ⟨ys, k, .inl hH', keyOf_rp hv hk1, rfl⟩, r1.here (b := false) ?_ (p.mono x1)⟩
        show Rp _ _ _ _ _
        unfold Rp
        rcases hr'.val k with ⟨g1, g2⟩ | ⟨d, w, g1, g2, _⟩ <;> rw [g1, g2] <;> rfl
      · cases h
    · cases h
/-! range with any step -/
def stpL (i c : Int) (n : Nat) : List D := (List.range n).map fun k => .int (i + (k : Nat) * c)
theorem stpL_len (i c : Int) (n : Nat) : (stpL i c n).length = n := by simp [stpL]
theorem stpL_get {i c : Int} {n k : Nat} {d : D} (h : (stpL i c n)[k]? = some d) : k < n ∧ d = .int (i + (k : Nat) * c) := by
  unfold stpL at h
  rw [List.getElem?_map] at h
  by_cases q : k < n
  · rw [List.getElem?_range q] at h
    exact ⟨q, (Option.some.inj h).symm⟩
  · rw [List.getElem?_eq_none (by simp; omega)] at h
    cases h
theorem walkD_stp {K : PySem.W.Frag} {P : Option Addr} {F : Hp} {i c : Int} {n : Nat} : WalkD K P F (stpL i c n) (Itc i c n) := by
  refine ⟨_, _, by rw [stpL_len]; exact walk_rangeC (lo := i) (c := c) (n := n), fun _ _ _ _ => True.intro, fun ω k d x F' σ H H' s hP hd e1 sr hy => ?_⟩
  obtain ⟨rfl, hx⟩ := hy
  obtain ⟨_, rfl⟩ := stpL_get hd
  exact ⟨F', Ex.refl _, sr, by unfold Rp; exact hx⟩
def iRgC (t : SA) : SI := fun s => (t s).bind fun p => match p.1 with
  | [.int i, .int j, .int c] => if decide (c ≠ 0) && decide (c.natAbs < 1073741824) && Builtin.Range.small i j c then some (stpL i c (Builtin.Range.rangeSize i j c).toNat, p.2) else none
  | _ => none
theorem i_rgC {X : Cx} {tg a b c : Expr} {t : SA} {p pos : Pos} (hg : Gl X "range") (hm : X.mg "range" = none) (ha : PA X [a, b, c] (rdA X.K t))
    (hs : starEach [a, b, c] X.env = (false, eval a X.env) :: starEach [b, c] X.env := by rfl) (hpl : (backTo pos (starEach [b, c] X.env)).any (·.1) = false := by rfl) :
    PI X tg (.Call (.Name "range" p) [a, b, c] [] pos) (rdI X.K (iRgC t)) :=
  (pi_range3 hg hm ha hs hpl).imp fun σ H R ⟨ω, F, s, ds, s', sr, h, q⟩ => by
    unfold iRgC at h
    obtain ⟨⟨l, s1⟩, e1, h⟩ := bind2 h
    dsimp only at h
    split at h
    · rename_i i j c
      split at h
      · rename_i hz
        cases h
        rw [Bool.and_eq_true, Bool.and_eq_true] at hz
        obtain ⟨⟨h1, h2⟩, h3⟩ := hz
        refine rdA_use sr e1 fun vs F1 H1 x1 r1 hv => ?_
        unfold RpL at hv
        obtain ⟨v1, r2, rfl, g1, hv⟩ := hv
        obtain ⟨v2, v3, rfl, g2, g3⟩ := RpL.two hv
        unfold Rp at g1 g2 g3
        subst g1 g2 g3
        exact ⟨i, j, c, _, rfl, ⟨of_decide_eq_true h1, of_decide_eq_true h2, h3, PyProof.Rows.rangeSize_toNat i j c⟩, q _ F1 H1 x1 r1 walkD_stp⟩
      · cases h
    · cases h
end Rb

namespace Rb
open PySem PySem.Spec PyProof.Rows L2
/-! ### {(i, j): k, ..}[a, b] -/
section
variable {X : Cx} {pins : List (Addr × Obj)} {σ : L2.St} {H : Hp} {s : Shared} {a b : Addr} {v : V} {r : Value} {A : Around} {E : Value → Shared → Prop}
theorem d_setT {kvs : List (List Key × V)} {k : List Key} {Q : Unit → Shared → Prop} (hu : A.units < cLine) (I : Inv X pins σ H s) (e : H a = some (.dT kvs)) (eb : H b = some (.tup (k.map kV))) (l : kvs.length < sizeLine) (rv : RelV v r) (h : ∀ s', Inv X pins σ (upd H a (.dT (putK kvs k v))) s' → Q () s') :
    wpAny (model X.prog X.w) A (dictSet a (.ref b) r) Q E s := by
  obtain ⟨z, hd, xs, rel, dd⟩ := dt_of I.hok e
  have hz : xs.length ≤ sizeLine := by rw [← Paired.length rel]; exact z
  have hl : (putK kvs k v).length ≤ sizeLine := by have := length_putK kvs k v; omega
  refine wpAny_dictSet_heap (knd := tupleKind (mixKind X.prog X.w)) (hsz := hz) hu (key_of I.hok eb) dd fun h' dd' hs => h _ ?_
  obtain ⟨q, es, ep, hq, h2, h3, h4, _, h5⟩ := dd'
  refine d_write I (by rw [e]; exact True.intro) hs ⟨q, hq⟩ ⟨hl, hd, _, (rel.put k eb rv).keeps fun c ys ec => ?_, q, es, ep, hq, h2, h3, h4, h5⟩
  rw [upd_ne (ne_of ec e (fun z => nomatch z))]
  exact ec
/-- what a display of such pairs holds -/
def KTs (H : Hp) : List (V × V) → List (List Key × V) → Prop := Paired fun p q => ∃ b, p.1 = .ref b ∧ H b = some (.tup (q.1.map kV)) ∧ p.2 = q.2
def mergeT (kvs more : List (List Key × V)) : List (List Key × V) := more.foldl (fun acc kv => putK acc kv.1 kv.2) kvs
theorem upd_upd (H : Hp) (a : Addr) (o o' : HO) : upd (upd H a o) a o' = upd H a o' := by
  funext c
  by_cases q : c = a
  · subst q; rw [upd_same, upd_same]
  · rw [upd_ne q, upd_ne q, upd_ne q]
theorem KTs.upd' {H : Hp} {a : Addr} {kvs kvs' : List (List Key × V)} {ps : List (V × V)} {es : List (List Key × V)} (e : H a = some (.dT kvs)) (h : KTs H ps es) : KTs (upd H a (.dT kvs')) ps es := by
  unfold KTs at h ⊢
  induction h with
  | nil => exact .nil
  | cons h t ih =>
    obtain ⟨b, e1, e2, e3⟩ := h
    refine .cons ⟨b, e1, ?_, e3⟩ ih
    rw [upd_ne (fun z => by subst z; rw [e] at e2; cases e2)]
    exact e2
theorem storeT (hu : A.units < cLine) : ∀ (ps : List (V × V)) (vs : List (Value × Value)) (es kvs : List (List Key × V)) (H : Hp) (s : Shared) (Q : PUnit → Shared → Prop), VV ps vs → KTs H ps es → Inv X pins σ H s → H a = some (.dT kvs) → kvs.length + es.length ≤ 15 →
    (∀ s', Inv X pins σ (upd H a (.dT (mergeT kvs es))) s' → Q PUnit.unit s') →
    wpAny (model X.prog X.w) A (forIn vs PUnit.unit fun (x : Value × Value) (_ : PUnit) => (do dictSet a x.1 x.2; pure (ForInStep.yield PUnit.unit) : Sem (ForInStep PUnit))) Q E s
  | [], vs, es, kvs, H, s, Q, rv, hk, I, e, hz, hQ => by
    cases rv
    cases hk
    rw [List.forIn_nil]
    refine wpAny_pure (hQ s ?_)
    have : upd H a (.dT (mergeT kvs [])) = H := by
      funext c
      by_cases q : c = a
      · subst q; rw [upd_same, e]; rfl
      · rw [upd_ne q]
    rw [this]; exact I
  | p :: ps, vs, es, kvs, H, s, Q, rv, hk, I, e, hz, hQ => by
    cases rv with
    | @cons _ q1 _ vs' r1 rt =>
      cases hk with
      | @cons _ q2 _ es' k1 kt =>
        obtain ⟨b, e1, e2, e3⟩ := k1
        obtain ⟨f1, f2⟩ := r1
        rw [List.length_cons] at hz
        rw [e1] at f1
        rw [e3] at f2
        rw [List.forIn_cons]
        obtain ⟨qa, qb⟩ := q1
        obtain rfl : qa = Value.ref b := f1
        refine wpAny_bind (wpAny_bind (d_setT hu I e e2 (by rw [sizeLine_eq]; omega) f2 fun s' I' => wpAny_pure ?_))
        have hl : (putK kvs q2.1 q2.2).length ≤ kvs.length + 1 := length_putK ..
        refine storeT hu ps vs' es' (putK kvs q2.1 q2.2) _ s' Q rt (KTs.upd' e kt) I' upd_same (by omega) fun s'' I'' => hQ s'' ?_
        rw [upd_upd] at I''
        exact I''
end
def tDispT (trs : List (TE × TE)) : TE := fun σ H Q => ∀ p, H p = none → tPairs trs σ (upd H p (.dT [])) fun ps H2 => H2 p = some (.dT []) ∧ ∃ es : List (List Key × V), KTs H2 ps es ∧ es.length ≤ 15 ∧ Q (.ref p) (upd H2 p (.dT (mergeT [] es)))
theorem pe_dispT {X : Cx} {pos : Pos} {keys : List (Option Expr)} {values : List Expr} {trs : List (TE × TE)} (hu : X.A.units < cLine) (h : PPs X pos keys values trs) (hall : keys.all (·.isSome) = true) (hl : keys.length = values.length) (h0 : keys ≠ [])
    (h15 : keys.length ≤ 15) : PE X (.Dict keys values pos) (tDispT trs) := by
  refine ⟨fun pins s σ H Q I q => ?_⟩
  have hn := I.hok.fresh (Nat.le_refl s.heap.objs.size)
  have I1 := I.laid (a := s.heap.objs.size) (o := .dT []) (h' := s.heap.push { cls := .type "dict", data := .dict #[] }) (t' := s.toks) (fun _ _ q => Heap.get?_push_of_some _ q) (Nat.le_refl _) (dt_empty s.heap I.big)
  have hn2 := pairTrees_length keys values X.env pos hall hl
  rw [arm_eval_Dict, zip_pairTrees keys values X.env pos hall hl, dictDisplay_pairs (pairTrees keys values X.env pos) (fun he => by rw [he] at hn2; exact h0 (List.length_eq_zero_iff.mp hn2.symm)) (by rw [hn2]; omega)]
  refine wpAny_bind (wpAny_standAt (wpAny_bind ?_))
  unfold subDict
  refine wpAny_bind (wpAny_alloc ?_)
  refine wpAny_bind (wpAny_holding ?_)
  rw [if_pos (by rw [hn2]; exact h15)]
  refine wpAny_bind (thn (h.run pins _ σ _ _ I1 (q _ hn)) fun ws s2 ⟨ps, H2, I2, rel, e, es, ek, lk, q2⟩ => ?_)
  refine wpAny_holding ?_
  refine wpAny_bind (storeT hu ps ws es [] H2 s2 _ rel ek I2 e (by simpa using lk) fun s' I' => wpAny_pure (wpAny_pure ?_))
  exact wpAny_pure ⟨.ref s.heap.objs.size, _, I', rfl, q2⟩
abbrev Ent := (Int × Int) × Int × SA
def trsOf (K : PySem.W.Frag) (es : List Ent) : List (TE × TE) := es.map fun e => (tTup (rdA K e.2.2), rd K (cD (.int e.2.1)))
def esT (es : List Ent) : List (List Key × V) := es.map fun e => ([.inl e.1.1, .inl e.1.2], V.int e.2.1)
theorem pairs_go {K : PySem.W.Frag} {ω : Wd} {σ : L2.St} {s : S} : ∀ (es : List Ent), (∀ e ∈ es, ∀ s, e.2.2 s = some ([.int e.1.1, .int e.1.2], s)) → ∀ (F H : Hp) (R : List (V × V) → Hp → Prop), Sr K ω F σ H s →
    (∀ ps F' H', Ex F F' → Sr K ω F' σ H' s → KTs F' ps (esT es) → R ps H') → tPairs (trsOf K es) σ H R
  | [], _, F, H, R, r, q => q [] F H (Ex.refl _) r .nil
  | e :: es, h, F, H, R, r, q => by
    show tTup (rdA K e.2.2) σ H fun x H1 => rd K (cD (.int e.2.1)) σ H1 fun y H2 => tPairs (trsOf K es) σ H2 fun ps H3 => R ((x, y) :: ps) H3
    refine rdA_use r (h e (.head _) s) fun vs F1 H1 x1 r1 hv => ?_
    obtain ⟨v, w, rfl, h1, h2⟩ := RpL.two hv
    unfold Rp at h1 h2
    subst h1 h2
    refine ⟨by rw [sizeLine_eq]; simp, fun p hp => ?_⟩
    have r2 := r1.alloc (o := .tup [.int e.1.1, .int e.1.2]) hp
    have x2 : Ex F1 (upd F1 p (.tup [.int e.1.1, .int e.1.2])) := Ex.new (r1.sub.none hp)
    refine rd_use (d := .int e.2.1) (b := false) r2 rfl fun y F3 H3 x3 r3 hy => ?_
    unfold Rp at hy
    subst hy
    refine pairs_go es (fun e' he => h e' (.tail _ he)) F3 H3 _ r3 fun ps F4 H4 x4 r4 k => ?_
    exact q _ F4 H4 (((x1.trans x2).trans x3).trans x4) r4 (.cons ⟨p, rfl, (x3.trans x4) p _ upd_same, rfl⟩ k)
def wayL (es : List Ent) (i j : Int) : Option Int := match valV (mergeT [] (esT es)) [.inl i, .inl j] with
  | some (.int v) => some v
  | _ => none
def cWay (es : List Ent) (ca cb : SE) : SE := fun s => (ca s).bind fun p => (cb p.2).bind fun q => match p.1.1, q.1.1 with
  | .int i, .int j => (wayL es i j).map fun v => ((.int v, false), q.2)
  | _, _ => none
theorem KTs.mono {H H' : Hp} {ps : List (V × V)} {es : List (List Key × V)} (x : Ex H H') (h : KTs H ps es) : KTs H' ps es := by
  unfold KTs at h ⊢
  induction h with
  | nil => exact .nil
  | cons h t ih =>
    obtain ⟨b, e1, e2, e3⟩ := h
    exact .cons ⟨b, e1, x b _ e2, e3⟩ ih
theorem p_way {X : Cx} {keys : List (Option Expr)} {values : List Expr} {a b : Expr} {ca cb : SE} {x1} {pos tpos spos : Pos} (es : List Ent) (hu : X.A.units + 1 < cLine) (hp : PPs X pos keys values (trsOf X.K es)) (he : ∀ e ∈ es, ∀ s, e.2.2 s = some ([.int e.1.1, .int e.1.2], s))
    (ha : PA X [a, b] (rdA X.K (aCons ca (aCons cb aNil)))) (hall : keys.all (·.isSome) = true) (hl : keys.length = values.length) (h0 : keys ≠ []) (h15 : keys.length ≤ 15) (hes : es.length ≤ 15) (hs : NoSl (.Tuple [a, b] x1 tpos)) :
    PE X (.Subscript (.Dict keys values pos) (.Tuple [a, b] x1 tpos) spos) (rd X.K (cWay es ca cb)) :=
  (pe_dget hu (pe_dispT (by omega) hp hall hl h0 h15) (pe_tup ha) hs).imp fun σ H Q hw => by
    obtain ⟨ω, F, s, d, b, s', sr, h, p⟩ := hw
    unfold cWay at h
    obtain ⟨⟨⟨d1, b1⟩, s1⟩, e1, h⟩ := bind2 h
    obtain ⟨⟨⟨d2, b2⟩, s2⟩, e2, h⟩ := bind2 h
    dsimp only at h e2
    split at h
    · rename_i i j _
      obtain ⟨v, ev, h⟩ := map2 h
      cases h
      have eA : (aCons ca (aCons cb aNil)) s = some ([.int i, .int j], s') := by
        simp only [aCons, aNil, e1, e2, Option.bind_some, Option.map_some]
      have hv : valV (mergeT [] (esT es)) [.inl i, .inl j] = some (V.int v) := by
        unfold wayL at ev
        split at ev
        · rename_i w hw
          cases ev
          exact hw
        · cases ev
      show tDispT (trsOf X.K es) σ H fun x H1 => tTup (rdA X.K (aCons ca (aCons cb aNil))) σ H1 fun y H2 => ∃ a v, x = .ref a ∧ DGet H2 a y (some v) ∧ Q v H2
      intro p0 hp0
      have hF0 : F p0 = none := sr.sub.none hp0
      have h00 := sr.h0 hp0
      have hP := sr.pt.ne hp0
      have nO : ¬ Owned σ s p0 := fun z => by
        obtain ⟨⟨o, q⟩, _⟩ := sr.ownAt z
        rw [hp0] at q; cases q
      have r1 := sr.allocN (o := .dT []) hp0
      refine pairs_go es he F _ _ r1.prot fun ps F2 H2 x2 r2' k => ?_
      obtain ⟨hD, hF, hO⟩ := r1.kept r2' p0 _ hP nO upd_same
      have r2 := r1.unprot r2'
      refine ⟨hD, esT es, k.mono r2.sub, by simpa [esT] using hes, ?_⟩
      have r3 := r2.other (o := .dT (mergeT [] (esT es))) (hF hF0) hO h00 hP
      refine rdA_use r3.prot eA fun vs F4 H4 x4 r4' hv4 => ?_
      obtain ⟨hD4, hF4, hO4⟩ := r3.kept r4' p0 _ hP hO upd_same
      have r4 := r3.unprot r4'
      obtain ⟨v1, v2, rfl, g1, g2⟩ := RpL.two hv4
      unfold Rp at g1 g2
      subst g1 g2
      refine ⟨by rw [sizeLine_eq]; simp, fun q hq => ?_⟩
      have hne : p0 ≠ q := fun z => by subst z; rw [hD4] at hq; cases hq
      refine ⟨p0, .int v, rfl, .inr ⟨_, [.inl i, .inl j], q, .inl (by rw [upd_ne hne]; exact hD4), rfl, upd_same, hv.symm⟩, ?_⟩
      exact (r4.alloc (o := .tup [.int i, .int j]) hq).here (b := false) (d := .int v) (by show Rp _ _ _ _ _; unfold Rp; rfl) (p.mono ((x2.trans x4).trans (Ex.new (r4.sub.none hq))))
    · cases h
end Rb

namespace Rb
open PySem PySem.Spec PyProof.Rows L2
/-! ### x in y, x not in y as tests -/
theorem PT.two {X : Cx} {e : Expr} {t t' : TT} (h : PT X e t) (h' : PT X e t') : PT X e (fun σ H Q => t σ H Q ∨ t' σ H Q) := ⟨fun pins s σ H Q I hw => by
  rcases hw with q | q
  · exact h.run pins s σ H Q I q
  · exact h'.run pins s σ H Q I q⟩
theorem in_use {K : PySem.W.Frag} {ea eb : SE} {σ : L2.St} {H : Hp} {Q : VK} (hw : rd K (cBin dIn ea eb) σ H Q) : tOp (rIn K false) (rd K ea) (rd K eb) σ H Q ∨ tDIn (rd K ea) (rd K eb) σ H Q := by
    obtain ⟨ω, F, s, d, b, s', sr, h, p⟩ := hw
    unfold cBin at h
    obtain ⟨⟨⟨d1, b1⟩, s1⟩, e1, h⟩ := bind2 h
    obtain ⟨⟨⟨d2, b2⟩, s2⟩, e2, h⟩ := bind2 h
    obtain ⟨z, e3, h⟩ := map2 h
    cases h
    dsimp only at e3
    unfold dIn at e3
    split at e3
    · split at e3
      · rename_i hf
        cases e3
        exact .inl (rd_use sr e1 fun v F1 H1 x1 r1 hv => rd_use r1 e2 fun u F2 H2 x2 r2 hu => ok_in_seq (neg := false) r2 (hv.mono x2) (.inl hu) hf (p.mono (x1.trans x2)))
      · cases e3
    · split at e3
      · rename_i hf
        cases e3
        exact .inl (rd_use sr e1 fun v F1 H1 x1 r1 hv => rd_use r1 e2 fun u F2 H2 x2 r2 hu => ok_in_seq (neg := false) r2 (hv.mono x2) (.inr hu) hf (p.mono (x1.trans x2)))
      · cases e3
    · rename_i ks
      obtain ⟨k, ek, e3⟩ := map2 e3
      cases e3
      refine .inr (rd_use sr e1 fun v F1 H1 x1 r1 hv => rd_use r1 e2 fun u F2 H2 x2 r2 hu => ?_)
      have hvk := keyOf_rp hv ek
      unfold Rp at hu
      obtain ⟨a, xs, rfl, h1, h2⟩ := hu
      refine ⟨a, valV xs k, rfl, .inl ⟨xs, k, rd_mono r2.sub h1, hvk, rfl⟩, r2.here (b := false) ?_ (p.mono (x1.trans x2))⟩
      show Rp _ _ _ _ _
      unfold Rp
      rcases h2.val k with ⟨g1, g2⟩ | ⟨d, w, g1, g2, _⟩ <;> rw [g1, g2] <;> rfl
    · cases e3
theorem notin_use {K : PySem.W.Frag} {ea eb : SE} {σ : L2.St} {H : Hp} {Q : VK} (hw : rd K (cBin dNotIn ea eb) σ H Q) : tOp (rIn K true) (rd K ea) (rd K eb) σ H Q ∨ tDNotIn (rd K ea) (rd K eb) σ H Q := by
    obtain ⟨ω, F, s, d, b, s', sr, h, p⟩ := hw
    unfold cBin at h
    obtain ⟨⟨⟨d1, b1⟩, s1⟩, e1, h⟩ := bind2 h
    obtain ⟨⟨⟨d2, b2⟩, s2⟩, e2, h⟩ := bind2 h
    obtain ⟨z, e3, h⟩ := map2 h
    cases h
    dsimp only at e3
    unfold dNotIn at e3
    split at e3
    · split at e3
      · rename_i hf
        cases e3
        exact .inl (rd_use sr e1 fun v F1 H1 x1 r1 hv => rd_use r1 e2 fun u F2 H2 x2 r2 hu => ok_in_seq (neg := true) r2 (hv.mono x2) (.inl hu) hf (p.mono (x1.trans x2)))
      · cases e3
    · split at e3
      · rename_i hf
        cases e3
        exact .inl (rd_use sr e1 fun v F1 H1 x1 r1 hv => rd_use r1 e2 fun u F2 H2 x2 r2 hu => ok_in_seq (neg := true) r2 (hv.mono x2) (.inr hu) hf (p.mono (x1.trans x2)))
      · cases e3
    · rename_i ks
      obtain ⟨k, ek, e3⟩ := map2 e3
      cases e3
      refine .inr (rd_use sr e1 fun v F1 H1 x1 r1 hv => rd_use r1 e2 fun u F2 H2 x2 r2 hu => ?_)
      have hvk := keyOf_rp hv ek
      unfold Rp at hu
      obtain ⟨a, xs, rfl, h1, h2⟩ := hu
      refine ⟨a, valV xs k, rfl, .inl ⟨xs, k, rd_mono r2.sub h1, hvk, rfl⟩, r2.here (b := false) ?_ (p.mono (x1.trans x2))⟩
      show Rp _ _ _ _ _
      unfold Rp
      rcases h2.val k with ⟨g1, g2⟩ | ⟨d, w, g1, g2, _⟩ <;> rw [g1, g2] <;> rfl
    · cases e3
theorem t_in {X : Cx} {a b : Expr} {ea eb : SE} {pos : Pos} (hu : X.A.units + 1 < cLine) (ha : PE X a (rd X.K ea)) (hb : PE X b (rd X.K eb)) (hm : behindInMarks .In b = false) : PT X (.Compare a [.In] [b] pos) (rdT X.K (bT (cBin dIn ea eb))) :=
  (PT.two (pt_cmpR op_in_seq ha hb hm) (pt_cmp (pc_din hu ha hb) hm)).imp fun σ H Q hw => in_use (bT_use hw)
theorem t_notin {X : Cx} {a b : Expr} {ea eb : SE} {pos : Pos} (hu : X.A.units + 1 < cLine) (ha : PE X a (rd X.K ea)) (hb : PE X b (rd X.K eb)) (hm : behindInMarks .NotIn b = false) : PT X (.Compare a [.NotIn] [b] pos) (rdT X.K (bT (cBin dNotIn ea eb))) :=
  (PT.two (pt_cmpR op_notIn_seq ha hb hm) (pt_cmp (pc_dnotin hu ha hb) hm)).imp fun σ H Q hw => notin_use (bT_use hw)
theorem t_notinV {X : Cx} {i : Nat} {x : Str} {pn : Pos} {a : Expr} {c : SE} {pos : Pos} (hu : X.A.units + 1 < cLine) (ha : PE X a (rd X.K c)) (hv : PE X (.Name x pn) (tVar i)) (hm : behindInMarks .NotIn (.Name x pn) = false) : PT X (.Compare a [.NotIn] [.Name x pn] pos) (rdT X.K (bT (cNotInV i c))) :=
  (pt_cmp (pc_dnotin hu ha hv) hm).imp fun σ H Q hw => by
    obtain ⟨ω, F, s, d, b, s', sr, h, p⟩ := bT_use hw
    unfold cNotInV at h
    split at h
    · rename_i ks0 h0
      obtain ⟨⟨⟨d1, b1⟩, s1⟩, e1, h⟩ := bind2 h
      dsimp only at h
      split at h
      · rename_i ks k h1 hk1
        cases h
        refine rd_use sr e1 fun v F1 H1 x1 r1 hv => ?_
        obtain ⟨a', ys, hσ', hH', hr'⟩ := r1.ownD h1
        refine ⟨_, hσ', a', valV ys k, rfl, .inl ⟨ys, k, .inl hH', keyOf_rp hv hk1, rfl⟩, r1.here (b := false) ?_ (p.mono x1)⟩
        show Rp _ _ _ _ _
        unfold Rp
        rcases hr'.val k with ⟨g1, g2⟩ | ⟨d, w, g1, g2, _⟩ <;> rw [g1, g2] <;> rfl
      · cases h
    · cases h
end Rb

namespace Lk11
open PySem PySem.Spec PyProof.Rows L2 Rb

def topS (i : Nat) : Stmt := PySem.Challenge.pw_reachedbyturns_k11_whole_reach_turned_an.main.body.getD i (.Pass ⟨0, 0, 0, 0⟩)

structure G (K : PySem.W.Frag) (mg : Str → Option Value) : Prop where
  b_isinstance : mg "isinstance" = none
  b_int : mg "int" = none
  b_bool : mg "bool" = none
  b_tuple : mg "tuple" = none
  b_all : mg "all" = none
  b_len : mg "len" = none
  b_zip : mg "zip" = none
  b_sorted : mg "sorted" = none
  b_range : mg "range" = none
  b_sum : mg "sum" = none
  b_abs : mg "abs" = none
  b_min : mg "min" = none
  b_max : mg "max" = none
  b_list : mg "list" = none
  b_any : mg "any" = none
  c_MOST_ROD : ∃ u v, mg "MOST_ROD" = some u ∧ RelV v u ∧ ∀ P F, Rp K P F (.int 60) v
  c_MOST_RODS : ∃ u v, mg "MOST_RODS" = some u ∧ RelV v u ∧ ∀ P F, Rp K P F (.int 12) v
  c_FOUR : ∃ u v, mg "FOUR" = some u ∧ RelV v u ∧ ∀ P F, Rp K P F (.int 4) v
  c_MOST_PLACE : ∃ u v, mg "MOST_PLACE" = some u ∧ RelV v u ∧ ∀ P F, Rp K P F (.int 10000) v
  c_WAYS : ∃ u v, mg "WAYS" = some u ∧ RelV v u ∧ ∀ P F, Rp K P F (.tup [(.tup [(.int 1), (.int 0)]), (.tup [(.int 0), (.int 1)]), (.tup [(.int (-1)), (.int 0)]), (.tup [(.int 0), (.int (-1))])]) v
  c_THREE : ∃ u v, mg "THREE" = some u ∧ RelV v u ∧ ∀ P F, Rp K P F (.int 3) v
  c_POSE : ∃ u v, mg "POSE" = some u ∧ RelV v u ∧ ∀ P F, Rp K P F (.str "pose") v
  c_ODD : ∃ u v, mg "ODD" = some u ∧ RelV v u ∧ ∀ P F, Rp K P F (.str "odd") v
  c_FAR : ∃ u v, mg "FAR" = some u ∧ RelV v u ∧ ∀ P F, Rp K P F (.str "far") v
  c_SUM : ∃ u v, mg "SUM" = some u ∧ RelV v u ∧ ∀ P F, Rp K P F (.str "sum") v
  c_DIFFERENCE : ∃ u v, mg "DIFFERENCE" = some u ∧ RelV v u ∧ ∀ P F, Rp K P F (.str "difference") v
  c_SUMS : ∃ u v, mg "SUMS" = some u ∧ RelV v u ∧ ∀ P F, Rp K P F (.str "sums") v
  c_SAME : ∃ u v, mg "SAME" = some u ∧ RelV v u ∧ ∀ P F, Rp K P F (.str "same") v
  c_FULL : ∃ u v, mg "FULL" = some u ∧ RelV v u ∧ ∀ P F, Rp K P F (.str "full") v
  c_GAP : ∃ u v, mg "GAP" = some u ∧ RelV v u ∧ ∀ P F, Rp K P F (.str "gap") v

section
variable {P : Program} {w : World} {K : PySem.W.Frag} {mg : Str → Option Value} {base : Heap}

abbrev N_is_int : List Str := ["value", "low", "high"]
theorem sc_is_int : FnScope N_is_int ["value", "low", "high"] (defScope (topS 6)) := ⟨rfl, rfl, rfl, by decide +kernel, rfl, by decide +kernel, by decide +kernel⟩
def c_is_int : SS :=
  (cRet (cAnd (cIsi "int" (cVar 0)) (cAnd (cNot (cIsi "bool" (cVar 0))) (cChain dLe dLe (cVar 1) (cVar 0) (cVar 2)))))
def f_is_int : Fn := runF 3 c_is_int
theorem d_is_int (g : G K mg) {f : Addr} {fd : FuncData} (hg : mg "is_int" = some (.ref f)) (F : Fun K "is_int" "is_int" (topS 6) f fd) (hb : Binds K fd ["value", "low", "high"] []) : Def P w K mg base "is_int" 1 3 f_is_int :=
  def_ok (k := 0) hg F hb sc_is_int rfl fun cdv A outer s H E hr =>
  (ss_one (s_ret (p_and (p_isi (p_var 0 (pv 0)) (by rfl) g.b_isinstance (pe_bltn (by rfl) g.b_int bt_int rfl)) (p_and (p_not (p_isi (p_var 0 (pv 0)) (by rfl) g.b_isinstance (pe_bltn (by rfl) g.b_bool bt_bool rfl))) (p_one (p_chain op_le op_le ok_B0 ok_B0 (p_var 1 (pv 1)) (p_var 0 (pv 0)) (p_var 2 (pv 2))))))))

abbrev N_are_ints : List Str := ["value", "low", "high", "one"]
theorem sc_are_ints : FnScope N_are_ints ["value", "low", "high"] (defScope (topS 7)) := ⟨rfl, rfl, rfl, by decide +kernel, rfl, by decide +kernel, by decide +kernel⟩
def c_are_ints : SS :=
  (cRet (cAnd (cIsi "tuple" (cVar 0)) (cBi fAll (aCons (cLC (iSeq (cVar 0)) (gN 3) bYes (cCall f_is_int (aCons (cVar 3) (aCons (cVar 1) (aCons (cVar 2) aNil)))) [3]) aNil))))
def f_are_ints : Fn := runF 4 c_are_ints
theorem d_are_ints (g : G K mg) (d_is_int : Def P w K mg base "is_int" 1 3 f_is_int) {f : Addr} {fd : FuncData} (hg : mg "are_ints" = some (.ref f)) (F : Fun K "are_ints" "are_ints" (topS 7) f fd) (hb : Binds K fd ["value", "low", "high"] []) : Def P w K mg base "are_ints" 2 3 f_are_ints :=
  def_ok (k := 1) hg F hb sc_are_ints rfl fun cdv A outer s H E hr =>
  (ss_one (s_ret (p_and (p_isi (p_var 0 (pv 0)) (by rfl) g.b_isinstance (pe_bltn (by rfl) g.b_tuple bt_tuple rfl)) (p_one (p_bi (cr_all rfl) ok_all (by rfl) g.b_all bt_all (a_cons (p_lc (own := [("one", 3)]) rfl sc_are_ints.nd (i_seq (p_var 0 (pv 0))) (blkOk_by (by decide +kernel : blkC N_are_ints (defScope (topS 7)) _ _ = true)) (by decide) (fun _ _ _ _ _ => (g_name (i := 3) sc_are_ints.nd rfl (by first | exact Or.inl rfl | exact Or.inr rfl))) (fun _ _ _ _ _ => ts_nil) (fun _ _ _ _ _ => (p_call d_is_int hr (by decide) (by rfl) (a_cons (p_var 3 (pv 3)) (a_cons (p_var 1 (pv 1)) (a_cons (p_var 2 (pv 2)) a_nil))) (aCons_len (aCons_len (aCons_len aNil_len)))))) a_nil))))))

abbrev N_is_rods : List Str := ["value"]
theorem sc_is_rods : FnScope N_is_rods ["value"] (defScope (topS 14)) := ⟨rfl, rfl, rfl, by decide +kernel, rfl, by decide +kernel, by decide +kernel⟩
def c_is_rods : SS :=
  (cRet (cAnd (cCall f_are_ints (aCons (cVar 0) (aCons (cD (.int 1)) (aCons (cD (.int 60)) aNil)))) (cChain dLe dLe (cD (.int 1)) (cBi fLen (aCons (cVar 0) aNil)) (cD (.int 12)))))
def f_is_rods : Fn := runF 1 c_is_rods
theorem d_is_rods (g : G K mg) (d_are_ints : Def P w K mg base "are_ints" 2 3 f_are_ints) {f : Addr} {fd : FuncData} (hg : mg "is_rods" = some (.ref f)) (F : Fun K "is_rods" "is_rods" (topS 14) f fd) (hb : Binds K fd ["value"] []) : Def P w K mg base "is_rods" 3 1 f_is_rods :=
  def_ok (k := 2) hg F hb sc_is_rods rfl fun cdv A outer s H E hr =>
  (ss_one (s_ret (p_and (p_call d_are_ints hr (by decide) (by rfl) (a_cons (p_var 0 (pv 0)) (a_cons p_int (a_cons (p_gct (by rfl) g.c_MOST_ROD) a_nil))) (aCons_len (aCons_len (aCons_len aNil_len)))) (p_one (p_chain op_le op_le ok_B0 ok_B0 p_int (p_bi call_lenA ok_len (by rfl) g.b_len bt_len (a_cons (p_var 0 (pv 0)) a_nil)) (p_gct (by rfl) g.c_MOST_RODS))))))

abbrev N_look_at_rods : List Str := ["rods"]
theorem sc_look_at_rods : FnScope N_look_at_rods ["rods"] (defScope (topS 15)) := ⟨rfl, rfl, rfl, by decide +kernel, rfl, by decide +kernel, by decide +kernel⟩
def c_look_at_rods : SS :=
  (cIf (bNot (bT (cCall f_is_rods (aCons (cVar 0) aNil))))
  cNever
  cSkip)
def f_look_at_rods : Fn := runF 1 c_look_at_rods
theorem d_look_at_rods (g : G K mg) (d_is_rods : Def P w K mg base "is_rods" 3 1 f_is_rods) {f : Addr} {fd : FuncData} (hg : mg "look_at_rods" = some (.ref f)) (F : Fun K "look_at_rods" "look_at_rods" (topS 15) f fd) (hb : Binds K fd ["rods"] []) : Def P w K mg base "look_at_rods" 4 1 f_look_at_rods :=
  def_ok (k := 3) hg F hb sc_look_at_rods rfl fun cdv A outer s H E hr =>
  (ss_one (s_if (t_not (t_val (p_call d_is_rods hr (by decide) (by rfl) (a_cons (p_var 0 (pv 0)) a_nil) (aCons_len aNil_len)))) (ss_one s_never) ss_nil))

abbrev N_is_pose : List Str := ["rods", "value"]
theorem sc_is_pose : FnScope N_is_pose ["rods", "value"] (defScope (topS 16)) := ⟨rfl, rfl, rfl, by decide +kernel, rfl, by decide +kernel, by decide +kernel⟩
def c_is_pose : SS :=
  (cRet (cAnd (cCall f_are_ints (aCons (cVar 1) (aCons (cD (.int 0)) (aCons (cBin dSub (cD (.int 4)) (cD (.int 1))) aNil)))) (cBin dEq (cBi fLen (aCons (cVar 1) aNil)) (cBi fLen (aCons (cVar 0) aNil)))))
def f_is_pose : Fn := runF 2 c_is_pose
theorem d_is_pose (g : G K mg) (d_are_ints : Def P w K mg base "are_ints" 2 3 f_are_ints) {f : Addr} {fd : FuncData} (hg : mg "is_pose" = some (.ref f)) (F : Fun K "is_pose" "is_pose" (topS 16) f fd) (hb : Binds K fd ["rods", "value"] []) : Def P w K mg base "is_pose" 3 2 f_is_pose :=
  def_ok (k := 2) hg F hb sc_is_pose rfl fun cdv A outer s H E hr =>
  (ss_one (s_ret (p_and (p_call d_are_ints hr (by decide) (by rfl) (a_cons (p_var 1 (pv 1)) (a_cons p_int (a_cons (p_bin op_sub ok_sub (p_gct (by rfl) g.c_FOUR) p_int) a_nil))) (aCons_len (aCons_len (aCons_len aNil_len)))) (p_one (p_cmp (op_eqD hr.units) ok_eq (p_bi call_lenA ok_len (by rfl) g.b_len bt_len (a_cons (p_var 1 (pv 1)) a_nil)) (p_bi call_lenA ok_len (by rfl) g.b_len bt_len (a_cons (p_var 0 (pv 0)) a_nil)) (nomark _))))))

abbrev N_look_at_pose : List Str := ["rods", "pose"]
theorem sc_look_at_pose : FnScope N_look_at_pose ["rods", "pose"] (defScope (topS 17)) := ⟨rfl, rfl, rfl, by decide +kernel, rfl, by decide +kernel, by decide +kernel⟩
def c_look_at_pose : SS :=
  (cSeq (cExpr (cCall f_look_at_rods (aCons (cVar 0) aNil)))
  (cIf (bNot (bT (cCall f_is_pose (aCons (cVar 0) (aCons (cVar 1) aNil)))))
  cNever
  cSkip))
def f_look_at_pose : Fn := runF 2 c_look_at_pose
theorem d_look_at_pose (g : G K mg) (d_look_at_rods : Def P w K mg base "look_at_rods" 4 1 f_look_at_rods) (d_is_pose : Def P w K mg base "is_pose" 3 2 f_is_pose) {f : Addr} {fd : FuncData} (hg : mg "look_at_pose" = some (.ref f)) (F : Fun K "look_at_pose" "look_at_pose" (topS 17) f fd) (hb : Binds K fd ["rods", "pose"] []) : Def P w K mg base "look_at_pose" 5 2 f_look_at_pose :=
  def_ok (k := 4) hg F hb sc_look_at_pose rfl fun cdv A outer s H E hr =>
  (ss_cons (s_expr (p_call d_look_at_rods hr (by decide) (by rfl) (a_cons (p_var 0 (pv 0)) a_nil) (aCons_len aNil_len)))
  (ss_one (s_if (t_not (t_val (p_call d_is_pose hr (by decide) (by rfl) (a_cons (p_var 0 (pv 0)) (a_cons (p_var 1 (pv 1)) a_nil)) (aCons_len (aCons_len aNil_len))))) (ss_one s_never) ss_nil)))

abbrev N_is_point : List Str := ["value"]
theorem sc_is_point : FnScope N_is_point ["value"] (defScope (topS 18)) := ⟨rfl, rfl, rfl, by decide +kernel, rfl, by decide +kernel, by decide +kernel⟩
def c_is_point : SS :=
  (cRet (cAnd (cCall f_are_ints (aCons (cVar 0) (aCons (cUn dNeg (cD (.int 10000))) (aCons (cD (.int 10000)) aNil)))) (cBin dEq (cBi fLen (aCons (cVar 0) aNil)) (cD (.int 2)))))
def f_is_point : Fn := runF 1 c_is_point
theorem d_is_point (g : G K mg) (d_are_ints : Def P w K mg base "are_ints" 2 3 f_are_ints) {f : Addr} {fd : FuncData} (hg : mg "is_point" = some (.ref f)) (F : Fun K "is_point" "is_point" (topS 18) f fd) (hb : Binds K fd ["value"] []) : Def P w K mg base "is_point" 3 1 f_is_point :=
  def_ok (k := 2) hg F hb sc_is_point rfl fun cdv A outer s H E hr =>
  (ss_one (s_ret (p_and (p_call d_are_ints hr (by decide) (by rfl) (a_cons (p_var 0 (pv 0)) (a_cons (p_un un_neg ok_neg (p_gct (by rfl) g.c_MOST_PLACE)) (a_cons (p_gct (by rfl) g.c_MOST_PLACE) a_nil))) (aCons_len (aCons_len (aCons_len aNil_len)))) (p_one (p_cmp (op_eqD hr.units) ok_eq (p_bi call_lenA ok_len (by rfl) g.b_len bt_len (a_cons (p_var 0 (pv 0)) a_nil)) p_int (nomark _))))))

abbrev N_look_at_point : List Str := ["point"]
theorem sc_look_at_point : FnScope N_look_at_point ["point"] (defScope (topS 19)) := ⟨rfl, rfl, rfl, by decide +kernel, rfl, by decide +kernel, by decide +kernel⟩
def c_look_at_point : SS :=
  (cIf (bNot (bT (cCall f_is_point (aCons (cVar 0) aNil))))
  cNever
  cSkip)
def f_look_at_point : Fn := runF 1 c_look_at_point
theorem d_look_at_point (g : G K mg) (d_is_point : Def P w K mg base "is_point" 3 1 f_is_point) {f : Addr} {fd : FuncData} (hg : mg "look_at_point" = some (.ref f)) (F : Fun K "look_at_point" "look_at_point" (topS 19) f fd) (hb : Binds K fd ["point"] []) : Def P w K mg base "look_at_point" 4 1 f_look_at_point :=
  def_ok (k := 3) hg F hb sc_look_at_point rfl fun cdv A outer s H E hr =>
  (ss_one (s_if (t_not (t_val (p_call d_is_point hr (by decide) (by rfl) (a_cons (p_var 0 (pv 0)) a_nil) (aCons_len aNil_len)))) (ss_one s_never) ss_nil))

abbrev N_told_joints : List Str := ["rods", "pose", "found", "rod", "way", "across", "up"]
theorem sc_told_joints : FnScope N_told_joints ["rods", "pose"] (defScope (topS 20)) := ⟨rfl, rfl, rfl, by decide +kernel, rfl, by decide +kernel, by decide +kernel⟩
def c_told_joints : SS :=
  (cSeq (cSet 2 (cLst (aCons (cTup (aCons (cD (.int 0)) (aCons (cD (.int 0)) aNil))) aNil)))
  (cSeq (cFor (iZip (aCons (cVar 0) (aCons (cVar 1) aNil))) (gT 2 (gsCons (gN 3) (gsCons (gN 4) gsNil)))
  (cSeq (cAsg (gT 2 (gsCons (gN 5) (gsCons (gN 6) gsNil))) (cIxV 2 (cUn dNeg (cD (.int 1)))))
  (cApp 2 (cTup (aCons (cBin dAdd (cVar 5) (cBin dMulI (cVar 3) (cBin dGetAny (cBin dGetAny (cD (.tup [(.tup [(.int 1), (.int 0)]), (.tup [(.int 0), (.int 1)]), (.tup [(.int (-1)), (.int 0)]), (.tup [(.int 0), (.int (-1))])])) (cVar 4)) (cD (.int 0))))) (aCons (cBin dAdd (cVar 6) (cBin dMulI (cVar 3) (cBin dGetAny (cBin dGetAny (cD (.tup [(.tup [(.int 1), (.int 0)]), (.tup [(.int 0), (.int 1)]), (.tup [(.int (-1)), (.int 0)]), (.tup [(.int 0), (.int (-1))])])) (cVar 4)) (cD (.int 1))))) aNil))))))
  (cRet (cVar 2))))
def f_told_joints : Fn := runF 7 c_told_joints
theorem d_told_joints (g : G K mg) {f : Addr} {fd : FuncData} (hg : mg "told_joints" = some (.ref f)) (F : Fun K "told_joints" "told_joints" (topS 20) f fd) (hb : Binds K fd ["rods", "pose"] []) : Def P w K mg base "told_joints" 1 2 f_told_joints :=
  def_ok (k := 0) hg F hb sc_told_joints rfl fun cdv A outer s H E hr =>
  (ss_cons (s_set (i := 2) sc_told_joints.nd rfl (by first | exact Or.inl rfl | exact Or.inr rfl) (p_lst (a_cons (p_tup (a_cons p_int (a_cons p_int a_nil))) a_nil)))
  (ss_cons (s_for PassesOwn.never rfl (i_zip (by rfl) g.b_zip (a_cons (p_var 0 (pv 0)) (a_cons (p_var 1 (pv 1)) a_nil))) (g_tup rfl (gs_cons (g_name (i := 3) sc_told_joints.nd rfl (by first | exact Or.inl rfl | exact Or.inr rfl)) (gs_cons (g_name (i := 4) sc_told_joints.nd rfl (by first | exact Or.inl rfl | exact Or.inr rfl)) gs_nil)))
  (ss_cons (s_asg (p_ixV (hu_of hr) (pv 2) (p_un un_neg ok_neg p_int) (fun _ _ => rfl)) (g_tup rfl (gs_cons (g_name (i := 5) sc_told_joints.nd rfl (by first | exact Or.inl rfl | exact Or.inr rfl)) (gs_cons (g_name (i := 6) sc_told_joints.nd rfl (by first | exact Or.inl rfl | exact Or.inr rfl)) gs_nil))))
  (ss_one (s_app (pv 2) (p_tup (a_cons (p_bin op_addAll ok_add (p_var 5 (pv 5)) (p_bin op_mulW ok_mulI (p_var 3 (pv 3)) (p_ix (hu_of hr) (p_ix (hu_of hr) (p_gct (by rfl) g.c_WAYS) (p_var 4 (pv 4)) (fun _ _ => rfl)) p_int (fun _ _ => rfl)))) (a_cons (p_bin op_addAll ok_add (p_var 6 (pv 6)) (p_bin op_mulW ok_mulI (p_var 3 (pv 3)) (p_ix (hu_of hr) (p_ix (hu_of hr) (p_gct (by rfl) g.c_WAYS) (p_var 4 (pv 4)) (fun _ _ => rfl)) p_int (fun _ _ => rfl)))) a_nil))) rfl rfl rfl rfl rfl rfl))))
  (ss_one (s_ret (p_var 2 (pv 2))))))

abbrev N_tip_of : List Str := ["rods", "pose"]
theorem sc_tip_of : FnScope N_tip_of ["rods", "pose"] (defScope (topS 21)) := ⟨rfl, rfl, rfl, by decide +kernel, rfl, by decide +kernel, by decide +kernel⟩
def c_tip_of : SS :=
  (cSeq (cExpr (cCall f_look_at_pose (aCons (cVar 0) (aCons (cVar 1) aNil))))
  (cRet (cBin dGetAny (cCall f_told_joints (aCons (cVar 0) (aCons (cVar 1) aNil))) (cUn dNeg (cD (.int 1))))))
def f_tip_of : Fn := runF 2 c_tip_of
theorem d_tip_of (g : G K mg) (d_look_at_pose : Def P w K mg base "look_at_pose" 5 2 f_look_at_pose) (d_told_joints : Def P w K mg base "told_joints" 1 2 f_told_joints) {f : Addr} {fd : FuncData} (hg : mg "tip_of" = some (.ref f)) (F : Fun K "tip_of" "tip_of" (topS 21) f fd) (hb : Binds K fd ["rods", "pose"] []) : Def P w K mg base "tip_of" 6 2 f_tip_of :=
  def_ok (k := 5) hg F hb sc_tip_of rfl fun cdv A outer s H E hr =>
  (ss_cons (s_expr (p_call d_look_at_pose hr (by decide) (by rfl) (a_cons (p_var 0 (pv 0)) (a_cons (p_var 1 (pv 1)) a_nil)) (aCons_len (aCons_len aNil_len))))
  (ss_one (s_ret (p_ix (hu_of hr) (p_call d_told_joints hr (by decide) (by rfl) (a_cons (p_var 0 (pv 0)) (a_cons (p_var 1 (pv 1)) a_nil)) (aCons_len (aCons_len aNil_len))) (p_un un_neg ok_neg p_int) (fun _ _ => rfl)))))

abbrev N_told_sums : List Str := ["rods", "found", "rod", "later", "total", "ways", "made"]
theorem sc_told_sums : FnScope N_told_sums ["rods"] (defScope (topS 33)) := ⟨rfl, rfl, rfl, by decide +kernel, rfl, by decide +kernel, by decide +kernel⟩
def c_told_sums : SS :=
  (cSeq (cSet 1 (cFz (cDic1 (cD (.int 0)) (cD (.int 1)))))
  (cSeq (cFor (iSeq (cVar 0)) (gN 2)
  (cSeq (cSet 3 cDic0)
  (cSeq (cForI 1 (gT 2 (gsCons (gN 4) (gsCons (gN 5) gsNil)))
  (cFor (iSeq (cTup (aCons (cBin dAdd (cVar 4) (cVar 2)) (aCons (cBin dSub (cVar 4) (cVar 2)) aNil)))) (gN 6)
  (cPutD 3 (cVar 6) (cBin dAdd (cGetV 3 (cVar 6) (cD (.int 0))) (cVar 5)))))
  (cSet 1 (cVar 3)))))
  (cRet (cVar 1))))
def f_told_sums : Fn := runF 7 c_told_sums
theorem d_told_sums (g : G K mg) {f : Addr} {fd : FuncData} (hg : mg "told_sums" = some (.ref f)) (F : Fun K "told_sums" "told_sums" (topS 33) f fd) (hb : Binds K fd ["rods"] []) : Def P w K mg base "told_sums" 1 1 f_told_sums :=
  def_ok (k := 0) hg F hb sc_told_sums rfl fun cdv A outer s H E hr =>
  (ss_cons (s_set (i := 1) sc_told_sums.nd rfl (by first | exact Or.inl rfl | exact Or.inr rfl) (p_fz (p_dic1 p_int p_int)))
  (ss_cons (s_for PassesOwn.never rfl (i_seq (p_var 0 (pv 0))) (g_name (i := 2) sc_told_sums.nd rfl (by first | exact Or.inl rfl | exact Or.inr rfl))
  (ss_cons (s_set (i := 3) sc_told_sums.nd rfl (by first | exact Or.inl rfl | exact Or.inr rfl) p_dic0)
  (ss_cons (s_forI PassesOwn.never rfl (pv 1) (g_tup rfl (gs_cons (g_name (i := 4) sc_told_sums.nd rfl (by first | exact Or.inl rfl | exact Or.inr rfl)) (gs_cons (g_name (i := 5) sc_told_sums.nd rfl (by first | exact Or.inl rfl | exact Or.inr rfl)) gs_nil)))
  (ss_one (s_for PassesOwn.never rfl (i_seq (p_tup (a_cons (p_bin op_addAll ok_add (p_var 4 (pv 4)) (p_var 2 (pv 2))) (a_cons (p_bin op_sub ok_sub (p_var 4 (pv 4)) (p_var 2 (pv 2))) a_nil)))) (g_name (i := 6) sc_told_sums.nd rfl (by first | exact Or.inl rfl | exact Or.inr rfl))
  (ss_one (s_putD (hu_of hr) (pv 3) (p_var 6 (pv 6)) (p_bin op_addAll ok_add (p_getV (hu_of hr) (pv 3) (p_var 6 (pv 6)) p_int ⟨rfl, rfl, rfl, rfl⟩) (p_var 5 (pv 5))) rfl)))) rfl rfl (fun _ => rfl))
  (ss_one (s_set (i := 1) sc_told_sums.nd rfl (by first | exact Or.inl rfl | exact Or.inr rfl) (p_var 3 (pv 3)))))))
  (ss_one (s_ret (p_var 1 (pv 1))))))

abbrev N_sums_of : List Str := ["rods"]
theorem sc_sums_of : FnScope N_sums_of ["rods"] (defScope (topS 34)) := ⟨rfl, rfl, rfl, by decide +kernel, rfl, by decide +kernel, by decide +kernel⟩
def c_sums_of : SS :=
  (cSeq (cExpr (cCall f_look_at_rods (aCons (cVar 0) aNil)))
  (cRet (cBi fTuple (aCons (cBi fSortedD (aCons (cCall f_told_sums (aCons (cVar 0) aNil)) aNil)) aNil))))
def f_sums_of : Fn := runF 1 c_sums_of
theorem d_sums_of (g : G K mg) (d_look_at_rods : Def P w K mg base "look_at_rods" 4 1 f_look_at_rods) (d_told_sums : Def P w K mg base "told_sums" 1 1 f_told_sums) {f : Addr} {fd : FuncData} (hg : mg "sums_of" = some (.ref f)) (F : Fun K "sums_of" "sums_of" (topS 34) f fd) (hb : Binds K fd ["rods"] []) : Def P w K mg base "sums_of" 5 1 f_sums_of :=
  def_ok (k := 4) hg F hb sc_sums_of rfl fun cdv A outer s H E hr =>
  (ss_cons (s_expr (p_call d_look_at_rods hr (by decide) (by rfl) (a_cons (p_var 0 (pv 0)) a_nil) (aCons_len aNil_len)))
  (ss_one (s_ret (p_ty call_tupA ok_tuple (by rfl) g.b_tuple bt_tuple (a_cons (p_bi (cr_sortedD rfl) ok_sortedD (by rfl) g.b_sorted bt_sorted (a_cons (p_call d_told_sums hr (by decide) (by rfl) (a_cons (p_var 0 (pv 0)) a_nil) (aCons_len aNil_len)) a_nil)) a_nil)))))

abbrev N_told_signs : List Str := ["rods", "goal", "rows", "rod", "later", "total", "sign", "found", "at"]
theorem sc_told_signs : FnScope N_told_signs ["rods", "goal"] (defScope (topS 35)) := ⟨rfl, rfl, rfl, by decide +kernel, rfl, by decide +kernel, by decide +kernel⟩
def s_told_signs_0 : SS :=
  (cSet 2 (cLst (aCons (cDic1 (cD (.int 0)) (cD .non)) aNil)))
def s_told_signs_1 : SS :=
  (cFor (iSeq (cVar 0)) (gN 3)
  (cSeq (cSet 4 cDic0)
  (cSeq (cFor (iKey (cIxV 2 (cUn dNeg (cD (.int 1))))) (gN 5)
  (cFor (iSeq (cTup (aCons (cD (.int 1)) (aCons (cUn dNeg (cD (.int 1))) aNil)))) (gN 6)
  (cIf (bT (cNotInV 4 (cBin dAdd (cVar 5) (cBin dMulI (cVar 6) (cVar 3)))))
  (cPutD 4 (cBin dAdd (cVar 5) (cBin dMulI (cVar 6) (cVar 3))) (cVar 6))
  cSkip)))
  (cApp 2 (cVar 4)))))
def s_told_signs_2 : SS :=
  (cIf (bT (cBin dNotIn (cVar 1) (cIxV 2 (cUn dNeg (cD (.int 1))))))
  (cRet (cD .non))
  cSkip)
def s_told_signs_3 : SS :=
  (cSet 7 (cLst aNil))
def s_told_signs_4 : SS :=
  (cFor (iRg3 (aCons (cBi fLen (aCons (cVar 0) aNil)) (aCons (cD (.int 0)) (aCons (cUn dNeg (cD (.int 1))) aNil)))) (gN 8)
  (cSeq (cSet 6 (cBin dGetAny (cIxV 2 (cVar 8)) (cVar 1)))
  (cSeq (cApp 7 (cVar 6))
  (cAug 1 (fun i j => i - j) (cBin dMulI (cVar 6) (cBin dGetAny (cVar 0) (cBin dSub (cVar 8) (cD (.int 1)))))))))
def s_told_signs_5 : SS :=
  (cRet (cUn dRev (cVar 7)))
def c_told_signs : SS :=
  (cSeq s_told_signs_0
  (cSeq s_told_signs_1
  (cSeq s_told_signs_2
  (cSeq s_told_signs_3
  (cSeq s_told_signs_4
  s_told_signs_5)))))
def f_told_signs : Fn := runF 9 c_told_signs
theorem d_told_signs (g : G K mg) {f : Addr} {fd : FuncData} (hg : mg "told_signs" = some (.ref f)) (F : Fun K "told_signs" "told_signs" (topS 35) f fd) (hb : Binds K fd ["rods", "goal"] []) : Def P w K mg base "told_signs" 1 2 f_told_signs :=
  def_ok (k := 0) hg F hb sc_told_signs rfl fun cdv A outer s H E hr =>
  (ss_cons (s_set (i := 2) sc_told_signs.nd rfl (by first | exact Or.inl rfl | exact Or.inr rfl) (p_lst (a_cons (p_dic1 p_int p_non) a_nil)))
  (ss_cons (s_for PassesOwn.never rfl (i_seq (p_var 0 (pv 0))) (g_name (i := 3) sc_told_signs.nd rfl (by first | exact Or.inl rfl | exact Or.inr rfl))
  (ss_cons (s_set (i := 4) sc_told_signs.nd rfl (by first | exact Or.inl rfl | exact Or.inr rfl) p_dic0)
  (ss_cons (s_forKE PassesOwn.never rfl (p_ixV (hu_of hr) (pv 2) (p_un un_neg ok_neg p_int) (fun _ _ => rfl)) (g_name (i := 5) sc_told_signs.nd rfl (by first | exact Or.inl rfl | exact Or.inr rfl))
  (ss_one (s_for PassesOwn.never rfl (i_seq (p_tup (a_cons p_int (a_cons (p_un un_neg ok_neg p_int) a_nil)))) (g_name (i := 6) sc_told_signs.nd rfl (by first | exact Or.inl rfl | exact Or.inr rfl))
  (ss_one (s_if (t_notinV (hu_of hr) (p_bin op_addAll ok_add (p_var 5 (pv 5)) (p_bin op_mulW ok_mulI (p_var 6 (pv 6)) (p_var 3 (pv 3)))) (pv 4) rfl) (ss_one (s_putD (hu_of hr) (pv 4) (p_bin op_addAll ok_add (p_var 5 (pv 5)) (p_bin op_mulW ok_mulI (p_var 6 (pv 6)) (p_var 3 (pv 3)))) (p_var 6 (pv 6)) rfl)) ss_nil)))))
  (ss_one (s_app (pv 2) (p_var 4 (pv 4)) rfl rfl rfl rfl rfl rfl)))))
  (ss_cons (s_if (t_notin (hu_of hr) (p_var 1 (pv 1)) (p_ixV (hu_of hr) (pv 2) (p_un un_neg ok_neg p_int) (fun _ _ => rfl)) rfl) (ss_one (s_ret p_non)) ss_nil)
  (ss_cons (s_set (i := 7) sc_told_signs.nd rfl (by first | exact Or.inl rfl | exact Or.inr rfl) (p_lst a_nil))
  (ss_cons (s_for PassesOwn.never rfl (i_rg3 (by rfl) g.b_range (a_cons (p_bi call_lenA ok_len (by rfl) g.b_len bt_len (a_cons (p_var 0 (pv 0)) a_nil)) (a_cons p_int (a_cons (p_un un_neg ok_neg p_int) a_nil)))) (g_name (i := 8) sc_told_signs.nd rfl (by first | exact Or.inl rfl | exact Or.inr rfl))
  (ss_cons (s_set (i := 6) sc_told_signs.nd rfl (by first | exact Or.inl rfl | exact Or.inr rfl) (p_ix (hu_of hr) (p_ixV (hu_of hr) (pv 2) (p_var 8 (pv 8)) (fun _ _ => rfl)) (p_var 1 (pv 1)) (fun _ _ => rfl)))
  (ss_cons (s_app (pv 7) (p_var 6 (pv 6)) rfl rfl rfl rfl rfl rfl)
  (ss_one (s_aug (i := 1) sc_told_signs.nd rfl (by first | exact Or.inl rfl | exact Or.inr rfl) (p_bin op_mulW ok_mulI (p_var 6 (pv 6)) (p_ix (hu_of hr) (p_var 0 (pv 0)) (p_bin op_sub ok_sub (p_var 8 (pv 8)) p_int) (fun _ _ => rfl))) ip_sub)))))
  (ss_one (s_ret (p_rev (p_var 7 (pv 7))))))))))

abbrev N_way_of : List Str := ["first", "second"]
theorem sc_way_of : FnScope N_way_of ["first", "second"] (defScope (topS 36)) := ⟨rfl, rfl, rfl, by decide +kernel, rfl, by decide +kernel, by decide +kernel⟩
def c_way_of : SS :=
  (cRet (cWay [(((1), (1)), 0, (aCons (cD (.int 1)) (aCons (cD (.int 1)) aNil))), (((1), (-1)), 1, (aCons (cD (.int 1)) (aCons (cUn dNeg (cD (.int 1))) aNil))), (((-1), (-1)), 2, (aCons (cUn dNeg (cD (.int 1))) (aCons (cUn dNeg (cD (.int 1))) aNil))), (((-1), (1)), 3, (aCons (cUn dNeg (cD (.int 1))) (aCons (cD (.int 1)) aNil)))] (cVar 0) (cVar 1)))
def f_way_of : Fn := runF 2 c_way_of
theorem d_way_of (g : G K mg) {f : Addr} {fd : FuncData} (hg : mg "way_of" = some (.ref f)) (F : Fun K "way_of" "way_of" (topS 36) f fd) (hb : Binds K fd ["first", "second"] []) : Def P w K mg base "way_of" 1 2 f_way_of :=
  def_ok (k := 0) hg F hb sc_way_of rfl fun cdv A outer s H E hr =>
  (ss_one (s_ret (p_way [(((1), (1)), 0, (aCons (cD (.int 1)) (aCons (cD (.int 1)) aNil))), (((1), (-1)), 1, (aCons (cD (.int 1)) (aCons (cUn dNeg (cD (.int 1))) aNil))), (((-1), (-1)), 2, (aCons (cUn dNeg (cD (.int 1))) (aCons (cUn dNeg (cD (.int 1))) aNil))), (((-1), (1)), 3, (aCons (cUn dNeg (cD (.int 1))) (aCons (cD (.int 1)) aNil)))] (hu_of hr) (pps_cons (pe_tup (a_cons p_int (a_cons p_int a_nil))) p_int (pps_cons (pe_tup (a_cons p_int (a_cons (p_un un_neg ok_neg p_int) a_nil))) p_int (pps_cons (pe_tup (a_cons (p_un un_neg ok_neg p_int) (a_cons (p_un un_neg ok_neg p_int) a_nil))) p_int (pps_cons (pe_tup (a_cons (p_un un_neg ok_neg p_int) (a_cons p_int a_nil))) (p_gct (by rfl) g.c_THREE) pps_nil)))) (by intro e he s; simp only [List.mem_cons, List.not_mem_nil, or_false] at he; rcases he with rfl | rfl | rfl | rfl <;> rfl) (a_cons (p_var 0 (pv 0)) (a_cons (p_var 1 (pv 1)) a_nil)) rfl rfl (List.cons_ne_nil _ _) (Nat.le_of_ble_eq_true rfl) (Nat.le_of_ble_eq_true rfl) (fun _ _ => rfl))))

abbrev N_told_pose : List Str := ["rods", "point", "first", "second", "one", "other"]
theorem sc_told_pose : FnScope N_told_pose ["rods", "point"] (defScope (topS 37)) := ⟨rfl, rfl, rfl, by decide +kernel, rfl, by decide +kernel, by decide +kernel⟩
def c_told_pose : SS :=
  (cSeq (cPar 2 3 (cCall f_told_signs (aCons (cVar 0) (aCons (cBin dAdd (cBin dGetAny (cVar 1) (cD (.int 0))) (cBin dGetAny (cVar 1) (cD (.int 1)))) aNil))) (cCall f_told_signs (aCons (cVar 0) (aCons (cBin dSub (cBin dGetAny (cVar 1) (cD (.int 0))) (cBin dGetAny (cVar 1) (cD (.int 1)))) aNil))))
  (cSeq (cIf (bOr (bT (cBin dIsN (cVar 2) (cD .non))) (bT (cBin dIsN (cVar 3) (cD .non))))
  (cRet (cD .non))
  cSkip)
  (cRet (cBi fTuple (aCons (cLC (iZip (aCons (cVar 2) (aCons (cVar 3) aNil))) (gT 2 (gsCons (gN 4) (gsCons (gN 5) gsNil))) bYes (cCall f_way_of (aCons (cVar 4) (aCons (cVar 5) aNil))) [4, 5]) aNil)))))
def f_told_pose : Fn := runF 6 c_told_pose
theorem d_told_pose (g : G K mg) (d_told_signs : Def P w K mg base "told_signs" 1 2 f_told_signs) (d_way_of : Def P w K mg base "way_of" 1 2 f_way_of) {f : Addr} {fd : FuncData} (hg : mg "told_pose" = some (.ref f)) (F : Fun K "told_pose" "told_pose" (topS 37) f fd) (hb : Binds K fd ["rods", "point"] []) : Def P w K mg base "told_pose" 2 2 f_told_pose :=
  def_ok (k := 1) hg F hb sc_told_pose rfl fun cdv A outer s H E hr =>
  (ss_cons (s_par (i := 2) (j := 3) rfl sc_told_pose.nd rfl rfl (by decide) (by first | rfl) (by first | rfl) (p_call d_told_signs hr (by decide) (by rfl) (a_cons (p_var 0 (pv 0)) (a_cons (p_bin op_addAll ok_add (p_ix (hu_of hr) (p_var 1 (pv 1)) p_int (fun _ _ => rfl)) (p_ix (hu_of hr) (p_var 1 (pv 1)) p_int (fun _ _ => rfl))) a_nil)) (aCons_len (aCons_len aNil_len))) (p_call d_told_signs hr (by decide) (by rfl) (a_cons (p_var 0 (pv 0)) (a_cons (p_bin op_sub ok_sub (p_ix (hu_of hr) (p_var 1 (pv 1)) p_int (fun _ _ => rfl)) (p_ix (hu_of hr) (p_var 1 (pv 1)) p_int (fun _ _ => rfl))) a_nil)) (aCons_len (aCons_len aNil_len))) rfl rfl rfl rfl)
  (ss_cons (s_if (PW.pt (t_or (t_cmp op_isA ok_is (p_var 2 (pv 2)) p_non (nomark _)) (pw_or1 (t_cmp op_isA ok_is (p_var 3 (pv 3)) p_non (nomark _))))) (ss_one (s_ret p_non)) ss_nil)
  (ss_one (s_ret (p_ty call_tupA ok_tuple (by rfl) g.b_tuple bt_tuple (a_cons (p_lc (own := [("one", 4), ("other", 5)]) rfl sc_told_pose.nd (i_zip (by rfl) g.b_zip (a_cons (p_var 2 (pv 2)) (a_cons (p_var 3 (pv 3)) a_nil))) (blkOk_by (by decide +kernel : blkC N_told_pose (defScope (topS 37)) _ _ = true)) (by decide) (fun _ _ _ _ _ => (g_tup rfl (gs_cons (g_name (i := 4) sc_told_pose.nd rfl (by first | exact Or.inl rfl | exact Or.inr rfl)) (gs_cons (g_name (i := 5) sc_told_pose.nd rfl (by first | exact Or.inl rfl | exact Or.inr rfl)) gs_nil)))) (fun _ _ _ _ _ => ts_nil) (fun _ _ _ _ _ => (p_call d_way_of hr (by decide) (by rfl) (a_cons (p_var 4 (pv 4)) (a_cons (p_var 5 (pv 5)) a_nil)) (aCons_len (aCons_len aNil_len))))) a_nil))))))

abbrev N_look_at_reach : List Str := ["rods", "point"]
theorem sc_look_at_reach : FnScope N_look_at_reach ["rods", "point"] (defScope (topS 38)) := ⟨rfl, rfl, rfl, by decide +kernel, rfl, by decide +kernel, by decide +kernel⟩
def c_look_at_reach : SS :=
  (cSeq (cExpr (cCall f_look_at_rods (aCons (cVar 0) aNil)))
  (cExpr (cCall f_look_at_point (aCons (cVar 1) aNil))))
def f_look_at_reach : Fn := runF 2 c_look_at_reach
theorem d_look_at_reach (g : G K mg) (d_look_at_rods : Def P w K mg base "look_at_rods" 4 1 f_look_at_rods) (d_look_at_point : Def P w K mg base "look_at_point" 4 1 f_look_at_point) {f : Addr} {fd : FuncData} (hg : mg "look_at_reach" = some (.ref f)) (F : Fun K "look_at_reach" "look_at_reach" (topS 38) f fd) (hb : Binds K fd ["rods", "point"] []) : Def P w K mg base "look_at_reach" 5 2 f_look_at_reach :=
  def_ok (k := 4) hg F hb sc_look_at_reach rfl fun cdv A outer s H E hr =>
  (ss_cons (s_expr (p_call d_look_at_rods hr (by decide) (by rfl) (a_cons (p_var 0 (pv 0)) a_nil) (aCons_len aNil_len)))
  (ss_one (s_expr (p_call d_look_at_point hr (by decide) (by rfl) (a_cons (p_var 1 (pv 1)) a_nil) (aCons_len aNil_len)))))

abbrev N_reach : List Str := ["rods", "point", "found", "sums"]
theorem sc_reach : FnScope N_reach ["rods", "point"] (defScope (topS 39)) := ⟨rfl, rfl, rfl, by decide +kernel, rfl, by decide +kernel, by decide +kernel⟩
def s_reach_0 : SS :=
  (cExpr (cCall f_look_at_reach (aCons (cVar 0) (aCons (cVar 1) aNil))))
def s_reach_1 : SS :=
  (cSet 2 (cCall f_told_pose (aCons (cVar 0) (aCons (cVar 1) aNil))))
def s_reach_2 : SS :=
  (cIf (bT (cBin dNotN (cVar 2) (cD .non)))
  (cRet (cTup (aCons (cD (.str "pose")) (aCons (cVar 2) aNil))))
  cSkip)
def s_reach_3 : SS :=
  (cIf (bT (cBin dNe (cBin dMod (cBin dSub (cBin dAdd (cBin dGetAny (cVar 1) (cD (.int 0))) (cBin dGetAny (cVar 1) (cD (.int 1)))) (cBi fSum (aCons (cVar 0) aNil))) (cD (.int 2))) (cD (.int 0))))
  (cRet (cTup (aCons (cD (.str "odd")) aNil)))
  cSkip)
def s_reach_4 : SS :=
  (cIf (bT (cBin dGt (cBin dAdd (cBi fAbs (aCons (cBin dGetAny (cVar 1) (cD (.int 0))) aNil)) (cBi fAbs (aCons (cBin dGetAny (cVar 1) (cD (.int 1))) aNil))) (cBi fSum (aCons (cVar 0) aNil))))
  (cRet (cTup (aCons (cD (.str "far")) aNil)))
  cSkip)
def s_reach_5 : SS :=
  (cSet 3 (cCall f_told_sums (aCons (cVar 0) aNil)))
def s_reach_6 : SS :=
  (cRet (cTup (aCons (cD (.str "sums")) (aCons (cIte (bT (cBin dNotIn (cBin dAdd (cBin dGetAny (cVar 1) (cD (.int 0))) (cBin dGetAny (cVar 1) (cD (.int 1)))) (cVar 3))) (cD (.str "sum")) (cD (.str "difference"))) (aCons (cBi fTuple (aCons (cBi fSortedD (aCons (cVar 3) aNil)) aNil)) aNil)))))
def c_reach : SS :=
  (cSeq s_reach_0
  (cSeq s_reach_1
  (cSeq s_reach_2
  (cSeq s_reach_3
  (cSeq s_reach_4
  (cSeq s_reach_5
  s_reach_6))))))
def f_reach : Fn := runF 4 c_reach
theorem d_reach (g : G K mg) (d_look_at_reach : Def P w K mg base "look_at_reach" 5 2 f_look_at_reach) (d_told_pose : Def P w K mg base "told_pose" 2 2 f_told_pose) (d_told_sums : Def P w K mg base "told_sums" 1 1 f_told_sums) {f : Addr} {fd : FuncData} (hg : mg "reach" = some (.ref f)) (F : Fun K "reach" "reach" (topS 39) f fd) (hb : Binds K fd ["rods", "point"] []) : Def P w K mg base "reach" 6 2 f_reach :=
  def_ok (k := 5) hg F hb sc_reach rfl fun cdv A outer s H E hr =>
  (ss_cons (s_expr (p_call d_look_at_reach hr (by decide) (by rfl) (a_cons (p_var 0 (pv 0)) (a_cons (p_var 1 (pv 1)) a_nil)) (aCons_len (aCons_len aNil_len))))
  (ss_cons (s_set (i := 2) sc_reach.nd rfl (by first | exact Or.inl rfl | exact Or.inr rfl) (p_call d_told_pose hr (by decide) (by rfl) (a_cons (p_var 0 (pv 0)) (a_cons (p_var 1 (pv 1)) a_nil)) (aCons_len (aCons_len aNil_len))))
  (ss_cons (s_if (t_cmp op_notA ok_not (p_var 2 (pv 2)) p_non (nomark _)) (ss_one (s_ret (p_tup (a_cons (p_gct (by rfl) g.c_POSE) (a_cons (p_var 2 (pv 2)) a_nil))))) ss_nil)
  (ss_cons (s_if (t_cmp (op_neD hr.units) ok_ne (p_bin op_mod ok_mod (p_bin op_sub ok_sub (p_bin op_addAll ok_add (p_ix (hu_of hr) (p_var 1 (pv 1)) p_int (fun _ _ => rfl)) (p_ix (hu_of hr) (p_var 1 (pv 1)) p_int (fun _ _ => rfl))) (p_bi (call_sumA rfl) ok_sum (by rfl) g.b_sum bt_sum (a_cons (p_var 0 (pv 0)) a_nil))) p_int) p_int (nomark _)) (ss_one (s_ret (p_tup (a_cons (p_gct (by rfl) g.c_ODD) a_nil)))) ss_nil)
  (ss_cons (s_if (t_cmp op_gt ok_B0 (p_bin op_addAll ok_add (p_bi call_abs ok_abs (by rfl) g.b_abs bt_abs (a_cons (p_ix (hu_of hr) (p_var 1 (pv 1)) p_int (fun _ _ => rfl)) a_nil)) (p_bi call_abs ok_abs (by rfl) g.b_abs bt_abs (a_cons (p_ix (hu_of hr) (p_var 1 (pv 1)) p_int (fun _ _ => rfl)) a_nil))) (p_bi (call_sumA rfl) ok_sum (by rfl) g.b_sum bt_sum (a_cons (p_var 0 (pv 0)) a_nil)) (nomark _)) (ss_one (s_ret (p_tup (a_cons (p_gct (by rfl) g.c_FAR) a_nil)))) ss_nil)
  (ss_cons (s_set (i := 3) sc_reach.nd rfl (by first | exact Or.inl rfl | exact Or.inr rfl) (p_call d_told_sums hr (by decide) (by rfl) (a_cons (p_var 0 (pv 0)) a_nil) (aCons_len aNil_len)))
  (ss_one (s_ret (p_tup (a_cons (p_gct (by rfl) g.c_SUMS) (a_cons (p_ite (t_notin (hu_of hr) (p_bin op_addAll ok_add (p_ix (hu_of hr) (p_var 1 (pv 1)) p_int (fun _ _ => rfl)) (p_ix (hu_of hr) (p_var 1 (pv 1)) p_int (fun _ _ => rfl))) (p_var 3 (pv 3)) rfl) (p_gct (by rfl) g.c_SUM) (p_gct (by rfl) g.c_DIFFERENCE)) (a_cons (p_ty call_tupA ok_tuple (by rfl) g.b_tuple bt_tuple (a_cons (p_bi (cr_sortedD rfl) ok_sortedD (by rfl) g.b_sorted bt_sorted (a_cons (p_var 3 (pv 3)) a_nil)) a_nil)) a_nil))))))))))))

abbrev N_is_reached : List Str := ["rods", "point", "sums"]
theorem sc_is_reached : FnScope N_is_reached ["rods", "point"] (defScope (topS 40)) := ⟨rfl, rfl, rfl, by decide +kernel, rfl, by decide +kernel, by decide +kernel⟩
def c_is_reached : SS :=
  (cSeq (cExpr (cCall f_look_at_reach (aCons (cVar 0) (aCons (cVar 1) aNil))))
  (cSeq (cSet 2 (cCall f_told_sums (aCons (cVar 0) aNil)))
  (cRet (cAnd (cBin dIn (cBin dAdd (cBin dGetAny (cVar 1) (cD (.int 0))) (cBin dGetAny (cVar 1) (cD (.int 1)))) (cVar 2)) (cBin dIn (cBin dSub (cBin dGetAny (cVar 1) (cD (.int 0))) (cBin dGetAny (cVar 1) (cD (.int 1)))) (cVar 2))))))
def f_is_reached : Fn := runF 3 c_is_reached
theorem d_is_reached (g : G K mg) (d_look_at_reach : Def P w K mg base "look_at_reach" 5 2 f_look_at_reach) (d_told_sums : Def P w K mg base "told_sums" 1 1 f_told_sums) {f : Addr} {fd : FuncData} (hg : mg "is_reached" = some (.ref f)) (F : Fun K "is_reached" "is_reached" (topS 40) f fd) (hb : Binds K fd ["rods", "point"] []) : Def P w K mg base "is_reached" 6 2 f_is_reached :=
  def_ok (k := 5) hg F hb sc_is_reached rfl fun cdv A outer s H E hr =>
  (ss_cons (s_expr (p_call d_look_at_reach hr (by decide) (by rfl) (a_cons (p_var 0 (pv 0)) (a_cons (p_var 1 (pv 1)) a_nil)) (aCons_len (aCons_len aNil_len))))
  (ss_cons (s_set (i := 2) sc_is_reached.nd rfl (by first | exact Or.inl rfl | exact Or.inr rfl) (p_call d_told_sums hr (by decide) (by rfl) (a_cons (p_var 0 (pv 0)) a_nil) (aCons_len aNil_len)))
  (ss_one (s_ret (p_and (p_in (hu_of hr) (p_bin op_addAll ok_add (p_ix (hu_of hr) (p_var 1 (pv 1)) p_int (fun _ _ => rfl)) (p_ix (hu_of hr) (p_var 1 (pv 1)) p_int (fun _ _ => rfl))) (p_var 2 (pv 2)) rfl) (p_one (p_in (hu_of hr) (p_bin op_sub ok_sub (p_ix (hu_of hr) (p_var 1 (pv 1)) p_int (fun _ _ => rfl)) (p_ix (hu_of hr) (p_var 1 (pv 1)) p_int (fun _ _ => rfl))) (p_var 2 (pv 2)) rfl)))))))

abbrev N_how_many_reached : List Str := ["rods"]
theorem sc_how_many_reached : FnScope N_how_many_reached ["rods"] (defScope (topS 41)) := ⟨rfl, rfl, rfl, by decide +kernel, rfl, by decide +kernel, by decide +kernel⟩
def c_how_many_reached : SS :=
  (cSeq (cExpr (cCall f_look_at_rods (aCons (cVar 0) aNil)))
  (cRet (cBin dPowW (cBi fLenD (aCons (cCall f_told_sums (aCons (cVar 0) aNil)) aNil)) (cD (.int 2)))))
def f_how_many_reached : Fn := runF 1 c_how_many_reached
theorem d_how_many_reached (g : G K mg) (d_look_at_rods : Def P w K mg base "look_at_rods" 4 1 f_look_at_rods) (d_told_sums : Def P w K mg base "told_sums" 1 1 f_told_sums) {f : Addr} {fd : FuncData} (hg : mg "how_many_reached" = some (.ref f)) (F : Fun K "how_many_reached" "how_many_reached" (topS 41) f fd) (hb : Binds K fd ["rods"] []) : Def P w K mg base "how_many_reached" 5 1 f_how_many_reached :=
  def_ok (k := 4) hg F hb sc_how_many_reached rfl fun cdv A outer s H E hr =>
  (ss_cons (s_expr (p_call d_look_at_rods hr (by decide) (by rfl) (a_cons (p_var 0 (pv 0)) a_nil) (aCons_len aNil_len)))
  (ss_one (s_ret (p_bin op_powW ok_powW (p_bi cr_lenD ok_lenD (by rfl) g.b_len bt_len (a_cons (p_call d_told_sums hr (by decide) (by rfl) (a_cons (p_var 0 (pv 0)) a_nil) (aCons_len aNil_len)) a_nil)) p_int))))

abbrev N_nearest_sum : List Str := ["sums", "goal", "one"]
theorem sc_nearest_sum : FnScope N_nearest_sum ["sums", "goal"] (defScope (topS 42)) := ⟨rfl, rfl, rfl, by decide +kernel, rfl, by decide +kernel, by decide +kernel⟩
def c_nearest_sum : SS :=
  (cRet (cBin dGetAny (cBi fMinP (aCons (cLC (iKey (cVar 0)) (gN 2) bYes (cTup (aCons (cBi fAbs (aCons (cBin dSub (cVar 2) (cVar 1)) aNil)) (aCons (cVar 2) aNil))) [2]) aNil)) (cD (.int 1))))
def f_nearest_sum : Fn := runF 3 c_nearest_sum
theorem d_nearest_sum (g : G K mg) {f : Addr} {fd : FuncData} (hg : mg "nearest_sum" = some (.ref f)) (F : Fun K "nearest_sum" "nearest_sum" (topS 42) f fd) (hb : Binds K fd ["sums", "goal"] []) : Def P w K mg base "nearest_sum" 1 2 f_nearest_sum :=
  def_ok (k := 0) hg F hb sc_nearest_sum rfl fun cdv A outer s H E hr =>
  (ss_one (s_ret (p_ix (hu_of hr) (p_bi (cr_minP rfl (hu_of hr)) ok_minP (by rfl) g.b_min bt_min (a_cons (p_lcK (own := [("one", 2)]) rfl sc_nearest_sum.nd (p_var 0 (pv 0)) (blkOk_by (by decide +kernel : blkC N_nearest_sum (defScope (topS 42)) _ _ = true)) (by decide) (fun _ _ _ _ _ => (g_name (i := 2) sc_nearest_sum.nd rfl (by first | exact Or.inl rfl | exact Or.inr rfl))) (fun _ _ _ _ _ => ts_nil) (fun _ _ _ _ _ => (p_tup (a_cons (p_bi call_abs ok_abs (by rfl) g.b_abs bt_abs (a_cons (p_bin op_sub ok_sub (p_var 2 (pv 2)) (p_var 1 (pv 1))) a_nil)) (a_cons (p_var 2 (pv 2)) a_nil))))) a_nil)) p_int (fun _ _ => rfl))))

abbrev N_nearest_to : List Str := ["rods", "point", "sums", "one", "other", "found"]
theorem sc_nearest_to : FnScope N_nearest_to ["rods", "point"] (defScope (topS 43)) := ⟨rfl, rfl, rfl, by decide +kernel, rfl, by decide +kernel, by decide +kernel⟩
def c_nearest_to : SS :=
  (cSeq (cExpr (cCall f_look_at_reach (aCons (cVar 0) (aCons (cVar 1) aNil))))
  (cSeq (cSet 2 (cCall f_told_sums (aCons (cVar 0) aNil)))
  (cSeq (cPar 3 4 (cCall f_nearest_sum (aCons (cVar 2) (aCons (cBin dAdd (cBin dGetAny (cVar 1) (cD (.int 0))) (cBin dGetAny (cVar 1) (cD (.int 1)))) aNil))) (cCall f_nearest_sum (aCons (cVar 2) (aCons (cBin dSub (cBin dGetAny (cVar 1) (cD (.int 0))) (cBin dGetAny (cVar 1) (cD (.int 1)))) aNil))))
  (cSeq (cSet 5 (cTup (aCons (cBin dDiv (cBin dAdd (cVar 3) (cVar 4)) (cD (.int 2))) (aCons (cBin dDiv (cBin dSub (cVar 3) (cVar 4)) (cD (.int 2))) aNil))))
  (cRet (cTup (aCons (cBin dAdd (cBi fAbs (aCons (cBin dSub (cBin dGetAny (cVar 5) (cD (.int 0))) (cBin dGetAny (cVar 1) (cD (.int 0)))) aNil)) (cBi fAbs (aCons (cBin dSub (cBin dGetAny (cVar 5) (cD (.int 1))) (cBin dGetAny (cVar 1) (cD (.int 1)))) aNil))) (aCons (cVar 5) aNil))))))))
def f_nearest_to : Fn := runF 6 c_nearest_to
theorem d_nearest_to (g : G K mg) (d_look_at_reach : Def P w K mg base "look_at_reach" 5 2 f_look_at_reach) (d_told_sums : Def P w K mg base "told_sums" 1 1 f_told_sums) (d_nearest_sum : Def P w K mg base "nearest_sum" 1 2 f_nearest_sum) {f : Addr} {fd : FuncData} (hg : mg "nearest_to" = some (.ref f)) (F : Fun K "nearest_to" "nearest_to" (topS 43) f fd) (hb : Binds K fd ["rods", "point"] []) : Def P w K mg base "nearest_to" 6 2 f_nearest_to :=
  def_ok (k := 5) hg F hb sc_nearest_to rfl fun cdv A outer s H E hr =>
  (ss_cons (s_expr (p_call d_look_at_reach hr (by decide) (by rfl) (a_cons (p_var 0 (pv 0)) (a_cons (p_var 1 (pv 1)) a_nil)) (aCons_len (aCons_len aNil_len))))
  (ss_cons (s_set (i := 2) sc_nearest_to.nd rfl (by first | exact Or.inl rfl | exact Or.inr rfl) (p_call d_told_sums hr (by decide) (by rfl) (a_cons (p_var 0 (pv 0)) a_nil) (aCons_len aNil_len)))
  (ss_cons (s_par (i := 3) (j := 4) rfl sc_nearest_to.nd rfl rfl (by decide) (by first | rfl) (by first | rfl) (p_call d_nearest_sum hr (by decide) (by rfl) (a_cons (p_var 2 (pv 2)) (a_cons (p_bin op_addAll ok_add (p_ix (hu_of hr) (p_var 1 (pv 1)) p_int (fun _ _ => rfl)) (p_ix (hu_of hr) (p_var 1 (pv 1)) p_int (fun _ _ => rfl))) a_nil)) (aCons_len (aCons_len aNil_len))) (p_call d_nearest_sum hr (by decide) (by rfl) (a_cons (p_var 2 (pv 2)) (a_cons (p_bin op_sub ok_sub (p_ix (hu_of hr) (p_var 1 (pv 1)) p_int (fun _ _ => rfl)) (p_ix (hu_of hr) (p_var 1 (pv 1)) p_int (fun _ _ => rfl))) a_nil)) (aCons_len (aCons_len aNil_len))) rfl rfl rfl rfl)
  (ss_cons (s_set (i := 5) sc_nearest_to.nd rfl (by first | exact Or.inl rfl | exact Or.inr rfl) (p_tup (a_cons (p_bin op_fdivW ok_div (p_bin op_addAll ok_add (p_var 3 (pv 3)) (p_var 4 (pv 4))) p_int) (a_cons (p_bin op_fdivW ok_div (p_bin op_sub ok_sub (p_var 3 (pv 3)) (p_var 4 (pv 4))) p_int) a_nil))))
  (ss_one (s_ret (p_tup (a_cons (p_bin op_addAll ok_add (p_bi call_abs ok_abs (by rfl) g.b_abs bt_abs (a_cons (p_bin op_sub ok_sub (p_ix (hu_of hr) (p_var 5 (pv 5)) p_int (fun _ _ => rfl)) (p_ix (hu_of hr) (p_var 1 (pv 1)) p_int (fun _ _ => rfl))) a_nil)) (p_bi call_abs ok_abs (by rfl) g.b_abs bt_abs (a_cons (p_bin op_sub ok_sub (p_ix (hu_of hr) (p_var 5 (pv 5)) p_int (fun _ _ => rfl)) (p_ix (hu_of hr) (p_var 1 (pv 1)) p_int (fun _ _ => rfl))) a_nil))) (a_cons (p_var 5 (pv 5)) a_nil)))))))))

abbrev N_least_reach : List Str := ["rods", "one"]
theorem sc_least_reach : FnScope N_least_reach ["rods"] (defScope (topS 44)) := ⟨rfl, rfl, rfl, by decide +kernel, rfl, by decide +kernel, by decide +kernel⟩
def c_least_reach : SS :=
  (cSeq (cExpr (cCall f_look_at_rods (aCons (cVar 0) aNil)))
  (cRet (cBi fMin (aCons (cLC (iKey (cCall f_told_sums (aCons (cVar 0) aNil))) (gN 1) bYes (cBi fAbs (aCons (cVar 1) aNil)) [1]) aNil))))
def f_least_reach : Fn := runF 2 c_least_reach
theorem d_least_reach (g : G K mg) (d_look_at_rods : Def P w K mg base "look_at_rods" 4 1 f_look_at_rods) (d_told_sums : Def P w K mg base "told_sums" 1 1 f_told_sums) {f : Addr} {fd : FuncData} (hg : mg "least_reach" = some (.ref f)) (F : Fun K "least_reach" "least_reach" (topS 44) f fd) (hb : Binds K fd ["rods"] []) : Def P w K mg base "least_reach" 5 1 f_least_reach :=
  def_ok (k := 4) hg F hb sc_least_reach rfl fun cdv A outer s H E hr =>
  (ss_cons (s_expr (p_call d_look_at_rods hr (by decide) (by rfl) (a_cons (p_var 0 (pv 0)) a_nil) (aCons_len aNil_len)))
  (ss_one (s_ret (p_bi (call_minA rfl) ok_min (by rfl) g.b_min bt_min (a_cons (p_lcK (own := [("one", 1)]) rfl sc_least_reach.nd (p_call d_told_sums hr (by decide) (by rfl) (a_cons (p_var 0 (pv 0)) a_nil) (aCons_len aNil_len)) (blkOk_by (by decide +kernel : blkC N_least_reach (defScope (topS 44)) _ _ = true)) (by decide) (fun _ _ _ _ _ => (g_name (i := 1) sc_least_reach.nd rfl (by first | exact Or.inl rfl | exact Or.inr rfl))) (fun _ _ _ _ _ => ts_nil) (fun _ _ _ _ _ => (p_bi call_abs ok_abs (by rfl) g.b_abs bt_abs (a_cons (p_var 1 (pv 1)) a_nil)))) a_nil)))))

abbrev N_same_reach : List Str := ["one", "other", "mine", "its", "word", "here", "there", "lacking", "total"]
theorem sc_same_reach : FnScope N_same_reach ["one", "other"] (defScope (topS 45)) := ⟨rfl, rfl, rfl, by decide +kernel, rfl, by decide +kernel, by decide +kernel⟩
def c_same_reach : SS :=
  (cSeq (cExpr (cCall f_look_at_rods (aCons (cVar 0) aNil)))
  (cSeq (cExpr (cCall f_look_at_rods (aCons (cVar 1) aNil)))
  (cSeq (cPar 2 3 (cCall f_told_sums (aCons (cVar 0) aNil)) (cCall f_told_sums (aCons (cVar 1) aNil)))
  (cSeq (cFor (iSeq (cTup (aCons (cTup (aCons (cD (.str "first")) (aCons (cVar 2) (aCons (cVar 3) aNil)))) (aCons (cTup (aCons (cD (.str "second")) (aCons (cVar 3) (aCons (cVar 2) aNil)))) aNil)))) (gT 3 (gsCons (gN 4) (gsCons (gN 5) (gsCons (gN 6) gsNil))))
  (cSeq (cSet 7 (cFz (cBi fSorted (aCons (cLC (iKey (cVar 5)) (gN 8) (bT (cBin dNotIn (cVar 8) (cVar 6))) (cVar 8) [8]) aNil))))
  (cIf (bT (cBin dNe (cVar 7) (cLst aNil)))
  (cRet (cTup (aCons (cVar 4) (aCons (cTup (aCons (cBin dGetAny (cVar 7) (cUn dNeg (cD (.int 1)))) (aCons (cD (.int 0)) aNil))) aNil))))
  cSkip)))
  (cRet (cTup (aCons (cD (.str "same")) aNil)))))))
def f_same_reach : Fn := runF 9 c_same_reach
theorem d_same_reach (g : G K mg) (d_look_at_rods : Def P w K mg base "look_at_rods" 4 1 f_look_at_rods) (d_told_sums : Def P w K mg base "told_sums" 1 1 f_told_sums) {f : Addr} {fd : FuncData} (hg : mg "same_reach" = some (.ref f)) (F : Fun K "same_reach" "same_reach" (topS 45) f fd) (hb : Binds K fd ["one", "other"] []) : Def P w K mg base "same_reach" 5 2 f_same_reach :=
  def_ok (k := 4) hg F hb sc_same_reach rfl fun cdv A outer s H E hr =>
  (ss_cons (s_expr (p_call d_look_at_rods hr (by decide) (by rfl) (a_cons (p_var 0 (pv 0)) a_nil) (aCons_len aNil_len)))
  (ss_cons (s_expr (p_call d_look_at_rods hr (by decide) (by rfl) (a_cons (p_var 1 (pv 1)) a_nil) (aCons_len aNil_len)))
  (ss_cons (s_par (i := 2) (j := 3) rfl sc_same_reach.nd rfl rfl (by decide) (by first | rfl) (by first | rfl) (p_call d_told_sums hr (by decide) (by rfl) (a_cons (p_var 0 (pv 0)) a_nil) (aCons_len aNil_len)) (p_call d_told_sums hr (by decide) (by rfl) (a_cons (p_var 1 (pv 1)) a_nil) (aCons_len aNil_len)) rfl rfl rfl rfl)
  (ss_cons (s_for PassesOwn.never rfl (i_seq (p_tup (a_cons (p_tup (a_cons p_str (a_cons (p_var 2 (pv 2)) (a_cons (p_var 3 (pv 3)) a_nil)))) (a_cons (p_tup (a_cons p_str (a_cons (p_var 3 (pv 3)) (a_cons (p_var 2 (pv 2)) a_nil)))) a_nil)))) (g_tup rfl (gs_cons (g_name (i := 4) sc_same_reach.nd rfl (by first | exact Or.inl rfl | exact Or.inr rfl)) (gs_cons (g_name (i := 5) sc_same_reach.nd rfl (by first | exact Or.inl rfl | exact Or.inr rfl)) (gs_cons (g_name (i := 6) sc_same_reach.nd rfl (by first | exact Or.inl rfl | exact Or.inr rfl)) gs_nil))))
  (ss_cons (s_set (i := 7) sc_same_reach.nd rfl (by first | exact Or.inl rfl | exact Or.inr rfl) (p_fz (p_bi call_sortedA ok_sorted (by rfl) g.b_sorted bt_sorted (a_cons (p_lcK (own := [("total", 8)]) rfl sc_same_reach.nd (p_var 5 (pv 5)) (blkOk_by (by decide +kernel : blkC N_same_reach (defScope (topS 45)) _ _ = true)) (by decide) (fun _ _ _ _ _ => (g_name (i := 8) sc_same_reach.nd rfl (by first | exact Or.inl rfl | exact Or.inr rfl))) (fun _ _ _ _ _ => (ts_one (t_notin (hu_of hr) (p_var 8 (pv 8)) (p_var 6 (pv 6)) rfl))) (fun _ _ _ _ _ => (p_var 8 (pv 8)))) a_nil))))
  (ss_one (s_if (t_cmp (op_neD hr.units) ok_ne (p_var 7 (pv 7)) (p_lst a_nil) (nomark _)) (ss_one (s_ret (p_tup (a_cons (p_var 4 (pv 4)) (a_cons (p_tup (a_cons (p_ix (hu_of hr) (p_var 7 (pv 7)) (p_un un_neg ok_neg p_int) (fun _ _ => rfl)) (a_cons p_int a_nil))) a_nil))))) ss_nil))))
  (ss_one (s_ret (p_tup (a_cons (p_gct (by rfl) g.c_SAME) a_nil))))))))

abbrev N_fullness : List Str := ["rods", "sums", "gaps", "total"]
theorem sc_fullness : FnScope N_fullness ["rods"] (defScope (topS 46)) := ⟨rfl, rfl, rfl, by decide +kernel, rfl, by decide +kernel, by decide +kernel⟩
def c_fullness : SS :=
  (cSeq (cExpr (cCall f_look_at_rods (aCons (cVar 0) aNil)))
  (cSeq (cSet 1 (cCall f_told_sums (aCons (cVar 0) aNil)))
  (cSeq (cSet 2 (cFz (cLC (iRgC (aCons (cBin dMod (cBi fSum (aCons (cVar 0) aNil)) (cD (.int 2))) (aCons (cBin dAdd (cBi fSum (aCons (cVar 0) aNil)) (cD (.int 1))) (aCons (cD (.int 2)) aNil)))) (gN 3) (bT (cBin dNotIn (cVar 3) (cVar 1))) (cVar 3) [3])))
  (cRet (cIte (bT (cBin dEq (cVar 2) (cLst aNil))) (cTup (aCons (cD (.str "full")) aNil)) (cTup (aCons (cD (.str "gap")) (aCons (cBin dGetAny (cVar 2) (cD (.int 0))) aNil))))))))
def f_fullness : Fn := runF 4 c_fullness
theorem d_fullness (g : G K mg) (d_look_at_rods : Def P w K mg base "look_at_rods" 4 1 f_look_at_rods) (d_told_sums : Def P w K mg base "told_sums" 1 1 f_told_sums) {f : Addr} {fd : FuncData} (hg : mg "fullness" = some (.ref f)) (F : Fun K "fullness" "fullness" (topS 46) f fd) (hb : Binds K fd ["rods"] []) : Def P w K mg base "fullness" 5 1 f_fullness :=
  def_ok (k := 4) hg F hb sc_fullness rfl fun cdv A outer s H E hr =>
  (ss_cons (s_expr (p_call d_look_at_rods hr (by decide) (by rfl) (a_cons (p_var 0 (pv 0)) a_nil) (aCons_len aNil_len)))
  (ss_cons (s_set (i := 1) sc_fullness.nd rfl (by first | exact Or.inl rfl | exact Or.inr rfl) (p_call d_told_sums hr (by decide) (by rfl) (a_cons (p_var 0 (pv 0)) a_nil) (aCons_len aNil_len)))
  (ss_cons (s_setLcZ (i := 2) (own := [("total", 3)]) rfl sc_fullness.nd rfl rfl rfl (i_rgC (by rfl) g.b_range (a_cons (p_bin op_mod ok_mod (p_bi (call_sumA rfl) ok_sum (by rfl) g.b_sum bt_sum (a_cons (p_var 0 (pv 0)) a_nil)) p_int) (a_cons (p_bin op_addAll ok_add (p_bi (call_sumA rfl) ok_sum (by rfl) g.b_sum bt_sum (a_cons (p_var 0 (pv 0)) a_nil)) p_int) (a_cons p_int a_nil)))) (blkOk_by (by decide +kernel : blkC N_fullness (defScope (topS 46)) _ _ = true)) (by decide) (fun _ _ _ _ _ => (g_name (i := 3) sc_fullness.nd rfl (by first | exact Or.inl rfl | exact Or.inr rfl))) (fun _ _ _ _ _ => (ts_one (t_notin (hu_of hr) (p_var 3 (pv 3)) (p_var 1 (pv 1)) rfl))) (fun _ _ _ _ _ => (p_var 3 (pv 3))))
  (ss_one (s_ret (p_ite (t_cmp (op_eqD hr.units) ok_eq (p_var 2 (pv 2)) (p_lst a_nil) (nomark _)) (p_tup (a_cons (p_gct (by rfl) g.c_FULL) a_nil)) (p_tup (a_cons (p_gct (by rfl) g.c_GAP) (a_cons (p_ix (hu_of hr) (p_var 2 (pv 2)) p_int (fun _ _ => rfl)) a_nil)))))))))

abbrev N_how_many_poses : List Str := ["rods", "point", "sums"]
theorem sc_how_many_poses : FnScope N_how_many_poses ["rods", "point"] (defScope (topS 48)) := ⟨rfl, rfl, rfl, by decide +kernel, rfl, by decide +kernel, by decide +kernel⟩
def c_how_many_poses : SS :=
  (cSeq (cExpr (cCall f_look_at_rods (aCons (cVar 0) aNil)))
  (cSeq (cExpr (cCall f_look_at_point (aCons (cVar 1) aNil)))
  (cSeq (cSet 2 (cCall f_told_sums (aCons (cVar 0) aNil)))
  (cRet (cBin dMulI (cGetV 2 (cBin dAdd (cBin dGetAny (cVar 1) (cD (.int 0))) (cBin dGetAny (cVar 1) (cD (.int 1)))) (cD (.int 0))) (cGetV 2 (cBin dSub (cBin dGetAny (cVar 1) (cD (.int 0))) (cBin dGetAny (cVar 1) (cD (.int 1)))) (cD (.int 0))))))))
def f_how_many_poses : Fn := runF 3 c_how_many_poses
theorem d_how_many_poses (g : G K mg) (d_look_at_rods : Def P w K mg base "look_at_rods" 4 1 f_look_at_rods) (d_look_at_point : Def P w K mg base "look_at_point" 4 1 f_look_at_point) (d_told_sums : Def P w K mg base "told_sums" 1 1 f_told_sums) {f : Addr} {fd : FuncData} (hg : mg "how_many_poses" = some (.ref f)) (F : Fun K "how_many_poses" "how_many_poses" (topS 48) f fd) (hb : Binds K fd ["rods", "point"] []) : Def P w K mg base "how_many_poses" 5 2 f_how_many_poses :=
  def_ok (k := 4) hg F hb sc_how_many_poses rfl fun cdv A outer s H E hr =>
  (ss_cons (s_expr (p_call d_look_at_rods hr (by decide) (by rfl) (a_cons (p_var 0 (pv 0)) a_nil) (aCons_len aNil_len)))
  (ss_cons (s_expr (p_call d_look_at_point hr (by decide) (by rfl) (a_cons (p_var 1 (pv 1)) a_nil) (aCons_len aNil_len)))
  (ss_cons (s_set (i := 2) sc_how_many_poses.nd rfl (by first | exact Or.inl rfl | exact Or.inr rfl) (p_call d_told_sums hr (by decide) (by rfl) (a_cons (p_var 0 (pv 0)) a_nil) (aCons_len aNil_len)))
  (ss_one (s_ret (p_bin op_mulW ok_mulI (p_getV (hu_of hr) (pv 2) (p_bin op_addAll ok_add (p_ix (hu_of hr) (p_var 1 (pv 1)) p_int (fun _ _ => rfl)) (p_ix (hu_of hr) (p_var 1 (pv 1)) p_int (fun _ _ => rfl))) p_int ⟨rfl, rfl, rfl, rfl⟩) (p_getV (hu_of hr) (pv 2) (p_bin op_sub ok_sub (p_ix (hu_of hr) (p_var 1 (pv 1)) p_int (fun _ _ => rfl)) (p_ix (hu_of hr) (p_var 1 (pv 1)) p_int (fun _ _ => rfl))) p_int ⟨rfl, rfl, rfl, rfl⟩)))))))

abbrev N__law_pot : List Str := ["script", "place", "cell", "own", "small"]
theorem sc__law_pot : FnScope N__law_pot ["script", "place"] (defScope (topS 50)) := ⟨rfl, rfl, rfl, by decide +kernel, rfl, by decide +kernel, by decide +kernel⟩
def c1__law_pot : SS := (cSet 2 (cFz (cIte (bT (cBin dLt (cVar 1) (cBi fLen (aCons (cVar 0) aNil)))) (cBin dGetAny (cVar 0) (cVar 1)) (cBin dAdd (cBin dAdd (cBin dMod (cBi fInt (aCons (cBi fSum (aCons (cSl (cVar 0) oNone (oSome (cD (.int 1)))) aNil)) aNil)) (cD (.int 1000211))) (cBin dMulI (cD (.int 4639)) (cVar 1))) (cD (.int 3163))))))
def c2__law_pot : SS := (cSet 3 (cBin dMulI (cBin dMod (cBi fInt (aCons (cBi fAbs (aCons (cVar 2) aNil)) aNil)) (cBin dPowW (cBin dPowW (cD (.int 10)) (cD (.int 60))) (cD (.int 5)))) (cBi fInt (aCons (cBin dGe (cBi fAbs (aCons (cVar 2) aNil)) (cBin dPowW (cD (.int 10)) (cD (.int 18)))) aNil))))
def c3__law_pot : SS := (cSet 4 (cBin dMod (cBi fInt (aCons (cVar 2) aNil)) (cD (.int 2305843009213693951))))
def a__law_pot : SA := (aCons (cVar 3) (aCons (cBin dMod (cBi fInt (aCons (cBin dAdd (cBin dAdd (cBin dMulI (cVar 4) (cD (.int 72161))) (cBin dMulI (cBin dMulI (cD (.int 10853)) (cVar 1)) (cVar 1))) (cD (.int 2843))) aNil)) (cD (.int 2305843009213693921))) (aCons (cD (.int 0)) aNil)))
def f__law_pot : PotFn := runP 5 c1__law_pot c2__law_pot c3__law_pot a__law_pot
theorem d__law_pot (g : G K mg) {f : Addr} {fd : FuncData} (hg : mg "_law_pot" = some (.ref f)) (F : Fun K "_law_pot" "_law_pot" (topS 50) f fd) (hb : Binds K fd ["script", "place"] []) : DefP P w K mg base "_law_pot" 1 2 f__law_pot :=
  def_pot (k := 0) hg F hb sc__law_pot rfl rfl fun cdv A outer s H E hr X hX => by
    subst hX
    exact ⟨(s_set (i := 2) sc__law_pot.nd rfl (by first | exact Or.inl rfl | exact Or.inr rfl) (p_fz (p_ite (t_cmp op_lt ok_B0 (p_var 1 (pv 1)) (p_bi call_lenA ok_len (by rfl) g.b_len bt_len (a_cons (p_var 0 (pv 0)) a_nil)) (nomark _)) (p_ix (hu_of hr) (p_var 0 (pv 0)) (p_var 1 (pv 1)) (fun _ _ => rfl)) (p_bin op_addAll ok_add (p_bin op_addAll ok_add (p_bin op_mod ok_mod (p_ty call_int1 ok_int (by rfl) g.b_int bt_int (a_cons (p_bi (call_sumA rfl) ok_sum (by rfl) g.b_sum bt_sum (a_cons (p_sl (p_var 0 (pv 0)) o_none (o_some p_int)) a_nil)) a_nil)) p_int) (p_bin op_mulW ok_mulI p_int (p_var 1 (pv 1)))) p_int)))),
      (s_set (i := 3) sc__law_pot.nd rfl (by first | exact Or.inl rfl | exact Or.inr rfl) (p_bin op_mulW ok_mulI (p_bin op_mod ok_mod (p_ty call_int1 ok_int (by rfl) g.b_int bt_int (a_cons (p_bi call_abs ok_abs (by rfl) g.b_abs bt_abs (a_cons (p_var 2 (pv 2)) a_nil)) a_nil)) (p_bin op_powW ok_powW (p_bin op_powW ok_powW p_int p_int) p_int)) (p_ty call_int1 ok_int (by rfl) g.b_int bt_int (a_cons (p_cmp op_ge ok_B0 (p_bi call_abs ok_abs (by rfl) g.b_abs bt_abs (a_cons (p_var 2 (pv 2)) a_nil)) (p_bin op_powW ok_powW p_int p_int) (nomark _)) a_nil)))),
      (s_set (i := 4) sc__law_pot.nd rfl (by first | exact Or.inl rfl | exact Or.inr rfl) (p_bin op_mod ok_mod (p_ty call_int1 ok_int (by rfl) g.b_int bt_int (a_cons (p_var 2 (pv 2)) a_nil)) p_int)),
      (a_cons (p_var 3 (pv 3)) (a_cons (p_bin op_mod ok_mod (p_ty call_int1 ok_int (by rfl) g.b_int bt_int (a_cons (p_bin op_addAll ok_add (p_bin op_addAll ok_add (p_bin op_mulW ok_mulI (p_var 4 (pv 4)) p_int) (p_bin op_mulW ok_mulI (p_bin op_mulW ok_mulI p_int (p_var 1 (pv 1))) (p_var 1 (pv 1)))) p_int) a_nil)) p_int) (a_cons p_int a_nil)))⟩

abbrev N__law_take : List Str := ["pot", "upto", "digit", "prime", "blend"]
theorem sc__law_take : FnScope N__law_take ["pot", "upto"] (defScope (topS 51)) := ⟨rfl, rfl, rfl, by decide +kernel, rfl, by decide +kernel, by decide +kernel⟩
def s__law_take_0 : SS :=
  (cIf (bT (cBin dGt (cPotGet 0 0) (cD (.int 0))))
  (cSeq (cSet 2 (cBin dMod (cBi fInt (aCons (cPotGet 0 0) aNil)) (cVar 1)))
  (cSeq (cPotSet 0 0 (cBin dDiv (cPotGet 0 0) (cVar 1)))
  (cRet (cVar 2))))
  cSkip)
def s__law_take_1 : SS :=
  (cPotSet 0 2 (cBin dAdd (cPotGet 0 2) (cD (.int 1))))
def s__law_take_2 : SS :=
  (cSet 3 (cBin dGetAny (cLst (aCons (cD (.int 2147483647)) (aCons (cD (.int 2147483629)) (aCons (cD (.int 2147483587)) (aCons (cD (.int 2147483579)) (aCons (cD (.int 2147483563)) aNil)))))) (cBin dMod (cBi fInt (aCons (cPotGet 0 2) aNil)) (cD (.int 5)))))
def s__law_take_3 : SS :=
  (cSet 4 (cBin dMod (cBi fInt (aCons (cBin dPowW (cBi fInt (aCons (cBin dAdd (cBin dAdd (cPotGet 0 1) (cBin dMulI (cBin dMulI (cD (.int 95257)) (cPotGet 0 2)) (cPotGet 0 2))) (cD (.int 3163))) aNil)) (cD (.int 3))) aNil)) (cVar 3)))
def s__law_take_4 : SS :=
  (cSet 4 (cBin dMod (cBi fInt (aCons (cBin dMulI (cVar 4) (cBin dAdd (cBin dMod (cBi fInt (aCons (cVar 4) aNil)) (cD (.int 13441))) (cBin dMulI (cD (.int 419)) (cPotGet 0 2)))) aNil)) (cD (.int 2305843009213693907))))
def s__law_take_5 : SS :=
  (cRet (cBin dMod (cBi fInt (aCons (cBin dDiv (cVar 4) (cD (.int 229))) aNil)) (cVar 1)))
def c__law_take : SS :=
  (cSeq s__law_take_0
  (cSeq s__law_take_1
  (cSeq s__law_take_2
  (cSeq s__law_take_3
  (cSeq s__law_take_4
  s__law_take_5)))))
def f__law_take : Fn := runF 5 c__law_take
theorem d__law_take (g : G K mg) {f : Addr} {fd : FuncData} (hg : mg "_law_take" = some (.ref f)) (F : Fun K "_law_take" "_law_take" (topS 51) f fd) (hb : Binds K fd ["pot", "upto"] []) : Def P w K mg base "_law_take" 1 2 f__law_take :=
  def_ok (k := 0) hg F hb sc__law_take rfl fun cdv A outer s H E hr =>
  (ss_cons (s_if (t_cmp op_gt ok_B0 (p_potGet (k := 0) (by decide) (pv 0) (fun _ _ => rfl)) p_int (nomark _)) (ss_cons (s_set (i := 2) sc__law_take.nd rfl (by first | exact Or.inl rfl | exact Or.inr rfl) (p_bin op_mod ok_mod (p_ty call_int1 ok_int (by rfl) g.b_int bt_int (a_cons (p_potGet (k := 0) (by decide) (pv 0) (fun _ _ => rfl)) a_nil)) (p_var 1 (pv 1))))
  (ss_cons (s_potSet (k := 0) (by decide) (pv 0) (p_bin op_fdivW ok_div (p_potGet (k := 0) (by decide) (pv 0) (fun _ _ => rfl)) (p_var 1 (pv 1))) rfl rfl)
  (ss_one (s_ret (p_var 2 (pv 2)))))) ss_nil)
  (ss_cons (s_potSet (k := 2) (by decide) (pv 0) (p_bin op_addAll ok_add (p_potGet (k := 2) (by decide) (pv 0) (fun _ _ => rfl)) p_int) rfl rfl)
  (ss_cons (s_set (i := 3) sc__law_take.nd rfl (by first | exact Or.inl rfl | exact Or.inr rfl) (p_ix (hu_of hr) (p_lst (a_cons p_int (a_cons p_int (a_cons p_int (a_cons p_int (a_cons p_int a_nil)))))) (p_bin op_mod ok_mod (p_ty call_int1 ok_int (by rfl) g.b_int bt_int (a_cons (p_potGet (k := 2) (by decide) (pv 0) (fun _ _ => rfl)) a_nil)) p_int) (fun _ _ => rfl)))
  (ss_cons (s_set (i := 4) sc__law_take.nd rfl (by first | exact Or.inl rfl | exact Or.inr rfl) (p_bin op_mod ok_mod (p_ty call_int1 ok_int (by rfl) g.b_int bt_int (a_cons (p_bin op_powW ok_powW (p_ty call_int1 ok_int (by rfl) g.b_int bt_int (a_cons (p_bin op_addAll ok_add (p_bin op_addAll ok_add (p_potGet (k := 1) (by decide) (pv 0) (fun _ _ => rfl)) (p_bin op_mulW ok_mulI (p_bin op_mulW ok_mulI p_int (p_potGet (k := 2) (by decide) (pv 0) (fun _ _ => rfl))) (p_potGet (k := 2) (by decide) (pv 0) (fun _ _ => rfl)))) p_int) a_nil)) p_int) a_nil)) (p_var 3 (pv 3))))
  (ss_cons (s_set (i := 4) sc__law_take.nd rfl (by first | exact Or.inl rfl | exact Or.inr rfl) (p_bin op_mod ok_mod (p_ty call_int1 ok_int (by rfl) g.b_int bt_int (a_cons (p_bin op_mulW ok_mulI (p_var 4 (pv 4)) (p_bin op_addAll ok_add (p_bin op_mod ok_mod (p_ty call_int1 ok_int (by rfl) g.b_int bt_int (a_cons (p_var 4 (pv 4)) a_nil)) p_int) (p_bin op_mulW ok_mulI p_int (p_potGet (k := 2) (by decide) (pv 0) (fun _ _ => rfl))))) a_nil)) p_int))
  (ss_one (s_ret (p_bin op_mod ok_mod (p_ty call_int1 ok_int (by rfl) g.b_int bt_int (a_cons (p_bin op_fdivW ok_div (p_var 4 (pv 4)) p_int) a_nil)) (p_var 1 (pv 1))))))))))

abbrev N__law_cells : List Str := ["script", "most"]
theorem sc__law_cells : FnScope N__law_cells ["script", "most"] (defScope (topS 52)) := ⟨rfl, rfl, rfl, by decide +kernel, rfl, by decide +kernel, by decide +kernel⟩
def c__law_cells : SS :=
  (cRet (cListRg (cBi fMax (aCons (cD (.int 1)) (aCons (cBi fMin (aCons (cVar 1) (aCons (cBi fLen (aCons (cVar 0) aNil)) aNil))) aNil)))))
def f__law_cells : Fn := runF 2 c__law_cells
theorem d__law_cells (g : G K mg) {f : Addr} {fd : FuncData} (hg : mg "_law_cells" = some (.ref f)) (F : Fun K "_law_cells" "_law_cells" (topS 52) f fd) (hb : Binds K fd ["script", "most"] []) : Def P w K mg base "_law_cells" 1 2 f__law_cells :=
  def_ok (k := 0) hg F hb sc__law_cells rfl fun cdv A outer s H E hr =>
  (ss_one (s_ret (p_listRg rfl (by rfl) g.b_list (by rfl) g.b_range (p_bi (call_maxA rfl) ok_max (by rfl) g.b_max bt_max (a_cons p_int (a_cons (p_bi (call_minA rfl) ok_min (by rfl) g.b_min bt_min (a_cons (p_var 1 (pv 1)) (a_cons (p_bi call_lenA ok_len (by rfl) g.b_len bt_len (a_cons (p_var 0 (pv 0)) a_nil)) a_nil))) a_nil))))))

abbrev N__law_some : List Str := ["pot", "pool", "many", "rests", "found", "lap"]
theorem sc__law_some : FnScope N__law_some ["pot", "pool", "many"] (defScope (topS 53)) := ⟨rfl, rfl, rfl, by decide +kernel, rfl, by decide +kernel, by decide +kernel⟩
def c__law_some : SS :=
  (cSeq (cPar 3 4 (cBi fList (aCons (cVar 1) aNil)) (cLst aNil))
  (cSeq (cFor (iRg1 (aCons (cVar 2) aNil)) (gN 5)
  (cApp 4 (cPop 3 (cCall f__law_take (aCons (cVar 0) (aCons (cLenV 3) aNil))))))
  (cRet (cVar 4))))
def f__law_some : Fn := runF 6 c__law_some
theorem d__law_some (g : G K mg) (d__law_take : Def P w K mg base "_law_take" 1 2 f__law_take) {f : Addr} {fd : FuncData} (hg : mg "_law_some" = some (.ref f)) (F : Fun K "_law_some" "_law_some" (topS 53) f fd) (hb : Binds K fd ["pot", "pool", "many"] []) : Def P w K mg base "_law_some" 2 3 f__law_some :=
  def_ok (k := 1) hg F hb sc__law_some rfl fun cdv A outer s H E hr =>
  (ss_cons (s_par (i := 3) (j := 4) rfl sc__law_some.nd rfl rfl (by decide) (by first | rfl) (by first | rfl) (p_ty call_listA ok_list (by rfl) g.b_list bt_list (a_cons (p_var 1 (pv 1)) a_nil)) (p_lst a_nil) rfl rfl rfl rfl)
  (ss_cons (s_for PassesOwn.never rfl (i_rg1 (by rfl) g.b_range (a_cons (p_var 2 (pv 2)) a_nil)) (g_name (i := 5) sc__law_some.nd rfl (by first | exact Or.inl rfl | exact Or.inr rfl))
  (ss_one (s_app (pv 4) (p_pop (pv 3) (p_call d__law_take hr (by decide) (by rfl) (a_cons (p_var 0 (pv 0)) (a_cons (p_lenV (pv 3) (by rfl) g.b_len rfl rfl) a_nil)) (aCons_len (aCons_len aNil_len))) rfl rfl rfl rfl rfl) rfl rfl rfl rfl rfl rfl)))
  (ss_one (s_ret (p_var 4 (pv 4))))))

abbrev N__law_ways : List Str := []
theorem sc__law_ways : FnScope N__law_ways [] (defScope (topS 54)) := ⟨rfl, rfl, rfl, by decide +kernel, rfl, by decide +kernel, by decide +kernel⟩
def c__law_ways : SS :=
  (cRet (cTup (aCons (cTup (aCons (cD (.int 1)) (aCons (cD (.int 0)) aNil))) (aCons (cTup (aCons (cD (.int 0)) (aCons (cD (.int 1)) aNil))) (aCons (cTup (aCons (cUn dNeg (cD (.int 1))) (aCons (cD (.int 0)) aNil))) (aCons (cTup (aCons (cD (.int 0)) (aCons (cUn dNeg (cD (.int 1))) aNil))) aNil))))))
def f__law_ways : Fn := runF 0 c__law_ways
theorem d__law_ways (g : G K mg) {f : Addr} {fd : FuncData} (hg : mg "_law_ways" = some (.ref f)) (F : Fun K "_law_ways" "_law_ways" (topS 54) f fd) (hb : Binds K fd [] []) : Def P w K mg base "_law_ways" 1 0 f__law_ways :=
  def_ok (k := 0) hg F hb sc__law_ways rfl fun cdv A outer s H E hr =>
  (ss_one (s_ret (p_tup (a_cons (p_tup (a_cons p_int (a_cons p_int a_nil))) (a_cons (p_tup (a_cons p_int (a_cons p_int a_nil))) (a_cons (p_tup (a_cons (p_un un_neg ok_neg p_int) (a_cons p_int a_nil))) (a_cons (p_tup (a_cons p_int (a_cons (p_un un_neg ok_neg p_int) a_nil))) a_nil)))))))

abbrev N__law_rods_drawn : List Str := ["pot", "most", "long", "rod"]
theorem sc__law_rods_drawn : FnScope N__law_rods_drawn ["pot", "most", "long"] (defScope (topS 55)) := ⟨rfl, rfl, rfl, by decide +kernel, rfl, by decide +kernel, by decide +kernel⟩
def c__law_rods_drawn : SS :=
  (cRet (cBi fTuple (aCons (cLC (iRg1 (aCons (cBin dAdd (cD (.int 1)) (cCall f__law_take (aCons (cVar 0) (aCons (cVar 1) aNil)))) aNil)) (gN 3) bYes (cBin dAdd (cD (.int 1)) (cBi fInt (aCons (cCall f__law_take (aCons (cVar 0) (aCons (cVar 2) aNil))) aNil))) [3]) aNil)))
def f__law_rods_drawn : Fn := runF 4 c__law_rods_drawn
theorem d__law_rods_drawn (g : G K mg) (d__law_take : Def P w K mg base "_law_take" 1 2 f__law_take) {f : Addr} {fd : FuncData} (hg : mg "_law_rods_drawn" = some (.ref f)) (F : Fun K "_law_rods_drawn" "_law_rods_drawn" (topS 55) f fd) (hb : Binds K fd ["pot", "most", "long"] []) : Def P w K mg base "_law_rods_drawn" 2 3 f__law_rods_drawn :=
  def_ok (k := 1) hg F hb sc__law_rods_drawn rfl fun cdv A outer s H E hr =>
  (ss_one (s_ret (p_ty call_tupA ok_tuple (by rfl) g.b_tuple bt_tuple (a_cons (p_lc (own := [("rod", 3)]) rfl sc__law_rods_drawn.nd (i_rg1 (by rfl) g.b_range (a_cons (p_bin op_addAll ok_add p_int (p_call d__law_take hr (by decide) (by rfl) (a_cons (p_var 0 (pv 0)) (a_cons (p_var 1 (pv 1)) a_nil)) (aCons_len (aCons_len aNil_len)))) a_nil)) (blkOk_by (by decide +kernel : blkC N__law_rods_drawn (defScope (topS 55)) _ _ = true)) (by decide) (fun _ _ _ _ _ => (g_name (i := 3) sc__law_rods_drawn.nd rfl (by first | exact Or.inl rfl | exact Or.inr rfl))) (fun _ _ _ _ _ => ts_nil) (fun _ _ _ _ _ => (p_bin op_addAll ok_add p_int (p_ty call_int1 ok_int (by rfl) g.b_int bt_int (a_cons (p_call d__law_take hr (by decide) (by rfl) (a_cons (p_var 0 (pv 0)) (a_cons (p_var 2 (pv 2)) a_nil)) (aCons_len (aCons_len aNil_len))) a_nil))))) a_nil))))

abbrev N__law_pose_drawn : List Str := ["pot", "rods", "rod"]
theorem sc__law_pose_drawn : FnScope N__law_pose_drawn ["pot", "rods"] (defScope (topS 56)) := ⟨rfl, rfl, rfl, by decide +kernel, rfl, by decide +kernel, by decide +kernel⟩
def c__law_pose_drawn : SS :=
  (cRet (cBi fTuple (aCons (cLC (iSeq (cVar 1)) (gN 2) bYes (cBi fInt (aCons (cCall f__law_take (aCons (cVar 0) (aCons (cD (.int 4)) aNil))) aNil)) [2]) aNil)))
def f__law_pose_drawn : Fn := runF 3 c__law_pose_drawn
theorem d__law_pose_drawn (g : G K mg) (d__law_take : Def P w K mg base "_law_take" 1 2 f__law_take) {f : Addr} {fd : FuncData} (hg : mg "_law_pose_drawn" = some (.ref f)) (F : Fun K "_law_pose_drawn" "_law_pose_drawn" (topS 56) f fd) (hb : Binds K fd ["pot", "rods"] []) : Def P w K mg base "_law_pose_drawn" 2 2 f__law_pose_drawn :=
  def_ok (k := 1) hg F hb sc__law_pose_drawn rfl fun cdv A outer s H E hr =>
  (ss_one (s_ret (p_ty call_tupA ok_tuple (by rfl) g.b_tuple bt_tuple (a_cons (p_lc (own := [("rod", 2)]) rfl sc__law_pose_drawn.nd (i_seq (p_var 1 (pv 1))) (blkOk_by (by decide +kernel : blkC N__law_pose_drawn (defScope (topS 56)) _ _ = true)) (by decide) (fun _ _ _ _ _ => (g_name (i := 2) sc__law_pose_drawn.nd rfl (by first | exact Or.inl rfl | exact Or.inr rfl))) (fun _ _ _ _ _ => ts_nil) (fun _ _ _ _ _ => (p_ty call_int1 ok_int (by rfl) g.b_int bt_int (a_cons (p_call d__law_take hr (by decide) (by rfl) (a_cons (p_var 0 (pv 0)) (a_cons p_int a_nil)) (aCons_len (aCons_len aNil_len))) a_nil)))) a_nil))))

abbrev N__law_is_right : List Str := ["pot", "rods", "point", "ways", "is_there", "x", "y", "made", "mixed", "by", "great", "more", "beside", "off", "near", "rod", "total", "one", "across", "up"]
theorem sc__law_is_right : FnScope N__law_is_right ["pot", "rods", "point"] (defScope (topS 57)) := ⟨rfl, rfl, rfl, by decide +kernel, rfl, by decide +kernel, by decide +kernel⟩
def s__law_is_right_0 : SS :=
  (cPar 3 4 (cCall f_how_many_poses (aCons (cVar 1) (aCons (cVar 2) aNil))) (cCall f_is_reached (aCons (cVar 1) (aCons (cVar 2) aNil))))
def s__law_is_right_1 : SS :=
  (cIf (bOr (bT (cBin dNe (cBin dGt (cVar 3) (cD (.int 0))) (cVar 4))) (bT (cBin dNe (cBin dEq (cBin dGetAny (cCall f_reach (aCons (cVar 1) (aCons (cVar 2) aNil))) (cD (.int 0))) (cD (.str "pose"))) (cVar 4))))
  (cRet (cD (.bl false)))
  cSkip)
def s__law_is_right_2 : SS :=
  (cAsg (gT 2 (gsCons (gN 5) (gsCons (gN 6) gsNil))) (cVar 2))
def s__law_is_right_3 : SS :=
  (cFor (iSeq (cTup (aCons (cTup (aCons (cUn dNeg (cVar 6)) (aCons (cVar 5) aNil))) (aCons (cTup (aCons (cUn dNeg (cVar 5)) (aCons (cUn dNeg (cVar 6)) aNil))) (aCons (cTup (aCons (cVar 5) (aCons (cUn dNeg (cVar 6)) aNil))) (aCons (cTup (aCons (cVar 6) (aCons (cVar 5) aNil))) aNil)))))) (gN 7)
  (cSeq (cIf (bOr (bT (cBin dNe (cCall f_how_many_poses (aCons (cVar 1) (aCons (cVar 7) aNil))) (cVar 3))) (bT (cBin dNe (cCall f_is_reached (aCons (cVar 1) (aCons (cVar 7) aNil))) (cVar 4))))
  (cRet (cD (.bl false)))
  cSkip)
  (cIf (bT (cBin dNe (cBin dGetAny (cCall f_nearest_to (aCons (cVar 1) (aCons (cVar 7) aNil))) (cD (.int 0))) (cBin dGetAny (cCall f_nearest_to (aCons (cVar 1) (aCons (cVar 2) aNil))) (cD (.int 0)))))
  (cRet (cD (.bl false)))
  cSkip)))
def s__law_is_right_4 : SS :=
  (cSet 8 (cBi fTuple (aCons (cLC (iSeq (cCall f__law_some (aCons (cVar 0) (aCons (cBi fList (aCons (cVar 1) aNil)) (aCons (cBi fLen (aCons (cVar 1) aNil)) aNil))))) (gN 15) bYes (cBi fInt (aCons (cVar 15) aNil)) [15]) aNil)))
def s__law_is_right_5 : SS :=
  (cIf (bOr (bT (cBin dNe (cCall f_how_many_poses (aCons (cVar 8) (aCons (cVar 2) aNil))) (cVar 3))) (bT (cBin dNe (cCall f_same_reach (aCons (cVar 1) (aCons (cVar 8) aNil))) (cTup (aCons (cD (.str "same")) aNil)))))
  (cRet (cD (.bl false)))
  cSkip)
def s__law_is_right_6 : SS :=
  (cSet 9 (cFz (cBin dAdd (cD (.int 2)) (cBi fInt (aCons (cCall f__law_take (aCons (cVar 0) (aCons (cD (.int 4)) aNil))) aNil)))))
def s__law_is_right_7 : SS :=
  (cSet 10 (cBi fTuple (aCons (cLC (iSeq (cVar 1)) (gN 15) bYes (cBin dMulI (cVar 9) (cVar 15)) [15]) aNil)))
def s__law_is_right_8 : SS :=
  (cIf (bOr (bT (cBin dNe (cCall f_how_many_poses (aCons (cVar 10) (aCons (cTup (aCons (cBin dMulI (cVar 9) (cVar 5)) (aCons (cBin dMulI (cVar 9) (cVar 6)) aNil))) aNil))) (cVar 3))) (bT (cBin dNe (cCall f_how_many_reached (aCons (cVar 10) aNil)) (cCall f_how_many_reached (aCons (cVar 1) aNil)))))
  (cRet (cD (.bl false)))
  cSkip)
def s__law_is_right_9 : SS :=
  (cIf (bOr (bT (cBin dNe (cCall f_least_reach (aCons (cVar 10) aNil)) (cBin dMulI (cVar 9) (cCall f_least_reach (aCons (cVar 1) aNil))))) (bT (cBin dNe (cCall f_sums_of (aCons (cVar 10) aNil)) (cBi fTuple (aCons (cLC (iSeq (cCall f_sums_of (aCons (cVar 1) aNil))) (gN 16) bYes (cBin dMulI (cVar 9) (cVar 16)) [16]) aNil)))))
  (cRet (cD (.bl false)))
  cSkip)
def s__law_is_right_10 : SS :=
  (cIf (bAnd (bT (cVar 4)) (bT (cBin dGt (cBin dAdd (cBi fAbs (aCons (cVar 5) aNil)) (cBi fAbs (aCons (cVar 6) aNil))) (cBi fSum (aCons (cVar 1) aNil)))))
  (cRet (cD (.bl false)))
  cSkip)
def s__law_is_right_11 : SS :=
  (cSet 11 (cFz (cBin dAdd (cD (.int 1)) (cBi fInt (aCons (cCall f__law_take (aCons (cVar 0) (aCons (cD (.int 9)) aNil))) aNil)))))
def s__law_is_right_12 : SS :=
  (cSet 12 (cFz (cLst (aCons (cTup (aCons (cBin dAdd (cVar 5) (cVar 11)) (aCons (cVar 6) aNil))) (aCons (cTup (aCons (cBin dSub (cVar 5) (cVar 11)) (aCons (cVar 6) aNil))) (aCons (cTup (aCons (cVar 5) (aCons (cBin dAdd (cVar 6) (cVar 11)) aNil))) (aCons (cTup (aCons (cVar 5) (aCons (cBin dSub (cVar 6) (cVar 11)) aNil))) aNil)))))))
def s__law_is_right_13 : SS :=
  (cIf (bT (cBin dNe (cCall f_how_many_poses (aCons (cBin dAdd (cVar 1) (cTup (aCons (cVar 11) aNil))) (aCons (cVar 2) aNil))) (cBi fSum (aCons (cLC (iSeq (cVar 12)) (gN 17) bYes (cCall f_how_many_poses (aCons (cVar 1) (aCons (cVar 17) aNil))) [17]) aNil))))
  (cRet (cD (.bl false)))
  cSkip)
def s__law_is_right_14 : SS :=
  (cIf (bT (cBin dNe (cCall f_is_reached (aCons (cBin dAdd (cVar 1) (cTup (aCons (cVar 11) aNil))) (aCons (cVar 2) aNil))) (cBi fAny (aCons (cLC (iSeq (cVar 12)) (gN 17) bYes (cCall f_is_reached (aCons (cVar 1) (aCons (cVar 17) aNil))) [17]) aNil))))
  (cRet (cD (.bl false)))
  cSkip)
def s__law_is_right_15 : SS :=
  (cSet 13 (cBin dGetAny (cCall f_nearest_to (aCons (cVar 1) (aCons (cVar 2) aNil))) (cD (.int 0))))
def s__law_is_right_16 : SS :=
  (cSet 14 (cFz (cLC (iSeq (cCall f__law_ways aNil)) (gT 2 (gsCons (gN 18) (gsCons (gN 19) gsNil))) bYes (cTup (aCons (cBin dAdd (cVar 5) (cVar 18)) (aCons (cBin dAdd (cVar 6) (cVar 19)) aNil))) [18, 19])))
def s__law_is_right_17 : SS :=
  (cRet (cBi fAll (aCons (cLC (iSeq (cVar 14)) (gN 17) bYes (cBin dLe (cBi fAbs (aCons (cBin dSub (cBin dGetAny (cCall f_nearest_to (aCons (cVar 1) (aCons (cVar 17) aNil))) (cD (.int 0))) (cVar 13)) aNil)) (cD (.int 1))) [17]) aNil)))
def c__law_is_right : SS :=
  (cSeq s__law_is_right_0
  (cSeq s__law_is_right_1
  (cSeq s__law_is_right_2
  (cSeq s__law_is_right_3
  (cSeq s__law_is_right_4
  (cSeq s__law_is_right_5
  (cSeq s__law_is_right_6
  (cSeq s__law_is_right_7
  (cSeq s__law_is_right_8
  (cSeq s__law_is_right_9
  (cSeq s__law_is_right_10
  (cSeq s__law_is_right_11
  (cSeq s__law_is_right_12
  (cSeq s__law_is_right_13
  (cSeq s__law_is_right_14
  (cSeq s__law_is_right_15
  (cSeq s__law_is_right_16
  s__law_is_right_17)))))))))))))))))
def f__law_is_right : Fn := runF 20 c__law_is_right
theorem d__law_is_right (g : G K mg) (d_how_many_poses : Def P w K mg base "how_many_poses" 5 2 f_how_many_poses) (d_is_reached : Def P w K mg base "is_reached" 6 2 f_is_reached) (d_reach : Def P w K mg base "reach" 6 2 f_reach) (d_nearest_to : Def P w K mg base "nearest_to" 6 2 f_nearest_to) (d__law_some : Def P w K mg base "_law_some" 2 3 f__law_some) (d_same_reach : Def P w K mg base "same_reach" 5 2 f_same_reach) (d__law_take : Def P w K mg base "_law_take" 1 2 f__law_take) (d_how_many_reached : Def P w K mg base "how_many_reached" 5 1 f_how_many_reached) (d_least_reach : Def P w K mg base "least_reach" 5 1 f_least_reach) (d_sums_of : Def P w K mg base "sums_of" 5 1 f_sums_of) (d__law_ways : Def P w K mg base "_law_ways" 1 0 f__law_ways) {f : Addr} {fd : FuncData} (hg : mg "_law_is_right" = some (.ref f)) (F : Fun K "_law_is_right" "_law_is_right" (topS 57) f fd) (hb : Binds K fd ["pot", "rods", "point"] []) : Def P w K mg base "_law_is_right" 7 3 f__law_is_right :=
  def_ok (k := 6) hg F hb sc__law_is_right rfl fun cdv A outer s H E hr =>
  (ss_cons (s_par (i := 3) (j := 4) rfl sc__law_is_right.nd rfl rfl (by decide) (by first | rfl) (by first | rfl) (p_call d_how_many_poses hr (by decide) (by rfl) (a_cons (p_var 1 (pv 1)) (a_cons (p_var 2 (pv 2)) a_nil)) (aCons_len (aCons_len aNil_len))) (p_call d_is_reached hr (by decide) (by rfl) (a_cons (p_var 1 (pv 1)) (a_cons (p_var 2 (pv 2)) a_nil)) (aCons_len (aCons_len aNil_len))) rfl rfl rfl rfl)
  (ss_cons (s_if (PW.pt (t_or (t_cmp (op_neD hr.units) ok_ne (p_cmp op_gt ok_B0 (p_var 3 (pv 3)) p_int (nomark _)) (p_var 4 (pv 4)) (nomark _)) (pw_or1 (t_cmp (op_neD hr.units) ok_ne (p_cmp (op_eqD hr.units) ok_eq (p_ix (hu_of hr) (p_call d_reach hr (by decide) (by rfl) (a_cons (p_var 1 (pv 1)) (a_cons (p_var 2 (pv 2)) a_nil)) (aCons_len (aCons_len aNil_len))) p_int (fun _ _ => rfl)) p_str (nomark _)) (p_var 4 (pv 4)) (nomark _))))) (ss_one (s_ret p_bl)) ss_nil)
  (ss_cons (s_asg (p_var 2 (pv 2)) (g_tup rfl (gs_cons (g_name (i := 5) sc__law_is_right.nd rfl (by first | exact Or.inl rfl | exact Or.inr rfl)) (gs_cons (g_name (i := 6) sc__law_is_right.nd rfl (by first | exact Or.inl rfl | exact Or.inr rfl)) gs_nil))))
  (ss_cons (s_for PassesOwn.never rfl (i_seq (p_tup (a_cons (p_tup (a_cons (p_un un_neg ok_neg (p_var 6 (pv 6))) (a_cons (p_var 5 (pv 5)) a_nil))) (a_cons (p_tup (a_cons (p_un un_neg ok_neg (p_var 5 (pv 5))) (a_cons (p_un un_neg ok_neg (p_var 6 (pv 6))) a_nil))) (a_cons (p_tup (a_cons (p_var 5 (pv 5)) (a_cons (p_un un_neg ok_neg (p_var 6 (pv 6))) a_nil))) (a_cons (p_tup (a_cons (p_var 6 (pv 6)) (a_cons (p_var 5 (pv 5)) a_nil))) a_nil)))))) (g_name (i := 7) sc__law_is_right.nd rfl (by first | exact Or.inl rfl | exact Or.inr rfl))
  (ss_cons (s_if (PW.pt (t_or (t_cmp (op_neD hr.units) ok_ne (p_call d_how_many_poses hr (by decide) (by rfl) (a_cons (p_var 1 (pv 1)) (a_cons (p_var 7 (pv 7)) a_nil)) (aCons_len (aCons_len aNil_len))) (p_var 3 (pv 3)) (nomark _)) (pw_or1 (t_cmp (op_neD hr.units) ok_ne (p_call d_is_reached hr (by decide) (by rfl) (a_cons (p_var 1 (pv 1)) (a_cons (p_var 7 (pv 7)) a_nil)) (aCons_len (aCons_len aNil_len))) (p_var 4 (pv 4)) (nomark _))))) (ss_one (s_ret p_bl)) ss_nil)
  (ss_one (s_if (t_cmp (op_neD hr.units) ok_ne (p_ix (hu_of hr) (p_call d_nearest_to hr (by decide) (by rfl) (a_cons (p_var 1 (pv 1)) (a_cons (p_var 7 (pv 7)) a_nil)) (aCons_len (aCons_len aNil_len))) p_int (fun _ _ => rfl)) (p_ix (hu_of hr) (p_call d_nearest_to hr (by decide) (by rfl) (a_cons (p_var 1 (pv 1)) (a_cons (p_var 2 (pv 2)) a_nil)) (aCons_len (aCons_len aNil_len))) p_int (fun _ _ => rfl)) (nomark _)) (ss_one (s_ret p_bl)) ss_nil))))
  (ss_cons (s_set (i := 8) sc__law_is_right.nd rfl (by first | exact Or.inl rfl | exact Or.inr rfl) (p_ty call_tupA ok_tuple (by rfl) g.b_tuple bt_tuple (a_cons (p_lc (own := [("rod", 15)]) rfl sc__law_is_right.nd (i_seq (p_call d__law_some hr (by decide) (by rfl) (a_cons (p_var 0 (pv 0)) (a_cons (p_ty call_listA ok_list (by rfl) g.b_list bt_list (a_cons (p_var 1 (pv 1)) a_nil)) (a_cons (p_bi call_lenA ok_len (by rfl) g.b_len bt_len (a_cons (p_var 1 (pv 1)) a_nil)) a_nil))) (aCons_len (aCons_len (aCons_len aNil_len))))) (blkOk_by (by decide +kernel : blkC N__law_is_right (defScope (topS 57)) _ _ = true)) (by decide) (fun _ _ _ _ _ => (g_name (i := 15) sc__law_is_right.nd rfl (by first | exact Or.inl rfl | exact Or.inr rfl))) (fun _ _ _ _ _ => ts_nil) (fun _ _ _ _ _ => (p_ty call_int1 ok_int (by rfl) g.b_int bt_int (a_cons (p_var 15 (pv 15)) a_nil)))) a_nil)))
  (ss_cons (s_if (PW.pt (t_or (t_cmp (op_neD hr.units) ok_ne (p_call d_how_many_poses hr (by decide) (by rfl) (a_cons (p_var 8 (pv 8)) (a_cons (p_var 2 (pv 2)) a_nil)) (aCons_len (aCons_len aNil_len))) (p_var 3 (pv 3)) (nomark _)) (pw_or1 (t_cmp (op_neD hr.units) ok_ne (p_call d_same_reach hr (by decide) (by rfl) (a_cons (p_var 1 (pv 1)) (a_cons (p_var 8 (pv 8)) a_nil)) (aCons_len (aCons_len aNil_len))) (p_tup (a_cons p_str a_nil)) (nomark _))))) (ss_one (s_ret p_bl)) ss_nil)
  (ss_cons (s_set (i := 9) sc__law_is_right.nd rfl (by first | exact Or.inl rfl | exact Or.inr rfl) (p_fz (p_bin op_addAll ok_add p_int (p_ty call_int1 ok_int (by rfl) g.b_int bt_int (a_cons (p_call d__law_take hr (by decide) (by rfl) (a_cons (p_var 0 (pv 0)) (a_cons p_int a_nil)) (aCons_len (aCons_len aNil_len))) a_nil)))))
  (ss_cons (s_set (i := 10) sc__law_is_right.nd rfl (by first | exact Or.inl rfl | exact Or.inr rfl) (p_ty call_tupA ok_tuple (by rfl) g.b_tuple bt_tuple (a_cons (p_lc (own := [("rod", 15)]) rfl sc__law_is_right.nd (i_seq (p_var 1 (pv 1))) (blkOk_by (by decide +kernel : blkC N__law_is_right (defScope (topS 57)) _ _ = true)) (by decide) (fun _ _ _ _ _ => (g_name (i := 15) sc__law_is_right.nd rfl (by first | exact Or.inl rfl | exact Or.inr rfl))) (fun _ _ _ _ _ => ts_nil) (fun _ _ _ _ _ => (p_bin op_mulW ok_mulI (p_var 9 (pv 9)) (p_var 15 (pv 15))))) a_nil)))
  (ss_cons (s_if (PW.pt (t_or (t_cmp (op_neD hr.units) ok_ne (p_call d_how_many_poses hr (by decide) (by rfl) (a_cons (p_var 10 (pv 10)) (a_cons (p_tup (a_cons (p_bin op_mulW ok_mulI (p_var 9 (pv 9)) (p_var 5 (pv 5))) (a_cons (p_bin op_mulW ok_mulI (p_var 9 (pv 9)) (p_var 6 (pv 6))) a_nil))) a_nil)) (aCons_len (aCons_len aNil_len))) (p_var 3 (pv 3)) (nomark _)) (pw_or1 (t_cmp (op_neD hr.units) ok_ne (p_call d_how_many_reached hr (by decide) (by rfl) (a_cons (p_var 10 (pv 10)) a_nil) (aCons_len aNil_len)) (p_call d_how_many_reached hr (by decide) (by rfl) (a_cons (p_var 1 (pv 1)) a_nil) (aCons_len aNil_len)) (nomark _))))) (ss_one (s_ret p_bl)) ss_nil)
  (ss_cons (s_if (PW.pt (t_or (t_cmp (op_neD hr.units) ok_ne (p_call d_least_reach hr (by decide) (by rfl) (a_cons (p_var 10 (pv 10)) a_nil) (aCons_len aNil_len)) (p_bin op_mulW ok_mulI (p_var 9 (pv 9)) (p_call d_least_reach hr (by decide) (by rfl) (a_cons (p_var 1 (pv 1)) a_nil) (aCons_len aNil_len))) (nomark _)) (pw_or1 (t_cmp (op_neD hr.units) ok_ne (p_call d_sums_of hr (by decide) (by rfl) (a_cons (p_var 10 (pv 10)) a_nil) (aCons_len aNil_len)) (p_ty call_tupA ok_tuple (by rfl) g.b_tuple bt_tuple (a_cons (p_lc (own := [("total", 16)]) rfl sc__law_is_right.nd (i_seq (p_call d_sums_of hr (by decide) (by rfl) (a_cons (p_var 1 (pv 1)) a_nil) (aCons_len aNil_len))) (blkOk_by (by decide +kernel : blkC N__law_is_right (defScope (topS 57)) _ _ = true)) (by decide) (fun _ _ _ _ _ => (g_name (i := 16) sc__law_is_right.nd rfl (by first | exact Or.inl rfl | exact Or.inr rfl))) (fun _ _ _ _ _ => ts_nil) (fun _ _ _ _ _ => (p_bin op_mulW ok_mulI (p_var 9 (pv 9)) (p_var 16 (pv 16))))) a_nil)) (nomark _))))) (ss_one (s_ret p_bl)) ss_nil)
  (ss_cons (s_if (PW.pt (t_and (t_val (p_var 4 (pv 4))) (pw_and1 (t_cmp op_gt ok_B0 (p_bin op_addAll ok_add (p_bi call_abs ok_abs (by rfl) g.b_abs bt_abs (a_cons (p_var 5 (pv 5)) a_nil)) (p_bi call_abs ok_abs (by rfl) g.b_abs bt_abs (a_cons (p_var 6 (pv 6)) a_nil))) (p_bi (call_sumA rfl) ok_sum (by rfl) g.b_sum bt_sum (a_cons (p_var 1 (pv 1)) a_nil)) (nomark _))))) (ss_one (s_ret p_bl)) ss_nil)
  (ss_cons (s_set (i := 11) sc__law_is_right.nd rfl (by first | exact Or.inl rfl | exact Or.inr rfl) (p_fz (p_bin op_addAll ok_add p_int (p_ty call_int1 ok_int (by rfl) g.b_int bt_int (a_cons (p_call d__law_take hr (by decide) (by rfl) (a_cons (p_var 0 (pv 0)) (a_cons p_int a_nil)) (aCons_len (aCons_len aNil_len))) a_nil)))))
  (ss_cons (s_set (i := 12) sc__law_is_right.nd rfl (by first | exact Or.inl rfl | exact Or.inr rfl) (p_fz (p_lst (a_cons (p_tup (a_cons (p_bin op_addAll ok_add (p_var 5 (pv 5)) (p_var 11 (pv 11))) (a_cons (p_var 6 (pv 6)) a_nil))) (a_cons (p_tup (a_cons (p_bin op_sub ok_sub (p_var 5 (pv 5)) (p_var 11 (pv 11))) (a_cons (p_var 6 (pv 6)) a_nil))) (a_cons (p_tup (a_cons (p_var 5 (pv 5)) (a_cons (p_bin op_addAll ok_add (p_var 6 (pv 6)) (p_var 11 (pv 11))) a_nil))) (a_cons (p_tup (a_cons (p_var 5 (pv 5)) (a_cons (p_bin op_sub ok_sub (p_var 6 (pv 6)) (p_var 11 (pv 11))) a_nil))) a_nil)))))))
  (ss_cons (s_if (t_cmp (op_neD hr.units) ok_ne (p_call d_how_many_poses hr (by decide) (by rfl) (a_cons (p_bin op_addAll ok_add (p_var 1 (pv 1)) (p_tup (a_cons (p_var 11 (pv 11)) a_nil))) (a_cons (p_var 2 (pv 2)) a_nil)) (aCons_len (aCons_len aNil_len))) (p_bi (call_sumA rfl) ok_sum (by rfl) g.b_sum bt_sum (a_cons (p_lc (own := [("one", 17)]) rfl sc__law_is_right.nd (i_seq (p_var 12 (pv 12))) (blkOk_by (by decide +kernel : blkC N__law_is_right (defScope (topS 57)) _ _ = true)) (by decide) (fun _ _ _ _ _ => (g_name (i := 17) sc__law_is_right.nd rfl (by first | exact Or.inl rfl | exact Or.inr rfl))) (fun _ _ _ _ _ => ts_nil) (fun _ _ _ _ _ => (p_call d_how_many_poses hr (by decide) (by rfl) (a_cons (p_var 1 (pv 1)) (a_cons (p_var 17 (pv 17)) a_nil)) (aCons_len (aCons_len aNil_len))))) a_nil)) (nomark _)) (ss_one (s_ret p_bl)) ss_nil)
  (ss_cons (s_if (t_cmp (op_neD hr.units) ok_ne (p_call d_is_reached hr (by decide) (by rfl) (a_cons (p_bin op_addAll ok_add (p_var 1 (pv 1)) (p_tup (a_cons (p_var 11 (pv 11)) a_nil))) (a_cons (p_var 2 (pv 2)) a_nil)) (aCons_len (aCons_len aNil_len))) (p_bi (cr_any rfl) ok_any (by rfl) g.b_any bt_any (a_cons (p_lc (own := [("one", 17)]) rfl sc__law_is_right.nd (i_seq (p_var 12 (pv 12))) (blkOk_by (by decide +kernel : blkC N__law_is_right (defScope (topS 57)) _ _ = true)) (by decide) (fun _ _ _ _ _ => (g_name (i := 17) sc__law_is_right.nd rfl (by first | exact Or.inl rfl | exact Or.inr rfl))) (fun _ _ _ _ _ => ts_nil) (fun _ _ _ _ _ => (p_call d_is_reached hr (by decide) (by rfl) (a_cons (p_var 1 (pv 1)) (a_cons (p_var 17 (pv 17)) a_nil)) (aCons_len (aCons_len aNil_len))))) a_nil)) (nomark _)) (ss_one (s_ret p_bl)) ss_nil)
  (ss_cons (s_set (i := 13) sc__law_is_right.nd rfl (by first | exact Or.inl rfl | exact Or.inr rfl) (p_ix (hu_of hr) (p_call d_nearest_to hr (by decide) (by rfl) (a_cons (p_var 1 (pv 1)) (a_cons (p_var 2 (pv 2)) a_nil)) (aCons_len (aCons_len aNil_len))) p_int (fun _ _ => rfl)))
  (ss_cons (s_setLcZ (i := 14) (own := [("across", 18), ("up", 19)]) rfl sc__law_is_right.nd rfl rfl rfl (i_seq (p_call0 d__law_ways hr (by decide) (by rfl))) (blkOk_by (by decide +kernel : blkC N__law_is_right (defScope (topS 57)) _ _ = true)) (by decide) (fun _ _ _ _ _ => (g_tup rfl (gs_cons (g_name (i := 18) sc__law_is_right.nd rfl (by first | exact Or.inl rfl | exact Or.inr rfl)) (gs_cons (g_name (i := 19) sc__law_is_right.nd rfl (by first | exact Or.inl rfl | exact Or.inr rfl)) gs_nil)))) (fun _ _ _ _ _ => ts_nil) (fun _ _ _ _ _ => (p_tup (a_cons (p_bin op_addAll ok_add (p_var 5 (pv 5)) (p_var 18 (pv 18))) (a_cons (p_bin op_addAll ok_add (p_var 6 (pv 6)) (p_var 19 (pv 19))) a_nil)))))
  (ss_one (s_ret (p_bi (cr_all rfl) ok_all (by rfl) g.b_all bt_all (a_cons (p_lc (own := [("one", 17)]) rfl sc__law_is_right.nd (i_seq (p_var 14 (pv 14))) (blkOk_by (by decide +kernel : blkC N__law_is_right (defScope (topS 57)) _ _ = true)) (by decide) (fun _ _ _ _ _ => (g_name (i := 17) sc__law_is_right.nd rfl (by first | exact Or.inl rfl | exact Or.inr rfl))) (fun _ _ _ _ _ => ts_nil) (fun _ _ _ _ _ => (p_cmp op_le ok_B0 (p_bi call_abs ok_abs (by rfl) g.b_abs bt_abs (a_cons (p_bin op_sub ok_sub (p_ix (hu_of hr) (p_call d_nearest_to hr (by decide) (by rfl) (a_cons (p_var 1 (pv 1)) (a_cons (p_var 17 (pv 17)) a_nil)) (aCons_len (aCons_len aNil_len))) p_int (fun _ _ => rfl)) (p_var 13 (pv 13))) a_nil)) p_int (nomark _)))) a_nil)))))))))))))))))))))

abbrev N__law_right : List Str := ["pot", "most", "long", "rods", "tip", "far", "drawn", "point"]
theorem sc__law_right : FnScope N__law_right ["pot"] (defScope (topS 58)) := ⟨rfl, rfl, rfl, by decide +kernel, rfl, by decide +kernel, by decide +kernel⟩
def s__law_right_0 : SS :=
  (cSet 3 (cCall f__law_rods_drawn (aCons (cVar 0) (aCons (cVar 1) (aCons (cVar 2) aNil)))))
def s__law_right_1 : SS :=
  (cSet 4 (cCall f_tip_of (aCons (cVar 3) (aCons (cCall f__law_pose_drawn (aCons (cVar 0) (aCons (cVar 3) aNil))) aNil))))
def s__law_right_2 : SS :=
  (cSet 5 (cFz (cBin dAdd (cBi fSum (aCons (cVar 3) aNil)) (cD (.int 3)))))
def s__law_right_3 : SS :=
  (cSet 6 (cTup (aCons (cBin dSub (cBi fInt (aCons (cCall f__law_take (aCons (cVar 0) (aCons (cBin dAdd (cBin dMulI (cD (.int 2)) (cVar 5)) (cD (.int 1))) aNil))) aNil)) (cVar 5)) (aCons (cBin dSub (cBi fInt (aCons (cCall f__law_take (aCons (cVar 0) (aCons (cBin dAdd (cBin dMulI (cD (.int 2)) (cVar 5)) (cD (.int 1))) aNil))) aNil)) (cVar 5)) aNil))))
def s__law_right_4 : SS :=
  (cFor (iSeq (cTup (aCons (cVar 4) (aCons (cTup (aCons (cBin dAdd (cBin dGetAny (cVar 4) (cD (.int 0))) (cD (.int 1))) (aCons (cBin dSub (cBin dGetAny (cVar 4) (cD (.int 1))) (cD (.int 1))) aNil))) (aCons (cVar 6) aNil))))) (gN 7)
  (cIf (bNot (bT (cCall f__law_is_right (aCons (cVar 0) (aCons (cVar 3) (aCons (cVar 7) aNil))))))
  (cRet (cD (.bl false)))
  cSkip))
def s__law_right_5 : SS :=
  (cIf (bT (cBin dNe (cBin dEq (cCall f_fullness (aCons (cVar 3) aNil)) (cTup (aCons (cD (.str "full")) aNil))) (cBin dEq (cCall f_how_many_reached (aCons (cVar 3) aNil)) (cBin dPowW (cBin dAdd (cBi fSum (aCons (cVar 3) aNil)) (cD (.int 1))) (cD (.int 2))))))
  (cRet (cD (.bl false)))
  cSkip)
def c__law_right : SS :=
  (cSeq (cFor (iSeq (cTup (aCons (cTup (aCons (cD (.int 3)) (aCons (cD (.int 9)) aNil))) (aCons (cTup (aCons (cD (.int 6)) (aCons (cD (.int 9)) aNil))) (aCons (cTup (aCons (cD (.int 8)) (aCons (cD (.int 5)) aNil))) aNil))))) (gT 2 (gsCons (gN 1) (gsCons (gN 2) gsNil)))
  (cSeq s__law_right_0
  (cSeq s__law_right_1
  (cSeq s__law_right_2
  (cSeq s__law_right_3
  (cSeq s__law_right_4
  s__law_right_5))))))
  (cRet (cD (.bl true))))
def f__law_right : Fn := runF 8 c__law_right
theorem d__law_right (g : G K mg) (d__law_rods_drawn : Def P w K mg base "_law_rods_drawn" 2 3 f__law_rods_drawn) (d__law_pose_drawn : Def P w K mg base "_law_pose_drawn" 2 2 f__law_pose_drawn) (d_tip_of : Def P w K mg base "tip_of" 6 2 f_tip_of) (d__law_take : Def P w K mg base "_law_take" 1 2 f__law_take) (d__law_is_right : Def P w K mg base "_law_is_right" 7 3 f__law_is_right) (d_fullness : Def P w K mg base "fullness" 5 1 f_fullness) (d_how_many_reached : Def P w K mg base "how_many_reached" 5 1 f_how_many_reached) {f : Addr} {fd : FuncData} (hg : mg "_law_right" = some (.ref f)) (F : Fun K "_law_right" "_law_right" (topS 58) f fd) (hb : Binds K fd ["pot"] []) : Def P w K mg base "_law_right" 8 1 f__law_right :=
  def_ok (k := 7) hg F hb sc__law_right rfl fun cdv A outer s H E hr =>
  (ss_cons (s_for PassesOwn.never rfl (i_seq (p_tup (a_cons (p_tup (a_cons p_int (a_cons p_int a_nil))) (a_cons (p_tup (a_cons p_int (a_cons p_int a_nil))) (a_cons (p_tup (a_cons p_int (a_cons p_int a_nil))) a_nil))))) (g_tup rfl (gs_cons (g_name (i := 1) sc__law_right.nd rfl (by first | exact Or.inl rfl | exact Or.inr rfl)) (gs_cons (g_name (i := 2) sc__law_right.nd rfl (by first | exact Or.inl rfl | exact Or.inr rfl)) gs_nil)))
  (ss_cons (s_set (i := 3) sc__law_right.nd rfl (by first | exact Or.inl rfl | exact Or.inr rfl) (p_call d__law_rods_drawn hr (by decide) (by rfl) (a_cons (p_var 0 (pv 0)) (a_cons (p_var 1 (pv 1)) (a_cons (p_var 2 (pv 2)) a_nil))) (aCons_len (aCons_len (aCons_len aNil_len)))))
  (ss_cons (s_set (i := 4) sc__law_right.nd rfl (by first | exact Or.inl rfl | exact Or.inr rfl) (p_call d_tip_of hr (by decide) (by rfl) (a_cons (p_var 3 (pv 3)) (a_cons (p_call d__law_pose_drawn hr (by decide) (by rfl) (a_cons (p_var 0 (pv 0)) (a_cons (p_var 3 (pv 3)) a_nil)) (aCons_len (aCons_len aNil_len))) a_nil)) (aCons_len (aCons_len aNil_len))))
  (ss_cons (s_set (i := 5) sc__law_right.nd rfl (by first | exact Or.inl rfl | exact Or.inr rfl) (p_fz (p_bin op_addAll ok_add (p_bi (call_sumA rfl) ok_sum (by rfl) g.b_sum bt_sum (a_cons (p_var 3 (pv 3)) a_nil)) p_int)))
  (ss_cons (s_set (i := 6) sc__law_right.nd rfl (by first | exact Or.inl rfl | exact Or.inr rfl) (p_tup (a_cons (p_bin op_sub ok_sub (p_ty call_int1 ok_int (by rfl) g.b_int bt_int (a_cons (p_call d__law_take hr (by decide) (by rfl) (a_cons (p_var 0 (pv 0)) (a_cons (p_bin op_addAll ok_add (p_bin op_mulW ok_mulI p_int (p_var 5 (pv 5))) p_int) a_nil)) (aCons_len (aCons_len aNil_len))) a_nil)) (p_var 5 (pv 5))) (a_cons (p_bin op_sub ok_sub (p_ty call_int1 ok_int (by rfl) g.b_int bt_int (a_cons (p_call d__law_take hr (by decide) (by rfl) (a_cons (p_var 0 (pv 0)) (a_cons (p_bin op_addAll ok_add (p_bin op_mulW ok_mulI p_int (p_var 5 (pv 5))) p_int) a_nil)) (aCons_len (aCons_len aNil_len))) a_nil)) (p_var 5 (pv 5))) a_nil))))
  (ss_cons (s_for PassesOwn.never rfl (i_seq (p_tup (a_cons (p_var 4 (pv 4)) (a_cons (p_tup (a_cons (p_bin op_addAll ok_add (p_ix (hu_of hr) (p_var 4 (pv 4)) p_int (fun _ _ => rfl)) p_int) (a_cons (p_bin op_sub ok_sub (p_ix (hu_of hr) (p_var 4 (pv 4)) p_int (fun _ _ => rfl)) p_int) a_nil))) (a_cons (p_var 6 (pv 6)) a_nil))))) (g_name (i := 7) sc__law_right.nd rfl (by first | exact Or.inl rfl | exact Or.inr rfl))
  (ss_one (s_if (t_not (t_val (p_call d__law_is_right hr (by decide) (by rfl) (a_cons (p_var 0 (pv 0)) (a_cons (p_var 3 (pv 3)) (a_cons (p_var 7 (pv 7)) a_nil))) (aCons_len (aCons_len (aCons_len aNil_len)))))) (ss_one (s_ret p_bl)) ss_nil)))
  (ss_one (s_if (t_cmp (op_neD hr.units) ok_ne (p_cmp (op_eqD hr.units) ok_eq (p_call d_fullness hr (by decide) (by rfl) (a_cons (p_var 3 (pv 3)) a_nil) (aCons_len aNil_len)) (p_tup (a_cons p_str a_nil)) (nomark _)) (p_cmp (op_eqD hr.units) ok_eq (p_call d_how_many_reached hr (by decide) (by rfl) (a_cons (p_var 3 (pv 3)) a_nil) (aCons_len aNil_len)) (p_bin op_powW ok_powW (p_bin op_addAll ok_add (p_bi (call_sumA rfl) ok_sum (by rfl) g.b_sum bt_sum (a_cons (p_var 3 (pv 3)) a_nil)) p_int) p_int) (nomark _)) (nomark _)) (ss_one (s_ret p_bl)) ss_nil))))))))
  (ss_one (s_ret p_bl)))

abbrev N_law : List Str := ["script", "place"]
theorem sc_law : FnScope N_law ["script"] (defScope (topS 59)) := ⟨rfl, rfl, rfl, by decide +kernel, rfl, by decide +kernel, by decide +kernel⟩
def c_law : SS :=
  (cRet (cBi fAll (aCons (cLC (iSeq (cCall f__law_cells (aCons (cVar 0) (aCons (cD (.int 3)) aNil)))) (gN 1) bYes (cPotCall f__law_pot f__law_right (aCons (cVar 0) (aCons (cVar 1) aNil))) [1]) aNil)))
def f_law : Fn := runF 2 c_law
theorem fn_law (g : G K mg) (d__law_cells : Def P w K mg base "_law_cells" 1 2 f__law_cells) (d__law_pot : DefP P w K mg base "_law_pot" 1 2 f__law_pot) (d__law_right : Def P w K mg base "_law_right" 8 1 f__law_right) {f : Addr} {fd : FuncData} (F : Fun K "law" "law" (topS 59) f fd) : FnOk P w K mg base CX0 9 f fd ["script"] (spF K 1 f_law) :=
  fn_ok (k := 8) F sc_law rfl fun cdv A outer s H E hr =>
  (ss_one (s_ret (p_bi (cr_all rfl) ok_all (by rfl) g.b_all bt_all (a_cons (p_lc (own := [("place", 1)]) rfl sc_law.nd (i_seq (p_call d__law_cells hr (by decide) (by rfl) (a_cons (p_var 0 (pv 0)) (a_cons p_int a_nil)) (aCons_len (aCons_len aNil_len)))) (blkOk_by (by decide +kernel : blkC N_law (defScope (topS 59)) _ _ = true)) (by decide) (fun _ _ _ _ _ => (g_name (i := 1) sc_law.nd rfl (by first | exact Or.inl rfl | exact Or.inr rfl))) (fun _ _ _ _ _ => ts_nil) (fun _ _ _ _ _ => (p_potCall d__law_pot d__law_right hr (by decide) (by decide) (by rfl) (by rfl) (a_cons (p_var 0 (pv 0)) (a_cons (p_var 1 (pv 1)) a_nil)) (aCons_len (aCons_len aNil_len))))) a_nil))))

end

theorem all_mk {l : PySem.W.OpenLaw} {w : World} {K : PySem.W.Frag} {h : Heap} {mg : Str → Option Value} {fa : Addr} (X : K.In h) (G0 : h.Ns mainGlobals mg) (hfa : mg "law" = some (.ref fa)) {od0 an0 od1 an1 od2 an2 od3 an3 od4 an4 od5 an5 od6 an6 od7 an7 od8 an8 od9 an9 od10 an10 od11 an11 od12 an12 od13 an13 od14 an14 od15 an15 od16 an16 od17 an17 od18 an18 od19 an19 od20 an20 od21 an21 od22 an22 od23 an23 od24 an24 od25 an25 od26 an26 od27 an27 od28 an28 od29 an29 od30 an30 od31 an31 od32 an32 od33 an33 od34 an34 : Option Addr} {sl0 sl1 sl2 sl3 sl4 sl5 sl6 sl7 sl8 sl9 sl10 sl11 sl12 sl13 sl14 sl15 sl16 sl17 sl18 sl19 sl20 sl21 sl22 sl23 sl24 sl25 sl26 sl27 sl28 sl29 sl30 sl31 sl32 sl33 sl34 : Array (Option Value)} {oc0 kV0 dc0 pm0 cd0 ct0 oc1 kV1 dc1 pm1 cd1 ct1 oc2 kV2 dc2 pm2 cd2 ct2 oc3 kV3 dc3 pm3 cd3 ct3 oc4 kV4 dc4 pm4 cd4 ct4 oc5 kV5 dc5 pm5 cd5 ct5 oc6 kV6 dc6 pm6 cd6 ct6 oc7 kV7 dc7 pm7 cd7 ct7 oc8 kV8 dc8 pm8 cd8 ct8 oc9 kV9 dc9 pm9 cd9 ct9 oc10 kV10 dc10 pm10 cd10 ct10 oc11 kV11 dc11 pm11 cd11 ct11 oc12 kV12 dc12 pm12 cd12 ct12 oc13 kV13 dc13 pm13 cd13 ct13 oc14 kV14 dc14 pm14 cd14 ct14 oc15 kV15 dc15 pm15 cd15 ct15 oc16 kV16 dc16 pm16 cd16 ct16 oc17 kV17 dc17 pm17 cd17 ct17 oc18 kV18 dc18 pm18 cd18 ct18 oc19 kV19 dc19 pm19 cd19 ct19 oc20 kV20 dc20 pm20 cd20 ct20 oc21 kV21 dc21 pm21 cd21 ct21 oc22 kV22 dc22 pm22 cd22 ct22 oc23 kV23 dc23 pm23 cd23 ct23 oc24 kV24 dc24 pm24 cd24 ct24 oc25 kV25 dc25 pm25 cd25 ct25 oc26 kV26 dc26 pm26 cd26 ct26 oc27 kV27 dc27 pm27 cd27 ct27 oc28 kV28 dc28 pm28 cd28 ct28 oc29 kV29 dc29 pm29 cd29 ct29 oc30 kV30 dc30 pm30 cd30 ct30 oc31 kV31 dc31 pm31 cd31 ct31 oc32 kV32 dc32 pm32 cd32 ct32 oc33 kV33 dc33 pm33 cd33 ct33 oc34 kV34 dc34 pm34 cd34 ct34 : Value} {f0 f1 f2 f3 f4 f5 f6 f7 f8 f9 f10 f11 f12 f13 f14 f15 f16 f17 f18 f19 f20 f21 f22 f23 f24 f25 f26 f27 f28 f29 f30 f31 f32 f33 f34 : Addr} {zt0 zt1 zt2 zt3 zt4 zt5 zt6 zt7 zt8 zt9 zt10 zt11 zt12 zt13 zt14 zt15 zt16 zt17 zt18 zt19 zt20 zt21 : Nat} {w0 w1 w2 w3 w4 : Addr} {wod0 wod1 wod2 wod3 wod4 : Option Addr} {wn0 wn1 wn2 wn3 wn4 : Nat} {wsl0 wsl1 wsl2 wsl3 wsl4 : Array (Option Value)}
    (a0 : PySem.W.nsIn K mainGlobals "is_int" = some (some (.ref f0))) (l0 : K.lookup f0 = some ⟨oc0, od0, .func (PySem.W.fnOf "is_int" "is_int" (defArgs (topS 6)) (defBody (topS 6)) (defScope (topS 6)) .none kV0 dc0 pm0 an0 cd0 ct0), sl0⟩) (c0 : PySem.W.codeIn K cd0 "is_int" = true) (k0 : PySem.W.keepIn K (.ref f0) = true)
    (a1 : PySem.W.nsIn K mainGlobals "are_ints" = some (some (.ref f1))) (l1 : K.lookup f1 = some ⟨oc1, od1, .func (PySem.W.fnOf "are_ints" "are_ints" (defArgs (topS 7)) (defBody (topS 7)) (defScope (topS 7)) .none kV1 dc1 pm1 an1 cd1 ct1), sl1⟩) (c1 : PySem.W.codeIn K cd1 "are_ints" = true) (k1 : PySem.W.keepIn K (.ref f1) = true)
    (a2 : PySem.W.nsIn K mainGlobals "is_rods" = some (some (.ref f2))) (l2 : K.lookup f2 = some ⟨oc2, od2, .func (PySem.W.fnOf "is_rods" "is_rods" (defArgs (topS 14)) (defBody (topS 14)) (defScope (topS 14)) .none kV2 dc2 pm2 an2 cd2 ct2), sl2⟩) (c2 : PySem.W.codeIn K cd2 "is_rods" = true) (k2 : PySem.W.keepIn K (.ref f2) = true)
    (a3 : PySem.W.nsIn K mainGlobals "look_at_rods" = some (some (.ref f3))) (l3 : K.lookup f3 = some ⟨oc3, od3, .func (PySem.W.fnOf "look_at_rods" "look_at_rods" (defArgs (topS 15)) (defBody (topS 15)) (defScope (topS 15)) .none kV3 dc3 pm3 an3 cd3 ct3), sl3⟩) (c3 : PySem.W.codeIn K cd3 "look_at_rods" = true) (k3 : PySem.W.keepIn K (.ref f3) = true)
    (a4 : PySem.W.nsIn K mainGlobals "is_pose" = some (some (.ref f4))) (l4 : K.lookup f4 = some ⟨oc4, od4, .func (PySem.W.fnOf "is_pose" "is_pose" (defArgs (topS 16)) (defBody (topS 16)) (defScope (topS 16)) .none kV4 dc4 pm4 an4 cd4 ct4), sl4⟩) (c4 : PySem.W.codeIn K cd4 "is_pose" = true) (k4 : PySem.W.keepIn K (.ref f4) = true)
    (a5 : PySem.W.nsIn K mainGlobals "look_at_pose" = some (some (.ref f5))) (l5 : K.lookup f5 = some ⟨oc5, od5, .func (PySem.W.fnOf "look_at_pose" "look_at_pose" (defArgs (topS 17)) (defBody (topS 17)) (defScope (topS 17)) .none kV5 dc5 pm5 an5 cd5 ct5), sl5⟩) (c5 : PySem.W.codeIn K cd5 "look_at_pose" = true) (k5 : PySem.W.keepIn K (.ref f5) = true)
    (a6 : PySem.W.nsIn K mainGlobals "is_point" = some (some (.ref f6))) (l6 : K.lookup f6 = some ⟨oc6, od6, .func (PySem.W.fnOf "is_point" "is_point" (defArgs (topS 18)) (defBody (topS 18)) (defScope (topS 18)) .none kV6 dc6 pm6 an6 cd6 ct6), sl6⟩) (c6 : PySem.W.codeIn K cd6 "is_point" = true) (k6 : PySem.W.keepIn K (.ref f6) = true)
    (a7 : PySem.W.nsIn K mainGlobals "look_at_point" = some (some (.ref f7))) (l7 : K.lookup f7 = some ⟨oc7, od7, .func (PySem.W.fnOf "look_at_point" "look_at_point" (defArgs (topS 19)) (defBody (topS 19)) (defScope (topS 19)) .none kV7 dc7 pm7 an7 cd7 ct7), sl7⟩) (c7 : PySem.W.codeIn K cd7 "look_at_point" = true) (k7 : PySem.W.keepIn K (.ref f7) = true)
    (a8 : PySem.W.nsIn K mainGlobals "told_joints" = some (some (.ref f8))) (l8 : K.lookup f8 = some ⟨oc8, od8, .func (PySem.W.fnOf "told_joints" "told_joints" (defArgs (topS 20)) (defBody (topS 20)) (defScope (topS 20)) .none kV8 dc8 pm8 an8 cd8 ct8), sl8⟩) (c8 : PySem.W.codeIn K cd8 "told_joints" = true) (k8 : PySem.W.keepIn K (.ref f8) = true)
    (a9 : PySem.W.nsIn K mainGlobals "tip_of" = some (some (.ref f9))) (l9 : K.lookup f9 = some ⟨oc9, od9, .func (PySem.W.fnOf "tip_of" "tip_of" (defArgs (topS 21)) (defBody (topS 21)) (defScope (topS 21)) .none kV9 dc9 pm9 an9 cd9 ct9), sl9⟩) (c9 : PySem.W.codeIn K cd9 "tip_of" = true) (k9 : PySem.W.keepIn K (.ref f9) = true)
    (a10 : PySem.W.nsIn K mainGlobals "told_sums" = some (some (.ref f10))) (l10 : K.lookup f10 = some ⟨oc10, od10, .func (PySem.W.fnOf "told_sums" "told_sums" (defArgs (topS 33)) (defBody (topS 33)) (defScope (topS 33)) .none kV10 dc10 pm10 an10 cd10 ct10), sl10⟩) (c10 : PySem.W.codeIn K cd10 "told_sums" = true) (k10 : PySem.W.keepIn K (.ref f10) = true)
    (a11 : PySem.W.nsIn K mainGlobals "sums_of" = some (some (.ref f11))) (l11 : K.lookup f11 = some ⟨oc11, od11, .func (PySem.W.fnOf "sums_of" "sums_of" (defArgs (topS 34)) (defBody (topS 34)) (defScope (topS 34)) .none kV11 dc11 pm11 an11 cd11 ct11), sl11⟩) (c11 : PySem.W.codeIn K cd11 "sums_of" = true) (k11 : PySem.W.keepIn K (.ref f11) = true)
    (a12 : PySem.W.nsIn K mainGlobals "told_signs" = some (some (.ref f12))) (l12 : K.lookup f12 = some ⟨oc12, od12, .func (PySem.W.fnOf "told_signs" "told_signs" (defArgs (topS 35)) (defBody (topS 35)) (defScope (topS 35)) .none kV12 dc12 pm12 an12 cd12 ct12), sl12⟩) (c12 : PySem.W.codeIn K cd12 "told_signs" = true) (k12 : PySem.W.keepIn K (.ref f12) = true)
    (a13 : PySem.W.nsIn K mainGlobals "way_of" = some (some (.ref f13))) (l13 : K.lookup f13 = some ⟨oc13, od13, .func (PySem.W.fnOf "way_of" "way_of" (defArgs (topS 36)) (defBody (topS 36)) (defScope (topS 36)) .none kV13 dc13 pm13 an13 cd13 ct13), sl13⟩) (c13 : PySem.W.codeIn K cd13 "way_of" = true) (k13 : PySem.W.keepIn K (.ref f13) = true)
    (a14 : PySem.W.nsIn K mainGlobals "told_pose" = some (some (.ref f14))) (l14 : K.lookup f14 = some ⟨oc14, od14, .func (PySem.W.fnOf "told_pose" "told_pose" (defArgs (topS 37)) (defBody (topS 37)) (defScope (topS 37)) .none kV14 dc14 pm14 an14 cd14 ct14), sl14⟩) (c14 : PySem.W.codeIn K cd14 "told_pose" = true) (k14 : PySem.W.keepIn K (.ref f14) = true)
    (a15 : PySem.W.nsIn K mainGlobals "look_at_reach" = some (some (.ref f15))) (l15 : K.lookup f15 = some ⟨oc15, od15, .func (PySem.W.fnOf "look_at_reach" "look_at_reach" (defArgs (topS 38)) (defBody (topS 38)) (defScope (topS 38)) .none kV15 dc15 pm15 an15 cd15 ct15), sl15⟩) (c15 : PySem.W.codeIn K cd15 "look_at_reach" = true) (k15 : PySem.W.keepIn K (.ref f15) = true)
    (a16 : PySem.W.nsIn K mainGlobals "reach" = some (some (.ref f16))) (l16 : K.lookup f16 = some ⟨oc16, od16, .func (PySem.W.fnOf "reach" "reach" (defArgs (topS 39)) (defBody (topS 39)) (defScope (topS 39)) .none kV16 dc16 pm16 an16 cd16 ct16), sl16⟩) (c16 : PySem.W.codeIn K cd16 "reach" = true) (k16 : PySem.W.keepIn K (.ref f16) = true)
    (a17 : PySem.W.nsIn K mainGlobals "is_reached" = some (some (.ref f17))) (l17 : K.lookup f17 = some ⟨oc17, od17, .func (PySem.W.fnOf "is_reached" "is_reached" (defArgs (topS 40)) (defBody (topS 40)) (defScope (topS 40)) .none kV17 dc17 pm17 an17 cd17 ct17), sl17⟩) (c17 : PySem.W.codeIn K cd17 "is_reached" = true) (k17 : PySem.W.keepIn K (.ref f17) = true)
    (a18 : PySem.W.nsIn K mainGlobals "how_many_reached" = some (some (.ref f18))) (l18 : K.lookup f18 = some ⟨oc18, od18, .func (PySem.W.fnOf "how_many_reached" "how_many_reached" (defArgs (topS 41)) (defBody (topS 41)) (defScope (topS 41)) .none kV18 dc18 pm18 an18 cd18 ct18), sl18⟩) (c18 : PySem.W.codeIn K cd18 "how_many_reached" = true) (k18 : PySem.W.keepIn K (.ref f18) = true)
    (a19 : PySem.W.nsIn K mainGlobals "nearest_sum" = some (some (.ref f19))) (l19 : K.lookup f19 = some ⟨oc19, od19, .func (PySem.W.fnOf "nearest_sum" "nearest_sum" (defArgs (topS 42)) (defBody (topS 42)) (defScope (topS 42)) .none kV19 dc19 pm19 an19 cd19 ct19), sl19⟩) (c19 : PySem.W.codeIn K cd19 "nearest_sum" = true) (k19 : PySem.W.keepIn K (.ref f19) = true)
    (a20 : PySem.W.nsIn K mainGlobals "nearest_to" = some (some (.ref f20))) (l20 : K.lookup f20 = some ⟨oc20, od20, .func (PySem.W.fnOf "nearest_to" "nearest_to" (defArgs (topS 43)) (defBody (topS 43)) (defScope (topS 43)) .none kV20 dc20 pm20 an20 cd20 ct20), sl20⟩) (c20 : PySem.W.codeIn K cd20 "nearest_to" = true) (k20 : PySem.W.keepIn K (.ref f20) = true)
    (a21 : PySem.W.nsIn K mainGlobals "least_reach" = some (some (.ref f21))) (l21 : K.lookup f21 = some ⟨oc21, od21, .func (PySem.W.fnOf "least_reach" "least_reach" (defArgs (topS 44)) (defBody (topS 44)) (defScope (topS 44)) .none kV21 dc21 pm21 an21 cd21 ct21), sl21⟩) (c21 : PySem.W.codeIn K cd21 "least_reach" = true) (k21 : PySem.W.keepIn K (.ref f21) = true)
    (a22 : PySem.W.nsIn K mainGlobals "same_reach" = some (some (.ref f22))) (l22 : K.lookup f22 = some ⟨oc22, od22, .func (PySem.W.fnOf "same_reach" "same_reach" (defArgs (topS 45)) (defBody (topS 45)) (defScope (topS 45)) .none kV22 dc22 pm22 an22 cd22 ct22), sl22⟩) (c22 : PySem.W.codeIn K cd22 "same_reach" = true) (k22 : PySem.W.keepIn K (.ref f22) = true)
    (a23 : PySem.W.nsIn K mainGlobals "fullness" = some (some (.ref f23))) (l23 : K.lookup f23 = some ⟨oc23, od23, .func (PySem.W.fnOf "fullness" "fullness" (defArgs (topS 46)) (defBody (topS 46)) (defScope (topS 46)) .none kV23 dc23 pm23 an23 cd23 ct23), sl23⟩) (c23 : PySem.W.codeIn K cd23 "fullness" = true) (k23 : PySem.W.keepIn K (.ref f23) = true)
    (a24 : PySem.W.nsIn K mainGlobals "how_many_poses" = some (some (.ref f24))) (l24 : K.lookup f24 = some ⟨oc24, od24, .func (PySem.W.fnOf "how_many_poses" "how_many_poses" (defArgs (topS 48)) (defBody (topS 48)) (defScope (topS 48)) .none kV24 dc24 pm24 an24 cd24 ct24), sl24⟩) (c24 : PySem.W.codeIn K cd24 "how_many_poses" = true) (k24 : PySem.W.keepIn K (.ref f24) = true)
    (a25 : PySem.W.nsIn K mainGlobals "_law_pot" = some (some (.ref f25))) (l25 : K.lookup f25 = some ⟨oc25, od25, .func (PySem.W.fnOf "_law_pot" "_law_pot" (defArgs (topS 50)) (defBody (topS 50)) (defScope (topS 50)) .none kV25 dc25 pm25 an25 cd25 ct25), sl25⟩) (c25 : PySem.W.codeIn K cd25 "_law_pot" = true) (k25 : PySem.W.keepIn K (.ref f25) = true)
    (a26 : PySem.W.nsIn K mainGlobals "_law_take" = some (some (.ref f26))) (l26 : K.lookup f26 = some ⟨oc26, od26, .func (PySem.W.fnOf "_law_take" "_law_take" (defArgs (topS 51)) (defBody (topS 51)) (defScope (topS 51)) .none kV26 dc26 pm26 an26 cd26 ct26), sl26⟩) (c26 : PySem.W.codeIn K cd26 "_law_take" = true) (k26 : PySem.W.keepIn K (.ref f26) = true)
    (a27 : PySem.W.nsIn K mainGlobals "_law_cells" = some (some (.ref f27))) (l27 : K.lookup f27 = some ⟨oc27, od27, .func (PySem.W.fnOf "_law_cells" "_law_cells" (defArgs (topS 52)) (defBody (topS 52)) (defScope (topS 52)) .none kV27 dc27 pm27 an27 cd27 ct27), sl27⟩) (c27 : PySem.W.codeIn K cd27 "_law_cells" = true) (k27 : PySem.W.keepIn K (.ref f27) = true)
    (a28 : PySem.W.nsIn K mainGlobals "_law_some" = some (some (.ref f28))) (l28 : K.lookup f28 = some ⟨oc28, od28, .func (PySem.W.fnOf "_law_some" "_law_some" (defArgs (topS 53)) (defBody (topS 53)) (defScope (topS 53)) .none kV28 dc28 pm28 an28 cd28 ct28), sl28⟩) (c28 : PySem.W.codeIn K cd28 "_law_some" = true) (k28 : PySem.W.keepIn K (.ref f28) = true)
    (a29 : PySem.W.nsIn K mainGlobals "_law_ways" = some (some (.ref f29))) (l29 : K.lookup f29 = some ⟨oc29, od29, .func (PySem.W.fnOf "_law_ways" "_law_ways" (defArgs (topS 54)) (defBody (topS 54)) (defScope (topS 54)) .none kV29 dc29 pm29 an29 cd29 ct29), sl29⟩) (c29 : PySem.W.codeIn K cd29 "_law_ways" = true) (k29 : PySem.W.keepIn K (.ref f29) = true)
    (a30 : PySem.W.nsIn K mainGlobals "_law_rods_drawn" = some (some (.ref f30))) (l30 : K.lookup f30 = some ⟨oc30, od30, .func (PySem.W.fnOf "_law_rods_drawn" "_law_rods_drawn" (defArgs (topS 55)) (defBody (topS 55)) (defScope (topS 55)) .none kV30 dc30 pm30 an30 cd30 ct30), sl30⟩) (c30 : PySem.W.codeIn K cd30 "_law_rods_drawn" = true) (k30 : PySem.W.keepIn K (.ref f30) = true)
    (a31 : PySem.W.nsIn K mainGlobals "_law_pose_drawn" = some (some (.ref f31))) (l31 : K.lookup f31 = some ⟨oc31, od31, .func (PySem.W.fnOf "_law_pose_drawn" "_law_pose_drawn" (defArgs (topS 56)) (defBody (topS 56)) (defScope (topS 56)) .none kV31 dc31 pm31 an31 cd31 ct31), sl31⟩) (c31 : PySem.W.codeIn K cd31 "_law_pose_drawn" = true) (k31 : PySem.W.keepIn K (.ref f31) = true)
    (a32 : PySem.W.nsIn K mainGlobals "_law_is_right" = some (some (.ref f32))) (l32 : K.lookup f32 = some ⟨oc32, od32, .func (PySem.W.fnOf "_law_is_right" "_law_is_right" (defArgs (topS 57)) (defBody (topS 57)) (defScope (topS 57)) .none kV32 dc32 pm32 an32 cd32 ct32), sl32⟩) (c32 : PySem.W.codeIn K cd32 "_law_is_right" = true) (k32 : PySem.W.keepIn K (.ref f32) = true)
    (a33 : PySem.W.nsIn K mainGlobals "_law_right" = some (some (.ref f33))) (l33 : K.lookup f33 = some ⟨oc33, od33, .func (PySem.W.fnOf "_law_right" "_law_right" (defArgs (topS 58)) (defBody (topS 58)) (defScope (topS 58)) .none kV33 dc33 pm33 an33 cd33 ct33), sl33⟩) (c33 : PySem.W.codeIn K cd33 "_law_right" = true) (k33 : PySem.W.keepIn K (.ref f33) = true)
    (a34 : PySem.W.nsIn K mainGlobals "law" = some (some (.ref f34))) (l34 : K.lookup f34 = some ⟨oc34, od34, .func (PySem.W.fnOf "law" "law" (defArgs (topS 59)) (defBody (topS 59)) (defScope (topS 59)) .none kV34 dc34 pm34 an34 cd34 ct34), sl34⟩) (c34 : PySem.W.codeIn K cd34 "law" = true) (k34 : PySem.W.keepIn K (.ref f34) = true)
    (zb0 : PySem.W.nsIn K mainGlobals "isinstance" = some none)
    (zb1 : PySem.W.nsIn K mainGlobals "int" = some none)
    (zb2 : PySem.W.nsIn K mainGlobals "bool" = some none)
    (zb3 : PySem.W.nsIn K mainGlobals "tuple" = some none)
    (zb4 : PySem.W.nsIn K mainGlobals "all" = some none)
    (zb5 : PySem.W.nsIn K mainGlobals "len" = some none)
    (zb6 : PySem.W.nsIn K mainGlobals "zip" = some none)
    (zb7 : PySem.W.nsIn K mainGlobals "sorted" = some none)
    (zb8 : PySem.W.nsIn K mainGlobals "range" = some none)
    (zb9 : PySem.W.nsIn K mainGlobals "sum" = some none)
    (zb10 : PySem.W.nsIn K mainGlobals "abs" = some none)
    (zb11 : PySem.W.nsIn K mainGlobals "min" = some none)
    (zb12 : PySem.W.nsIn K mainGlobals "max" = some none)
    (zb13 : PySem.W.nsIn K mainGlobals "list" = some none)
    (zb14 : PySem.W.nsIn K mainGlobals "any" = some none)
    (zc0 : PySem.W.nsIn K mainGlobals "MOST_ROD" = some (some (.int 60 zt0)))
    (zc1 : PySem.W.nsIn K mainGlobals "MOST_RODS" = some (some (.int 12 zt1)))
    (zc2 : PySem.W.nsIn K mainGlobals "FOUR" = some (some (.int 4 zt2)))
    (zc3 : PySem.W.nsIn K mainGlobals "MOST_PLACE" = some (some (.int 10000 zt3)))
    (zc4 : PySem.W.nsIn K mainGlobals "WAYS" = some (some (.ref w0)))
    (zc5 : PySem.W.nsIn K mainGlobals "THREE" = some (some (.int 3 zt12)))
    (zc6 : PySem.W.nsIn K mainGlobals "POSE" = some (some (.str "pose" zt13)))
    (zc7 : PySem.W.nsIn K mainGlobals "ODD" = some (some (.str "odd" zt14)))
    (zc8 : PySem.W.nsIn K mainGlobals "FAR" = some (some (.str "far" zt15)))
    (zc9 : PySem.W.nsIn K mainGlobals "SUM" = some (some (.str "sum" zt16)))
    (zc10 : PySem.W.nsIn K mainGlobals "DIFFERENCE" = some (some (.str "difference" zt17)))
    (zc11 : PySem.W.nsIn K mainGlobals "SUMS" = some (some (.str "sums" zt18)))
    (zc12 : PySem.W.nsIn K mainGlobals "SAME" = some (some (.str "same" zt19)))
    (zc13 : PySem.W.nsIn K mainGlobals "FULL" = some (some (.str "full" zt20)))
    (zc14 : PySem.W.nsIn K mainGlobals "GAP" = some (some (.str "gap" zt21)))
    (zw0 : K.lookup w0 = some ⟨.type "tuple", wod0, .seq #[(.ref w1), (.ref w2), (.ref w3), (.ref w4)] wn0, wsl0⟩)
    (zw1 : K.lookup w1 = some ⟨.type "tuple", wod1, .seq #[(.int 1 zt4), (.int 0 zt5)] wn1, wsl1⟩)
    (zw2 : K.lookup w2 = some ⟨.type "tuple", wod2, .seq #[(.int 0 zt6), (.int 1 zt7)] wn2, wsl2⟩)
    (zw3 : K.lookup w3 = some ⟨.type "tuple", wod3, .seq #[(.int (-1) zt8), (.int 0 zt9)] wn3, wsl3⟩)
    (zw4 : K.lookup w4 = some ⟨.type "tuple", wod4, .seq #[(.int 0 zt10), (.int (-1) zt11)] wn4, wsl4⟩)
    : ∃ fd : FuncData, (∀ (s : Shared) (v : Value), BindsTo s fd ⟨[v], []⟩ [("script", v)]) ∧ ∀ base : Heap, K.In base → base.Ns mainGlobals mg → FnOk l.prog w K mg base CX0 9 fa fd ["script"] (spF K 1 f_law) := by

  have e := hfa.symm.trans (PySem.W.mg_of X G0 a34)
  cases e

  have g : G K mg := ⟨PySem.W.mg_none_of X G0 zb0, PySem.W.mg_none_of X G0 zb1, PySem.W.mg_none_of X G0 zb2, PySem.W.mg_none_of X G0 zb3, PySem.W.mg_none_of X G0 zb4, PySem.W.mg_none_of X G0 zb5, PySem.W.mg_none_of X G0 zb6, PySem.W.mg_none_of X G0 zb7, PySem.W.mg_none_of X G0 zb8, PySem.W.mg_none_of X G0 zb9, PySem.W.mg_none_of X G0 zb10, PySem.W.mg_none_of X G0 zb11, PySem.W.mg_none_of X G0 zb12, PySem.W.mg_none_of X G0 zb13, PySem.W.mg_none_of X G0 zb14, ⟨_, (.int 60), PySem.W.mg_of X G0 zc0, ⟨_, rfl⟩, q_int⟩, ⟨_, (.int 12), PySem.W.mg_of X G0 zc1, ⟨_, rfl⟩, q_int⟩, ⟨_, (.int 4), PySem.W.mg_of X G0 zc2, ⟨_, rfl⟩, q_int⟩, ⟨_, (.int 10000), PySem.W.mg_of X G0 zc3, ⟨_, rfl⟩, q_int⟩, ⟨_, (.ref w0), PySem.W.mg_of X G0 zc4, rfl, (rp_tupW (xs := [(.ref w1), (.ref w2), (.ref w3), (.ref w4)]) zw0 (by rw [sizeLine_eq]; exact Nat.le_of_ble_eq_true rfl) (.cons rfl (.cons rfl (.cons rfl (.cons rfl .nil)))) (rpl_cons (rp_tupW (xs := [(.int 1), (.int 0)]) zw1 (by rw [sizeLine_eq]; exact Nat.le_of_ble_eq_true rfl) (.cons ⟨_, rfl⟩ (.cons ⟨_, rfl⟩ .nil)) (rpl_cons q_int (rpl_cons q_int rpl_nil))) (rpl_cons (rp_tupW (xs := [(.int 0), (.int 1)]) zw2 (by rw [sizeLine_eq]; exact Nat.le_of_ble_eq_true rfl) (.cons ⟨_, rfl⟩ (.cons ⟨_, rfl⟩ .nil)) (rpl_cons q_int (rpl_cons q_int rpl_nil))) (rpl_cons (rp_tupW (xs := [(.int (-1)), (.int 0)]) zw3 (by rw [sizeLine_eq]; exact Nat.le_of_ble_eq_true rfl) (.cons ⟨_, rfl⟩ (.cons ⟨_, rfl⟩ .nil)) (rpl_cons q_int (rpl_cons q_int rpl_nil))) (rpl_cons (rp_tupW (xs := [(.int 0), (.int (-1))]) zw4 (by rw [sizeLine_eq]; exact Nat.le_of_ble_eq_true rfl) (.cons ⟨_, rfl⟩ (.cons ⟨_, rfl⟩ .nil)) (rpl_cons q_int (rpl_cons q_int rpl_nil))) rpl_nil)))))⟩, ⟨_, (.int 3), PySem.W.mg_of X G0 zc5, ⟨_, rfl⟩, q_int⟩, ⟨_, (.str "pose"), PySem.W.mg_of X G0 zc6, ⟨_, rfl⟩, q_str⟩, ⟨_, (.str "odd"), PySem.W.mg_of X G0 zc7, ⟨_, rfl⟩, q_str⟩, ⟨_, (.str "far"), PySem.W.mg_of X G0 zc8, ⟨_, rfl⟩, q_str⟩, ⟨_, (.str "sum"), PySem.W.mg_of X G0 zc9, ⟨_, rfl⟩, q_str⟩, ⟨_, (.str "difference"), PySem.W.mg_of X G0 zc10, ⟨_, rfl⟩, q_str⟩, ⟨_, (.str "sums"), PySem.W.mg_of X G0 zc11, ⟨_, rfl⟩, q_str⟩, ⟨_, (.str "same"), PySem.W.mg_of X G0 zc12, ⟨_, rfl⟩, q_str⟩, ⟨_, (.str "full"), PySem.W.mg_of X G0 zc13, ⟨_, rfl⟩, q_str⟩, ⟨_, (.str "gap"), PySem.W.mg_of X G0 zc14, ⟨_, rfl⟩, q_str⟩⟩

  have F0 := fun_mk (st := topS 6) l0 c0 k0
  have b0 := F0.binds (ps := ["value", "low", "high"]) fun _ _ _ _ _ _ us hl => match us, hl with | [_, _, _], _ => rfl

  have F1 := fun_mk (st := topS 7) l1 c1 k1
  have b1 := F1.binds (ps := ["value", "low", "high"]) fun _ _ _ _ _ _ us hl => match us, hl with | [_, _, _], _ => rfl

  have F2 := fun_mk (st := topS 14) l2 c2 k2
  have b2 := F2.binds (ps := ["value"]) fun _ _ _ _ _ _ us hl => match us, hl with | [_], _ => rfl

  have F3 := fun_mk (st := topS 15) l3 c3 k3
  have b3 := F3.binds (ps := ["rods"]) fun _ _ _ _ _ _ us hl => match us, hl with | [_], _ => rfl

  have F4 := fun_mk (st := topS 16) l4 c4 k4
  have b4 := F4.binds (ps := ["rods", "value"]) fun _ _ _ _ _ _ us hl => match us, hl with | [_, _], _ => rfl

  have F5 := fun_mk (st := topS 17) l5 c5 k5
  have b5 := F5.binds (ps := ["rods", "pose"]) fun _ _ _ _ _ _ us hl => match us, hl with | [_, _], _ => rfl

  have F6 := fun_mk (st := topS 18) l6 c6 k6
  have b6 := F6.binds (ps := ["value"]) fun _ _ _ _ _ _ us hl => match us, hl with | [_], _ => rfl

  have F7 := fun_mk (st := topS 19) l7 c7 k7
  have b7 := F7.binds (ps := ["point"]) fun _ _ _ _ _ _ us hl => match us, hl with | [_], _ => rfl

  have F8 := fun_mk (st := topS 20) l8 c8 k8
  have b8 := F8.binds (ps := ["rods", "pose"]) fun _ _ _ _ _ _ us hl => match us, hl with | [_, _], _ => rfl

  have F9 := fun_mk (st := topS 21) l9 c9 k9
  have b9 := F9.binds (ps := ["rods", "pose"]) fun _ _ _ _ _ _ us hl => match us, hl with | [_, _], _ => rfl

  have F10 := fun_mk (st := topS 33) l10 c10 k10
  have b10 := F10.binds (ps := ["rods"]) fun _ _ _ _ _ _ us hl => match us, hl with | [_], _ => rfl

  have F11 := fun_mk (st := topS 34) l11 c11 k11
  have b11 := F11.binds (ps := ["rods"]) fun _ _ _ _ _ _ us hl => match us, hl with | [_], _ => rfl

  have F12 := fun_mk (st := topS 35) l12 c12 k12
  have b12 := F12.binds (ps := ["rods", "goal"]) fun _ _ _ _ _ _ us hl => match us, hl with | [_, _], _ => rfl

  have F13 := fun_mk (st := topS 36) l13 c13 k13
  have b13 := F13.binds (ps := ["first", "second"]) fun _ _ _ _ _ _ us hl => match us, hl with | [_, _], _ => rfl

  have F14 := fun_mk (st := topS 37) l14 c14 k14
  have b14 := F14.binds (ps := ["rods", "point"]) fun _ _ _ _ _ _ us hl => match us, hl with | [_, _], _ => rfl

  have F15 := fun_mk (st := topS 38) l15 c15 k15
  have b15 := F15.binds (ps := ["rods", "point"]) fun _ _ _ _ _ _ us hl => match us, hl with | [_, _], _ => rfl

  have F16 := fun_mk (st := topS 39) l16 c16 k16
  have b16 := F16.binds (ps := ["rods", "point"]) fun _ _ _ _ _ _ us hl => match us, hl with | [_, _], _ => rfl

  have F17 := fun_mk (st := topS 40) l17 c17 k17
  have b17 := F17.binds (ps := ["rods", "point"]) fun _ _ _ _ _ _ us hl => match us, hl with | [_, _], _ => rfl

  have F18 := fun_mk (st := topS 41) l18 c18 k18
  have b18 := F18.binds (ps := ["rods"]) fun _ _ _ _ _ _ us hl => match us, hl with | [_], _ => rfl

  have F19 := fun_mk (st := topS 42) l19 c19 k19
  have b19 := F19.binds (ps := ["sums", "goal"]) fun _ _ _ _ _ _ us hl => match us, hl with | [_, _], _ => rfl

  have F20 := fun_mk (st := topS 43) l20 c20 k20
  have b20 := F20.binds (ps := ["rods", "point"]) fun _ _ _ _ _ _ us hl => match us, hl with | [_, _], _ => rfl

  have F21 := fun_mk (st := topS 44) l21 c21 k21
  have b21 := F21.binds (ps := ["rods"]) fun _ _ _ _ _ _ us hl => match us, hl with | [_], _ => rfl

  have F22 := fun_mk (st := topS 45) l22 c22 k22
  have b22 := F22.binds (ps := ["one", "other"]) fun _ _ _ _ _ _ us hl => match us, hl with | [_, _], _ => rfl

  have F23 := fun_mk (st := topS 46) l23 c23 k23
  have b23 := F23.binds (ps := ["rods"]) fun _ _ _ _ _ _ us hl => match us, hl with | [_], _ => rfl

  have F24 := fun_mk (st := topS 48) l24 c24 k24
  have b24 := F24.binds (ps := ["rods", "point"]) fun _ _ _ _ _ _ us hl => match us, hl with | [_, _], _ => rfl

  have F25 := fun_mk (st := topS 50) l25 c25 k25
  have b25 := F25.binds (ps := ["script", "place"]) fun _ _ _ _ _ _ us hl => match us, hl with | [_, _], _ => rfl

  have F26 := fun_mk (st := topS 51) l26 c26 k26
  have b26 := F26.binds (ps := ["pot", "upto"]) fun _ _ _ _ _ _ us hl => match us, hl with | [_, _], _ => rfl

  have F27 := fun_mk (st := topS 52) l27 c27 k27
  have b27 := F27.binds (ps := ["script", "most"]) fun _ _ _ _ _ _ us hl => match us, hl with | [_, _], _ => rfl

  have F28 := fun_mk (st := topS 53) l28 c28 k28
  have b28 := F28.binds (ps := ["pot", "pool", "many"]) fun _ _ _ _ _ _ us hl => match us, hl with | [_, _, _], _ => rfl

  have F29 := fun_mk (st := topS 54) l29 c29 k29
  have b29 := F29.binds (ps := []) fun _ _ _ _ _ _ us hl => match us, hl with | [], _ => rfl

  have F30 := fun_mk (st := topS 55) l30 c30 k30
  have b30 := F30.binds (ps := ["pot", "most", "long"]) fun _ _ _ _ _ _ us hl => match us, hl with | [_, _, _], _ => rfl

  have F31 := fun_mk (st := topS 56) l31 c31 k31
  have b31 := F31.binds (ps := ["pot", "rods"]) fun _ _ _ _ _ _ us hl => match us, hl with | [_, _], _ => rfl

  have F32 := fun_mk (st := topS 57) l32 c32 k32
  have b32 := F32.binds (ps := ["pot", "rods", "point"]) fun _ _ _ _ _ _ us hl => match us, hl with | [_, _, _], _ => rfl

  have F33 := fun_mk (st := topS 58) l33 c33 k33
  have b33 := F33.binds (ps := ["pot"]) fun _ _ _ _ _ _ us hl => match us, hl with | [_], _ => rfl

  have F34 := fun_mk (st := topS 59) l34 c34 k34
  have b34 := F34.binds (ps := ["script"]) fun _ _ _ _ _ _ us hl => match us, hl with | [_], _ => rfl

  refine ⟨PySem.W.fnOf "law" "law" (defArgs (topS 59)) (defBody (topS 59)) (defScope (topS 59)) .none kV34 dc34 pm34 an34 cd34 ct34, fun s v => .of_eq rfl, fun base _ _ => ?_⟩

  have d_is_int : Def l.prog w K mg base "is_int" 1 3 f_is_int := Lk11.d_is_int g  (PySem.W.mg_of X G0 a0) F0 b0

  have d_are_ints : Def l.prog w K mg base "are_ints" 2 3 f_are_ints := Lk11.d_are_ints g d_is_int (PySem.W.mg_of X G0 a1) F1 b1

  have d_is_rods : Def l.prog w K mg base "is_rods" 3 1 f_is_rods := Lk11.d_is_rods g d_are_ints (PySem.W.mg_of X G0 a2) F2 b2

  have d_look_at_rods : Def l.prog w K mg base "look_at_rods" 4 1 f_look_at_rods := Lk11.d_look_at_rods g d_is_rods (PySem.W.mg_of X G0 a3) F3 b3

  have d_is_pose : Def l.prog w K mg base "is_pose" 3 2 f_is_pose := Lk11.d_is_pose g d_are_ints (PySem.W.mg_of X G0 a4) F4 b4

  have d_look_at_pose : Def l.prog w K mg base "look_at_pose" 5 2 f_look_at_pose := Lk11.d_look_at_pose g d_look_at_rods d_is_pose (PySem.W.mg_of X G0 a5) F5 b5

  have d_is_point : Def l.prog w K mg base "is_point" 3 1 f_is_point := Lk11.d_is_point g d_are_ints (PySem.W.mg_of X G0 a6) F6 b6

  have d_look_at_point : Def l.prog w K mg base "look_at_point" 4 1 f_look_at_point := Lk11.d_look_at_point g d_is_point (PySem.W.mg_of X G0 a7) F7 b7

  have d_told_joints : Def l.prog w K mg base "told_joints" 1 2 f_told_joints := Lk11.d_told_joints g  (PySem.W.mg_of X G0 a8) F8 b8

  have d_tip_of : Def l.prog w K mg base "tip_of" 6 2 f_tip_of := Lk11.d_tip_of g d_look_at_pose d_told_joints (PySem.W.mg_of X G0 a9) F9 b9

  have d_told_sums : Def l.prog w K mg base "told_sums" 1 1 f_told_sums := Lk11.d_told_sums g  (PySem.W.mg_of X G0 a10) F10 b10

  have d_sums_of : Def l.prog w K mg base "sums_of" 5 1 f_sums_of := Lk11.d_sums_of g d_look_at_rods d_told_sums (PySem.W.mg_of X G0 a11) F11 b11

  have d_told_signs : Def l.prog w K mg base "told_signs" 1 2 f_told_signs := Lk11.d_told_signs g  (PySem.W.mg_of X G0 a12) F12 b12

  have d_way_of : Def l.prog w K mg base "way_of" 1 2 f_way_of := Lk11.d_way_of g  (PySem.W.mg_of X G0 a13) F13 b13

  have d_told_pose : Def l.prog w K mg base "told_pose" 2 2 f_told_pose := Lk11.d_told_pose g d_told_signs d_way_of (PySem.W.mg_of X G0 a14) F14 b14

  have d_look_at_reach : Def l.prog w K mg base "look_at_reach" 5 2 f_look_at_reach := Lk11.d_look_at_reach g d_look_at_rods d_look_at_point (PySem.W.mg_of X G0 a15) F15 b15

  have d_reach : Def l.prog w K mg base "reach" 6 2 f_reach := Lk11.d_reach g d_look_at_reach d_told_pose d_told_sums (PySem.W.mg_of X G0 a16) F16 b16

  have d_is_reached : Def l.prog w K mg base "is_reached" 6 2 f_is_reached := Lk11.d_is_reached g d_look_at_reach d_told_sums (PySem.W.mg_of X G0 a17) F17 b17

  have d_how_many_reached : Def l.prog w K mg base "how_many_reached" 5 1 f_how_many_reached := Lk11.d_how_many_reached g d_look_at_rods d_told_sums (PySem.W.mg_of X G0 a18) F18 b18

  have d_nearest_sum : Def l.prog w K mg base "nearest_sum" 1 2 f_nearest_sum := Lk11.d_nearest_sum g  (PySem.W.mg_of X G0 a19) F19 b19

  have d_nearest_to : Def l.prog w K mg base "nearest_to" 6 2 f_nearest_to := Lk11.d_nearest_to g d_look_at_reach d_told_sums d_nearest_sum (PySem.W.mg_of X G0 a20) F20 b20

  have d_least_reach : Def l.prog w K mg base "least_reach" 5 1 f_least_reach := Lk11.d_least_reach g d_look_at_rods d_told_sums (PySem.W.mg_of X G0 a21) F21 b21

  have d_same_reach : Def l.prog w K mg base "same_reach" 5 2 f_same_reach := Lk11.d_same_reach g d_look_at_rods d_told_sums (PySem.W.mg_of X G0 a22) F22 b22

  have d_fullness : Def l.prog w K mg base "fullness" 5 1 f_fullness := Lk11.d_fullness g d_look_at_rods d_told_sums (PySem.W.mg_of X G0 a23) F23 b23

  have d_how_many_poses : Def l.prog w K mg base "how_many_poses" 5 2 f_how_many_poses := Lk11.d_how_many_poses g d_look_at_rods d_look_at_point d_told_sums (PySem.W.mg_of X G0 a24) F24 b24

  have d__law_pot : DefP l.prog w K mg base "_law_pot" 1 2 f__law_pot := Lk11.d__law_pot g  (PySem.W.mg_of X G0 a25) F25 b25

  have d__law_take : Def l.prog w K mg base "_law_take" 1 2 f__law_take := Lk11.d__law_take g  (PySem.W.mg_of X G0 a26) F26 b26

  have d__law_cells : Def l.prog w K mg base "_law_cells" 1 2 f__law_cells := Lk11.d__law_cells g  (PySem.W.mg_of X G0 a27) F27 b27

  have d__law_some : Def l.prog w K mg base "_law_some" 2 3 f__law_some := Lk11.d__law_some g d__law_take (PySem.W.mg_of X G0 a28) F28 b28

  have d__law_ways : Def l.prog w K mg base "_law_ways" 1 0 f__law_ways := Lk11.d__law_ways g  (PySem.W.mg_of X G0 a29) F29 b29

  have d__law_rods_drawn : Def l.prog w K mg base "_law_rods_drawn" 2 3 f__law_rods_drawn := Lk11.d__law_rods_drawn g d__law_take (PySem.W.mg_of X G0 a30) F30 b30

  have d__law_pose_drawn : Def l.prog w K mg base "_law_pose_drawn" 2 2 f__law_pose_drawn := Lk11.d__law_pose_drawn g d__law_take (PySem.W.mg_of X G0 a31) F31 b31

  have d__law_is_right : Def l.prog w K mg base "_law_is_right" 7 3 f__law_is_right := Lk11.d__law_is_right g d_how_many_poses d_is_reached d_reach d_nearest_to d__law_some d_same_reach d__law_take d_how_many_reached d_least_reach d_sums_of d__law_ways (PySem.W.mg_of X G0 a32) F32 b32

  have d__law_right : Def l.prog w K mg base "_law_right" 8 1 f__law_right := Lk11.d__law_right g d__law_rods_drawn d__law_pose_drawn d_tip_of d__law_take d__law_is_right d_fullness d_how_many_reached (PySem.W.mg_of X G0 a33) F33 b33

  exact fn_law g d__law_cells d__law_pot d__law_right F34

end Lk11

namespace Lk11
open PySem PySem.Spec PyProof.Rows L2 Rb
/-! ### counts in dicts of numbers -/
abbrev KV := List (Int × Int)
def dk (l : KV) : List (Key × D) := l.map fun z => (.inl z.1, .int z.2)
def gi : KV → Int → Int
  | [], _ => 0
  | z :: l, t => if z.1 = t then z.2 else gi l t
def has (l : KV) (k : Int) : Bool := l.any fun z => decide (z.1 = k)
def pi (l : KV) (k v : Int) : KV := if has l k = true then l.map (fun z => if z.1 = k then (z.1, v) else z) else l ++ [(k, v)]
def Nd (l : KV) : Prop := (l.map (·.1)).Nodup
theorem valD_dk : ∀ (l : KV) (k : Int), ((valD (dk l) (.inl k)).getD (.int 0)) = .int (gi l k)
  | [], k => rfl
  | z :: l, k => by
    have ih := valD_dk l k
    unfold valD dk at ih ⊢
    rw [List.map_cons, gi]
    by_cases h : z.1 = k
    · rw [List.find?_cons_of_pos (by simp [h]), if_pos h]; rfl
    · rw [List.find?_cons_of_neg (by simp [h]), if_neg h]; exact ih
theorem valD_in : ∀ (l : KV) (k : Int), k ∈ l.map (·.1) → valD (dk l) (.inl k) = some (.int (gi l k))
  | [], k, h => by simp at h
  | z :: l, k, h => by
    unfold valD dk
    rw [List.map_cons, gi]
    by_cases e : z.1 = k
    · rw [List.find?_cons_of_pos (by simp [e]), if_pos e]; rfl
    · rw [List.find?_cons_of_neg (by simp [e]), if_neg e]
      refine valD_in l k ?_
      rw [List.map_cons, List.mem_cons] at h
      exact h.resolve_left fun q => e q.symm
theorem putD_dk (l : KV) (k v : Int) : putD (dk l) (.inl k) (.int v) = dk (pi l k v) := by
  unfold putD pi has
  have h : ((dk l).any fun kv => decide (kv.1 = Sum.inl k)) = l.any fun z => decide (z.1 = k) := by
    unfold dk
    rw [List.any_map]
    congr 1
    funext z
    simp
  rw [h]
  split
  · unfold dk
    rw [List.map_map, List.map_map]
    refine List.map_congr_left fun z _ => ?_
    show (if (Sum.inl z.1 : Key) = Sum.inl k then _ else _) = _
    by_cases e : z.1 = k
    · simp [e]
    · simp [e]
  · unfold dk; simp
theorem dk_len (l : KV) : (dk l).length = l.length := by simp [dk]
theorem has_mem {l : KV} {k : Int} : has l k = true ↔ k ∈ l.map (·.1) := by
  unfold has
  rw [List.any_eq_true, List.mem_map]
  constructor
  · rintro ⟨z, h1, h2⟩; exact ⟨z, h1, by simpa using h2⟩
  · rintro ⟨z, h1, h2⟩; exact ⟨z, h1, by simpa using h2⟩
theorem pi_keys (l : KV) (k v : Int) : (pi l k v).map (·.1) = if has l k = true then l.map (·.1) else l.map (·.1) ++ [k] := by
  unfold pi
  split
  · rw [List.map_map]
    refine List.map_congr_left fun z _ => ?_
    show (if z.1 = k then (z.1, v) else z).1 = z.1
    split <;> rfl
  · simp
theorem pi_nd {l : KV} {k v : Int} (h : Nd l) : Nd (pi l k v) := by
  unfold Nd at h ⊢
  rw [pi_keys]
  split
  · exact h
  · rename_i hk
    rw [has_mem] at hk
    rw [List.nodup_append]
    exact ⟨h, by simp, fun a ha b hb => by rw [List.mem_singleton] at hb; subst hb; exact fun e => hk (e ▸ ha)⟩
theorem pi_len (l : KV) (k v : Int) : (pi l k v).length ≤ l.length + 1 := by
  unfold pi
  split <;> simp
theorem gi_none : ∀ {l : KV} {k : Int}, has l k ≠ true → gi l k = 0
  | [], _, _ => rfl
  | z :: l, k, h => by
    have h1 : ¬ z.1 = k := fun e => h (by simp [has, e])
    rw [gi, if_neg h1]
    exact gi_none fun e => h (by simp only [has, List.any_cons, Bool.or_eq_true] at e ⊢; exact .inr e)
theorem gi_map (k v t : Int) : ∀ (l : KV), gi (l.map fun z => if z.1 = k then (z.1, v) else z) t = if has l k = true ∧ t = k then v else gi l t
  | [] => by simp [has, gi]
  | z :: l => by
    have ih := gi_map k v t l
    rw [List.map_cons, gi, ih]
    by_cases h1 : z.1 = k
    · have hh : has (z :: l) k = true := by simp [has, h1]
      simp only [h1, if_true, hh, true_and, gi]
      by_cases h2 : k = t
      · simp [h2]
      · have h3 : ¬ t = k := fun e => h2 e.symm
        simp [h2, h3]
    · have hh : has (z :: l) k = has l k := by simp [has, h1]
      simp only [h1, if_false, hh, gi]
      by_cases h2 : z.1 = t
      · have h3 : ¬ t = k := fun e => h1 (h2.trans e)
        simp [h2, h3]
      · simp [h2]
theorem gi_app (k v t : Int) : ∀ (l : KV), has l k ≠ true → gi (l ++ [(k, v)]) t = if t = k then v else gi l t
  | [], _ => by
    simp only [List.nil_append, gi]
    by_cases h : k = t
    · simp [h]
    · rw [if_neg h, if_neg fun e => h e.symm]
  | z :: l, h => by
    have h1 : ¬ z.1 = k := fun e => h (by simp [has, e])
    have ih := gi_app k v t l fun e => h (by simp only [has, List.any_cons, Bool.or_eq_true] at e ⊢; exact .inr e)
    rw [List.cons_append, gi, ih, gi]
    by_cases h2 : z.1 = t
    · have h3 : ¬ t = k := fun e => h1 (h2.trans e)
      simp [h2, h3]
    · simp [h2]
theorem gi_pi (l : KV) (k v t : Int) : gi (pi l k v) t = if t = k then v else gi l t := by
  unfold pi
  split
  · rename_i h
    rw [gi_map]
    simp [h]
  · rename_i h
    exact gi_app k v t l h
/-- added to what is there -/
def ad (l : KV) (k v : Int) : KV := pi l k (gi l k + v)
theorem gi_ad (l : KV) (k v t : Int) : gi (ad l k v) t = gi l t + if t = k then v else 0 := by
  unfold ad
  rw [gi_pi]
  split
  · rename_i h; rw [h]
  · simp
theorem ad_nd {l : KV} {k v : Int} (h : Nd l) : Nd (ad l k v) := pi_nd h
theorem ad_len (l : KV) (k v : Int) : (ad l k v).length ≤ l.length + 1 := pi_len ..
theorem sum_at : ∀ (l : KV) (u : Int), Nd l → (l.map fun z => if u = z.1 then z.2 else 0).sum = gi l u
  | [], _, _ => rfl
  | z :: l, u, h => by
    have h' : z.1 ∉ l.map (·.1) ∧ Nd l := by
      unfold Nd at h
      rw [List.map_cons, List.nodup_cons] at h
      exact h
    rw [List.map_cons, List.sum_cons, sum_at l u h'.2, gi]
    by_cases e : z.1 = u
    · have : gi l u = 0 := gi_none fun q => h'.1 (by rw [e]; exact has_mem.1 q)
      rw [this, if_pos e.symm, if_pos e]; omega
    · rw [if_neg (fun q => e q.symm), if_neg e]; omega
theorem gi_mem : ∀ {l : KV} {z : Int × Int}, Nd l → z ∈ l → gi l z.1 = z.2
  | [], z, _, h => by simp at h
  | y :: l, z, hn, h => by
    have h' : y.1 ∉ l.map (·.1) ∧ Nd l := by
      unfold Nd at hn
      rw [List.map_cons, List.nodup_cons] at hn
      exact hn
    rw [gi]
    rcases List.mem_cons.1 h with rfl | h
    · rw [if_pos rfl]
    · rw [if_neg fun e => h'.1 (by rw [e]; exact List.mem_map_of_mem (f := (·.1)) h)]
      exact gi_mem h'.2 h
/-! ### signed sums -/
def stS (s : Int) (l : KV) (z : Int × Int) : KV := ad (ad l (z.1 + s) z.2) (z.1 - s) z.2
def nxS (found : KV) (s : Int) : KV := found.foldl (stS s) []
def sm (rs : List Int) : KV := rs.foldl nxS [(0, 1)]
def oneS (s : Int) (z : Int × Int) (t : Int) : Int := (if t = z.1 + s then z.2 else 0) + (if t = z.1 - s then z.2 else 0)
theorem gi_stS (s t : Int) (l : KV) (z : Int × Int) : gi (stS s l z) t = gi l t + oneS s z t := by
  unfold stS oneS
  rw [gi_ad, gi_ad]; omega
theorem stS_nd {s : Int} {l : KV} {z : Int × Int} (h : Nd l) : Nd (stS s l z) := ad_nd (ad_nd h)
theorem stS_len (s : Int) (l : KV) (z : Int × Int) : (stS s l z).length ≤ l.length + 2 := by
  unfold stS
  have := ad_len l (z.1 + s) z.2
  have := ad_len (ad l (z.1 + s) z.2) (z.1 - s) z.2
  omega
theorem fold_S (s : Int) : ∀ (found later : KV), (∀ t, gi (found.foldl (stS s) later) t = gi later t + (found.map fun z => oneS s z t).sum) ∧ (Nd later → Nd (found.foldl (stS s) later)) ∧ (found.foldl (stS s) later).length ≤ later.length + 2 * found.length
  | [], later => by simp
  | z :: found, later => by
    obtain ⟨a, b, c⟩ := fold_S s found (stS s later z)
    refine ⟨fun t => ?_, fun h => b (stS_nd h), ?_⟩
    · rw [List.foldl_cons, a, gi_stS, List.map_cons, List.sum_cons]; omega
    · have := stS_len s later z
      rw [List.foldl_cons, List.length_cons]; omega
theorem sum_oneS (l : KV) (s t : Int) (h : Nd l) : (l.map fun z => oneS s z t).sum = gi l (t - s) + gi l (t + s) := by
  rw [← sum_at l (t - s) h, ← sum_at l (t + s) h]
  clear h
  induction l with
  | nil => rfl
  | cons z l ih =>
    simp only [List.map_cons, List.sum_cons, ih]
    have e1 : (t - s = z.1) ↔ t = z.1 + s := by omega
    have e2 : (t + s = z.1) ↔ t = z.1 - s := by omega
    unfold oneS
    simp only [e1, e2]
    split <;> split <;> omega
theorem nd_nil : Nd [] := List.nodup_nil
theorem nxS_gi {found : KV} {s t : Int} (h : Nd found) : gi (nxS found s) t = gi found (t - s) + gi found (t + s) := by
  unfold nxS
  rw [(fold_S s found []).1, sum_oneS _ _ _ h]
  show 0 + _ = _
  omega
theorem nxS_nd {found : KV} {s : Int} : Nd (nxS found s) := (fold_S s found []).2.1 nd_nil
theorem nxS_len (found : KV) (s : Int) : (nxS found s).length ≤ 2 * found.length := by
  have := (fold_S s found []).2.2
  simpa [nxS] using this
/-- positive ones -/
def Ps (l : KV) : Prop := ∀ z ∈ l, 1 ≤ z.2
theorem gi_nn : ∀ {l : KV} {t : Int}, Ps l → 0 ≤ gi l t
  | [], t, _ => by simp [gi]
  | z :: l, t, h => by
    rw [gi]
    split
    · have := h z (.head _); omega
    · exact gi_nn fun w hw => h w (.tail _ hw)
theorem gi_pos : ∀ {l : KV} {t : Int}, Ps l → (0 < gi l t ↔ t ∈ l.map (·.1))
  | [], t, _ => by simp [gi]
  | z :: l, t, h => by
    have ih := gi_pos (l := l) (t := t) fun w hw => h w (.tail _ hw)
    rw [gi, List.map_cons, List.mem_cons]
    by_cases q : z.1 = t
    · rw [if_pos q]
      have := h z (.head _)
      constructor
      · intro _; exact .inl q.symm
      · intro _; omega
    · rw [if_neg q, ih]
      constructor
      · exact .inr
      · rintro (r | r)
        · exact absurd r.symm q
        · exact r
theorem pi_ps {l : KV} {k v : Int} (h : Ps l) (hv : 1 ≤ v) : Ps (pi l k v) := by
  unfold pi
  split
  · intro z hz
    obtain ⟨w, hw, rfl⟩ := List.mem_map.1 hz
    split
    · exact hv
    · exact h w hw
  · intro z hz
    rcases List.mem_append.1 hz with hz | hz
    · exact h z hz
    · rw [List.mem_singleton.1 hz]; exact hv
theorem ad_ps {l : KV} {k v : Int} (h : Ps l) (hv : 1 ≤ v) : Ps (ad l k v) := pi_ps h (by have := gi_nn (t := k) h; omega)
theorem fold_ps {s : Int} : ∀ (found later : KV), Ps found → Ps later → Ps (found.foldl (stS s) later)
  | [], later, _, h => h
  | z :: found, later, hf, h => fold_ps found _ (fun w hw => hf w (.tail _ hw)) (ad_ps (ad_ps h (hf z (.head _))) (hf z (.head _)))
structure Gd (l : KV) : Prop where
  nd : Nd l
  ps : Ps l
theorem Gd.one : Gd [(0, 1)] := ⟨by unfold Nd; simp, fun z hz => by rw [List.mem_singleton.1 hz]; decide⟩
theorem Gd.nx {l : KV} {s : Int} (g : Gd l) : Gd (nxS l s) := ⟨nxS_nd, fold_ps l [] g.ps fun z hz => by simp at hz⟩
theorem Gd.fold : ∀ {rs : List Int} {l : KV}, Gd l → Gd (rs.foldl nxS l)
  | [], _, g => g
  | s :: rs, l, g => Gd.fold (rs := rs) g.nx
theorem Gd.sm {rs : List Int} : Gd (sm rs) := Gd.one.fold
def c (rs : List Int) (t : Int) : Int := gi (sm rs) t
theorem c_nn {rs : List Int} {t : Int} : 0 ≤ c rs t := gi_nn Gd.sm.ps
theorem c_pos {rs : List Int} {t : Int} : 0 < c rs t ↔ t ∈ (sm rs).map (·.1) := gi_pos Gd.sm.ps
theorem c_snoc {rs : List Int} {m t : Int} : c (rs ++ [m]) t = c rs (t - m) + c rs (t + m) := by
  unfold c sm
  rw [List.foldl_append]
  exact nxS_gi Gd.sm.nd
/-! as functions -/
def cf (f : Int → Int) (s : Int) : Int → Int := fun t => f (t - s) + f (t + s)
theorem gi_fold : ∀ (rs : List Int) (l : KV), Gd l → gi (rs.foldl nxS l) = rs.foldl cf (gi l)
  | [], _, _ => rfl
  | s :: rs, l, g => by
    rw [List.foldl_cons, List.foldl_cons, gi_fold rs _ g.nx]
    congr 1
    funext t
    exact nxS_gi g.nd
theorem cf_comm (f : Int → Int) (a b : Int) : cf (cf f a) b = cf (cf f b) a := by
  funext t
  unfold cf
  have e1 : t - b - a = t - a - b := by omega
  have e2 : t - b + a = t + a - b := by omega
  have e3 : t + b - a = t - a + b := by omega
  have e4 : t + b + a = t + a + b := by omega
  rw [e1, e2, e3, e4]; omega
theorem c_perm {rs ms : List Int} (h : rs.Perm ms) : c rs = c ms := by
  unfold c sm
  funext t
  rw [gi_fold rs _ Gd.one, gi_fold ms _ Gd.one]
  exact congrFun (h.foldl_eq' (fun a _ b _ f => cf_comm f a b) _) t
theorem fold_even : ∀ (rs : List Int) (f : Int → Int), (∀ t, f (-t) = f t) → ∀ t, rs.foldl cf f (-t) = rs.foldl cf f t
  | [], f, h, t => h t
  | s :: rs, f, h, t => fold_even rs (cf f s) (fun u => by
    unfold cf
    have e1 : -u - s = -(u + s) := by omega
    have e2 : -u + s = -(u - s) := by omega
    rw [e1, e2, h, h]; omega) t
theorem gi1 (t : Int) : gi [(0, 1)] t = if t = 0 then 1 else 0 := by
  simp only [gi]
  by_cases h : t = 0
  · simp [h]
  · rw [if_neg h, if_neg fun e => h e.symm]
theorem c_even {rs : List Int} {t : Int} : c rs (-t) = c rs t := by
  unfold c sm
  rw [gi_fold rs _ Gd.one]
  refine fold_even rs _ (fun u => ?_) t
  rw [gi1, gi1]
  have : (-u = 0) ↔ u = 0 := by omega
  simp only [this]
/-- where sums are -/
def At (S t : Int) : Prop := -S ≤ t ∧ t ≤ S ∧ (S - t) % 2 = 0
theorem at_snoc : ∀ {rs : List Int} {t : Int}, (∀ r ∈ rs, 1 ≤ r) → 0 < c rs t → At rs.sum t := by
  intro rs
  suffices h : ∀ (ms : List Int) (t : Int), (∀ r ∈ ms, 1 ≤ r) → 0 < c ms.reverse t → At ms.sum t by
    intro t hr hc
    have := h rs.reverse t (fun r hm => hr r (List.mem_reverse.1 hm)) (by rwa [List.reverse_reverse])
    have e : rs.reverse.sum = rs.sum := by rw [List.sum_reverse]
    rwa [e] at this
  intro ms
  induction ms with
  | nil =>
    intro t _ hc
    have : c [] t = if t = 0 then 1 else 0 := gi1 t
    rw [List.reverse_nil, this] at hc
    split at hc
    · rename_i h; subst h; unfold At; simp
    · omega
  | cons m ms ih =>
    intro t hr hc
    rw [List.reverse_cons, c_snoc] at hc
    have hm := hr m (.head _)
    have hh : ∀ r ∈ ms, 1 ≤ r := fun r h => hr r (.tail _ h)
    have n1 := c_nn (rs := ms.reverse) (t := t - m)
    have n2 := c_nn (rs := ms.reverse) (t := t + m)
    rw [List.sum_cons]
    by_cases q : 0 < c ms.reverse (t - m)
    · have := ih (t - m) hh q
      unfold At at this ⊢; omega
    · have := ih (t + m) hh (by omega)
      unfold At at this ⊢; omega
/-! all lengths as often -/
def scl (k : Int) (l : KV) : KV := l.map fun z => (k * z.1, z.2)
section
variable {k : Int} (hk : 0 < k)
include hk
theorem k_inj {a b : Int} : k * a = k * b ↔ a = b := ⟨fun h => Int.eq_of_mul_eq_mul_left (by omega) h, fun h => by rw [h]⟩
theorem gi_scl : ∀ (l : KV) (t : Int), gi (scl k l) (k * t) = gi l t
  | [], _ => rfl
  | z :: l, t => by
    show gi ((k * z.1, z.2) :: scl k l) (k * t) = _
    rw [gi, gi, gi_scl l t]
    simp only [k_inj hk]
theorem has_scl (l : KV) (t : Int) : has (scl k l) (k * t) = has l t := by
  unfold has scl
  rw [List.any_map]
  congr 1
  funext z
  simp only [Function.comp_def, k_inj hk]
theorem pi_scl (l : KV) (a v : Int) : pi (scl k l) (k * a) v = scl k (pi l a v) := by
  unfold pi
  rw [has_scl hk]
  split
  · unfold scl
    rw [List.map_map, List.map_map]
    refine List.map_congr_left fun z _ => ?_
    simp only [Function.comp_def, k_inj hk]
    split <;> rfl
  · unfold scl; simp
theorem ad_scl (l : KV) (a v : Int) : ad (scl k l) (k * a) v = scl k (ad l a v) := by
  unfold ad
  rw [gi_scl hk, pi_scl hk]
theorem fold_scl (s : Int) : ∀ (found later : KV), (scl k found).foldl (stS (k * s)) (scl k later) = scl k (found.foldl (stS s) later)
  | [], later => rfl
  | z :: found, later => by
    show (scl k found).foldl (stS (k * s)) (stS (k * s) (scl k later) (k * z.1, z.2)) = _
    have : stS (k * s) (scl k later) (k * z.1, z.2) = scl k (stS s later z) := by
      unfold stS
      rw [← Int.mul_add, ← Int.mul_sub, ad_scl hk, ad_scl hk]
    rw [this, fold_scl s found]; rfl
theorem sm_scl (rs : List Int) : sm (rs.map (k * ·)) = scl k (sm rs) := by
  have : ∀ (rs : List Int) (l : KV), (rs.map (k * ·)).foldl nxS (scl k l) = scl k (rs.foldl nxS l) := by
    intro rs
    induction rs with
    | nil => intro l; rfl
    | cons s rs ih =>
      intro l
      rw [List.map_cons, List.foldl_cons, List.foldl_cons, ← ih]
      congr 1
      exact fold_scl hk s l []
  have h := this rs [(0, 1)]
  have e : scl k [(0, 1)] = [(0, 1)] := by simp [scl]
  rw [e] at h
  exact h
theorem c_scl (rs : List Int) (t : Int) : c (rs.map (k * ·)) (k * t) = c rs t := by
  unfold c
  rw [sm_scl hk, gi_scl hk]
end
end Lk11

namespace Lk11
open PySem PySem.Spec PyProof.Rows L2 Rb
/-! ### how many sums -/
theorem nodup_sub : ∀ {l m : List Int}, l.Nodup → (∀ x ∈ l, x ∈ m) → l.length ≤ m.length
  | [], m, _, _ => by simp
  | x :: l, m, h, hs => by
    rw [List.nodup_cons] at h
    have hx := hs x (.head _)
    have := nodup_sub (l := l) (m := m.erase x) h.2 fun y hy => (List.mem_erase_of_ne (fun e => h.1 (by rw [e] at hy; exact hy))).2 (hs y (.tail _ hy))
    rw [List.length_erase_of_mem hx] at this
    have hp := List.length_pos_of_mem hx
    rw [List.length_cons]; omega
/-- all places that sums may have -/
def every (S : Nat) : List Int := (List.range (S + 1)).map fun i => -(S : Int) + 2 * (i : Nat)
theorem every_len (S : Nat) : (every S).length = S + 1 := by simp [every]
theorem every_mem {S : Nat} {t : Int} : t ∈ every S ↔ At S t := by
  unfold every At
  rw [List.mem_map]
  constructor
  · rintro ⟨i, hi, rfl⟩
    have := List.mem_range.1 hi
    omega
  · rintro ⟨h1, h2, h3⟩
    refine ⟨((t + S) / 2).toNat, List.mem_range.2 (by omega), by omega⟩
theorem every_nd (S : Nat) : (every S).Nodup := by
  unfold every
  unfold List.Nodup
  rw [List.pairwise_map]
  exact List.Pairwise.imp (fun {i j} h => by omega) (List.nodup_range (n := S + 1))
def Kl (rs : List Int) : List Int := (sm rs).map (·.1)
theorem Kl_nd {rs : List Int} : (Kl rs).Nodup := Gd.sm.nd
theorem Kl_len {rs : List Int} : (Kl rs).length = (sm rs).length := by simp [Kl]
theorem Kl_mem {rs : List Int} {t : Int} : t ∈ Kl rs ↔ 0 < c rs t := c_pos.symm
section
variable {rs : List Int} {S : Nat} (hr : ∀ r ∈ rs, 1 ≤ r) (hS : rs.sum = (S : Int))
include hr hS
theorem len_le : (sm rs).length ≤ S + 1 := by
  rw [← Kl_len, ← every_len S]
  refine nodup_sub Kl_nd fun t ht => every_mem.2 ?_
  have := at_snoc hr (Kl_mem.1 ht)
  rwa [hS] at this
theorem full_iff : (∀ t, 0 ≤ t → At S t → 0 < c rs t) ↔ (sm rs).length = S + 1 := by
  constructor
  · intro h
    have h1 := len_le hr hS
    have h2 : (every S).length ≤ (Kl rs).length := nodup_sub (every_nd S) fun t ht => by
      have ha := every_mem.1 ht
      refine Kl_mem.2 ?_
      by_cases q : 0 ≤ t
      · exact h t q ha
      · have := h (-t) (by omega) (by unfold At at ha ⊢; omega)
        rwa [c_even] at this
    rw [every_len, Kl_len] at h2
    omega
  · intro h t h0 ha
    refine Classical.byContradiction fun hn => ?_
    have h2 : (Kl rs).length ≤ ((every S).erase t).length := nodup_sub Kl_nd fun u hu => by
      have hp := Kl_mem.1 hu
      have hau := at_snoc hr hp
      rw [hS] at hau
      exact (List.mem_erase_of_ne (fun e => hn (by rw [← e]; exact hp))).2 (every_mem.2 hau)
    rw [Kl_len, List.length_erase_of_mem (every_mem.2 ha), every_len] at h2
    omega
end
/-! ### the nearest -/
theorem minP_is : ∀ (ps : List (Int × Int)) (p : Int × Int), minP p ps ∈ p :: ps ∧ ∀ q ∈ p :: ps, SrtO.lexB q (minP p ps) = false
  | [], p => ⟨.head _, fun q hq => by
    rw [List.mem_singleton.1 hq]
    show SrtO.lexB p p = false
    rw [SrtO.lexB_no]; omega⟩
  | a :: ps, p => by
    show minP (if SrtO.lexB a p then a else p) ps ∈ _ ∧ ∀ q ∈ _, SrtO.lexB q (minP (if SrtO.lexB a p then a else p) ps) = false
    obtain ⟨h1, h2⟩ := minP_is ps (if SrtO.lexB a p then a else p)
    generalize minP (if SrtO.lexB a p then a else p) ps = m at h1 h2
    have hm := h2 _ (.head _)
    rw [SrtO.lexB_no] at hm
    by_cases q : SrtO.lexB a p = true
    · rw [if_pos q] at h1 h2 hm
      rw [SrtO.lexB_iff] at q
      refine ⟨?_, fun w hw => ?_⟩
      · rcases List.mem_cons.1 h1 with rfl | h
        · simp
        · simp [h]
      · rcases List.mem_cons.1 hw with rfl | hw
        · rw [SrtO.lexB_no]; omega
        · rcases List.mem_cons.1 hw with rfl | hw
          · exact h2 _ (.head _)
          · exact h2 _ (.tail _ hw)
    · rw [if_neg q] at h1 h2 hm
      rw [Bool.not_eq_true, SrtO.lexB_no] at q
      refine ⟨?_, fun w hw => ?_⟩
      · rcases List.mem_cons.1 h1 with rfl | h
        · simp
        · simp [h]
      · rcases List.mem_cons.1 hw with rfl | hw
        · exact h2 _ (.head _)
        · rcases List.mem_cons.1 hw with rfl | hw
          · rw [SrtO.lexB_no]; omega
          · exact h2 _ (.tail _ hw)
def prs (rs : List Int) (g : Int) : List (Int × Int) := (Kl rs).map fun k => (ab (k - g), k)
def ns (rs : List Int) (g : Int) : Int := match prs rs g with
  | p :: ps => (minP p ps).2
  | [] => 0
def dist (rs : List Int) (g : Int) : Int := ab (ns rs g - g)
theorem ad_ne (l : KV) (k v : Int) : ad l k v ≠ [] := by
  unfold ad pi
  split
  · rename_i hh
    intro e
    rw [List.map_eq_nil_iff] at e
    subst e
    simp [has] at hh
  · simp
theorem fold_ne (s : Int) : ∀ (l later : KV), later ≠ [] → l.foldl (stS s) later ≠ []
  | [], later, h => h
  | w :: l, later, h => fold_ne s l _ (ad_ne _ _ _)
theorem sm_ne : ∀ (rs : List Int) (l : KV), l ≠ [] → rs.foldl nxS l ≠ []
  | [], l, h => h
  | s :: rs, [], h => absurd rfl h
  | s :: rs, z :: l, h => sm_ne rs _ (fold_ne s l (stS s [] z) (ad_ne _ _ _))
theorem Kl_ne {rs : List Int} : Kl rs ≠ [] := by
  intro e
  unfold Kl at e
  exact sm_ne rs [(0, 1)] (by simp) (List.map_eq_nil_iff.1 e)
theorem ns_is {rs : List Int} {g : Int} : ns rs g ∈ Kl rs ∧ ∀ k ∈ Kl rs, dist rs g ≤ ab (k - g) := by
  unfold dist ns
  cases hp : prs rs g with
  | nil =>
    unfold prs at hp
    exact absurd (List.map_eq_nil_iff.1 hp) Kl_ne
  | cons p ps =>
    obtain ⟨h1, h2⟩ := minP_is ps p
    rw [← hp] at h1 h2
    unfold prs at h1
    obtain ⟨k, hk, e⟩ := List.mem_map.1 h1
    refine ⟨by simp only; rw [← e]; exact hk, fun k' hk' => ?_⟩
    have := h2 _ (List.mem_map.2 ⟨k', hk', rfl⟩)
    rw [SrtO.lexB_no] at this
    simp only
    rw [← e] at this ⊢
    simp only at this ⊢
    omega
theorem ab_neg (a : Int) : ab (-a) = ab a := by unfold ab; repeat' split <;> omega
theorem ns_neg {rs : List Int} {t : Int} : -t ∈ Kl rs ↔ t ∈ Kl rs := by rw [Kl_mem, Kl_mem, c_even]
theorem dist_even {rs : List Int} {g : Int} : dist rs (-g) = dist rs g := by
  have h : ∀ g, dist rs (-g) ≤ dist rs g := fun g => by
    have := (ns_is (rs := rs) (g := -g)).2 (-ns rs g) (ns_neg.2 (ns_is (g := g)).1)
    have e : ab (-ns rs g - -g) = dist rs g := by
      unfold dist
      rw [← ab_neg]; congr 1; omega
    rwa [e] at this
  have h1 := h g
  have h2 := h (-g)
  rw [Int.neg_neg] at h2
  omega
theorem dist_step {rs : List Int} {g s : Int} (hs : s = 1 ∨ s = -1) : dist rs (g + s) ≤ dist rs g + 1 := by
  have := (ns_is (rs := rs) (g := g + s)).2 (ns rs g) (ns_is (g := g)).1
  have e : ab (ns rs g - (g + s)) ≤ dist rs g + 1 := by
    unfold dist ab
    repeat' split
    all_goals omega
  omega
def nv (rs : List Int) (x y : Int) : Int := mx (dist rs (x + y)) (dist rs (x - y))
theorem nv_to {rs : List Int} {x y : Int} (h1 : ∀ r ∈ rs, 1 ≤ r) : ab ((ns rs (x + y) + ns rs (x - y)) / 2 - x) + ab ((ns rs (x + y) - ns rs (x - y)) / 2 - y) = nv rs x y := by
  have a := at_snoc h1 (Kl_mem.1 (ns_is (rs := rs) (g := x + y)).1)
  have b := at_snoc h1 (Kl_mem.1 (ns_is (rs := rs) (g := x - y)).1)
  unfold nv dist
  generalize ns rs (x + y) = u at *
  generalize ns rs (x - y) = v at *
  unfold At at a b
  have e1 : (u + v) % 2 = 0 := by omega
  have e2 : (u - v) % 2 = 0 := by omega
  unfold ab mx
  repeat' split
  all_goals omega
theorem nv_moves {rs : List Int} {x y : Int} : nv rs (-y) x = nv rs x y ∧ nv rs (-x) (-y) = nv rs x y ∧ nv rs x (-y) = nv rs x y ∧ nv rs y x = nv rs x y := by
  have e1 : dist rs (-y + x) = dist rs (x - y) := by congr 1; omega
  have e2 : dist rs (-y - x) = dist rs (x + y) := by rw [← dist_even]; congr 1; omega
  have e3 : dist rs (-x + -y) = dist rs (x + y) := by rw [← dist_even]; congr 1; omega
  have e4 : dist rs (-x - -y) = dist rs (x - y) := by rw [← dist_even]; congr 1; omega
  have e5 : dist rs (x + -y) = dist rs (x - y) := by congr 1
  have e6 : dist rs (x - -y) = dist rs (x + y) := by congr 1; omega
  have e7 : dist rs (y + x) = dist rs (x + y) := by congr 1; omega
  have e8 : dist rs (y - x) = dist rs (x - y) := by rw [← dist_even]; congr 1; omega
  unfold nv
  rw [e1, e2, e3, e4, e5, e6, e7, e8]
  refine ⟨?_, ?_, ?_, ?_⟩ <;> unfold mx <;> repeat' split <;> omega
theorem nv_near {rs : List Int} {x y a b : Int} (h : (a = 1 ∨ a = -1) ∧ b = 0 ∨ a = 0 ∧ (b = 1 ∨ b = -1)) : ab (nv rs (x + a) (y + b) - nv rs x y) ≤ 1 := by
  have up : ∀ (g s : Int), s = 1 ∨ s = -1 → dist rs (g + s) ≤ dist rs g + 1 ∧ dist rs g ≤ dist rs (g + s) + 1 := fun g s hs => by
    refine ⟨dist_step hs, ?_⟩
    have := dist_step (rs := rs) (g := g + s) (s := -s) (by omega)
    have e : g + s + -s = g := by omega
    rwa [e] at this
  have u1 := up (x + y) (a + b) (by omega)
  have u2 := up (x - y) (a - b) (by omega)
  have e1 : x + a + (y + b) = x + y + (a + b) := by omega
  have e2 : x + a - (y + b) = x - y + (a - b) := by omega
  unfold nv
  rw [e1, e2]
  unfold ab mx
  repeat' split
  all_goals omega
end Lk11

namespace Lk11
open PySem PySem.Spec PyProof.Rows L2 Rb
abbrev T (ns : List Int) : D := .tup (ns.map .int)
abbrev pt (x y : Int) : D := .tup [.int x, .int y]
abbrev DK (l : KV) : D := .dic (dk l)
theorem is_int_ev {x lo hi : Int} {p : Pt} : f_is_int [.int x, .int lo, .int hi] p = some (.bl (decide (lo ≤ x) && decide (x ≤ hi)), p) := by
  by_cases h : lo ≤ x
  · simp only [cFz, at40, at41, at42, at43, at20, at21, at30, at31, at32, List.set, dMod_ev, Int.reduceMod, Int.reduceLT, Int.reduceSub, Int.reduceMul, Int.reduceToNat, Nat.reduceLT, Int.zero_add, Int.reduceLE, fAll_b, runF, cSeq, cIf, cSet, cRet, cRetN, cSkip, cCont, cBrk, cVar, cD, cBin, cUn, cBi, aNil, aCons, cTup, cLst, bT, bAnd, bOr, bNot, cAnd, cOr, cNot, cIte, cChain, cIsi, dTy, kb1, kb2, kb3, kb4, kb5, kb6, kb7, fAbs_ev, fMax_ev, fMin_ev, wipeS, Function.comp_apply, Function.comp_def, dIx, dGetAny, cPotGet, cPotSet, getP, setP, cCall, fInt, fLen, fTuple, fList, cLenV, dLt, dLe, dGt, dGe, dB2, dAdd, dSub_ev, dNeg, Nat.reduceLeDiff, cs0, cs1, cs2, cs3, cs4, cs5, cs6, cs7, cs8, cs9, cs10, cs11, cs12, Int.ofNat_eq_natCast, dEq_int, dNe_int, dEq_pair, dNe_pair, dIsN, dNotN, cPar, cPar3, cAsg, gN, gT, gsCons, gsNil, bdOf, cSl, oNone, oSome, dSl, iSeq, iRg1, iRg2, cExpr, dRev, List.map_cons, List.map_nil, List.length_cons, List.length_nil, List.cons_append, List.nil_append, List.append_nil, List.replicate, List.getElem?_cons_zero, List.getElem?_cons_succ, List.set_cons_zero, List.set_cons_succ, Option.bind_some, Option.map_some, Option.bind_none, Option.map_none, Nat.reduceAdd, Nat.reduceSub, Int.reduceAdd, Int.reduceNeg, decide_true, decide_false, Bool.not_true, Bool.not_false, if_true, if_false, Bool.false_eq_true, if_pos, reduceIte, reduceCtorEq, Option.some.injEq, Prod.mk.injEq, and_self, and_true, true_and, szOk, f_is_int, c_is_int, h]
    simp
  · simp only [cFz, at40, at41, at42, at43, at20, at21, at30, at31, at32, List.set, dMod_ev, Int.reduceMod, Int.reduceLT, Int.reduceSub, Int.reduceMul, Int.reduceToNat, Nat.reduceLT, Int.zero_add, Int.reduceLE, fAll_b, runF, cSeq, cIf, cSet, cRet, cRetN, cSkip, cCont, cBrk, cVar, cD, cBin, cUn, cBi, aNil, aCons, cTup, cLst, bT, bAnd, bOr, bNot, cAnd, cOr, cNot, cIte, cChain, cIsi, dTy, kb1, kb2, kb3, kb4, kb5, kb6, kb7, fAbs_ev, fMax_ev, fMin_ev, wipeS, Function.comp_apply, Function.comp_def, dIx, dGetAny, cPotGet, cPotSet, getP, setP, cCall, fInt, fLen, fTuple, fList, cLenV, dLt, dLe, dGt, dGe, dB2, dAdd, dSub_ev, dNeg, Nat.reduceLeDiff, cs0, cs1, cs2, cs3, cs4, cs5, cs6, cs7, cs8, cs9, cs10, cs11, cs12, Int.ofNat_eq_natCast, dEq_int, dNe_int, dEq_pair, dNe_pair, dIsN, dNotN, cPar, cPar3, cAsg, gN, gT, gsCons, gsNil, bdOf, cSl, oNone, oSome, dSl, iSeq, iRg1, iRg2, cExpr, dRev, List.map_cons, List.map_nil, List.length_cons, List.length_nil, List.cons_append, List.nil_append, List.append_nil, List.replicate, List.getElem?_cons_zero, List.getElem?_cons_succ, List.set_cons_zero, List.set_cons_succ, Option.bind_some, Option.map_some, Option.bind_none, Option.map_none, Nat.reduceAdd, Nat.reduceSub, Int.reduceAdd, Int.reduceNeg, decide_true, decide_false, Bool.not_true, Bool.not_false, if_true, if_false, Bool.false_eq_true, if_pos, reduceIte, reduceCtorEq, Option.some.injEq, Prod.mk.injEq, and_self, and_true, true_and, szOk, f_is_int, c_is_int, h]
    simp
theorem are_ints_ev {ns : List Int} {lo hi : Int} {p : Pt} (h : ∀ x ∈ ns, lo ≤ x ∧ x ≤ hi) (hz : ns.length ≤ 1000) : f_are_ints [T ns, .int lo, .int hi] p = some (.bl true, p) := by
  have e := lc_map (it := iSeq (cVar 0)) (te := cCall f_is_int (aCons (cVar 3) (aCons (cVar 1) (aCons (cVar 2) aNil)))) (i := 3) (p := p) (r := [.val (.tup (ns.map .int)), .val (.int lo), .val (.int hi), .no]) (b0 := .no) (s0 := ⟨[.val (.tup (ns.map .int)), .val (.int lo), .val (.int hi), .no], p⟩) (ds := ns.map .int) (φ := fun _ => .bl true) rfl rfl rfl (fun d hd => by
    obtain ⟨x, hx, rfl⟩ := List.mem_map.1 hd
    obtain ⟨h1, h2⟩ := h x hx
    refine ⟨false, ?_⟩
    simp only [cFz, at40, at41, at42, at43, at20, at21, at30, at31, at32, List.set, dMod_ev, Int.reduceMod, Int.reduceLT, Int.reduceSub, Int.reduceMul, Int.reduceToNat, Nat.reduceLT, Int.zero_add, Int.reduceLE, fAll_b, runF, cSeq, cIf, cSet, cRet, cRetN, cSkip, cCont, cBrk, cVar, cD, cBin, cUn, cBi, aNil, aCons, cTup, cLst, bT, bAnd, bOr, bNot, cAnd, cOr, cNot, cIte, cChain, cIsi, dTy, kb1, kb2, kb3, kb4, kb5, kb6, kb7, fAbs_ev, fMax_ev, fMin_ev, wipeS, Function.comp_apply, Function.comp_def, dIx, dGetAny, cPotGet, cPotSet, getP, setP, cCall, fInt, fLen, fTuple, fList, cLenV, dLt, dLe, dGt, dGe, dB2, dAdd, dSub_ev, dNeg, Nat.reduceLeDiff, cs0, cs1, cs2, cs3, cs4, cs5, cs6, cs7, cs8, cs9, cs10, cs11, cs12, Int.ofNat_eq_natCast, dEq_int, dNe_int, dEq_pair, dNe_pair, dIsN, dNotN, cPar, cPar3, cAsg, gN, gT, gsCons, gsNil, bdOf, cSl, oNone, oSome, dSl, iSeq, iRg1, iRg2, cExpr, dRev, List.map_cons, List.map_nil, List.length_cons, List.length_nil, List.cons_append, List.nil_append, List.append_nil, List.replicate, List.getElem?_cons_zero, List.getElem?_cons_succ, List.set_cons_zero, List.set_cons_succ, Option.bind_some, Option.map_some, Option.bind_none, Option.map_none, Nat.reduceAdd, Nat.reduceSub, Int.reduceAdd, Int.reduceNeg, decide_true, decide_false, Bool.not_true, Bool.not_false, if_true, if_false, Bool.false_eq_true, if_pos, reduceIte, reduceCtorEq, Option.some.injEq, Prod.mk.injEq, and_self, and_true, true_and, szOk, is_int_ev, h1, h2, Bool.and_self]) (by rw [List.length_map]; omega)
  have e2 : (ns.map D.int).map (fun _ => D.bl true) = (ns.map fun _ => true).map D.bl := by simp
  rw [e2] at e
  simp only [cFz, at40, at41, at42, at43, at20, at21, at30, at31, at32, List.set, dMod_ev, Int.reduceMod, Int.reduceLT, Int.reduceSub, Int.reduceMul, Int.reduceToNat, Nat.reduceLT, Int.zero_add, Int.reduceLE, fAll_b, runF, cSeq, cIf, cSet, cRet, cRetN, cSkip, cCont, cBrk, cVar, cD, cBin, cUn, cBi, aNil, aCons, cTup, cLst, bT, bAnd, bOr, bNot, cAnd, cOr, cNot, cIte, cChain, cIsi, dTy, kb1, kb2, kb3, kb4, kb5, kb6, kb7, fAbs_ev, fMax_ev, fMin_ev, wipeS, Function.comp_apply, Function.comp_def, dIx, dGetAny, cPotGet, cPotSet, getP, setP, cCall, fInt, fLen, fTuple, fList, cLenV, dLt, dLe, dGt, dGe, dB2, dAdd, dSub_ev, dNeg, Nat.reduceLeDiff, cs0, cs1, cs2, cs3, cs4, cs5, cs6, cs7, cs8, cs9, cs10, cs11, cs12, Int.ofNat_eq_natCast, dEq_int, dNe_int, dEq_pair, dNe_pair, dIsN, dNotN, cPar, cPar3, cAsg, gN, gT, gsCons, gsNil, bdOf, cSl, oNone, oSome, dSl, iSeq, iRg1, iRg2, cExpr, dRev, List.map_cons, List.map_nil, List.length_cons, List.length_nil, List.cons_append, List.nil_append, List.append_nil, List.replicate, List.getElem?_cons_zero, List.getElem?_cons_succ, List.set_cons_zero, List.set_cons_succ, Option.bind_some, Option.map_some, Option.bind_none, Option.map_none, Nat.reduceAdd, Nat.reduceSub, Int.reduceAdd, Int.reduceNeg, decide_true, decide_false, Bool.not_true, Bool.not_false, if_true, if_false, Bool.false_eq_true, if_pos, reduceIte, reduceCtorEq, Option.some.injEq, Prod.mk.injEq, and_self, and_true, true_and, szOk, f_are_ints, c_are_ints, e, fAll_b]
  simp
/-! ### what is handed in -/
structure Rods (rs : List Int) : Prop where
  l0 : 1 ≤ rs.length
  l1 : rs.length ≤ 12
  rb : ∀ r ∈ rs, 1 ≤ r ∧ r ≤ 60
  sb : rs.sum ≤ 1000
theorem Rods.pos {rs : List Int} (v : Rods rs) : ∀ r ∈ rs, 1 ≤ r := fun r h => (v.rb r h).1
structure Poi (x y : Int) : Prop where
  x0 : -10000 ≤ x
  x1 : x ≤ 10000
  y0 : -10000 ≤ y
  y1 : y ≤ 10000
section
variable {rs ps : List Int} {p : Pt} {x y g : Int}
theorem sum_nn : ∀ {rs : List Int}, (∀ r ∈ rs, 1 ≤ r) → 0 ≤ rs.sum
  | [], _ => by simp
  | r :: rs, h => by
    have := sum_nn (rs := rs) fun w hw => h w (.tail _ hw)
    have := h r (.head _)
    rw [List.sum_cons]; omega
theorem look_rods_ev (v : Rods rs) : f_look_at_rods [T rs] p = some (.non, p) := by
  have e := are_ints_ev (p := p) v.rb (by have := v.l1; omega)
  have h0 : (1 : Int) ≤ (rs.length : Int) := by have := v.l0; omega
  have h1 : (rs.length : Int) ≤ 12 := by have := v.l1; omega
  simp only [cFz, at40, at41, at42, at43, at20, at21, at30, at31, at32, List.set, dMod_ev, Int.reduceMod, Int.reduceLT, Int.reduceSub, Int.reduceMul, Int.reduceToNat, Nat.reduceLT, Int.zero_add, Int.reduceLE, fAll_b, runF, cSeq, cIf, cSet, cRet, cRetN, cSkip, cCont, cBrk, cVar, cD, cBin, cUn, cBi, aNil, aCons, cTup, cLst, bT, bAnd, bOr, bNot, cAnd, cOr, cNot, cIte, cChain, cIsi, dTy, kb1, kb2, kb3, kb4, kb5, kb6, kb7, fAbs_ev, fMax_ev, fMin_ev, wipeS, Function.comp_apply, Function.comp_def, dIx, dGetAny, cPotGet, cPotSet, getP, setP, cCall, fInt, fLen, fTuple, fList, cLenV, dLt, dLe, dGt, dGe, dB2, dAdd, dSub_ev, dNeg, Nat.reduceLeDiff, cs0, cs1, cs2, cs3, cs4, cs5, cs6, cs7, cs8, cs9, cs10, cs11, cs12, Int.ofNat_eq_natCast, dEq_int, dNe_int, dEq_pair, dNe_pair, dIsN, dNotN, cPar, cPar3, cAsg, gN, gT, gsCons, gsNil, bdOf, cSl, oNone, oSome, dSl, iSeq, iRg1, iRg2, cExpr, dRev, List.map_cons, List.map_nil, List.length_cons, List.length_nil, List.cons_append, List.nil_append, List.append_nil, List.replicate, List.getElem?_cons_zero, List.getElem?_cons_succ, List.set_cons_zero, List.set_cons_succ, Option.bind_some, Option.map_some, Option.bind_none, Option.map_none, Nat.reduceAdd, Nat.reduceSub, Int.reduceAdd, Int.reduceNeg, decide_true, decide_false, Bool.not_true, Bool.not_false, if_true, if_false, Bool.false_eq_true, if_pos, reduceIte, reduceCtorEq, Option.some.injEq, Prod.mk.injEq, and_self, and_true, true_and, szOk, f_look_at_rods, c_look_at_rods, f_is_rods, c_is_rods, e, List.length_map, h0, h1]
theorem look_point_ev (a : Poi x y) : f_look_at_point [pt x y] p = some (.non, p) := by
  have e := are_ints_ev (ns := [x, y]) (lo := -10000) (hi := 10000) (p := p) (fun z hz => by
    have := a.x0; have := a.x1; have := a.y0; have := a.y1
    simp only [List.mem_cons, List.not_mem_nil, or_false] at hz
    rcases hz with rfl | rfl <;> omega) (by simp)
  simp only [T, List.map_cons, List.map_nil] at e
  simp only [cFz, at40, at41, at42, at43, at20, at21, at30, at31, at32, List.set, dMod_ev, Int.reduceMod, Int.reduceLT, Int.reduceSub, Int.reduceMul, Int.reduceToNat, Nat.reduceLT, Int.zero_add, Int.reduceLE, fAll_b, runF, cSeq, cIf, cSet, cRet, cRetN, cSkip, cCont, cBrk, cVar, cD, cBin, cUn, cBi, aNil, aCons, cTup, cLst, bT, bAnd, bOr, bNot, cAnd, cOr, cNot, cIte, cChain, cIsi, dTy, kb1, kb2, kb3, kb4, kb5, kb6, kb7, fAbs_ev, fMax_ev, fMin_ev, wipeS, Function.comp_apply, Function.comp_def, dIx, dGetAny, cPotGet, cPotSet, getP, setP, cCall, fInt, fLen, fTuple, fList, cLenV, dLt, dLe, dGt, dGe, dB2, dAdd, dSub_ev, dNeg, Nat.reduceLeDiff, cs0, cs1, cs2, cs3, cs4, cs5, cs6, cs7, cs8, cs9, cs10, cs11, cs12, Int.ofNat_eq_natCast, dEq_int, dNe_int, dEq_pair, dNe_pair, dIsN, dNotN, cPar, cPar3, cAsg, gN, gT, gsCons, gsNil, bdOf, cSl, oNone, oSome, dSl, iSeq, iRg1, iRg2, cExpr, dRev, List.map_cons, List.map_nil, List.length_cons, List.length_nil, List.cons_append, List.nil_append, List.append_nil, List.replicate, List.getElem?_cons_zero, List.getElem?_cons_succ, List.set_cons_zero, List.set_cons_succ, Option.bind_some, Option.map_some, Option.bind_none, Option.map_none, Nat.reduceAdd, Nat.reduceSub, Int.reduceAdd, Int.reduceNeg, decide_true, decide_false, Bool.not_true, Bool.not_false, if_true, if_false, Bool.false_eq_true, if_pos, reduceIte, reduceCtorEq, Option.some.injEq, Prod.mk.injEq, and_self, and_true, true_and, szOk, f_look_at_point, c_look_at_point, f_is_point, c_is_point, dNeg, e]
theorem look_reach_ev (v : Rods rs) (a : Poi x y) : f_look_at_reach [T rs, pt x y] p = some (.non, p) := by
  simp only [cFz, at40, at41, at42, at43, at20, at21, at30, at31, at32, List.set, dMod_ev, Int.reduceMod, Int.reduceLT, Int.reduceSub, Int.reduceMul, Int.reduceToNat, Nat.reduceLT, Int.zero_add, Int.reduceLE, fAll_b, runF, cSeq, cIf, cSet, cRet, cRetN, cSkip, cCont, cBrk, cVar, cD, cBin, cUn, cBi, aNil, aCons, cTup, cLst, bT, bAnd, bOr, bNot, cAnd, cOr, cNot, cIte, cChain, cIsi, dTy, kb1, kb2, kb3, kb4, kb5, kb6, kb7, fAbs_ev, fMax_ev, fMin_ev, wipeS, Function.comp_apply, Function.comp_def, dIx, dGetAny, cPotGet, cPotSet, getP, setP, cCall, fInt, fLen, fTuple, fList, cLenV, dLt, dLe, dGt, dGe, dB2, dAdd, dSub_ev, dNeg, Nat.reduceLeDiff, cs0, cs1, cs2, cs3, cs4, cs5, cs6, cs7, cs8, cs9, cs10, cs11, cs12, Int.ofNat_eq_natCast, dEq_int, dNe_int, dEq_pair, dNe_pair, dIsN, dNotN, cPar, cPar3, cAsg, gN, gT, gsCons, gsNil, bdOf, cSl, oNone, oSome, dSl, iSeq, iRg1, iRg2, cExpr, dRev, List.map_cons, List.map_nil, List.length_cons, List.length_nil, List.cons_append, List.nil_append, List.append_nil, List.replicate, List.getElem?_cons_zero, List.getElem?_cons_succ, List.set_cons_zero, List.set_cons_succ, Option.bind_some, Option.map_some, Option.bind_none, Option.map_none, Nat.reduceAdd, Nat.reduceSub, Int.reduceAdd, Int.reduceNeg, decide_true, decide_false, Bool.not_true, Bool.not_false, if_true, if_false, Bool.false_eq_true, if_pos, reduceIte, reduceCtorEq, Option.some.injEq, Prod.mk.injEq, and_self, and_true, true_and, szOk, f_look_at_reach, c_look_at_reach, look_rods_ev v, look_point_ev a]
/-! ### told_sums -/
theorem items_dk (l : KV) : itemsD (dk l) = l.map fun z => .tup [.int z.1, .int z.2] := by unfold itemsD dk; rw [List.map_map]; rfl
theorem keys_dk (l : KV) : keysD (dk l) = (l.map (·.1)).map .int := by unfold keysD dk; rw [List.map_map, List.map_map]; rfl
end
def body9 : SS := (cPutD 3 (cVar 6) (cBin dAdd (cGetV 3 (cVar 6) (cD (.int 0))) (cVar 5)))
def bodyI : SS := (cFor (iSeq (cTup (aCons (cBin dAdd (cVar 4) (cVar 2)) (aCons (cBin dSub (cVar 4) (cVar 2)) aNil)))) (gN 6) body9)
def bodyS : SS := (cSeq (cSet 3 cDic0)
  (cSeq (cForI 1 (gT 2 (gsCons (gN 4) (gsCons (gN 5) gsNil))) bodyI)
  (cSet 1 (cVar 3))))
section
variable {a0 a1 a2 a4 a5 r2 r3 r4 r5 r6 : Bd} {p : Pt} {l f : KV} {s t m k : Int}
theorem putS (hl : l.length ≤ 100000) :
    body9 ⟨[a0, a1, a2, .own (DK l), a4, .val (.int m), .val (.int k)], p⟩ = some (.nx, ⟨[a0, a1, a2, .own (DK (ad l k m)), a4, .val (.int m), .val (.int k)], p⟩) := by
  have hz : l.length ≤ 16777215 := by omega
  simp only [cFz, at40, at41, at42, at43, at20, at21, at30, at31, at32, List.set, dMod_ev, Int.reduceMod, Int.reduceLT, Int.reduceSub, Int.reduceMul, Int.reduceToNat, Nat.reduceLT, Int.zero_add, Int.reduceLE, fAll_b, runF, cSeq, cIf, cSet, cRet, cRetN, cSkip, cCont, cBrk, cVar, cD, cBin, cUn, cBi, aNil, aCons, cTup, cLst, bT, bAnd, bOr, bNot, cAnd, cOr, cNot, cIte, cChain, cIsi, dTy, kb1, kb2, kb3, kb4, kb5, kb6, kb7, fAbs_ev, fMax_ev, fMin_ev, wipeS, Function.comp_apply, Function.comp_def, dIx, dGetAny, cPotGet, cPotSet, getP, setP, cCall, fInt, fLen, fTuple, fList, cLenV, dLt, dLe, dGt, dGe, dB2, dAdd, dSub_ev, dNeg, Nat.reduceLeDiff, cs0, cs1, cs2, cs3, cs4, cs5, cs6, cs7, cs8, cs9, cs10, cs11, cs12, Int.ofNat_eq_natCast, dEq_int, dNe_int, dEq_pair, dNe_pair, dIsN, dNotN, cPar, cPar3, cAsg, gN, gT, gsCons, gsNil, bdOf, cSl, oNone, oSome, dSl, iSeq, iRg1, iRg2, cExpr, dRev, List.map_cons, List.map_nil, List.length_cons, List.length_nil, List.cons_append, List.nil_append, List.append_nil, List.replicate, List.getElem?_cons_zero, List.getElem?_cons_succ, List.set_cons_zero, List.set_cons_succ, Option.bind_some, Option.map_some, Option.bind_none, Option.map_none, Nat.reduceAdd, Nat.reduceSub, Int.reduceAdd, Int.reduceNeg, decide_true, decide_false, Bool.not_true, Bool.not_false, if_true, if_false, Bool.false_eq_true, if_pos, reduceIte, reduceCtorEq, Option.some.injEq, Prod.mk.injEq, and_self, and_true, true_and, szOk, body9, cPutD, cGetV, keyOf, valD_dk, dk_len, putD_dk, hz, ad]
theorem innerS (hl : l.length ≤ 90000) :
    ∃ r6', bodyI ⟨[a0, a1, .val (.int s), .own (DK l), .val (.int t), .val (.int m), r6], p⟩ = some (.nx, ⟨[a0, a1, .val (.int s), .own (DK (stS s l (t, m))), .val (.int t), .val (.int m), r6'], p⟩) := by
  have l1 := ad_len l (t + s) m
  have p1 := putS (a0 := a0) (a1 := a1) (a2 := .val (.int s)) (a4 := .val (.int t)) (p := p) (l := l) (m := m) (k := t + s) (by omega)
  have p2 := putS (a0 := a0) (a1 := a1) (a2 := .val (.int s)) (a4 := .val (.int t)) (p := p) (l := ad l (t + s) m) (m := m) (k := t - s) (by omega)
  refine ⟨.val (.int (t - s)), ?_⟩
  simp only [cFz, at40, at41, at42, at43, at20, at21, at30, at31, at32, List.set, dMod_ev, Int.reduceMod, Int.reduceLT, Int.reduceSub, Int.reduceMul, Int.reduceToNat, Nat.reduceLT, Int.zero_add, Int.reduceLE, fAll_b, runF, cSeq, cIf, cSet, cRet, cRetN, cSkip, cCont, cBrk, cVar, cD, cBin, cUn, cBi, aNil, aCons, cTup, cLst, bT, bAnd, bOr, bNot, cAnd, cOr, cNot, cIte, cChain, cIsi, dTy, kb1, kb2, kb3, kb4, kb5, kb6, kb7, fAbs_ev, fMax_ev, fMin_ev, wipeS, Function.comp_apply, Function.comp_def, dIx, dGetAny, cPotGet, cPotSet, getP, setP, cCall, fInt, fLen, fTuple, fList, cLenV, dLt, dLe, dGt, dGe, dB2, dAdd, dSub_ev, dNeg, Nat.reduceLeDiff, cs0, cs1, cs2, cs3, cs4, cs5, cs6, cs7, cs8, cs9, cs10, cs11, cs12, Int.ofNat_eq_natCast, dEq_int, dNe_int, dEq_pair, dNe_pair, dIsN, dNotN, cPar, cPar3, cAsg, gN, gT, gsCons, gsNil, bdOf, cSl, oNone, oSome, dSl, iSeq, iRg1, iRg2, cExpr, dRev, List.map_cons, List.map_nil, List.length_cons, List.length_nil, List.cons_append, List.nil_append, List.append_nil, List.replicate, List.getElem?_cons_zero, List.getElem?_cons_succ, List.set_cons_zero, List.set_cons_succ, Option.bind_some, Option.map_some, Option.bind_none, Option.map_none, Nat.reduceAdd, Nat.reduceSub, Int.reduceAdd, Int.reduceNeg, decide_true, decide_false, Bool.not_true, Bool.not_false, if_true, if_false, Bool.false_eq_true, if_pos, reduceIte, reduceCtorEq, Option.some.injEq, Prod.mk.injEq, and_self, and_true, true_and, szOk, bodyI, cFor, forL, p1, p2, stS]
theorem itemsS : ∀ (f l : KV) (r4 r5 r6 : Bd), l.length + 2 * f.length ≤ 90000 →
    ∃ r4' r5' r6', forL (gT 2 (gsCons (gN 4) (gsCons (gN 5) gsNil))) bodyI (f.map fun z => .tup [.int z.1, .int z.2]) ⟨[a0, a1, .val (.int s), .own (DK l), r4, r5, r6], p⟩ = some (.nx, ⟨[a0, a1, .val (.int s), .own (DK (f.foldl (stS s) l)), r4', r5', r6'], p⟩)
  | [], l, r4, r5, r6, _ => ⟨r4, r5, r6, rfl⟩
  | (t, m) :: f, l, r4, r5, r6, hz => by
    rw [List.length_cons] at hz
    obtain ⟨s6, e⟩ := innerS (a0 := a0) (a1 := a1) (s := s) (t := t) (m := m) (p := p) (l := l) (r6 := r6) (by omega)
    have hl := stS_len s l (t, m)
    obtain ⟨q4, q5, q6, ih⟩ := itemsS f (stS s l (t, m)) (.val (.int t)) (.val (.int m)) s6 (by omega)
    refine ⟨q4, q5, q6, ?_⟩
    simp only [List.map_cons, forL, e, gT, gsCons, gN, gsNil, List.length_cons, List.length_nil, Nat.reduceAdd, if_true, Option.bind_some, List.set_cons_succ, List.set_cons_zero, List.foldl_cons]
    exact ih
theorem rodsS : ∀ (ss : List Int) (n : Nat) (f : KV) (r2 r3 r4 r5 r6 : Bd), f.length ≤ 2 ^ n → n + ss.length ≤ 12 →
    ∃ r2' r3' r4' r5' r6', forL (gN 2) bodyS (ss.map .int) ⟨[a0, .val (DK f), r2, r3, r4, r5, r6], p⟩ = some (.nx, ⟨[a0, .val (DK (ss.foldl nxS f)), r2', r3', r4', r5', r6'], p⟩)
  | [], n, f, r2, r3, r4, r5, r6, _, _ => ⟨r2, r3, r4, r5, r6, rfl⟩
  | s :: ss, n, f, r2, r3, r4, r5, r6, hf, hn => by
    rw [List.length_cons] at hn
    have h12 : 2 ^ n ≤ 2 ^ 12 := Nat.pow_le_pow_right (by decide) (by omega)
    obtain ⟨q4, q5, q6, e⟩ := itemsS (a0 := a0) (a1 := .val (DK f)) (s := s) (p := p) f [] r4 r5 r6 (by simp; omega)
    obtain ⟨t2, t3, t4, t5, t6, ih⟩ := rodsS ss (n + 1) (nxS f s) (.val (.int s)) (.val (DK (nxS f s))) q4 q5 q6 (by have := nxS_len f s; rw [Nat.pow_succ]; omega) (by omega)
    refine ⟨t2, t3, t4, t5, t6, ?_⟩
    rw [← items_dk] at e
    have e1 : cForI 1 (gT 2 (gsCons (gN 4) (gsCons (gN 5) gsNil))) bodyI ⟨[a0, .val (DK f), .val (.int s), .own (DK []), r4, r5, r6], p⟩ = some (.nx, ⟨[a0, .val (DK f), .val (.int s), .own (DK (nxS f s)), q4, q5, q6], p⟩) := e
    have body : bodyS ⟨[a0, .val (DK f), .val (.int s), r3, r4, r5, r6], p⟩ = some (.nx, ⟨[a0, .val (DK (nxS f s)), .val (.int s), .val (DK (nxS f s)), q4, q5, q6], p⟩) := by
      refine seq_nx (s1 := ⟨[a0, .val (DK f), .val (.int s), .own (DK []), r4, r5, r6], p⟩) (by simp only [cFz, at40, at41, at42, at43, at20, at21, at30, at31, at32, List.set, dMod_ev, Int.reduceMod, Int.reduceLT, Int.reduceSub, Int.reduceMul, Int.reduceToNat, Nat.reduceLT, Int.zero_add, Int.reduceLE, fAll_b, runF, cSeq, cIf, cSet, cRet, cRetN, cSkip, cCont, cBrk, cVar, cD, cBin, cUn, cBi, aNil, aCons, cTup, cLst, bT, bAnd, bOr, bNot, cAnd, cOr, cNot, cIte, cChain, cIsi, dTy, kb1, kb2, kb3, kb4, kb5, kb6, kb7, fAbs_ev, fMax_ev, fMin_ev, wipeS, Function.comp_apply, Function.comp_def, dIx, dGetAny, cPotGet, cPotSet, getP, setP, cCall, fInt, fLen, fTuple, fList, cLenV, dLt, dLe, dGt, dGe, dB2, dAdd, dSub_ev, dNeg, Nat.reduceLeDiff, cs0, cs1, cs2, cs3, cs4, cs5, cs6, cs7, cs8, cs9, cs10, cs11, cs12, Int.ofNat_eq_natCast, dEq_int, dNe_int, dEq_pair, dNe_pair, dIsN, dNotN, cPar, cPar3, cAsg, gN, gT, gsCons, gsNil, bdOf, cSl, oNone, oSome, dSl, iSeq, iRg1, iRg2, cExpr, dRev, List.map_cons, List.map_nil, List.length_cons, List.length_nil, List.cons_append, List.nil_append, List.append_nil, List.replicate, List.getElem?_cons_zero, List.getElem?_cons_succ, List.set_cons_zero, List.set_cons_succ, Option.bind_some, Option.map_some, Option.bind_none, Option.map_none, Nat.reduceAdd, Nat.reduceSub, Int.reduceAdd, Int.reduceNeg, decide_true, decide_false, Bool.not_true, Bool.not_false, if_true, if_false, Bool.false_eq_true, if_pos, reduceIte, reduceCtorEq, Option.some.injEq, Prod.mk.injEq, and_self, and_true, true_and, szOk, cDic0]; rfl) (seq_nx e1 (by simp only [cFz, at40, at41, at42, at43, at20, at21, at30, at31, at32, List.set, dMod_ev, Int.reduceMod, Int.reduceLT, Int.reduceSub, Int.reduceMul, Int.reduceToNat, Nat.reduceLT, Int.zero_add, Int.reduceLE, fAll_b, runF, cSeq, cIf, cSet, cRet, cRetN, cSkip, cCont, cBrk, cVar, cD, cBin, cUn, cBi, aNil, aCons, cTup, cLst, bT, bAnd, bOr, bNot, cAnd, cOr, cNot, cIte, cChain, cIsi, dTy, kb1, kb2, kb3, kb4, kb5, kb6, kb7, fAbs_ev, fMax_ev, fMin_ev, wipeS, Function.comp_apply, Function.comp_def, dIx, dGetAny, cPotGet, cPotSet, getP, setP, cCall, fInt, fLen, fTuple, fList, cLenV, dLt, dLe, dGt, dGe, dB2, dAdd, dSub_ev, dNeg, Nat.reduceLeDiff, cs0, cs1, cs2, cs3, cs4, cs5, cs6, cs7, cs8, cs9, cs10, cs11, cs12, Int.ofNat_eq_natCast, dEq_int, dNe_int, dEq_pair, dNe_pair, dIsN, dNotN, cPar, cPar3, cAsg, gN, gT, gsCons, gsNil, bdOf, cSl, oNone, oSome, dSl, iSeq, iRg1, iRg2, cExpr, dRev, List.map_cons, List.map_nil, List.length_cons, List.length_nil, List.cons_append, List.nil_append, List.append_nil, List.replicate, List.getElem?_cons_zero, List.getElem?_cons_succ, List.set_cons_zero, List.set_cons_succ, Option.bind_some, Option.map_some, Option.bind_none, Option.map_none, Nat.reduceAdd, Nat.reduceSub, Int.reduceAdd, Int.reduceNeg, decide_true, decide_false, Bool.not_true, Bool.not_false, if_true, if_false, Bool.false_eq_true, if_pos, reduceIte, reduceCtorEq, Option.some.injEq, Prod.mk.injEq, and_self, and_true, true_and, szOk]))
    simp only [List.map_cons, forL, gN, body, Option.bind_some, List.set_cons_succ, List.set_cons_zero, List.foldl_cons]
    exact ih
end
section
variable {rs ps : List Int} {p : Pt} {x y g t : Int}
theorem sums_ev (v : Rods rs) : f_told_sums [T rs] p = some (DK (sm rs), p) := by
  obtain ⟨q2, q3, q4, q5, q6, e⟩ := rodsS (a0 := .val (T rs)) (p := p) rs 0 [(0, 1)] .no .no .no .no .no (by simp) (by have := v.l1; omega)
  have e2 : cFor (iSeq (cVar 0)) (gN 2) bodyS ⟨[.val (T rs), .val (DK [(0, 1)]), .no, .no, .no, .no, .no], p⟩ = some (.nx, ⟨[.val (T rs), .val (DK (sm rs)), q2, q3, q4, q5, q6], p⟩) := by
    simp only [cFz, at40, at41, at42, at43, at20, at21, at30, at31, at32, List.set, dMod_ev, Int.reduceMod, Int.reduceLT, Int.reduceSub, Int.reduceMul, Int.reduceToNat, Nat.reduceLT, Int.zero_add, Int.reduceLE, fAll_b, runF, cSeq, cIf, cSet, cRet, cRetN, cSkip, cCont, cBrk, cVar, cD, cBin, cUn, cBi, aNil, aCons, cTup, cLst, bT, bAnd, bOr, bNot, cAnd, cOr, cNot, cIte, cChain, cIsi, dTy, kb1, kb2, kb3, kb4, kb5, kb6, kb7, fAbs_ev, fMax_ev, fMin_ev, wipeS, Function.comp_apply, Function.comp_def, dIx, dGetAny, cPotGet, cPotSet, getP, setP, cCall, fInt, fLen, fTuple, fList, cLenV, dLt, dLe, dGt, dGe, dB2, dAdd, dSub_ev, dNeg, Nat.reduceLeDiff, cs0, cs1, cs2, cs3, cs4, cs5, cs6, cs7, cs8, cs9, cs10, cs11, cs12, Int.ofNat_eq_natCast, dEq_int, dNe_int, dEq_pair, dNe_pair, dIsN, dNotN, cPar, cPar3, cAsg, gN, gT, gsCons, gsNil, bdOf, cSl, oNone, oSome, dSl, iSeq, iRg1, iRg2, cExpr, dRev, List.map_cons, List.map_nil, List.length_cons, List.length_nil, List.cons_append, List.nil_append, List.append_nil, List.replicate, List.getElem?_cons_zero, List.getElem?_cons_succ, List.set_cons_zero, List.set_cons_succ, Option.bind_some, Option.map_some, Option.bind_none, Option.map_none, Nat.reduceAdd, Nat.reduceSub, Int.reduceAdd, Int.reduceNeg, decide_true, decide_false, Bool.not_true, Bool.not_false, if_true, if_false, Bool.false_eq_true, if_pos, reduceIte, reduceCtorEq, Option.some.injEq, Prod.mk.injEq, and_self, and_true, true_and, szOk, cFor]
    exact e
  refine run_rt (n := 7) (c := c_told_sums) (ds := [T rs]) (s := ⟨[.val (T rs), .val (DK (sm rs)), q2, q3, q4, q5, q6], p⟩)
    (seq_nx (s1 := ⟨[.val (T rs), .val (DK [(0, 1)]), .no, .no, .no, .no, .no], p⟩) ?_ (seq_nx e2 ?_))
  · simp only [cFz, at40, at41, at42, at43, at20, at21, at30, at31, at32, List.set, dMod_ev, Int.reduceMod, Int.reduceLT, Int.reduceSub, Int.reduceMul, Int.reduceToNat, Nat.reduceLT, Int.zero_add, Int.reduceLE, fAll_b, runF, cSeq, cIf, cSet, cRet, cRetN, cSkip, cCont, cBrk, cVar, cD, cBin, cUn, cBi, aNil, aCons, cTup, cLst, bT, bAnd, bOr, bNot, cAnd, cOr, cNot, cIte, cChain, cIsi, dTy, kb1, kb2, kb3, kb4, kb5, kb6, kb7, fAbs_ev, fMax_ev, fMin_ev, wipeS, Function.comp_apply, Function.comp_def, dIx, dGetAny, cPotGet, cPotSet, getP, setP, cCall, fInt, fLen, fTuple, fList, cLenV, dLt, dLe, dGt, dGe, dB2, dAdd, dSub_ev, dNeg, Nat.reduceLeDiff, cs0, cs1, cs2, cs3, cs4, cs5, cs6, cs7, cs8, cs9, cs10, cs11, cs12, Int.ofNat_eq_natCast, dEq_int, dNe_int, dEq_pair, dNe_pair, dIsN, dNotN, cPar, cPar3, cAsg, gN, gT, gsCons, gsNil, bdOf, cSl, oNone, oSome, dSl, iSeq, iRg1, iRg2, cExpr, dRev, List.map_cons, List.map_nil, List.length_cons, List.length_nil, List.cons_append, List.nil_append, List.append_nil, List.replicate, List.getElem?_cons_zero, List.getElem?_cons_succ, List.set_cons_zero, List.set_cons_succ, Option.bind_some, Option.map_some, Option.bind_none, Option.map_none, Nat.reduceAdd, Nat.reduceSub, Int.reduceAdd, Int.reduceNeg, decide_true, decide_false, Bool.not_true, Bool.not_false, if_true, if_false, Bool.false_eq_true, if_pos, reduceIte, reduceCtorEq, Option.some.injEq, Prod.mk.injEq, and_self, and_true, true_and, szOk, cDic1, keyOf]; rfl
  · simp only [cFz, at40, at41, at42, at43, at20, at21, at30, at31, at32, List.set, dMod_ev, Int.reduceMod, Int.reduceLT, Int.reduceSub, Int.reduceMul, Int.reduceToNat, Nat.reduceLT, Int.zero_add, Int.reduceLE, fAll_b, runF, cSeq, cIf, cSet, cRet, cRetN, cSkip, cCont, cBrk, cVar, cD, cBin, cUn, cBi, aNil, aCons, cTup, cLst, bT, bAnd, bOr, bNot, cAnd, cOr, cNot, cIte, cChain, cIsi, dTy, kb1, kb2, kb3, kb4, kb5, kb6, kb7, fAbs_ev, fMax_ev, fMin_ev, wipeS, Function.comp_apply, Function.comp_def, dIx, dGetAny, cPotGet, cPotSet, getP, setP, cCall, fInt, fLen, fTuple, fList, cLenV, dLt, dLe, dGt, dGe, dB2, dAdd, dSub_ev, dNeg, Nat.reduceLeDiff, cs0, cs1, cs2, cs3, cs4, cs5, cs6, cs7, cs8, cs9, cs10, cs11, cs12, Int.ofNat_eq_natCast, dEq_int, dNe_int, dEq_pair, dNe_pair, dIsN, dNotN, cPar, cPar3, cAsg, gN, gT, gsCons, gsNil, bdOf, cSl, oNone, oSome, dSl, iSeq, iRg1, iRg2, cExpr, dRev, List.map_cons, List.map_nil, List.length_cons, List.length_nil, List.cons_append, List.nil_append, List.append_nil, List.replicate, List.getElem?_cons_zero, List.getElem?_cons_succ, List.set_cons_zero, List.set_cons_succ, Option.bind_some, Option.map_some, Option.bind_none, Option.map_none, Nat.reduceAdd, Nat.reduceSub, Int.reduceAdd, Int.reduceNeg, decide_true, decide_false, Bool.not_true, Bool.not_false, if_true, if_false, Bool.false_eq_true, if_pos, reduceIte, reduceCtorEq, Option.some.injEq, Prod.mk.injEq, and_self, and_true, true_and, szOk]
theorem valD_none : ∀ (l : KV) (k : Int), has l k = false → valD (dk l) (.inl k) = none
  | [], k, _ => rfl
  | z :: l, k, h => by
    unfold has at h
    rw [List.any_cons, Bool.or_eq_false_iff] at h
    have ih := valD_none l k h.2
    unfold valD dk at ih ⊢
    rw [List.map_cons, List.find?_cons_of_neg (by simpa using h.1)]
    exact ih
theorem some_has (l : KV) (k : Int) : (valD (dk l) (.inl k)).isSome = has l k := by
  cases h : has l k with
  | true => rw [valD_in l k (has_mem.1 h)]; rfl
  | false => rw [valD_none l k h]; rfl
theorem has_c : has (sm rs) t = decide (0 < c rs t) := by
  by_cases h : 0 < c rs t
  · rw [decide_eq_true h, has_mem]; exact c_pos.1 h
  · rw [decide_eq_false h]
    cases q : has (sm rs) t with
    | false => rfl
    | true => exact absurd (c_pos.2 (has_mem.1 q)) h
theorem c_le : ∀ {ss : List Int}, ss.length ≤ 12 → c ss t ≤ 4096 := by
  have h : ∀ (ss : List Int) (f : Int → Int) (B : Int), (∀ t, f t ≤ B) → 0 ≤ B → ∀ t, ss.foldl cf f t ≤ 2 ^ ss.length * B := by
    intro ss
    induction ss with
    | nil => intro f B hf hB t; simp; exact hf t
    | cons s ss ih =>
      intro f B hf hB t
      have := ih (cf f s) (2 * B) (fun u => by unfold cf; have := hf (u - s); have := hf (u + s); omega) (by omega) t
      rw [List.foldl_cons, List.length_cons, Int.pow_succ, Int.mul_assoc]
      exact this
  intro ss hn
  have := h ss (gi [(0, 1)]) 1 (fun u => by rw [gi1]; split <;> omega) (by decide) t
  have e : c ss t = ss.foldl cf (gi [(0, 1)]) t := by unfold c sm; rw [gi_fold ss _ Gd.one]
  rw [← e, Int.mul_one] at this
  have h2 : (2 : Int) ^ ss.length ≤ 2 ^ 12 := by
    have : (2 : Nat) ^ ss.length ≤ 2 ^ 12 := Nat.pow_le_pow_right (by decide) hn
    exact_mod_cast this
  have h3 : (2 : Int) ^ 12 = 4096 := by decide
  omega
/-- as many poses -/
def hm (rs : List Int) (x y : Int) : Int := c rs (x + y) * c rs (x - y)
def rch (rs : List Int) (x y : Int) : Bool := decide (0 < c rs (x + y)) && decide (0 < c rs (x - y))
theorem poses_ev (v : Rods rs) (a : Poi x y) : f_how_many_poses [T rs, pt x y] p = some (.int (hm rs x y), p) := by
  have n1 := c_nn (rs := rs) (t := x + y)
  have n2 := c_nn (rs := rs) (t := x - y)
  have b1 := c_le (t := x + y) v.l1
  have b2 := c_le (t := x - y) v.l1
  have m1 : dMulI (.int (gi (sm rs) (x + y))) (.int (gi (sm rs) (x - y))) = some (.int (c rs (x + y) * c rs (x - y)), false) := dMul_i (a := c rs (x + y)) (b := c rs (x - y)) (by omega) (by omega)
  unfold hm
  simp only [cFz, at40, at41, at42, at43, at20, at21, at30, at31, at32, List.set, dMod_ev, Int.reduceMod, Int.reduceLT, Int.reduceSub, Int.reduceMul, Int.reduceToNat, Nat.reduceLT, Int.zero_add, Int.reduceLE, fAll_b, runF, cSeq, cIf, cSet, cRet, cRetN, cSkip, cCont, cBrk, cVar, cD, cBin, cUn, cBi, aNil, aCons, cTup, cLst, bT, bAnd, bOr, bNot, cAnd, cOr, cNot, cIte, cChain, cIsi, dTy, kb1, kb2, kb3, kb4, kb5, kb6, kb7, fAbs_ev, fMax_ev, fMin_ev, wipeS, Function.comp_apply, Function.comp_def, dIx, dGetAny, cPotGet, cPotSet, getP, setP, cCall, fInt, fLen, fTuple, fList, cLenV, dLt, dLe, dGt, dGe, dB2, dAdd, dSub_ev, dNeg, Nat.reduceLeDiff, cs0, cs1, cs2, cs3, cs4, cs5, cs6, cs7, cs8, cs9, cs10, cs11, cs12, Int.ofNat_eq_natCast, dEq_int, dNe_int, dEq_pair, dNe_pair, dIsN, dNotN, cPar, cPar3, cAsg, gN, gT, gsCons, gsNil, bdOf, cSl, oNone, oSome, dSl, iSeq, iRg1, iRg2, cExpr, dRev, List.map_cons, List.map_nil, List.length_cons, List.length_nil, List.cons_append, List.nil_append, List.append_nil, List.replicate, List.getElem?_cons_zero, List.getElem?_cons_succ, List.set_cons_zero, List.set_cons_succ, Option.bind_some, Option.map_some, Option.bind_none, Option.map_none, Nat.reduceAdd, Nat.reduceSub, Int.reduceAdd, Int.reduceNeg, decide_true, decide_false, Bool.not_true, Bool.not_false, if_true, if_false, Bool.false_eq_true, if_pos, reduceIte, reduceCtorEq, Option.some.injEq, Prod.mk.injEq, and_self, and_true, true_and, szOk, f_how_many_poses, c_how_many_poses, look_rods_ev v, look_point_ev a, sums_ev v, cGetV, keyOf, valD_dk, m1]
theorem reached_ev (v : Rods rs) (a : Poi x y) : f_is_reached [T rs, pt x y] p = some (.bl (rch rs x y), p) := by
  unfold rch
  by_cases h : 0 < c rs (x + y)
  · simp only [cFz, at40, at41, at42, at43, at20, at21, at30, at31, at32, List.set, dMod_ev, Int.reduceMod, Int.reduceLT, Int.reduceSub, Int.reduceMul, Int.reduceToNat, Nat.reduceLT, Int.zero_add, Int.reduceLE, fAll_b, runF, cSeq, cIf, cSet, cRet, cRetN, cSkip, cCont, cBrk, cVar, cD, cBin, cUn, cBi, aNil, aCons, cTup, cLst, bT, bAnd, bOr, bNot, cAnd, cOr, cNot, cIte, cChain, cIsi, dTy, kb1, kb2, kb3, kb4, kb5, kb6, kb7, fAbs_ev, fMax_ev, fMin_ev, wipeS, Function.comp_apply, Function.comp_def, dIx, dGetAny, cPotGet, cPotSet, getP, setP, cCall, fInt, fLen, fTuple, fList, cLenV, dLt, dLe, dGt, dGe, dB2, dAdd, dSub_ev, dNeg, Nat.reduceLeDiff, cs0, cs1, cs2, cs3, cs4, cs5, cs6, cs7, cs8, cs9, cs10, cs11, cs12, Int.ofNat_eq_natCast, dEq_int, dNe_int, dEq_pair, dNe_pair, dIsN, dNotN, cPar, cPar3, cAsg, gN, gT, gsCons, gsNil, bdOf, cSl, oNone, oSome, dSl, iSeq, iRg1, iRg2, cExpr, dRev, List.map_cons, List.map_nil, List.length_cons, List.length_nil, List.cons_append, List.nil_append, List.append_nil, List.replicate, List.getElem?_cons_zero, List.getElem?_cons_succ, List.set_cons_zero, List.set_cons_succ, Option.bind_some, Option.map_some, Option.bind_none, Option.map_none, Nat.reduceAdd, Nat.reduceSub, Int.reduceAdd, Int.reduceNeg, decide_true, decide_false, Bool.not_true, Bool.not_false, if_true, if_false, Bool.false_eq_true, if_pos, reduceIte, reduceCtorEq, Option.some.injEq, Prod.mk.injEq, and_self, and_true, true_and, szOk, f_is_reached, c_is_reached, look_reach_ev v a, sums_ev v, dIn, keyOf, some_has, has_c, h, Bool.true_and]
  · simp only [cFz, at40, at41, at42, at43, at20, at21, at30, at31, at32, List.set, dMod_ev, Int.reduceMod, Int.reduceLT, Int.reduceSub, Int.reduceMul, Int.reduceToNat, Nat.reduceLT, Int.zero_add, Int.reduceLE, fAll_b, runF, cSeq, cIf, cSet, cRet, cRetN, cSkip, cCont, cBrk, cVar, cD, cBin, cUn, cBi, aNil, aCons, cTup, cLst, bT, bAnd, bOr, bNot, cAnd, cOr, cNot, cIte, cChain, cIsi, dTy, kb1, kb2, kb3, kb4, kb5, kb6, kb7, fAbs_ev, fMax_ev, fMin_ev, wipeS, Function.comp_apply, Function.comp_def, dIx, dGetAny, cPotGet, cPotSet, getP, setP, cCall, fInt, fLen, fTuple, fList, cLenV, dLt, dLe, dGt, dGe, dB2, dAdd, dSub_ev, dNeg, Nat.reduceLeDiff, cs0, cs1, cs2, cs3, cs4, cs5, cs6, cs7, cs8, cs9, cs10, cs11, cs12, Int.ofNat_eq_natCast, dEq_int, dNe_int, dEq_pair, dNe_pair, dIsN, dNotN, cPar, cPar3, cAsg, gN, gT, gsCons, gsNil, bdOf, cSl, oNone, oSome, dSl, iSeq, iRg1, iRg2, cExpr, dRev, List.map_cons, List.map_nil, List.length_cons, List.length_nil, List.cons_append, List.nil_append, List.append_nil, List.replicate, List.getElem?_cons_zero, List.getElem?_cons_succ, List.set_cons_zero, List.set_cons_succ, Option.bind_some, Option.map_some, Option.bind_none, Option.map_none, Nat.reduceAdd, Nat.reduceSub, Int.reduceAdd, Int.reduceNeg, decide_true, decide_false, Bool.not_true, Bool.not_false, if_true, if_false, Bool.false_eq_true, if_pos, reduceIte, reduceCtorEq, Option.some.injEq, Prod.mk.injEq, and_self, and_true, true_and, szOk, f_is_reached, c_is_reached, look_reach_ev v a, sums_ev v, dIn, keyOf, some_has, has_c, h, Bool.false_and]
end
end Lk11

namespace Lk11
open PySem PySem.Spec PyProof.Rows L2 Rb
theorem pow2_ev {b : Int} (h : Builtin.Int.intBits b ≤ 1000) : dPowW (.int b) (.int 2) = some (.int (b ^ 2), false) := by
  have : powWC b 2 = true := by
    unfold powWC
    rw [Bool.or_eq_true]
    refine .inr (decide_eq_true ⟨by decide, ?_⟩)
    have : (Builtin.Int.intBits b : Int) ≤ 1000 := by exact_mod_cast h
    omega
  show (if powWC b 2 = true then _ else _) = _
  rw [if_pos this]; rfl
theorem pow2_i {b : Int} (h : 0 ≤ b ∧ b ≤ 1000000) : dPowW (.int b) (.int 2) = some (.int (b ^ 2), false) := by
  refine pow2_ev (intBits_le_iff.2 ?_)
  have : (2 : Nat) ^ 100 < 2 ^ 1000 := Nat.pow_lt_pow_right (by decide) (by decide)
  refine Nat.lt_of_le_of_lt ?_ this
  omega
theorem fMin_l {ns : List Int} (h : 0 < ns.length) : fMin [.lst (ns.map .int)] = some (.int (minL ns), false) := by
  cases ns with
  | nil => simp at h
  | cons n ns => 
    show (intsOf ((n :: ns).map D.int)).map _ = _
    rw [intsOf_map]; rfl
section
variable {rs ms : List Int} {p : Pt} {x y g t : Int}
theorem dk_keys (l : KV) : keysD (dk l) = (l.map (·.1)).map .int := keys_dk l
theorem sm_len (v : Rods rs) : (sm rs).length ≤ 1001 := by
  have h0 := sum_nn v.pos
  have := len_le v.pos (S := rs.sum.toNat) (by omega)
  have := v.sb
  omega
theorem nsum_ev (v : Rods rs) : f_nearest_sum [DK (sm rs), .int g] p = some (.int (ns rs g), p) := by
  let φ : D → D := fun d => match d with | .int w => prD (ab (w - g), w) | _ => .non
  have e := lc_map (it := iKey (cVar 0)) (te := cTup (aCons (cBi fAbs (aCons (cBin dSub (cVar 2) (cVar 1)) aNil)) (aCons (cVar 2) aNil))) (i := 2) (p := p) (r := [.val (DK (sm rs)), .val (.int g), .no]) (b0 := .no) (s0 := ⟨[.val (DK (sm rs)), .val (.int g), .no], p⟩) (ds := (Kl rs).map .int) (φ := φ) (by simp only [cFz, at40, at41, at42, at43, at20, at21, at30, at31, at32, List.set, dMod_ev, Int.reduceMod, Int.reduceLT, Int.reduceSub, Int.reduceMul, Int.reduceToNat, Nat.reduceLT, Int.zero_add, Int.reduceLE, fAll_b, runF, cSeq, cIf, cSet, cRet, cRetN, cSkip, cCont, cBrk, cVar, cD, cBin, cUn, cBi, aNil, aCons, cTup, cLst, bT, bAnd, bOr, bNot, cAnd, cOr, cNot, cIte, cChain, cIsi, dTy, kb1, kb2, kb3, kb4, kb5, kb6, kb7, fAbs_ev, fMax_ev, fMin_ev, wipeS, Function.comp_apply, Function.comp_def, dIx, dGetAny, cPotGet, cPotSet, getP, setP, cCall, fInt, fLen, fTuple, fList, cLenV, dLt, dLe, dGt, dGe, dB2, dAdd, dSub_ev, dNeg, Nat.reduceLeDiff, cs0, cs1, cs2, cs3, cs4, cs5, cs6, cs7, cs8, cs9, cs10, cs11, cs12, Int.ofNat_eq_natCast, dEq_int, dNe_int, dEq_pair, dNe_pair, dIsN, dNotN, cPar, cPar3, cAsg, gN, gT, gsCons, gsNil, bdOf, cSl, oNone, oSome, dSl, iSeq, iRg1, iRg2, cExpr, dRev, List.map_cons, List.map_nil, List.length_cons, List.length_nil, List.cons_append, List.nil_append, List.append_nil, List.replicate, List.getElem?_cons_zero, List.getElem?_cons_succ, List.set_cons_zero, List.set_cons_succ, Option.bind_some, Option.map_some, Option.bind_none, Option.map_none, Nat.reduceAdd, Nat.reduceSub, Int.reduceAdd, Int.reduceNeg, decide_true, decide_false, Bool.not_true, Bool.not_false, if_true, if_false, Bool.false_eq_true, if_pos, reduceIte, reduceCtorEq, Option.some.injEq, Prod.mk.injEq, and_self, and_true, true_and, szOk, iKey, keys_dk]; rfl) rfl rfl (fun d hd => by
    obtain ⟨w, _, rfl⟩ := List.mem_map.1 hd
    refine ⟨false, ?_⟩
    simp only [cFz, at40, at41, at42, at43, at20, at21, at30, at31, at32, List.set, dMod_ev, Int.reduceMod, Int.reduceLT, Int.reduceSub, Int.reduceMul, Int.reduceToNat, Nat.reduceLT, Int.zero_add, Int.reduceLE, fAll_b, runF, cSeq, cIf, cSet, cRet, cRetN, cSkip, cCont, cBrk, cVar, cD, cBin, cUn, cBi, aNil, aCons, cTup, cLst, bT, bAnd, bOr, bNot, cAnd, cOr, cNot, cIte, cChain, cIsi, dTy, kb1, kb2, kb3, kb4, kb5, kb6, kb7, fAbs_ev, fMax_ev, fMin_ev, wipeS, Function.comp_apply, Function.comp_def, dIx, dGetAny, cPotGet, cPotSet, getP, setP, cCall, fInt, fLen, fTuple, fList, cLenV, dLt, dLe, dGt, dGe, dB2, dAdd, dSub_ev, dNeg, Nat.reduceLeDiff, cs0, cs1, cs2, cs3, cs4, cs5, cs6, cs7, cs8, cs9, cs10, cs11, cs12, Int.ofNat_eq_natCast, dEq_int, dNe_int, dEq_pair, dNe_pair, dIsN, dNotN, cPar, cPar3, cAsg, gN, gT, gsCons, gsNil, bdOf, cSl, oNone, oSome, dSl, iSeq, iRg1, iRg2, cExpr, dRev, List.map_cons, List.map_nil, List.length_cons, List.length_nil, List.cons_append, List.nil_append, List.append_nil, List.replicate, List.getElem?_cons_zero, List.getElem?_cons_succ, List.set_cons_zero, List.set_cons_succ, Option.bind_some, Option.map_some, Option.bind_none, Option.map_none, Nat.reduceAdd, Nat.reduceSub, Int.reduceAdd, Int.reduceNeg, decide_true, decide_false, Bool.not_true, Bool.not_false, if_true, if_false, Bool.false_eq_true, if_pos, reduceIte, reduceCtorEq, Option.some.injEq, Prod.mk.injEq, and_self, and_true, true_and, szOk, φ, prD]) (by rw [List.length_map, Kl_len]; have := sm_len v; omega)
  have e2 : ((Kl rs).map D.int).map φ = (prs rs g).map prD := by unfold prs; rw [List.map_map, List.map_map]; rfl
  rw [e2] at e
  unfold ns
  cases hp : prs rs g with
  | nil =>
    unfold prs at hp
    exact absurd (List.map_eq_nil_iff.1 hp) Kl_ne
  | cons a as =>
    rw [hp] at e
    have e3 : fMinP [.lst ((a :: as).map prD)] = some (prD (minP a as), false) := by simp only [fMinP, prsOf_map]
    unfold prD at e e3
    simp only [List.map_cons] at e e3
    simp only [cFz, at40, at41, at42, at43, at20, at21, at30, at31, at32, List.set, dMod_ev, Int.reduceMod, Int.reduceLT, Int.reduceSub, Int.reduceMul, Int.reduceToNat, Nat.reduceLT, Int.zero_add, Int.reduceLE, fAll_b, runF, cSeq, cIf, cSet, cRet, cRetN, cSkip, cCont, cBrk, cVar, cD, cBin, cUn, cBi, aNil, aCons, cTup, cLst, bT, bAnd, bOr, bNot, cAnd, cOr, cNot, cIte, cChain, cIsi, dTy, kb1, kb2, kb3, kb4, kb5, kb6, kb7, fAbs_ev, fMax_ev, fMin_ev, wipeS, Function.comp_apply, Function.comp_def, dIx, dGetAny, cPotGet, cPotSet, getP, setP, cCall, fInt, fLen, fTuple, fList, cLenV, dLt, dLe, dGt, dGe, dB2, dAdd, dSub_ev, dNeg, Nat.reduceLeDiff, cs0, cs1, cs2, cs3, cs4, cs5, cs6, cs7, cs8, cs9, cs10, cs11, cs12, Int.ofNat_eq_natCast, dEq_int, dNe_int, dEq_pair, dNe_pair, dIsN, dNotN, cPar, cPar3, cAsg, gN, gT, gsCons, gsNil, bdOf, cSl, oNone, oSome, dSl, iSeq, iRg1, iRg2, cExpr, dRev, List.map_cons, List.map_nil, List.length_cons, List.length_nil, List.cons_append, List.nil_append, List.append_nil, List.replicate, List.getElem?_cons_zero, List.getElem?_cons_succ, List.set_cons_zero, List.set_cons_succ, Option.bind_some, Option.map_some, Option.bind_none, Option.map_none, Nat.reduceAdd, Nat.reduceSub, Int.reduceAdd, Int.reduceNeg, decide_true, decide_false, Bool.not_true, Bool.not_false, if_true, if_false, Bool.false_eq_true, if_pos, reduceIte, reduceCtorEq, Option.some.injEq, Prod.mk.injEq, and_self, and_true, true_and, szOk, f_nearest_sum, c_nearest_sum, e, e3]
theorem near_ev (v : Rods rs) (a : Poi x y) : f_nearest_to [T rs, pt x y] p = some (.tup [.int (nv rs x y), pt ((ns rs (x + y) + ns rs (x - y)) / 2) ((ns rs (x + y) - ns rs (x - y)) / 2)], p) := by
  have e := nv_to (x := x) (y := y) v.pos
  have d1 := dDiv_ev (a := ns rs (x + y) + ns rs (x - y)) (u := 2) (by decide) (by decide)
  have d2 := dDiv_ev (a := ns rs (x + y) - ns rs (x - y)) (u := 2) (by decide) (by decide)
  simp only [cFz, at40, at41, at42, at43, at20, at21, at30, at31, at32, List.set, dMod_ev, Int.reduceMod, Int.reduceLT, Int.reduceSub, Int.reduceMul, Int.reduceToNat, Nat.reduceLT, Int.zero_add, Int.reduceLE, fAll_b, runF, cSeq, cIf, cSet, cRet, cRetN, cSkip, cCont, cBrk, cVar, cD, cBin, cUn, cBi, aNil, aCons, cTup, cLst, bT, bAnd, bOr, bNot, cAnd, cOr, cNot, cIte, cChain, cIsi, dTy, kb1, kb2, kb3, kb4, kb5, kb6, kb7, fAbs_ev, fMax_ev, fMin_ev, wipeS, Function.comp_apply, Function.comp_def, dIx, dGetAny, cPotGet, cPotSet, getP, setP, cCall, fInt, fLen, fTuple, fList, cLenV, dLt, dLe, dGt, dGe, dB2, dAdd, dSub_ev, dNeg, Nat.reduceLeDiff, cs0, cs1, cs2, cs3, cs4, cs5, cs6, cs7, cs8, cs9, cs10, cs11, cs12, Int.ofNat_eq_natCast, dEq_int, dNe_int, dEq_pair, dNe_pair, dIsN, dNotN, cPar, cPar3, cAsg, gN, gT, gsCons, gsNil, bdOf, cSl, oNone, oSome, dSl, iSeq, iRg1, iRg2, cExpr, dRev, List.map_cons, List.map_nil, List.length_cons, List.length_nil, List.cons_append, List.nil_append, List.append_nil, List.replicate, List.getElem?_cons_zero, List.getElem?_cons_succ, List.set_cons_zero, List.set_cons_succ, Option.bind_some, Option.map_some, Option.bind_none, Option.map_none, Nat.reduceAdd, Nat.reduceSub, Int.reduceAdd, Int.reduceNeg, decide_true, decide_false, Bool.not_true, Bool.not_false, if_true, if_false, Bool.false_eq_true, if_pos, reduceIte, reduceCtorEq, Option.some.injEq, Prod.mk.injEq, and_self, and_true, true_and, szOk, f_nearest_to, c_nearest_to, look_reach_ev v a, sums_ev v, nsum_ev v, d1, d2, e]
theorem many_ev (v : Rods rs) : f_how_many_reached [T rs] p = some (.int (((sm rs).length : Int) ^ 2), p) := by
  have h := pow2_i (b := ((sm rs).length : Int)) (by have := sm_len v; omega)
  simp only [cFz, at40, at41, at42, at43, at20, at21, at30, at31, at32, List.set, dMod_ev, Int.reduceMod, Int.reduceLT, Int.reduceSub, Int.reduceMul, Int.reduceToNat, Nat.reduceLT, Int.zero_add, Int.reduceLE, fAll_b, runF, cSeq, cIf, cSet, cRet, cRetN, cSkip, cCont, cBrk, cVar, cD, cBin, cUn, cBi, aNil, aCons, cTup, cLst, bT, bAnd, bOr, bNot, cAnd, cOr, cNot, cIte, cChain, cIsi, dTy, kb1, kb2, kb3, kb4, kb5, kb6, kb7, fAbs_ev, fMax_ev, fMin_ev, wipeS, Function.comp_apply, Function.comp_def, dIx, dGetAny, cPotGet, cPotSet, getP, setP, cCall, fInt, fLen, fTuple, fList, cLenV, dLt, dLe, dGt, dGe, dB2, dAdd, dSub_ev, dNeg, Nat.reduceLeDiff, cs0, cs1, cs2, cs3, cs4, cs5, cs6, cs7, cs8, cs9, cs10, cs11, cs12, Int.ofNat_eq_natCast, dEq_int, dNe_int, dEq_pair, dNe_pair, dIsN, dNotN, cPar, cPar3, cAsg, gN, gT, gsCons, gsNil, bdOf, cSl, oNone, oSome, dSl, iSeq, iRg1, iRg2, cExpr, dRev, List.map_cons, List.map_nil, List.length_cons, List.length_nil, List.cons_append, List.nil_append, List.append_nil, List.replicate, List.getElem?_cons_zero, List.getElem?_cons_succ, List.set_cons_zero, List.set_cons_succ, Option.bind_some, Option.map_some, Option.bind_none, Option.map_none, Nat.reduceAdd, Nat.reduceSub, Int.reduceAdd, Int.reduceNeg, decide_true, decide_false, Bool.not_true, Bool.not_false, if_true, if_false, Bool.false_eq_true, if_pos, reduceIte, reduceCtorEq, Option.some.injEq, Prod.mk.injEq, and_self, and_true, true_and, szOk, f_how_many_reached, c_how_many_reached, look_rods_ev v, sums_ev v, fLenD, dk_len, h]
theorem least_ev (v : Rods rs) : f_least_reach [T rs] p = some (.int (minL ((Kl rs).map ab)), p) := by
  let φ : D → D := fun d => match d with | .int w => .int (ab w) | _ => .non
  have e := lc_map (it := iKey (cCall f_told_sums (aCons (cVar 0) aNil))) (te := cBi fAbs (aCons (cVar 1) aNil)) (i := 1) (p := p) (r := [.val (T rs), .no]) (b0 := .no) (s0 := ⟨[.val (T rs), .no], p⟩) (ds := (Kl rs).map .int) (φ := φ) (by simp only [cFz, at40, at41, at42, at43, at20, at21, at30, at31, at32, List.set, dMod_ev, Int.reduceMod, Int.reduceLT, Int.reduceSub, Int.reduceMul, Int.reduceToNat, Nat.reduceLT, Int.zero_add, Int.reduceLE, fAll_b, runF, cSeq, cIf, cSet, cRet, cRetN, cSkip, cCont, cBrk, cVar, cD, cBin, cUn, cBi, aNil, aCons, cTup, cLst, bT, bAnd, bOr, bNot, cAnd, cOr, cNot, cIte, cChain, cIsi, dTy, kb1, kb2, kb3, kb4, kb5, kb6, kb7, fAbs_ev, fMax_ev, fMin_ev, wipeS, Function.comp_apply, Function.comp_def, dIx, dGetAny, cPotGet, cPotSet, getP, setP, cCall, fInt, fLen, fTuple, fList, cLenV, dLt, dLe, dGt, dGe, dB2, dAdd, dSub_ev, dNeg, Nat.reduceLeDiff, cs0, cs1, cs2, cs3, cs4, cs5, cs6, cs7, cs8, cs9, cs10, cs11, cs12, Int.ofNat_eq_natCast, dEq_int, dNe_int, dEq_pair, dNe_pair, dIsN, dNotN, cPar, cPar3, cAsg, gN, gT, gsCons, gsNil, bdOf, cSl, oNone, oSome, dSl, iSeq, iRg1, iRg2, cExpr, dRev, List.map_cons, List.map_nil, List.length_cons, List.length_nil, List.cons_append, List.nil_append, List.append_nil, List.replicate, List.getElem?_cons_zero, List.getElem?_cons_succ, List.set_cons_zero, List.set_cons_succ, Option.bind_some, Option.map_some, Option.bind_none, Option.map_none, Nat.reduceAdd, Nat.reduceSub, Int.reduceAdd, Int.reduceNeg, decide_true, decide_false, Bool.not_true, Bool.not_false, if_true, if_false, Bool.false_eq_true, if_pos, reduceIte, reduceCtorEq, Option.some.injEq, Prod.mk.injEq, and_self, and_true, true_and, szOk, iKey, sums_ev v, keys_dk]; rfl) rfl rfl (fun d hd => by
    obtain ⟨w, _, rfl⟩ := List.mem_map.1 hd
    refine ⟨false, ?_⟩
    simp only [cFz, at40, at41, at42, at43, at20, at21, at30, at31, at32, List.set, dMod_ev, Int.reduceMod, Int.reduceLT, Int.reduceSub, Int.reduceMul, Int.reduceToNat, Nat.reduceLT, Int.zero_add, Int.reduceLE, fAll_b, runF, cSeq, cIf, cSet, cRet, cRetN, cSkip, cCont, cBrk, cVar, cD, cBin, cUn, cBi, aNil, aCons, cTup, cLst, bT, bAnd, bOr, bNot, cAnd, cOr, cNot, cIte, cChain, cIsi, dTy, kb1, kb2, kb3, kb4, kb5, kb6, kb7, fAbs_ev, fMax_ev, fMin_ev, wipeS, Function.comp_apply, Function.comp_def, dIx, dGetAny, cPotGet, cPotSet, getP, setP, cCall, fInt, fLen, fTuple, fList, cLenV, dLt, dLe, dGt, dGe, dB2, dAdd, dSub_ev, dNeg, Nat.reduceLeDiff, cs0, cs1, cs2, cs3, cs4, cs5, cs6, cs7, cs8, cs9, cs10, cs11, cs12, Int.ofNat_eq_natCast, dEq_int, dNe_int, dEq_pair, dNe_pair, dIsN, dNotN, cPar, cPar3, cAsg, gN, gT, gsCons, gsNil, bdOf, cSl, oNone, oSome, dSl, iSeq, iRg1, iRg2, cExpr, dRev, List.map_cons, List.map_nil, List.length_cons, List.length_nil, List.cons_append, List.nil_append, List.append_nil, List.replicate, List.getElem?_cons_zero, List.getElem?_cons_succ, List.set_cons_zero, List.set_cons_succ, Option.bind_some, Option.map_some, Option.bind_none, Option.map_none, Nat.reduceAdd, Nat.reduceSub, Int.reduceAdd, Int.reduceNeg, decide_true, decide_false, Bool.not_true, Bool.not_false, if_true, if_false, Bool.false_eq_true, if_pos, reduceIte, reduceCtorEq, Option.some.injEq, Prod.mk.injEq, and_self, and_true, true_and, szOk, φ]) (by rw [List.length_map, Kl_len]; have := sm_len v; omega)
  have e2 : ((Kl rs).map D.int).map φ = ((Kl rs).map ab).map .int := by rw [List.map_map, List.map_map]; rfl
  rw [e2] at e
  have e3 := fMin_l (ns := (Kl rs).map ab) (by rw [List.length_map]; exact List.length_pos_iff.2 Kl_ne)
  simp only [cFz, at40, at41, at42, at43, at20, at21, at30, at31, at32, List.set, dMod_ev, Int.reduceMod, Int.reduceLT, Int.reduceSub, Int.reduceMul, Int.reduceToNat, Nat.reduceLT, Int.zero_add, Int.reduceLE, fAll_b, runF, cSeq, cIf, cSet, cRet, cRetN, cSkip, cCont, cBrk, cVar, cD, cBin, cUn, cBi, aNil, aCons, cTup, cLst, bT, bAnd, bOr, bNot, cAnd, cOr, cNot, cIte, cChain, cIsi, dTy, kb1, kb2, kb3, kb4, kb5, kb6, kb7, fAbs_ev, fMax_ev, fMin_ev, wipeS, Function.comp_apply, Function.comp_def, dIx, dGetAny, cPotGet, cPotSet, getP, setP, cCall, fInt, fLen, fTuple, fList, cLenV, dLt, dLe, dGt, dGe, dB2, dAdd, dSub_ev, dNeg, Nat.reduceLeDiff, cs0, cs1, cs2, cs3, cs4, cs5, cs6, cs7, cs8, cs9, cs10, cs11, cs12, Int.ofNat_eq_natCast, dEq_int, dNe_int, dEq_pair, dNe_pair, dIsN, dNotN, cPar, cPar3, cAsg, gN, gT, gsCons, gsNil, bdOf, cSl, oNone, oSome, dSl, iSeq, iRg1, iRg2, cExpr, dRev, List.map_cons, List.map_nil, List.length_cons, List.length_nil, List.cons_append, List.nil_append, List.append_nil, List.replicate, List.getElem?_cons_zero, List.getElem?_cons_succ, List.set_cons_zero, List.set_cons_succ, Option.bind_some, Option.map_some, Option.bind_none, Option.map_none, Nat.reduceAdd, Nat.reduceSub, Int.reduceAdd, Int.reduceNeg, decide_true, decide_false, Bool.not_true, Bool.not_false, if_true, if_false, Bool.false_eq_true, if_pos, reduceIte, reduceCtorEq, Option.some.injEq, Prod.mk.injEq, and_self, and_true, true_and, szOk, f_least_reach, c_least_reach, look_rods_ev v, e, e3]
theorem keysI_dk : ∀ l : KV, keysI (dk l) = some (l.map (·.1))
  | [] => rfl
  | z :: l => by
    have ih := keysI_dk l
    unfold dk at ih ⊢
    rw [List.map_cons, keysI, ih]; rfl
theorem srtD_ev (v : Rods rs) (h : (sm rs).length < 64) : fSortedD [DK (sm rs)] = some (.lst ((srt (Kl rs)).map .int), true) := by
  have : ((sm rs).map (·.1)).length < 64 := by simpa using h
  show (keysI (dk (sm rs))).bind _ = _
  rw [keysI_dk]
  simp only [Option.bind_some, this, if_true]
  rfl
theorem sumsOf_ev (v : Rods rs) (h : (sm rs).length < 64) : f_sums_of [T rs] p = some (T (srt (Kl rs)), p) := by
  simp only [cFz, at40, at41, at42, at43, at20, at21, at30, at31, at32, List.set, dMod_ev, Int.reduceMod, Int.reduceLT, Int.reduceSub, Int.reduceMul, Int.reduceToNat, Nat.reduceLT, Int.zero_add, Int.reduceLE, fAll_b, runF, cSeq, cIf, cSet, cRet, cRetN, cSkip, cCont, cBrk, cVar, cD, cBin, cUn, cBi, aNil, aCons, cTup, cLst, bT, bAnd, bOr, bNot, cAnd, cOr, cNot, cIte, cChain, cIsi, dTy, kb1, kb2, kb3, kb4, kb5, kb6, kb7, fAbs_ev, fMax_ev, fMin_ev, wipeS, Function.comp_apply, Function.comp_def, dIx, dGetAny, cPotGet, cPotSet, getP, setP, cCall, fInt, fLen, fTuple, fList, cLenV, dLt, dLe, dGt, dGe, dB2, dAdd, dSub_ev, dNeg, Nat.reduceLeDiff, cs0, cs1, cs2, cs3, cs4, cs5, cs6, cs7, cs8, cs9, cs10, cs11, cs12, Int.ofNat_eq_natCast, dEq_int, dNe_int, dEq_pair, dNe_pair, dIsN, dNotN, cPar, cPar3, cAsg, gN, gT, gsCons, gsNil, bdOf, cSl, oNone, oSome, dSl, iSeq, iRg1, iRg2, cExpr, dRev, List.map_cons, List.map_nil, List.length_cons, List.length_nil, List.cons_append, List.nil_append, List.append_nil, List.replicate, List.getElem?_cons_zero, List.getElem?_cons_succ, List.set_cons_zero, List.set_cons_succ, Option.bind_some, Option.map_some, Option.bind_none, Option.map_none, Nat.reduceAdd, Nat.reduceSub, Int.reduceAdd, Int.reduceNeg, decide_true, decide_false, Bool.not_true, Bool.not_false, if_true, if_false, Bool.false_eq_true, if_pos, reduceIte, reduceCtorEq, Option.some.injEq, Prod.mk.injEq, and_self, and_true, true_and, szOk, f_sums_of, c_sums_of, look_rods_ev v, sums_ev v, srtD_ev v h]
/-! ### same_reach -/
theorem sh_same {n : Nat} : D.sh n (.str "same") = true := by
  have h : D.sh n (.str "same") = PyData.canLay0 (.str "same") := by cases n <;> rfl
  rw [h]
  decide +kernel
def bodyR : SS := (cSeq (cSet 7 (cFz (cBi fSorted (aCons (cLC (iKey (cVar 5)) (gN 8) (bT (cBin dNotIn (cVar 8) (cVar 6))) (cVar 8) [8]) aNil))))
  (cIf (bT (cBin dNe (cVar 7) (cLst aNil)))
  (cRet (cTup (aCons (cVar 4) (aCons (cTup (aCons (cBin dGetAny (cVar 7) (cUn dNeg (cD (.int 1)))) (aCons (cD (.int 0)) aNil))) aNil))))
  cSkip))
theorem one_reach {a0 a1 a2 a3 r4 r7 : Bd} (v : Rods rs) (h : c rs = c ms) (h7 : notOwn r7 = true) :
    bodyR ⟨[a0, a1, a2, a3, r4, .val (DK (sm rs)), .val (DK (sm ms)), r7, .no], p⟩ = some (.nx, ⟨[a0, a1, a2, a3, r4, .val (DK (sm rs)), .val (DK (sm ms)), .val (.lst []), .no], p⟩) := by
  have e := lc_pure (it := iKey (cVar 5)) (te := cVar 8) (tt := bT (cBin dNotIn (cVar 8) (cVar 6))) (i := 8) (p := p) (r := [a0, a1, a2, a3, r4, .val (DK (sm rs)), .val (DK (sm ms)), r7, .no]) (b0 := .no) (s0 := ⟨[a0, a1, a2, a3, r4, .val (DK (sm rs)), .val (DK (sm ms)), r7, .no], p⟩) (ds := (Kl rs).map .int) (β := fun _ => false) (φ := fun d => d) (by simp only [cFz, at40, at41, at42, at43, at20, at21, at30, at31, at32, List.set, dMod_ev, Int.reduceMod, Int.reduceLT, Int.reduceSub, Int.reduceMul, Int.reduceToNat, Nat.reduceLT, Int.zero_add, Int.reduceLE, fAll_b, runF, cSeq, cIf, cSet, cRet, cRetN, cSkip, cCont, cBrk, cVar, cD, cBin, cUn, cBi, aNil, aCons, cTup, cLst, bT, bAnd, bOr, bNot, cAnd, cOr, cNot, cIte, cChain, cIsi, dTy, kb1, kb2, kb3, kb4, kb5, kb6, kb7, fAbs_ev, fMax_ev, fMin_ev, wipeS, Function.comp_apply, Function.comp_def, dIx, dGetAny, cPotGet, cPotSet, getP, setP, cCall, fInt, fLen, fTuple, fList, cLenV, dLt, dLe, dGt, dGe, dB2, dAdd, dSub_ev, dNeg, Nat.reduceLeDiff, cs0, cs1, cs2, cs3, cs4, cs5, cs6, cs7, cs8, cs9, cs10, cs11, cs12, Int.ofNat_eq_natCast, dEq_int, dNe_int, dEq_pair, dNe_pair, dIsN, dNotN, cPar, cPar3, cAsg, gN, gT, gsCons, gsNil, bdOf, cSl, oNone, oSome, dSl, iSeq, iRg1, iRg2, cExpr, dRev, List.map_cons, List.map_nil, List.length_cons, List.length_nil, List.cons_append, List.nil_append, List.append_nil, List.replicate, List.getElem?_cons_zero, List.getElem?_cons_succ, List.set_cons_zero, List.set_cons_succ, Option.bind_some, Option.map_some, Option.bind_none, Option.map_none, Nat.reduceAdd, Nat.reduceSub, Int.reduceAdd, Int.reduceNeg, decide_true, decide_false, Bool.not_true, Bool.not_false, if_true, if_false, Bool.false_eq_true, if_pos, reduceIte, reduceCtorEq, Option.some.injEq, Prod.mk.injEq, and_self, and_true, true_and, szOk, iKey, keys_dk]; rfl) rfl rfl (fun d hd => by
    obtain ⟨w, hw, rfl⟩ := List.mem_map.1 hd
    have : has (sm ms) w = true := by rw [has_c, ← h]; exact decide_eq_true (Kl_mem.1 hw)
    simp only [cFz, at40, at41, at42, at43, at20, at21, at30, at31, at32, List.set, dMod_ev, Int.reduceMod, Int.reduceLT, Int.reduceSub, Int.reduceMul, Int.reduceToNat, Nat.reduceLT, Int.zero_add, Int.reduceLE, fAll_b, runF, cSeq, cIf, cSet, cRet, cRetN, cSkip, cCont, cBrk, cVar, cD, cBin, cUn, cBi, aNil, aCons, cTup, cLst, bT, bAnd, bOr, bNot, cAnd, cOr, cNot, cIte, cChain, cIsi, dTy, kb1, kb2, kb3, kb4, kb5, kb6, kb7, fAbs_ev, fMax_ev, fMin_ev, wipeS, Function.comp_apply, Function.comp_def, dIx, dGetAny, cPotGet, cPotSet, getP, setP, cCall, fInt, fLen, fTuple, fList, cLenV, dLt, dLe, dGt, dGe, dB2, dAdd, dSub_ev, dNeg, Nat.reduceLeDiff, cs0, cs1, cs2, cs3, cs4, cs5, cs6, cs7, cs8, cs9, cs10, cs11, cs12, Int.ofNat_eq_natCast, dEq_int, dNe_int, dEq_pair, dNe_pair, dIsN, dNotN, cPar, cPar3, cAsg, gN, gT, gsCons, gsNil, bdOf, cSl, oNone, oSome, dSl, iSeq, iRg1, iRg2, cExpr, dRev, List.map_cons, List.map_nil, List.length_cons, List.length_nil, List.cons_append, List.nil_append, List.append_nil, List.replicate, List.getElem?_cons_zero, List.getElem?_cons_succ, List.set_cons_zero, List.set_cons_succ, Option.bind_some, Option.map_some, Option.bind_none, Option.map_none, Nat.reduceAdd, Nat.reduceSub, Int.reduceAdd, Int.reduceNeg, decide_true, decide_false, Bool.not_true, Bool.not_false, if_true, if_false, Bool.false_eq_true, if_pos, reduceIte, reduceCtorEq, Option.some.injEq, Prod.mk.injEq, and_self, and_true, true_and, szOk, dNotIn, keyOf, some_has, this]) (fun d hd hb => by cases hb) (by rw [List.length_map, Kl_len]; have := sm_len v; omega)
  have e2 : (((Kl rs).map D.int).filter fun _ => false).map (fun d => d) = ([] : List Int).map D.int := by simp
  rw [e2] at e
  have e3 := fSorted_l (ns := [])
  have e4 : srt [] = [] := by unfold srt; simp
  rw [e4] at e3
  have e5 : dNe (.lst []) (.lst []) = some (.bl false, false) := dNe_rfl (by rw [sh_lst64]; exact shL_nil) rfl
  simp only [List.map_nil] at e e3
  refine seq_nx (s1 := ⟨[a0, a1, a2, a3, r4, .val (DK (sm rs)), .val (DK (sm ms)), .val (.lst []), .no], p⟩) ?_ ?_
  · simp only [cFz, at40, at41, at42, at43, at20, at21, at30, at31, at32, List.set, dMod_ev, Int.reduceMod, Int.reduceLT, Int.reduceSub, Int.reduceMul, Int.reduceToNat, Nat.reduceLT, Int.zero_add, Int.reduceLE, fAll_b, runF, cSeq, cIf, cSet, cRet, cRetN, cSkip, cCont, cBrk, cVar, cD, cBin, cUn, cBi, aNil, aCons, cTup, cLst, bT, bAnd, bOr, bNot, cAnd, cOr, cNot, cIte, cChain, cIsi, dTy, kb1, kb2, kb3, kb4, kb5, kb6, kb7, fAbs_ev, fMax_ev, fMin_ev, wipeS, Function.comp_apply, Function.comp_def, dIx, dGetAny, cPotGet, cPotSet, getP, setP, cCall, fInt, fLen, fTuple, fList, cLenV, dLt, dLe, dGt, dGe, dB2, dAdd, dSub_ev, dNeg, Nat.reduceLeDiff, cs0, cs1, cs2, cs3, cs4, cs5, cs6, cs7, cs8, cs9, cs10, cs11, cs12, Int.ofNat_eq_natCast, dEq_int, dNe_int, dEq_pair, dNe_pair, dIsN, dNotN, cPar, cPar3, cAsg, gN, gT, gsCons, gsNil, bdOf, cSl, oNone, oSome, dSl, iSeq, iRg1, iRg2, cExpr, dRev, List.map_cons, List.map_nil, List.length_cons, List.length_nil, List.cons_append, List.nil_append, List.append_nil, List.replicate, List.getElem?_cons_zero, List.getElem?_cons_succ, List.set_cons_zero, List.set_cons_succ, Option.bind_some, Option.map_some, Option.bind_none, Option.map_none, Nat.reduceAdd, Nat.reduceSub, Int.reduceAdd, Int.reduceNeg, decide_true, decide_false, Bool.not_true, Bool.not_false, if_true, if_false, Bool.false_eq_true, if_pos, reduceIte, reduceCtorEq, Option.some.injEq, Prod.mk.injEq, and_self, and_true, true_and, szOk, e, e3]
  · simp only [cFz, at40, at41, at42, at43, at20, at21, at30, at31, at32, List.set, dMod_ev, Int.reduceMod, Int.reduceLT, Int.reduceSub, Int.reduceMul, Int.reduceToNat, Nat.reduceLT, Int.zero_add, Int.reduceLE, fAll_b, runF, cSeq, cIf, cSet, cRet, cRetN, cSkip, cCont, cBrk, cVar, cD, cBin, cUn, cBi, aNil, aCons, cTup, cLst, bT, bAnd, bOr, bNot, cAnd, cOr, cNot, cIte, cChain, cIsi, dTy, kb1, kb2, kb3, kb4, kb5, kb6, kb7, fAbs_ev, fMax_ev, fMin_ev, wipeS, Function.comp_apply, Function.comp_def, dIx, dGetAny, cPotGet, cPotSet, getP, setP, cCall, fInt, fLen, fTuple, fList, cLenV, dLt, dLe, dGt, dGe, dB2, dAdd, dSub_ev, dNeg, Nat.reduceLeDiff, cs0, cs1, cs2, cs3, cs4, cs5, cs6, cs7, cs8, cs9, cs10, cs11, cs12, Int.ofNat_eq_natCast, dEq_int, dNe_int, dEq_pair, dNe_pair, dIsN, dNotN, cPar, cPar3, cAsg, gN, gT, gsCons, gsNil, bdOf, cSl, oNone, oSome, dSl, iSeq, iRg1, iRg2, cExpr, dRev, List.map_cons, List.map_nil, List.length_cons, List.length_nil, List.cons_append, List.nil_append, List.append_nil, List.replicate, List.getElem?_cons_zero, List.getElem?_cons_succ, List.set_cons_zero, List.set_cons_succ, Option.bind_some, Option.map_some, Option.bind_none, Option.map_none, Nat.reduceAdd, Nat.reduceSub, Int.reduceAdd, Int.reduceNeg, decide_true, decide_false, Bool.not_true, Bool.not_false, if_true, if_false, Bool.false_eq_true, if_pos, reduceIte, reduceCtorEq, Option.some.injEq, Prod.mk.injEq, and_self, and_true, true_and, szOk, e5]
theorem same_ev (v : Rods rs) (w : Rods ms) (h : c rs = c ms) : f_same_reach [T rs, T ms] p = some (.tup [.str "same"], p) := by
  have b1 := one_reach (p := p) (a0 := .val (T rs)) (a1 := .val (T ms)) (a2 := .val (DK (sm rs))) (a3 := .val (DK (sm ms))) (r4 := .val (.str "first")) (r7 := .no) v h rfl
  have b2 := one_reach (p := p) (a0 := .val (T rs)) (a1 := .val (T ms)) (a2 := .val (DK (sm rs))) (a3 := .val (DK (sm ms))) (r4 := .val (.str "second")) (r7 := .val (.lst [])) w h.symm rfl
  have e2 : cFor (iSeq (cTup (aCons (cTup (aCons (cD (.str "first")) (aCons (cVar 2) (aCons (cVar 3) aNil)))) (aCons (cTup (aCons (cD (.str "second")) (aCons (cVar 3) (aCons (cVar 2) aNil)))) aNil)))) (gT 3 (gsCons (gN 4) (gsCons (gN 5) (gsCons (gN 6) gsNil)))) bodyR ⟨[.val (T rs), .val (T ms), .val (DK (sm rs)), .val (DK (sm ms)), .no, .no, .no, .no, .no], p⟩ = some (.nx, ⟨[.val (T rs), .val (T ms), .val (DK (sm rs)), .val (DK (sm ms)), .val (.str "second"), .val (DK (sm ms)), .val (DK (sm rs)), .val (.lst []), .no], p⟩) := by
    simp only [cFz, at40, at41, at42, at43, at20, at21, at30, at31, at32, List.set, dMod_ev, Int.reduceMod, Int.reduceLT, Int.reduceSub, Int.reduceMul, Int.reduceToNat, Nat.reduceLT, Int.zero_add, Int.reduceLE, fAll_b, runF, cSeq, cIf, cSet, cRet, cRetN, cSkip, cCont, cBrk, cVar, cD, cBin, cUn, cBi, aNil, aCons, cTup, cLst, bT, bAnd, bOr, bNot, cAnd, cOr, cNot, cIte, cChain, cIsi, dTy, kb1, kb2, kb3, kb4, kb5, kb6, kb7, fAbs_ev, fMax_ev, fMin_ev, wipeS, Function.comp_apply, Function.comp_def, dIx, dGetAny, cPotGet, cPotSet, getP, setP, cCall, fInt, fLen, fTuple, fList, cLenV, dLt, dLe, dGt, dGe, dB2, dAdd, dSub_ev, dNeg, Nat.reduceLeDiff, cs0, cs1, cs2, cs3, cs4, cs5, cs6, cs7, cs8, cs9, cs10, cs11, cs12, Int.ofNat_eq_natCast, dEq_int, dNe_int, dEq_pair, dNe_pair, dIsN, dNotN, cPar, cPar3, cAsg, gN, gT, gsCons, gsNil, bdOf, cSl, oNone, oSome, dSl, iSeq, iRg1, iRg2, cExpr, dRev, List.map_cons, List.map_nil, List.length_cons, List.length_nil, List.cons_append, List.nil_append, List.append_nil, List.replicate, List.getElem?_cons_zero, List.getElem?_cons_succ, List.set_cons_zero, List.set_cons_succ, Option.bind_some, Option.map_some, Option.bind_none, Option.map_none, Nat.reduceAdd, Nat.reduceSub, Int.reduceAdd, Int.reduceNeg, decide_true, decide_false, Bool.not_true, Bool.not_false, if_true, if_false, Bool.false_eq_true, if_pos, reduceIte, reduceCtorEq, Option.some.injEq, Prod.mk.injEq, and_self, and_true, true_and, szOk, cFor, forL, b1, b2]
  refine run_rt (n := 9) (c := c_same_reach) (ds := [T rs, T ms]) (s := ⟨[.val (T rs), .val (T ms), .val (DK (sm rs)), .val (DK (sm ms)), .val (.str "second"), .val (DK (sm ms)), .val (DK (sm rs)), .val (.lst []), .no], p⟩) (seq_nx (s1 := ⟨[.val (T rs), .val (T ms), .no, .no, .no, .no, .no, .no, .no], p⟩) ?_ (seq_nx (s1 := ⟨[.val (T rs), .val (T ms), .no, .no, .no, .no, .no, .no, .no], p⟩) ?_ (seq_nx (s1 := ⟨[.val (T rs), .val (T ms), .val (DK (sm rs)), .val (DK (sm ms)), .no, .no, .no, .no, .no], p⟩) ?_ (seq_nx e2 ?_))))
  · simp only [cFz, at40, at41, at42, at43, at20, at21, at30, at31, at32, List.set, dMod_ev, Int.reduceMod, Int.reduceLT, Int.reduceSub, Int.reduceMul, Int.reduceToNat, Nat.reduceLT, Int.zero_add, Int.reduceLE, fAll_b, runF, cSeq, cIf, cSet, cRet, cRetN, cSkip, cCont, cBrk, cVar, cD, cBin, cUn, cBi, aNil, aCons, cTup, cLst, bT, bAnd, bOr, bNot, cAnd, cOr, cNot, cIte, cChain, cIsi, dTy, kb1, kb2, kb3, kb4, kb5, kb6, kb7, fAbs_ev, fMax_ev, fMin_ev, wipeS, Function.comp_apply, Function.comp_def, dIx, dGetAny, cPotGet, cPotSet, getP, setP, cCall, fInt, fLen, fTuple, fList, cLenV, dLt, dLe, dGt, dGe, dB2, dAdd, dSub_ev, dNeg, Nat.reduceLeDiff, cs0, cs1, cs2, cs3, cs4, cs5, cs6, cs7, cs8, cs9, cs10, cs11, cs12, Int.ofNat_eq_natCast, dEq_int, dNe_int, dEq_pair, dNe_pair, dIsN, dNotN, cPar, cPar3, cAsg, gN, gT, gsCons, gsNil, bdOf, cSl, oNone, oSome, dSl, iSeq, iRg1, iRg2, cExpr, dRev, List.map_cons, List.map_nil, List.length_cons, List.length_nil, List.cons_append, List.nil_append, List.append_nil, List.replicate, List.getElem?_cons_zero, List.getElem?_cons_succ, List.set_cons_zero, List.set_cons_succ, Option.bind_some, Option.map_some, Option.bind_none, Option.map_none, Nat.reduceAdd, Nat.reduceSub, Int.reduceAdd, Int.reduceNeg, decide_true, decide_false, Bool.not_true, Bool.not_false, if_true, if_false, Bool.false_eq_true, if_pos, reduceIte, reduceCtorEq, Option.some.injEq, Prod.mk.injEq, and_self, and_true, true_and, szOk, look_rods_ev v]
  · simp only [cFz, at40, at41, at42, at43, at20, at21, at30, at31, at32, List.set, dMod_ev, Int.reduceMod, Int.reduceLT, Int.reduceSub, Int.reduceMul, Int.reduceToNat, Nat.reduceLT, Int.zero_add, Int.reduceLE, fAll_b, runF, cSeq, cIf, cSet, cRet, cRetN, cSkip, cCont, cBrk, cVar, cD, cBin, cUn, cBi, aNil, aCons, cTup, cLst, bT, bAnd, bOr, bNot, cAnd, cOr, cNot, cIte, cChain, cIsi, dTy, kb1, kb2, kb3, kb4, kb5, kb6, kb7, fAbs_ev, fMax_ev, fMin_ev, wipeS, Function.comp_apply, Function.comp_def, dIx, dGetAny, cPotGet, cPotSet, getP, setP, cCall, fInt, fLen, fTuple, fList, cLenV, dLt, dLe, dGt, dGe, dB2, dAdd, dSub_ev, dNeg, Nat.reduceLeDiff, cs0, cs1, cs2, cs3, cs4, cs5, cs6, cs7, cs8, cs9, cs10, cs11, cs12, Int.ofNat_eq_natCast, dEq_int, dNe_int, dEq_pair, dNe_pair, dIsN, dNotN, cPar, cPar3, cAsg, gN, gT, gsCons, gsNil, bdOf, cSl, oNone, oSome, dSl, iSeq, iRg1, iRg2, cExpr, dRev, List.map_cons, List.map_nil, List.length_cons, List.length_nil, List.cons_append, List.nil_append, List.append_nil, List.replicate, List.getElem?_cons_zero, List.getElem?_cons_succ, List.set_cons_zero, List.set_cons_succ, Option.bind_some, Option.map_some, Option.bind_none, Option.map_none, Nat.reduceAdd, Nat.reduceSub, Int.reduceAdd, Int.reduceNeg, decide_true, decide_false, Bool.not_true, Bool.not_false, if_true, if_false, Bool.false_eq_true, if_pos, reduceIte, reduceCtorEq, Option.some.injEq, Prod.mk.injEq, and_self, and_true, true_and, szOk, look_rods_ev w]
  · simp only [cFz, at40, at41, at42, at43, at20, at21, at30, at31, at32, List.set, dMod_ev, Int.reduceMod, Int.reduceLT, Int.reduceSub, Int.reduceMul, Int.reduceToNat, Nat.reduceLT, Int.zero_add, Int.reduceLE, fAll_b, runF, cSeq, cIf, cSet, cRet, cRetN, cSkip, cCont, cBrk, cVar, cD, cBin, cUn, cBi, aNil, aCons, cTup, cLst, bT, bAnd, bOr, bNot, cAnd, cOr, cNot, cIte, cChain, cIsi, dTy, kb1, kb2, kb3, kb4, kb5, kb6, kb7, fAbs_ev, fMax_ev, fMin_ev, wipeS, Function.comp_apply, Function.comp_def, dIx, dGetAny, cPotGet, cPotSet, getP, setP, cCall, fInt, fLen, fTuple, fList, cLenV, dLt, dLe, dGt, dGe, dB2, dAdd, dSub_ev, dNeg, Nat.reduceLeDiff, cs0, cs1, cs2, cs3, cs4, cs5, cs6, cs7, cs8, cs9, cs10, cs11, cs12, Int.ofNat_eq_natCast, dEq_int, dNe_int, dEq_pair, dNe_pair, dIsN, dNotN, cPar, cPar3, cAsg, gN, gT, gsCons, gsNil, bdOf, cSl, oNone, oSome, dSl, iSeq, iRg1, iRg2, cExpr, dRev, List.map_cons, List.map_nil, List.length_cons, List.length_nil, List.cons_append, List.nil_append, List.append_nil, List.replicate, List.getElem?_cons_zero, List.getElem?_cons_succ, List.set_cons_zero, List.set_cons_succ, Option.bind_some, Option.map_some, Option.bind_none, Option.map_none, Nat.reduceAdd, Nat.reduceSub, Int.reduceAdd, Int.reduceNeg, decide_true, decide_false, Bool.not_true, Bool.not_false, if_true, if_false, Bool.false_eq_true, if_pos, reduceIte, reduceCtorEq, Option.some.injEq, Prod.mk.injEq, and_self, and_true, true_and, szOk, sums_ev v, sums_ev w]
  · simp only [cFz, at40, at41, at42, at43, at20, at21, at30, at31, at32, List.set, dMod_ev, Int.reduceMod, Int.reduceLT, Int.reduceSub, Int.reduceMul, Int.reduceToNat, Nat.reduceLT, Int.zero_add, Int.reduceLE, fAll_b, runF, cSeq, cIf, cSet, cRet, cRetN, cSkip, cCont, cBrk, cVar, cD, cBin, cUn, cBi, aNil, aCons, cTup, cLst, bT, bAnd, bOr, bNot, cAnd, cOr, cNot, cIte, cChain, cIsi, dTy, kb1, kb2, kb3, kb4, kb5, kb6, kb7, fAbs_ev, fMax_ev, fMin_ev, wipeS, Function.comp_apply, Function.comp_def, dIx, dGetAny, cPotGet, cPotSet, getP, setP, cCall, fInt, fLen, fTuple, fList, cLenV, dLt, dLe, dGt, dGe, dB2, dAdd, dSub_ev, dNeg, Nat.reduceLeDiff, cs0, cs1, cs2, cs3, cs4, cs5, cs6, cs7, cs8, cs9, cs10, cs11, cs12, Int.ofNat_eq_natCast, dEq_int, dNe_int, dEq_pair, dNe_pair, dIsN, dNotN, cPar, cPar3, cAsg, gN, gT, gsCons, gsNil, bdOf, cSl, oNone, oSome, dSl, iSeq, iRg1, iRg2, cExpr, dRev, List.map_cons, List.map_nil, List.length_cons, List.length_nil, List.cons_append, List.nil_append, List.append_nil, List.replicate, List.getElem?_cons_zero, List.getElem?_cons_succ, List.set_cons_zero, List.set_cons_succ, Option.bind_some, Option.map_some, Option.bind_none, Option.map_none, Nat.reduceAdd, Nat.reduceSub, Int.reduceAdd, Int.reduceNeg, decide_true, decide_false, Bool.not_true, Bool.not_false, if_true, if_false, Bool.false_eq_true, if_pos, reduceIte, reduceCtorEq, Option.some.injEq, Prod.mk.injEq, and_self, and_true, true_and, szOk]
/-! ### fullness -/
def gaps (rs : List Int) : List Int := ((List.range (((rs.sum - rs.sum % 2) / 2 + 1).toNat)).map fun k => rs.sum % 2 + (k : Nat) * 2).filter fun t => !has (sm rs) t
theorem gaps_nil (v : Rods rs) : gaps rs = [] ↔ (sm rs).length = rs.sum.toNat + 1 := by
  have h0 := sum_nn v.pos
  rw [← full_iff v.pos (S := rs.sum.toNat) (by omega)]
  unfold gaps
  rw [List.filter_eq_nil_iff]
  have e : ((rs.sum.toNat : Nat) : Int) = rs.sum := by omega
  rw [e]
  constructor
  · intro h t ht ha
    unfold At at ha
    have := h t (List.mem_map.2 ⟨((t - rs.sum % 2) / 2).toNat, List.mem_range.2 (by omega), by omega⟩)
    rw [has_c] at this
    simpa using this
  · intro h t ht
    obtain ⟨k, hk, rfl⟩ := List.mem_map.1 ht
    have := List.mem_range.1 hk
    have := h (rs.sum % 2 + (k : Nat) * 2) (by omega) (by unfold At; omega)
    rw [has_c]
    simpa using this
theorem sh_full {n : Nat} : D.sh n (.str "full") = true := by
  have h : D.sh n (.str "full") = PyData.canLay0 (.str "full") := by cases n <;> rfl
  rw [h]
  decide +kernel
theorem small2 {i j : Int} (h1 : -1000000 ≤ i ∧ i ≤ 1000000) (h2 : -1000000 ≤ j ∧ j ≤ 1000000) (h3 : 0 ≤ Builtin.Range.rangeSize i j 2 ∧ Builtin.Range.rangeSize i j 2 ≤ 1000000) : Builtin.Range.small i j 2 = true := by
  unfold Builtin.Range.small Builtin.Range.rangeFitsLong
  have e : (2 : Int) ^ 63 = 9223372036854775808 := by decide
  rw [e]
  generalize Builtin.Range.rangeSize i j 2 = n at *
  simp only [Bool.and_eq_true, Bool.or_eq_true, decide_eq_true_eq, if_pos (show (2 : Int) > 0 by decide)]
  refine ⟨⟨⟨⟨by omega, by omega⟩, by omega⟩, by omega⟩, .inr (by omega)⟩
theorem rg2 (v : Rods rs) {t : SA} {s s' : S} (h : t s = some ([.int (rs.sum % 2), .int (rs.sum + 1), .int 2], s')) : iRgC t s = some (((List.range (((rs.sum - rs.sum % 2) / 2 + 1).toNat)).map fun k => rs.sum % 2 + (k : Nat) * 2).map .int, s') := by
  have h0 := sum_nn v.pos
  have hb := v.sb
  have hz : Builtin.Range.rangeSize (rs.sum % 2) (rs.sum + 1) 2 = (rs.sum - rs.sum % 2) / 2 + 1 := by
    unfold Builtin.Range.rangeSize
    rw [if_pos (by decide), if_pos (by omega)]
    omega
  have hs := small2 (i := rs.sum % 2) (j := rs.sum + 1) (by omega) (by omega) (by rw [hz]; omega)
  unfold iRgC
  rw [h]
  have d1 : decide ((2 : Int) ≠ 0) = true := rfl
  have d2 : decide ((2 : Int).natAbs < 1073741824) = true := rfl
  simp only [Option.bind_some, d1, d2, hs, Bool.and_self, if_true, hz, stpL]
  rw [List.map_map]
  rfl
theorem full_ev (v : Rods rs) : f_fullness [T rs] p = some (if (sm rs).length = rs.sum.toNat + 1 then .tup [.str "full"] else .tup [.str "gap", .int ((gaps rs).headD 0)], p) := by
  have h0 := sum_nn v.pos
  have hb := v.sb
  have es := fSum_t (ns := rs)
  have e := lc_pure (it := iRgC (aCons (cBin dMod (cBi fSum (aCons (cVar 0) aNil)) (cD (.int 2))) (aCons (cBin dAdd (cBi fSum (aCons (cVar 0) aNil)) (cD (.int 1))) (aCons (cD (.int 2)) aNil)))) (te := cVar 3) (tt := bT (cBin dNotIn (cVar 3) (cVar 1))) (i := 3) (p := p) (r := [.val (T rs), .val (DK (sm rs)), .no, .no]) (b0 := .no) (s0 := ⟨[.val (T rs), .val (DK (sm rs)), .no, .no], p⟩)
    (ds := ((List.range (((rs.sum - rs.sum % 2) / 2 + 1).toNat)).map fun k => rs.sum % 2 + (k : Nat) * 2).map .int) (β := fun d => match d with | .int w => !has (sm rs) w | _ => false) (φ := fun d => d)
    (rg2 v (by simp only [cFz, at40, at41, at42, at43, at20, at21, at30, at31, at32, List.set, dMod_ev, Int.reduceMod, Int.reduceLT, Int.reduceSub, Int.reduceMul, Int.reduceToNat, Nat.reduceLT, Int.zero_add, Int.reduceLE, fAll_b, runF, cSeq, cIf, cSet, cRet, cRetN, cSkip, cCont, cBrk, cVar, cD, cBin, cUn, cBi, aNil, aCons, cTup, cLst, bT, bAnd, bOr, bNot, cAnd, cOr, cNot, cIte, cChain, cIsi, dTy, kb1, kb2, kb3, kb4, kb5, kb6, kb7, fAbs_ev, fMax_ev, fMin_ev, wipeS, Function.comp_apply, Function.comp_def, dIx, dGetAny, cPotGet, cPotSet, getP, setP, cCall, fInt, fLen, fTuple, fList, cLenV, dLt, dLe, dGt, dGe, dB2, dAdd, dSub_ev, dNeg, Nat.reduceLeDiff, cs0, cs1, cs2, cs3, cs4, cs5, cs6, cs7, cs8, cs9, cs10, cs11, cs12, Int.ofNat_eq_natCast, dEq_int, dNe_int, dEq_pair, dNe_pair, dIsN, dNotN, cPar, cPar3, cAsg, gN, gT, gsCons, gsNil, bdOf, cSl, oNone, oSome, dSl, iSeq, iRg1, iRg2, cExpr, dRev, List.map_cons, List.map_nil, List.length_cons, List.length_nil, List.cons_append, List.nil_append, List.append_nil, List.replicate, List.getElem?_cons_zero, List.getElem?_cons_succ, List.set_cons_zero, List.set_cons_succ, Option.bind_some, Option.map_some, Option.bind_none, Option.map_none, Nat.reduceAdd, Nat.reduceSub, Int.reduceAdd, Int.reduceNeg, decide_true, decide_false, Bool.not_true, Bool.not_false, if_true, if_false, Bool.false_eq_true, if_pos, reduceIte, reduceCtorEq, Option.some.injEq, Prod.mk.injEq, and_self, and_true, true_and, szOk, es])) rfl rfl (fun d hd => by
      obtain ⟨w, _, rfl⟩ := List.mem_map.1 hd
      simp only [cFz, at40, at41, at42, at43, at20, at21, at30, at31, at32, List.set, dMod_ev, Int.reduceMod, Int.reduceLT, Int.reduceSub, Int.reduceMul, Int.reduceToNat, Nat.reduceLT, Int.zero_add, Int.reduceLE, fAll_b, runF, cSeq, cIf, cSet, cRet, cRetN, cSkip, cCont, cBrk, cVar, cD, cBin, cUn, cBi, aNil, aCons, cTup, cLst, bT, bAnd, bOr, bNot, cAnd, cOr, cNot, cIte, cChain, cIsi, dTy, kb1, kb2, kb3, kb4, kb5, kb6, kb7, fAbs_ev, fMax_ev, fMin_ev, wipeS, Function.comp_apply, Function.comp_def, dIx, dGetAny, cPotGet, cPotSet, getP, setP, cCall, fInt, fLen, fTuple, fList, cLenV, dLt, dLe, dGt, dGe, dB2, dAdd, dSub_ev, dNeg, Nat.reduceLeDiff, cs0, cs1, cs2, cs3, cs4, cs5, cs6, cs7, cs8, cs9, cs10, cs11, cs12, Int.ofNat_eq_natCast, dEq_int, dNe_int, dEq_pair, dNe_pair, dIsN, dNotN, cPar, cPar3, cAsg, gN, gT, gsCons, gsNil, bdOf, cSl, oNone, oSome, dSl, iSeq, iRg1, iRg2, cExpr, dRev, List.map_cons, List.map_nil, List.length_cons, List.length_nil, List.cons_append, List.nil_append, List.append_nil, List.replicate, List.getElem?_cons_zero, List.getElem?_cons_succ, List.set_cons_zero, List.set_cons_succ, Option.bind_some, Option.map_some, Option.bind_none, Option.map_none, Nat.reduceAdd, Nat.reduceSub, Int.reduceAdd, Int.reduceNeg, decide_true, decide_false, Bool.not_true, Bool.not_false, if_true, if_false, Bool.false_eq_true, if_pos, reduceIte, reduceCtorEq, Option.some.injEq, Prod.mk.injEq, and_self, and_true, true_and, szOk, dNotIn, keyOf, some_has]) (fun d hd _ => by
      obtain ⟨w, _, rfl⟩ := List.mem_map.1 hd
      refine ⟨false, ?_⟩
      simp only [cFz, at40, at41, at42, at43, at20, at21, at30, at31, at32, List.set, dMod_ev, Int.reduceMod, Int.reduceLT, Int.reduceSub, Int.reduceMul, Int.reduceToNat, Nat.reduceLT, Int.zero_add, Int.reduceLE, fAll_b, runF, cSeq, cIf, cSet, cRet, cRetN, cSkip, cCont, cBrk, cVar, cD, cBin, cUn, cBi, aNil, aCons, cTup, cLst, bT, bAnd, bOr, bNot, cAnd, cOr, cNot, cIte, cChain, cIsi, dTy, kb1, kb2, kb3, kb4, kb5, kb6, kb7, fAbs_ev, fMax_ev, fMin_ev, wipeS, Function.comp_apply, Function.comp_def, dIx, dGetAny, cPotGet, cPotSet, getP, setP, cCall, fInt, fLen, fTuple, fList, cLenV, dLt, dLe, dGt, dGe, dB2, dAdd, dSub_ev, dNeg, Nat.reduceLeDiff, cs0, cs1, cs2, cs3, cs4, cs5, cs6, cs7, cs8, cs9, cs10, cs11, cs12, Int.ofNat_eq_natCast, dEq_int, dNe_int, dEq_pair, dNe_pair, dIsN, dNotN, cPar, cPar3, cAsg, gN, gT, gsCons, gsNil, bdOf, cSl, oNone, oSome, dSl, iSeq, iRg1, iRg2, cExpr, dRev, List.map_cons, List.map_nil, List.length_cons, List.length_nil, List.cons_append, List.nil_append, List.append_nil, List.replicate, List.getElem?_cons_zero, List.getElem?_cons_succ, List.set_cons_zero, List.set_cons_succ, Option.bind_some, Option.map_some, Option.bind_none, Option.map_none, Nat.reduceAdd, Nat.reduceSub, Int.reduceAdd, Int.reduceNeg, decide_true, decide_false, Bool.not_true, Bool.not_false, if_true, if_false, Bool.false_eq_true, if_pos, reduceIte, reduceCtorEq, Option.some.injEq, Prod.mk.injEq, and_self, and_true, true_and, szOk]) (by rw [List.length_map, List.length_map, List.length_range]; omega)
  have e2 : ((((List.range (((rs.sum - rs.sum % 2) / 2 + 1).toNat)).map fun k => rs.sum % 2 + (k : Nat) * 2).map D.int).filter (fun d => match d with | .int w => !has (sm rs) w | _ => false)).map (fun d => d) = (gaps rs).map .int := by
    rw [List.map_id', List.filter_map]; rfl
  rw [e2] at e
  have hz := gaps_nil v
  by_cases q : (sm rs).length = rs.sum.toNat + 1
  · have hg := hz.2 q
    rw [hg] at e
    simp only [List.map_nil] at e
    have e5 : dEq (.lst []) (.lst []) = some (.bl true, false) := dEq_rfl (by rw [sh_lst64]; exact shL_nil) rfl
    simp only [cFz, at40, at41, at42, at43, at20, at21, at30, at31, at32, List.set, dMod_ev, Int.reduceMod, Int.reduceLT, Int.reduceSub, Int.reduceMul, Int.reduceToNat, Nat.reduceLT, Int.zero_add, Int.reduceLE, fAll_b, runF, cSeq, cIf, cSet, cRet, cRetN, cSkip, cCont, cBrk, cVar, cD, cBin, cUn, cBi, aNil, aCons, cTup, cLst, bT, bAnd, bOr, bNot, cAnd, cOr, cNot, cIte, cChain, cIsi, dTy, kb1, kb2, kb3, kb4, kb5, kb6, kb7, fAbs_ev, fMax_ev, fMin_ev, wipeS, Function.comp_apply, Function.comp_def, dIx, dGetAny, cPotGet, cPotSet, getP, setP, cCall, fInt, fLen, fTuple, fList, cLenV, dLt, dLe, dGt, dGe, dB2, dAdd, dSub_ev, dNeg, Nat.reduceLeDiff, cs0, cs1, cs2, cs3, cs4, cs5, cs6, cs7, cs8, cs9, cs10, cs11, cs12, Int.ofNat_eq_natCast, dEq_int, dNe_int, dEq_pair, dNe_pair, dIsN, dNotN, cPar, cPar3, cAsg, gN, gT, gsCons, gsNil, bdOf, cSl, oNone, oSome, dSl, iSeq, iRg1, iRg2, cExpr, dRev, List.map_cons, List.map_nil, List.length_cons, List.length_nil, List.cons_append, List.nil_append, List.append_nil, List.replicate, List.getElem?_cons_zero, List.getElem?_cons_succ, List.set_cons_zero, List.set_cons_succ, Option.bind_some, Option.map_some, Option.bind_none, Option.map_none, Nat.reduceAdd, Nat.reduceSub, Int.reduceAdd, Int.reduceNeg, decide_true, decide_false, Bool.not_true, Bool.not_false, if_true, if_false, Bool.false_eq_true, if_pos, reduceIte, reduceCtorEq, Option.some.injEq, Prod.mk.injEq, and_self, and_true, true_and, szOk, f_fullness, c_fullness, look_rods_ev v, sums_ev v, e, e5, q]
  · cases hg : gaps rs with
    | nil => exact absurd (hz.1 hg) q
    | cons a as =>
      rw [hg] at e
      have e5 : dEq (.lst (.int a :: as.map .int)) (.lst []) = some (.bl false, false) := by
        unfold dEq
        have h1 : D.sh 64 (.lst (.int a :: as.map .int)) = true := by
          rw [sh_lst64]; exact shL_ints (a :: as)
        have h2 : D.sh 64 (.lst []) = true := by rw [sh_lst64]; exact shL_nil
        simp only [h1, h2, Bool.and_self, if_true, eqB_lstF1]
      simp only [List.map_cons] at e
      have g : L2.atI (D.int a :: as.map D.int) 0 = some (.int a) := atI_nat (j := 0) rfl
      simp only [cFz, at40, at41, at42, at43, at20, at21, at30, at31, at32, List.set, dMod_ev, Int.reduceMod, Int.reduceLT, Int.reduceSub, Int.reduceMul, Int.reduceToNat, Nat.reduceLT, Int.zero_add, Int.reduceLE, fAll_b, runF, cSeq, cIf, cSet, cRet, cRetN, cSkip, cCont, cBrk, cVar, cD, cBin, cUn, cBi, aNil, aCons, cTup, cLst, bT, bAnd, bOr, bNot, cAnd, cOr, cNot, cIte, cChain, cIsi, dTy, kb1, kb2, kb3, kb4, kb5, kb6, kb7, fAbs_ev, fMax_ev, fMin_ev, wipeS, Function.comp_apply, Function.comp_def, dIx, dGetAny, cPotGet, cPotSet, getP, setP, cCall, fInt, fLen, fTuple, fList, cLenV, dLt, dLe, dGt, dGe, dB2, dAdd, dSub_ev, dNeg, Nat.reduceLeDiff, cs0, cs1, cs2, cs3, cs4, cs5, cs6, cs7, cs8, cs9, cs10, cs11, cs12, Int.ofNat_eq_natCast, dEq_int, dNe_int, dEq_pair, dNe_pair, dIsN, dNotN, cPar, cPar3, cAsg, gN, gT, gsCons, gsNil, bdOf, cSl, oNone, oSome, dSl, iSeq, iRg1, iRg2, cExpr, dRev, List.map_cons, List.map_nil, List.length_cons, List.length_nil, List.cons_append, List.nil_append, List.append_nil, List.replicate, List.getElem?_cons_zero, List.getElem?_cons_succ, List.set_cons_zero, List.set_cons_succ, Option.bind_some, Option.map_some, Option.bind_none, Option.map_none, Nat.reduceAdd, Nat.reduceSub, Int.reduceAdd, Int.reduceNeg, decide_true, decide_false, Bool.not_true, Bool.not_false, if_true, if_false, Bool.false_eq_true, if_pos, reduceIte, reduceCtorEq, Option.some.injEq, Prod.mk.injEq, and_self, and_true, true_and, szOk, f_fullness, c_fullness, look_rods_ev v, sums_ev v, e, e5, q, g]
      rfl
end
end Lk11

namespace Lk11
open PySem PySem.Spec PyProof.Rows L2 Rb
/-! ### rows of signs, plain -/
def put1 (l : KV) (k v : Int) : KV := if has l k = true then l else pi l k v
def stR (r : Int) (l : KV) (t : Int) : KV := put1 (put1 l (t + 1 * r) 1) (t + -1 * r) (-1)
def rowN (r : Int) (ks : List Int) : KV := ks.foldl (stR r) []
abbrev ky (l : KV) : List Int := l.map (·.1)
theorem pi_new {l : KV} {k v : Int} (h : has l k ≠ true) : pi l k v = l ++ [(k, v)] := if_neg h
theorem put1_ky {l : KV} {k v t : Int} : t ∈ ky (put1 l k v) ↔ t ∈ ky l ∨ t = k := by
  unfold put1
  split
  · rename_i h
    have hm := has_mem.1 h
    constructor
    · exact .inl
    · rintro (q | rfl)
      · exact q
      · exact hm
  · rename_i h
    rw [pi_new h]
    simp
theorem put1_mem {l : KV} {k v : Int} {z : Int × Int} (h : z ∈ put1 l k v) : z ∈ l ∨ z = (k, v) := by
  unfold put1 at h
  split at h
  · exact .inl h
  · rename_i hh
    rw [pi_new hh] at h
    rcases List.mem_append.1 h with h | h
    · exact .inl h
    · exact .inr (List.mem_singleton.1 h)
theorem put1_nd {l : KV} {k v : Int} (h : Nd l) : Nd (put1 l k v) := by
  unfold put1
  split
  · exact h
  · exact pi_nd h
theorem put1_len (l : KV) (k v : Int) : (put1 l k v).length ≤ l.length + 1 := by
  unfold put1
  split
  · omega
  · exact pi_len l k v
theorem stR_len (r : Int) (l : KV) (t : Int) : (stR r l t).length ≤ l.length + 2 := by
  unfold stR
  have := put1_len l (t + 1 * r) 1
  have := put1_len (put1 l (t + 1 * r) 1) (t + -1 * r) (-1)
  omega
theorem fold_R (r : Int) : ∀ (ks : List Int) (l : KV), (Nd l → Nd (ks.foldl (stR r) l)) ∧ (ks.foldl (stR r) l).length ≤ l.length + 2 * ks.length ∧ (∀ t, t ∈ ky (ks.foldl (stR r) l) ↔ t ∈ ky l ∨ ∃ u ∈ ks, t = u + r ∨ t = u - r) ∧ ∀ z ∈ ks.foldl (stR r) l, z ∈ l ∨ ((z.2 = 1 ∨ z.2 = -1) ∧ z.1 - z.2 * r ∈ ks)
  | [], l => ⟨fun h => h, by simp, fun t => by simp, fun z h => .inl h⟩
  | u :: ks, l => by
    obtain ⟨a, b, c, d⟩ := fold_R r ks (stR r l u)
    refine ⟨fun h => a (put1_nd (put1_nd h)), ?_, fun t => ?_, fun z hz => ?_⟩
    · have := stR_len r l u
      rw [List.foldl_cons, List.length_cons]; omega
    · rw [List.foldl_cons, c t]
      unfold stR
      rw [put1_ky, put1_ky]
      have e1 : (t = u + 1 * r) ↔ t = u + r := by rw [Int.one_mul]
      have e2 : (t = u + -1 * r) ↔ t = u - r := by rw [Int.neg_mul, Int.one_mul]; omega
      rw [e1, e2]
      constructor
      · rintro (((h | h) | h) | ⟨w, hw, h⟩)
        · exact .inl h
        · exact .inr ⟨u, .head _, .inl h⟩
        · exact .inr ⟨u, .head _, .inr h⟩
        · exact .inr ⟨w, .tail _ hw, h⟩
      · rintro (h | ⟨w, hw, h⟩)
        · exact .inl (.inl (.inl h))
        · rcases List.mem_cons.1 hw with rfl | hw
          · rcases h with h | h
            · exact .inl (.inl (.inr h))
            · exact .inl (.inr h)
          · exact .inr ⟨w, hw, h⟩
    · rw [List.foldl_cons] at hz
      rcases d z hz with h | ⟨h1, h2⟩
      · unfold stR at h
        rcases put1_mem h with h | rfl
        · rcases put1_mem h with h | rfl
          · exact .inl h
          · refine .inr ⟨.inl rfl, ?_⟩
            have : u + 1 * r - 1 * r = u := by omega
            simp only [this]
            exact .head _
        · refine .inr ⟨.inr rfl, ?_⟩
          have : u + -1 * r - -1 * r = u := by omega
          simp only [this]
          exact .head _
      · exact .inr ⟨h1, .tail _ h2⟩
theorem rowN_nd {r : Int} {ks : List Int} : Nd (rowN r ks) := (fold_R r ks []).1 nd_nil
theorem rowN_len {r : Int} {ks : List Int} : (rowN r ks).length ≤ 2 * ks.length := by
  have := (fold_R r ks []).2.1
  simpa [rowN] using this
theorem rowN_ky {r : Int} {ks : List Int} {t : Int} : t ∈ ky (rowN r ks) ↔ ∃ u ∈ ks, t = u + r ∨ t = u - r := by
  have := (fold_R r ks []).2.2.1 t
  simpa [rowN] using this
theorem rowN_mem {r : Int} {ks : List Int} {z : Int × Int} (h : z ∈ rowN r ks) : (z.2 = 1 ∨ z.2 = -1) ∧ z.1 - z.2 * r ∈ ks := by
  rcases (fold_R r ks []).2.2.2 z h with q | q
  · simp at q
  · exact q
/-- the rows behind the first -/
structure Rw (rs : List Int) (ls : List KV) : Prop where
  len : ls.length = rs.length
  nd : ∀ (j : Nat) l, ls[j]? = some l → Nd l
  ks : ∀ (j : Nat) l, ls[j]? = some l → ∀ t, t ∈ ky l ↔ 0 < c (rs.take (j + 1)) t
  sg : ∀ (j : Nat) l r, ls[j]? = some l → rs[j]? = some r → ∀ z ∈ l, (z.2 = 1 ∨ z.2 = -1) ∧ 0 < c (rs.take j) (z.1 - z.2 * r)
theorem Rw.nil : Rw [] [] := ⟨rfl, fun j l h => by simp at h, fun j l h => by simp at h, fun j l r h => by simp at h⟩
theorem Rw.snoc {rs : List Int} {ls : List KV} {r : Int} {K : List Int} (w : Rw rs ls) (hK : ∀ t, t ∈ K ↔ 0 < c rs t) : Rw (rs ++ [r]) (ls ++ [rowN r K]) := by
  have hl := w.len
  have lastt : ∀ (j : Nat) l, (ls ++ [rowN r K])[j]? = some l → (j < rs.length ∧ ls[j]? = some l) ∨ (j = rs.length ∧ l = rowN r K) := fun j l h => by
    by_cases q : j < ls.length
    · rw [List.getElem?_append_left q] at h
      exact .inl ⟨by omega, h⟩
    · rw [List.getElem?_append_right (by omega)] at h
      have : j - ls.length = 0 := by
        rcases Nat.eq_zero_or_pos (j - ls.length) with g | g
        · exact g
        · rw [List.getElem?_eq_none (by simp; omega)] at h; cases h
      rw [this] at h
      simp at h
      exact .inr ⟨by omega, h.symm⟩
  refine ⟨by simp [hl], fun j l h => ?_, fun j l h t => ?_, fun j l r' h hr z hz => ?_⟩
  · rcases lastt j l h with ⟨_, h⟩ | ⟨_, rfl⟩
    · exact w.nd j l h
    · exact rowN_nd
  · rcases lastt j l h with ⟨hj, h⟩ | ⟨rfl, rfl⟩
    · rw [w.ks j l h t, List.take_append_of_le_length (by omega)]
    · rw [rowN_ky, List.take_of_length_le (by simp), c_snoc]
      have n1 := c_nn (rs := rs) (t := t - r)
      have n2 := c_nn (rs := rs) (t := t + r)
      constructor
      · rintro ⟨u, hu, h⟩
        have hu := (hK u).1 hu
        rcases h with h | h
        · have : t - r = u := by omega
          rw [this]; omega
        · have : t + r = u := by omega
          rw [this]; omega
      · intro h
        by_cases q : 0 < c rs (t - r)
        · exact ⟨t - r, (hK _).2 q, .inl (by omega)⟩
        · exact ⟨t + r, (hK _).2 (by omega), .inr (by omega)⟩
  · rcases lastt j l h with ⟨hj, h⟩ | ⟨rfl, rfl⟩
    · rw [List.getElem?_append_left hj] at hr
      obtain ⟨h1, h2⟩ := w.sg j l r' h hr z hz
      refine ⟨h1, ?_⟩
      rw [List.take_append_of_le_length (by omega)]
      exact h2
    · rw [List.getElem?_append_right (Nat.le_refl _)] at hr
      simp at hr
      subst hr
      obtain ⟨h1, h2⟩ := rowN_mem hz
      refine ⟨h1, ?_⟩
      rw [List.take_left]
      exact (hK _).1 h2
/-! ### told_signs -/
abbrev D0 : D := .dic [(.inl 0, .non)]
abbrev DR (ls : List KV) : List D := D0 :: ls.map DK
def lastKs (ls : List KV) : List Int := match ls.getLast? with
  | some l => ky l
  | none => [0]
theorem DR_last : ∀ ls : List KV, ∃ ks, L2.atI (DR ls) (-1) = some (.dic ks) ∧ keysD ks = (lastKs ls).map .int := fun ls => by
  rcases List.eq_nil_or_concat ls with rfl | ⟨l', b, e⟩
  · exact ⟨_, rfl, rfl⟩
  · rw [List.concat_eq_append] at e
    subst e
    refine ⟨dk b, ?_, ?_⟩
    · have : DR (l' ++ [b]) = (D0 :: l'.map DK) ++ [DK b] := by simp [DR]
      rw [this]
      exact atI_last _ _
    · rw [keys_dk]
      unfold lastKs
      rw [List.getLast?_concat]
theorem lastKs_c {rs : List Int} {ls : List KV} (w : Rw rs ls) : ∀ t, t ∈ lastKs ls ↔ 0 < c rs t := fun t => by
  rcases List.eq_nil_or_concat ls with rfl | ⟨l', b, e⟩
  · have := w.len
    have : rs = [] := List.length_eq_zero_iff.1 (by simpa using this.symm)
    subst this
    unfold lastKs
    have e : c [] t = if t = 0 then 1 else 0 := gi1 t
    rw [e]
    simp
    constructor
    · rintro rfl; simp
    · intro h
      refine Classical.byContradiction fun q => ?_
      simp [q] at h
  · rw [List.concat_eq_append] at e
    subst e
    unfold lastKs
    rw [List.getLast?_concat]
    have hl := w.len
    rw [List.length_append, List.length_singleton] at hl
    have := w.ks l'.length b (by rw [List.getElem?_append_right (Nat.le_refl _)]; simp) t
    rw [List.take_of_length_le (by omega)] at this
    exact this
def bodyP : SS := (cIf (bT (cNotInV 4 (cBin dAdd (cVar 5) (cBin dMulI (cVar 6) (cVar 3)))))
  (cPutD 4 (cBin dAdd (cVar 5) (cBin dMulI (cVar 6) (cVar 3))) (cVar 6))
  cSkip)
def bodyT : SS := (cFor (iSeq (cTup (aCons (cD (.int 1)) (aCons (cUn dNeg (cD (.int 1))) aNil)))) (gN 6) bodyP)
def bodyW : SS := (cSeq (cSet 4 cDic0)
  (cSeq (cFor (iKey (cIxV 2 (cUn dNeg (cD (.int 1))))) (gN 5) bodyT)
  (cApp 2 (cVar 4))))
section
variable {a0 a1 a2 a7 a8 r3 r4 r5 r6 : Bd} {p : Pt} {l : KV} {r t s g : Int}
theorem put1_ev (hr : 1 ≤ r ∧ r ≤ 60) (hs : s = 1 ∨ s = -1) (hl : l.length ≤ 100000) : bodyP ⟨[a0, a1, a2, .val (.int r), .own (DK l), .val (.int t), .val (.int s), a7, a8], p⟩ = some (.nx, ⟨[a0, a1, a2, .val (.int r), .own (DK (put1 l (t + s * r) s)), .val (.int t), .val (.int s), a7, a8], p⟩) := by
  have m1 := dMul_i (a := s) (b := r) (by omega) (by omega)
  have hz : l.length ≤ 16777215 := by omega
  unfold put1
  cases h : has l (t + s * r) with
  | true => simp only [cFz, at40, at41, at42, at43, at20, at21, at30, at31, at32, List.set, dMod_ev, Int.reduceMod, Int.reduceLT, Int.reduceSub, Int.reduceMul, Int.reduceToNat, Nat.reduceLT, Int.zero_add, Int.reduceLE, fAll_b, runF, cSeq, cIf, cSet, cRet, cRetN, cSkip, cCont, cBrk, cVar, cD, cBin, cUn, cBi, aNil, aCons, cTup, cLst, bT, bAnd, bOr, bNot, cAnd, cOr, cNot, cIte, cChain, cIsi, dTy, kb1, kb2, kb3, kb4, kb5, kb6, kb7, fAbs_ev, fMax_ev, fMin_ev, wipeS, Function.comp_apply, Function.comp_def, dIx, dGetAny, cPotGet, cPotSet, getP, setP, cCall, fInt, fLen, fTuple, fList, cLenV, dLt, dLe, dGt, dGe, dB2, dAdd, dSub_ev, dNeg, Nat.reduceLeDiff, cs0, cs1, cs2, cs3, cs4, cs5, cs6, cs7, cs8, cs9, cs10, cs11, cs12, Int.ofNat_eq_natCast, dEq_int, dNe_int, dEq_pair, dNe_pair, dIsN, dNotN, cPar, cPar3, cAsg, gN, gT, gsCons, gsNil, bdOf, cSl, oNone, oSome, dSl, iSeq, iRg1, iRg2, cExpr, dRev, List.map_cons, List.map_nil, List.length_cons, List.length_nil, List.cons_append, List.nil_append, List.append_nil, List.replicate, List.getElem?_cons_zero, List.getElem?_cons_succ, List.set_cons_zero, List.set_cons_succ, Option.bind_some, Option.map_some, Option.bind_none, Option.map_none, Nat.reduceAdd, Nat.reduceSub, Int.reduceAdd, Int.reduceNeg, decide_true, decide_false, Bool.not_true, Bool.not_false, if_true, if_false, Bool.false_eq_true, if_pos, reduceIte, reduceCtorEq, Option.some.injEq, Prod.mk.injEq, and_self, and_true, true_and, szOk, bodyP, cNotInV, m1, keyOf, some_has, h]
  | false => simp only [cFz, at40, at41, at42, at43, at20, at21, at30, at31, at32, List.set, dMod_ev, Int.reduceMod, Int.reduceLT, Int.reduceSub, Int.reduceMul, Int.reduceToNat, Nat.reduceLT, Int.zero_add, Int.reduceLE, fAll_b, runF, cSeq, cIf, cSet, cRet, cRetN, cSkip, cCont, cBrk, cVar, cD, cBin, cUn, cBi, aNil, aCons, cTup, cLst, bT, bAnd, bOr, bNot, cAnd, cOr, cNot, cIte, cChain, cIsi, dTy, kb1, kb2, kb3, kb4, kb5, kb6, kb7, fAbs_ev, fMax_ev, fMin_ev, wipeS, Function.comp_apply, Function.comp_def, dIx, dGetAny, cPotGet, cPotSet, getP, setP, cCall, fInt, fLen, fTuple, fList, cLenV, dLt, dLe, dGt, dGe, dB2, dAdd, dSub_ev, dNeg, Nat.reduceLeDiff, cs0, cs1, cs2, cs3, cs4, cs5, cs6, cs7, cs8, cs9, cs10, cs11, cs12, Int.ofNat_eq_natCast, dEq_int, dNe_int, dEq_pair, dNe_pair, dIsN, dNotN, cPar, cPar3, cAsg, gN, gT, gsCons, gsNil, bdOf, cSl, oNone, oSome, dSl, iSeq, iRg1, iRg2, cExpr, dRev, List.map_cons, List.map_nil, List.length_cons, List.length_nil, List.cons_append, List.nil_append, List.append_nil, List.replicate, List.getElem?_cons_zero, List.getElem?_cons_succ, List.set_cons_zero, List.set_cons_succ, Option.bind_some, Option.map_some, Option.bind_none, Option.map_none, Nat.reduceAdd, Nat.reduceSub, Int.reduceAdd, Int.reduceNeg, decide_true, decide_false, Bool.not_true, Bool.not_false, if_true, if_false, Bool.false_eq_true, if_pos, reduceIte, reduceCtorEq, Option.some.injEq, Prod.mk.injEq, and_self, and_true, true_and, szOk, bodyP, cNotInV, cPutD, m1, keyOf, some_has, h, dk_len, putD_dk, hz]
theorem stR_ev (hr : 1 ≤ r ∧ r ≤ 60) (hl : l.length ≤ 90000) : bodyT ⟨[a0, a1, a2, .val (.int r), .own (DK l), .val (.int t), r6, a7, a8], p⟩ = some (.nx, ⟨[a0, a1, a2, .val (.int r), .own (DK (stR r l t)), .val (.int t), .val (.int (-1)), a7, a8], p⟩) := by
  have hl1 := put1_len l (t + 1 * r) 1
  have p1 := put1_ev (a0 := a0) (a1 := a1) (a2 := a2) (a7 := a7) (a8 := a8) (p := p) (l := l) (t := t) (s := 1) hr (.inl rfl) (by omega)
  have p2 := put1_ev (a0 := a0) (a1 := a1) (a2 := a2) (a7 := a7) (a8 := a8) (p := p) (l := put1 l (t + 1 * r) 1) (t := t) (s := -1) hr (.inr rfl) (by omega)
  simp only [cFz, at40, at41, at42, at43, at20, at21, at30, at31, at32, List.set, dMod_ev, Int.reduceMod, Int.reduceLT, Int.reduceSub, Int.reduceMul, Int.reduceToNat, Nat.reduceLT, Int.zero_add, Int.reduceLE, fAll_b, runF, cSeq, cIf, cSet, cRet, cRetN, cSkip, cCont, cBrk, cVar, cD, cBin, cUn, cBi, aNil, aCons, cTup, cLst, bT, bAnd, bOr, bNot, cAnd, cOr, cNot, cIte, cChain, cIsi, dTy, kb1, kb2, kb3, kb4, kb5, kb6, kb7, fAbs_ev, fMax_ev, fMin_ev, wipeS, Function.comp_apply, Function.comp_def, dIx, dGetAny, cPotGet, cPotSet, getP, setP, cCall, fInt, fLen, fTuple, fList, cLenV, dLt, dLe, dGt, dGe, dB2, dAdd, dSub_ev, dNeg, Nat.reduceLeDiff, cs0, cs1, cs2, cs3, cs4, cs5, cs6, cs7, cs8, cs9, cs10, cs11, cs12, Int.ofNat_eq_natCast, dEq_int, dNe_int, dEq_pair, dNe_pair, dIsN, dNotN, cPar, cPar3, cAsg, gN, gT, gsCons, gsNil, bdOf, cSl, oNone, oSome, dSl, iSeq, iRg1, iRg2, cExpr, dRev, List.map_cons, List.map_nil, List.length_cons, List.length_nil, List.cons_append, List.nil_append, List.append_nil, List.replicate, List.getElem?_cons_zero, List.getElem?_cons_succ, List.set_cons_zero, List.set_cons_succ, Option.bind_some, Option.map_some, Option.bind_none, Option.map_none, Nat.reduceAdd, Nat.reduceSub, Int.reduceAdd, Int.reduceNeg, decide_true, decide_false, Bool.not_true, Bool.not_false, if_true, if_false, Bool.false_eq_true, if_pos, reduceIte, reduceCtorEq, Option.some.injEq, Prod.mk.injEq, and_self, and_true, true_and, szOk, bodyT, cFor, forL, dNeg, p1, p2, stR]
theorem rowN_ev (hr : 1 ≤ r ∧ r ≤ 60) : ∀ (ks : List Int) (l : KV) (r5 r6 : Bd), l.length + 2 * ks.length ≤ 90000 → ∃ r5' r6', forL (gN 5) bodyT (ks.map .int) ⟨[a0, a1, a2, .val (.int r), .own (DK l), r5, r6, a7, a8], p⟩ = some (.nx, ⟨[a0, a1, a2, .val (.int r), .own (DK (ks.foldl (stR r) l)), r5', r6', a7, a8], p⟩)
  | [], l, r5, r6, _ => ⟨r5, r6, rfl⟩
  | u :: ks, l, r5, r6, hz => by
    rw [List.length_cons] at hz
    have e := stR_ev (a0 := a0) (a1 := a1) (a2 := a2) (a7 := a7) (a8 := a8) (p := p) (l := l) (t := u) (r6 := r6) hr (by omega)
    have hl := stR_len r l u
    obtain ⟨q5, q6, ih⟩ := rowN_ev hr ks (stR r l u) (.val (.int u)) (.val (.int (-1))) (by omega)
    refine ⟨q5, q6, ?_⟩
    simp only [List.map_cons, forL, gN, e, Option.bind_some, List.set_cons_succ, List.set_cons_zero, List.foldl_cons]
    exact ih
theorem rows_ev : ∀ (ss rs : List Int) (ls : List KV) (r3 r4 r5 r6 : Bd), Rw rs ls → (∀ r ∈ ss, 1 ≤ r ∧ r ≤ 60) → (lastKs ls).length ≤ 2 ^ rs.length → rs.length + ss.length ≤ 12 →
    ∃ ls' r3' r4' r5' r6', Rw (rs ++ ss) ls' ∧ forL (gN 3) bodyW (ss.map .int) ⟨[a0, a1, .own (.lst (DR ls)), r3, r4, r5, r6, a7, a8], p⟩ = some (.nx, ⟨[a0, a1, .own (.lst (DR ls')), r3', r4', r5', r6', a7, a8], p⟩)
  | [], rs, ls, r3, r4, r5, r6, w, _, _, _ => ⟨ls, r3, r4, r5, r6, by rw [List.append_nil]; exact w, rfl⟩
  | s :: ss, rs, ls, r3, r4, r5, r6, w, hs, hk, hn => by
    rw [List.length_cons] at hn
    have h12 : 2 ^ rs.length ≤ 2 ^ 12 := Nat.pow_le_pow_right (by decide) (by omega)
    obtain ⟨ks, e1, e2⟩ := DR_last ls
    obtain ⟨q5, q6, e3⟩ := rowN_ev (a0 := a0) (a1 := a1) (a2 := .own (.lst (DR ls))) (a7 := a7) (a8 := a8) (p := p) (hs s (.head _)) (lastKs ls) [] r5 r6 (by simp; omega)
    have w2 := w.snoc (r := s) (lastKs_c w)
    have hk2 : lastKs (ls ++ [rowN s (lastKs ls)]) = ky (rowN s (lastKs ls)) := by unfold lastKs; rw [List.getLast?_concat]
    obtain ⟨ls', t3, t4, t5, t6, w3, ih⟩ := rows_ev ss (rs ++ [s]) (ls ++ [rowN s (lastKs ls)]) (.val (.int s)) (.val (DK (rowN s (lastKs ls)))) q5 q6 w2 (fun r hr => hs r (.tail _ hr)) (by
      rw [hk2, List.length_map, List.length_append, List.length_singleton, Nat.pow_succ]
      have := rowN_len (r := s) (ks := lastKs ls)
      omega) (by rw [List.length_append, List.length_singleton]; omega)
    refine ⟨ls', t3, t4, t5, t6, by simpa using w3, ?_⟩
    have hz : (DR ls).length ≤ 16777215 := by rw [List.length_cons, List.length_map, w.len]; omega
    have e4 : cFor (iKey (cIxV 2 (cUn dNeg (cD (.int 1))))) (gN 5) bodyT ⟨[a0, a1, .own (.lst (DR ls)), .val (.int s), .own (DK []), r5, r6, a7, a8], p⟩ = some (.nx, ⟨[a0, a1, .own (.lst (DR ls)), .val (.int s), .own (DK (rowN s (lastKs ls))), q5, q6, a7, a8], p⟩) := by
      simp only [cFz, at40, at41, at42, at43, at20, at21, at30, at31, at32, List.set, dMod_ev, Int.reduceMod, Int.reduceLT, Int.reduceSub, Int.reduceMul, Int.reduceToNat, Nat.reduceLT, Int.zero_add, Int.reduceLE, fAll_b, runF, cSeq, cIf, cSet, cRet, cRetN, cSkip, cCont, cBrk, cVar, cD, cBin, cUn, cBi, aNil, aCons, cTup, cLst, bT, bAnd, bOr, bNot, cAnd, cOr, cNot, cIte, cChain, cIsi, dTy, kb1, kb2, kb3, kb4, kb5, kb6, kb7, fAbs_ev, fMax_ev, fMin_ev, wipeS, Function.comp_apply, Function.comp_def, dIx, dGetAny, cPotGet, cPotSet, getP, setP, cCall, fInt, fLen, fTuple, fList, cLenV, dLt, dLe, dGt, dGe, dB2, dAdd, dSub_ev, dNeg, Nat.reduceLeDiff, cs0, cs1, cs2, cs3, cs4, cs5, cs6, cs7, cs8, cs9, cs10, cs11, cs12, Int.ofNat_eq_natCast, dEq_int, dNe_int, dEq_pair, dNe_pair, dIsN, dNotN, cPar, cPar3, cAsg, gN, gT, gsCons, gsNil, bdOf, cSl, oNone, oSome, dSl, iSeq, iRg1, iRg2, cExpr, dRev, List.map_cons, List.map_nil, List.length_cons, List.length_nil, List.cons_append, List.nil_append, List.append_nil, List.replicate, List.getElem?_cons_zero, List.getElem?_cons_succ, List.set_cons_zero, List.set_cons_succ, Option.bind_some, Option.map_some, Option.bind_none, Option.map_none, Nat.reduceAdd, Nat.reduceSub, Int.reduceAdd, Int.reduceNeg, decide_true, decide_false, Bool.not_true, Bool.not_false, if_true, if_false, Bool.false_eq_true, if_pos, reduceIte, reduceCtorEq, Option.some.injEq, Prod.mk.injEq, and_self, and_true, true_and, szOk, cFor, iKey, cIxV, dNeg, e1, e2]
      exact e3
    have ed : DR (ls ++ [rowN s (lastKs ls)]) = DR ls ++ [DK (rowN s (lastKs ls))] := by simp [DR]
    have body : bodyW ⟨[a0, a1, .own (.lst (DR ls)), .val (.int s), r4, r5, r6, a7, a8], p⟩ = some (.nx, ⟨[a0, a1, .own (.lst (DR (ls ++ [rowN s (lastKs ls)]))), .val (.int s), .val (DK (rowN s (lastKs ls))), q5, q6, a7, a8], p⟩) := by
      rw [ed]
      generalize DR ls = X at *
      refine seq_nx (s1 := ⟨[a0, a1, .own (.lst X), .val (.int s), .own (DK []), r5, r6, a7, a8], p⟩) (by simp only [cFz, at40, at41, at42, at43, at20, at21, at30, at31, at32, List.set, dMod_ev, Int.reduceMod, Int.reduceLT, Int.reduceSub, Int.reduceMul, Int.reduceToNat, Nat.reduceLT, Int.zero_add, Int.reduceLE, fAll_b, runF, cSeq, cIf, cSet, cRet, cRetN, cSkip, cCont, cBrk, cVar, cD, cBin, cUn, cBi, aNil, aCons, cTup, cLst, bT, bAnd, bOr, bNot, cAnd, cOr, cNot, cIte, cChain, cIsi, dTy, kb1, kb2, kb3, kb4, kb5, kb6, kb7, fAbs_ev, fMax_ev, fMin_ev, wipeS, Function.comp_apply, Function.comp_def, dIx, dGetAny, cPotGet, cPotSet, getP, setP, cCall, fInt, fLen, fTuple, fList, cLenV, dLt, dLe, dGt, dGe, dB2, dAdd, dSub_ev, dNeg, Nat.reduceLeDiff, cs0, cs1, cs2, cs3, cs4, cs5, cs6, cs7, cs8, cs9, cs10, cs11, cs12, Int.ofNat_eq_natCast, dEq_int, dNe_int, dEq_pair, dNe_pair, dIsN, dNotN, cPar, cPar3, cAsg, gN, gT, gsCons, gsNil, bdOf, cSl, oNone, oSome, dSl, iSeq, iRg1, iRg2, cExpr, dRev, List.map_cons, List.map_nil, List.length_cons, List.length_nil, List.cons_append, List.nil_append, List.append_nil, List.replicate, List.getElem?_cons_zero, List.getElem?_cons_succ, List.set_cons_zero, List.set_cons_succ, Option.bind_some, Option.map_some, Option.bind_none, Option.map_none, Nat.reduceAdd, Nat.reduceSub, Int.reduceAdd, Int.reduceNeg, decide_true, decide_false, Bool.not_true, Bool.not_false, if_true, if_false, Bool.false_eq_true, if_pos, reduceIte, reduceCtorEq, Option.some.injEq, Prod.mk.injEq, and_self, and_true, true_and, szOk, cDic0]; rfl) (seq_nx e4 (by simp only [cFz, at40, at41, at42, at43, at20, at21, at30, at31, at32, List.set, dMod_ev, Int.reduceMod, Int.reduceLT, Int.reduceSub, Int.reduceMul, Int.reduceToNat, Nat.reduceLT, Int.zero_add, Int.reduceLE, fAll_b, runF, cSeq, cIf, cSet, cRet, cRetN, cSkip, cCont, cBrk, cVar, cD, cBin, cUn, cBi, aNil, aCons, cTup, cLst, bT, bAnd, bOr, bNot, cAnd, cOr, cNot, cIte, cChain, cIsi, dTy, kb1, kb2, kb3, kb4, kb5, kb6, kb7, fAbs_ev, fMax_ev, fMin_ev, wipeS, Function.comp_apply, Function.comp_def, dIx, dGetAny, cPotGet, cPotSet, getP, setP, cCall, fInt, fLen, fTuple, fList, cLenV, dLt, dLe, dGt, dGe, dB2, dAdd, dSub_ev, dNeg, Nat.reduceLeDiff, cs0, cs1, cs2, cs3, cs4, cs5, cs6, cs7, cs8, cs9, cs10, cs11, cs12, Int.ofNat_eq_natCast, dEq_int, dNe_int, dEq_pair, dNe_pair, dIsN, dNotN, cPar, cPar3, cAsg, gN, gT, gsCons, gsNil, bdOf, cSl, oNone, oSome, dSl, iSeq, iRg1, iRg2, cExpr, dRev, List.map_cons, List.map_nil, List.length_cons, List.length_nil, List.cons_append, List.nil_append, List.append_nil, List.replicate, List.getElem?_cons_zero, List.getElem?_cons_succ, List.set_cons_zero, List.set_cons_succ, Option.bind_some, Option.map_some, Option.bind_none, Option.map_none, Nat.reduceAdd, Nat.reduceSub, Int.reduceAdd, Int.reduceNeg, decide_true, decide_false, Bool.not_true, Bool.not_false, if_true, if_false, Bool.false_eq_true, if_pos, reduceIte, reduceCtorEq, Option.some.injEq, Prod.mk.injEq, and_self, and_true, true_and, szOk, cApp, hz]))
    simp only [List.map_cons, forL, gN, body, Option.bind_some, List.set_cons_succ, List.set_cons_zero]
    exact ih
end
end Lk11

namespace Lk11
open PySem PySem.Spec PyProof.Rows L2 Rb
def bodyG : SS := (cSeq (cSet 6 (cBin dGetAny (cIxV 2 (cVar 8)) (cVar 1)))
  (cSeq (cApp 7 (cVar 6))
  (cAug 1 (fun i j => i - j) (cBin dMulI (cVar 6) (cBin dGetAny (cVar 0) (cBin dSub (cVar 8) (cD (.int 1))))))))
theorem dwn_succ (k : Nat) : dwnL ((k + 1 : Nat) : Int) (k + 1) = .int ((k + 1 : Nat) : Int) :: dwnL (k : Int) k := by
  unfold dwnL
  rw [List.range_succ_eq_map, List.map_cons, List.map_map]
  congr 1
  refine List.map_congr_left fun i _ => ?_
  simp only [Function.comp_def]
  congr 1
  show ((k + 1 : Nat) : Int) + ((i + 1 : Nat) : Int) * -1 = (k : Int) + (i : Int) * -1
  omega
section
variable {rs ms : List Int} {ls : List KV} {p : Pt} {x y g t : Int} {r3 r4 r5 r6 r8 : Bd}
theorem back_ev (w : Rw rs ls) (hr : ∀ r ∈ rs, 1 ≤ r ∧ r ≤ 60) : ∀ (k : Nat) (g : Int) (acc : List Int) (r6 r8 : Bd), k ≤ rs.length → 0 < c (rs.take k) g → acc.length + k ≤ 1000 →
    ∃ (ss : List Int) (g' : Int) (r6' r8' : Bd), ss.length = k ∧ (∀ s ∈ ss, s = 1 ∨ s = -1) ∧ forL (gN 8) bodyG (dwnL (k : Int) k) ⟨[.val (T rs), .val (.int g), .own (.lst (DR ls)), r3, r4, r5, r6, .own (.lst (acc.map .int)), r8], p⟩ = some (.nx, ⟨[.val (T rs), .val (.int g'), .own (.lst (DR ls)), r3, r4, r5, r6', .own (.lst ((acc ++ ss).map .int)), r8'], p⟩)
  | 0, g, acc, r6, r8, _, _, _ => ⟨[], g, r6, r8, rfl, by simp, by simp [dwnL, forL]⟩
  | k + 1, g, acc, r6, r8, hk, hc, hz => by
    have hl : k < ls.length := by rw [w.len]; omega
    have h1 : ls[k]? = some ls[k] := List.getElem?_eq_getElem hl
    have h2 : rs[k]? = some rs[k] := List.getElem?_eq_getElem (by omega)
    have hm := (w.ks k _ h1 g).2 hc
    have hv := valD_in ls[k] g hm
    obtain ⟨z, hz1, hz2⟩ := List.mem_map.1 hm
    have hg : gi ls[k] g = z.2 := by rw [← hz2]; exact gi_mem (w.nd k _ h1) hz1
    obtain ⟨s1, s2⟩ := w.sg k _ _ h1 h2 z hz1
    rw [hg] at hv
    rw [hz2] at s2
    generalize z.2 = s at *
    have hrk := hr rs[k] (List.getElem_mem _)
    have m1 := dMul_i (a := s) (b := rs[k]) (by omega) (by omega)
    obtain ⟨ss, g', q6, q8, i1, i2, ih⟩ := back_ev w hr k (g - s * rs[k]) (acc ++ [s]) (.val (.int s)) (.val (.int ((k + 1 : Nat) : Int))) (by omega) s2 (by rw [List.length_append, List.length_singleton]; omega)
    refine ⟨s :: ss, g', q6, q8, by simp [i1], fun t ht => ?_, ?_⟩
    · rcases List.mem_cons.1 ht with rfl | ht
      · exact s1
      · exact i2 t ht
    · have g1 : L2.atI (DR ls) ((k + 1 : Nat) : Int) = some (DK ls[k]) := by
        refine atI_nat ?_
        rw [List.getElem?_cons_succ, List.getElem?_map, h1]; rfl
      have g2 : L2.atI (rs.map D.int) (((k + 1 : Nat) : Int) - 1) = some (.int rs[k]) := by
        have e : ((k + 1 : Nat) : Int) - 1 = (k : Int) := by omega
        rw [e]
        refine atI_nat ?_
        rw [List.getElem?_map, h2]; rfl
      have hz3 : (acc.map D.int).length ≤ 16777215 := by rw [List.length_map]; omega
      have em : (acc ++ s :: ss).map D.int = ((acc ++ [s]) ++ ss).map .int := by simp
      have ed : (acc.map D.int) ++ [.int s] = (acc ++ [s]).map .int := by simp
      have body : bodyG ⟨[.val (T rs), .val (.int g), .own (.lst (DR ls)), r3, r4, r5, r6, .own (.lst (acc.map .int)), .val (.int ((k + 1 : Nat) : Int))], p⟩ = some (.nx, ⟨[.val (T rs), .val (.int (g - s * rs[k])), .own (.lst (DR ls)), r3, r4, r5, .val (.int s), .own (.lst ((acc ++ [s]).map .int)), .val (.int ((k + 1 : Nat) : Int))], p⟩) := by
        rw [← ed]
        generalize DR ls = X at *
        generalize ((k + 1 : Nat) : Int) = kk at *
        simp only [cFz, at40, at41, at42, at43, at20, at21, at30, at31, at32, List.set, dMod_ev, Int.reduceMod, Int.reduceLT, Int.reduceSub, Int.reduceMul, Int.reduceToNat, Nat.reduceLT, Int.zero_add, Int.reduceLE, fAll_b, runF, cSeq, cIf, cSet, cRet, cRetN, cSkip, cCont, cBrk, cVar, cD, cBin, cUn, cBi, aNil, aCons, cTup, cLst, bT, bAnd, bOr, bNot, cAnd, cOr, cNot, cIte, cChain, cIsi, dTy, kb1, kb2, kb3, kb4, kb5, kb6, kb7, fAbs_ev, fMax_ev, fMin_ev, wipeS, Function.comp_apply, Function.comp_def, dIx, dGetAny, cPotGet, cPotSet, getP, setP, cCall, fInt, fLen, fTuple, fList, cLenV, dLt, dLe, dGt, dGe, dB2, dAdd, dSub_ev, dNeg, Nat.reduceLeDiff, cs0, cs1, cs2, cs3, cs4, cs5, cs6, cs7, cs8, cs9, cs10, cs11, cs12, Int.ofNat_eq_natCast, dEq_int, dNe_int, dEq_pair, dNe_pair, dIsN, dNotN, cPar, cPar3, cAsg, gN, gT, gsCons, gsNil, bdOf, cSl, oNone, oSome, dSl, iSeq, iRg1, iRg2, cExpr, dRev, List.map_cons, List.map_nil, List.length_cons, List.length_nil, List.cons_append, List.nil_append, List.append_nil, List.replicate, List.getElem?_cons_zero, List.getElem?_cons_succ, List.set_cons_zero, List.set_cons_succ, Option.bind_some, Option.map_some, Option.bind_none, Option.map_none, Nat.reduceAdd, Nat.reduceSub, Int.reduceAdd, Int.reduceNeg, decide_true, decide_false, Bool.not_true, Bool.not_false, if_true, if_false, Bool.false_eq_true, if_pos, reduceIte, reduceCtorEq, Option.some.injEq, Prod.mk.injEq, and_self, and_true, true_and, szOk, bodyG, cIxV, g1, dDGet, keyOf, hv, cApp, hz3, g2, m1, cAug]
      rw [dwn_succ, em]
      simp only [forL, gN, body, Option.bind_some, List.set_cons_succ, List.set_cons_zero]
      exact ih
def Sg (rs : List Int) (g : Int) (d : D) : Prop := (0 < c rs g ∧ ∃ ss : List Int, d = .lst (ss.map .int) ∧ ss.length = rs.length ∧ ∀ s ∈ ss, s = 1 ∨ s = -1) ∨ (¬ 0 < c rs g ∧ d = .non)
theorem signs_ev (v : Rods rs) (g : Int) : ∃ d, f_told_signs [T rs, .int g] p = some (d, p) ∧ Sg rs g d := by
  obtain ⟨ls, r3, r4, r5, r6, w, e1⟩ := rows_ev (a0 := .val (T rs)) (a1 := .val (.int g)) (a7 := .no) (a8 := .no) (p := p) rs [] [] .no .no .no .no Rw.nil v.rb (by simp [lastKs]) (by simpa using v.l1)
  rw [List.nil_append] at w
  have e2 : s_told_signs_1 ⟨[.val (T rs), .val (.int g), .own (.lst (DR [])), .no, .no, .no, .no, .no, .no], p⟩ = some (.nx, ⟨[.val (T rs), .val (.int g), .own (.lst (DR ls)), r3, r4, r5, r6, .no, .no], p⟩) := by
    show cFor (iSeq (cVar 0)) (gN 3) bodyW _ = _
    simp only [cFz, at40, at41, at42, at43, at20, at21, at30, at31, at32, List.set, dMod_ev, Int.reduceMod, Int.reduceLT, Int.reduceSub, Int.reduceMul, Int.reduceToNat, Nat.reduceLT, Int.zero_add, Int.reduceLE, fAll_b, runF, cSeq, cIf, cSet, cRet, cRetN, cSkip, cCont, cBrk, cVar, cD, cBin, cUn, cBi, aNil, aCons, cTup, cLst, bT, bAnd, bOr, bNot, cAnd, cOr, cNot, cIte, cChain, cIsi, dTy, kb1, kb2, kb3, kb4, kb5, kb6, kb7, fAbs_ev, fMax_ev, fMin_ev, wipeS, Function.comp_apply, Function.comp_def, dIx, dGetAny, cPotGet, cPotSet, getP, setP, cCall, fInt, fLen, fTuple, fList, cLenV, dLt, dLe, dGt, dGe, dB2, dAdd, dSub_ev, dNeg, Nat.reduceLeDiff, cs0, cs1, cs2, cs3, cs4, cs5, cs6, cs7, cs8, cs9, cs10, cs11, cs12, Int.ofNat_eq_natCast, dEq_int, dNe_int, dEq_pair, dNe_pair, dIsN, dNotN, cPar, cPar3, cAsg, gN, gT, gsCons, gsNil, bdOf, cSl, oNone, oSome, dSl, iSeq, iRg1, iRg2, cExpr, dRev, List.map_cons, List.map_nil, List.length_cons, List.length_nil, List.cons_append, List.nil_append, List.append_nil, List.replicate, List.getElem?_cons_zero, List.getElem?_cons_succ, List.set_cons_zero, List.set_cons_succ, Option.bind_some, Option.map_some, Option.bind_none, Option.map_none, Nat.reduceAdd, Nat.reduceSub, Int.reduceAdd, Int.reduceNeg, decide_true, decide_false, Bool.not_true, Bool.not_false, if_true, if_false, Bool.false_eq_true, if_pos, reduceIte, reduceCtorEq, Option.some.injEq, Prod.mk.injEq, and_self, and_true, true_and, szOk, cFor]
    exact e1
  obtain ⟨ks, l1, l2⟩ := DR_last ls
  have hin : (valD ks (.inl g)).isSome = decide (0 < c rs g) := by
    rcases List.eq_nil_or_concat ls with rfl | ⟨l', b, e⟩
    · have h1 := w.len; have h2 := v.l0; simp at h1; omega
    · rw [List.concat_eq_append] at e
      subst e
      have : DR (l' ++ [b]) = (D0 :: l'.map DK) ++ [DK b] := by simp [DR]
      rw [this, atI_last] at l1
      cases l1
      rw [some_has]
      have hl := w.len
      rw [List.length_append, List.length_singleton] at hl
      have hk := w.ks l'.length b (by rw [List.getElem?_append_right (Nat.le_refl _)]; simp) g
      rw [List.take_of_length_le (by omega)] at hk
      by_cases q : 0 < c rs g
      · rw [decide_eq_true q, has_mem]; exact hk.2 q
      · rw [decide_eq_false q]
        cases hh : has b g with
        | false => rfl
        | true => exact absurd (hk.1 (has_mem.1 hh)) q
  have x0 : s_told_signs_0 ⟨[.val (T rs), .val (.int g), .no, .no, .no, .no, .no, .no, .no], p⟩ = some (.nx, ⟨[.val (T rs), .val (.int g), .own (.lst (DR [])), .no, .no, .no, .no, .no, .no], p⟩) := by
    simp only [cFz, at40, at41, at42, at43, at20, at21, at30, at31, at32, List.set, dMod_ev, Int.reduceMod, Int.reduceLT, Int.reduceSub, Int.reduceMul, Int.reduceToNat, Nat.reduceLT, Int.zero_add, Int.reduceLE, fAll_b, runF, cSeq, cIf, cSet, cRet, cRetN, cSkip, cCont, cBrk, cVar, cD, cBin, cUn, cBi, aNil, aCons, cTup, cLst, bT, bAnd, bOr, bNot, cAnd, cOr, cNot, cIte, cChain, cIsi, dTy, kb1, kb2, kb3, kb4, kb5, kb6, kb7, fAbs_ev, fMax_ev, fMin_ev, wipeS, Function.comp_apply, Function.comp_def, dIx, dGetAny, cPotGet, cPotSet, getP, setP, cCall, fInt, fLen, fTuple, fList, cLenV, dLt, dLe, dGt, dGe, dB2, dAdd, dSub_ev, dNeg, Nat.reduceLeDiff, cs0, cs1, cs2, cs3, cs4, cs5, cs6, cs7, cs8, cs9, cs10, cs11, cs12, Int.ofNat_eq_natCast, dEq_int, dNe_int, dEq_pair, dNe_pair, dIsN, dNotN, cPar, cPar3, cAsg, gN, gT, gsCons, gsNil, bdOf, cSl, oNone, oSome, dSl, iSeq, iRg1, iRg2, cExpr, dRev, List.map_cons, List.map_nil, List.length_cons, List.length_nil, List.cons_append, List.nil_append, List.append_nil, List.replicate, List.getElem?_cons_zero, List.getElem?_cons_succ, List.set_cons_zero, List.set_cons_succ, Option.bind_some, Option.map_some, Option.bind_none, Option.map_none, Nat.reduceAdd, Nat.reduceSub, Int.reduceAdd, Int.reduceNeg, decide_true, decide_false, Bool.not_true, Bool.not_false, if_true, if_false, Bool.false_eq_true, if_pos, reduceIte, reduceCtorEq, Option.some.injEq, Prod.mk.injEq, and_self, and_true, true_and, szOk, s_told_signs_0, cDic1, keyOf]
    rfl
  by_cases q : 0 < c rs g
  · obtain ⟨ss, g', q6, q8, i1, i2, e3⟩ := back_ev (p := p) (r3 := r3) (r4 := r4) (r5 := r5) w v.rb rs.length g [] r6 .no (Nat.le_refl _) (by rw [List.take_length]; exact q) (by have := v.l1; simp; omega)
    simp only [List.nil_append, List.map_nil] at e3
    have hr1 : rgOk (rs.length : Int) = true := rgOk_of (by omega) (by have := v.l1; omega)
    have hr2 : rgOk 0 = true := rfl
    have ht : ((rs.length : Int) - 0).toNat = rs.length := by omega
    have ht2 : (rs.length : Int).toNat = rs.length := by omega
    have hb : ((-1 : Int) == -1) = true := rfl
    refine ⟨.lst (ss.reverse.map .int), ?_, .inl ⟨q, ss.reverse, rfl, by simp [i1], fun s hs => i2 s (List.mem_reverse.1 hs)⟩⟩
    have e4 : s_told_signs_4 ⟨[.val (T rs), .val (.int g), .own (.lst (DR ls)), r3, r4, r5, r6, .own (.lst []), .no], p⟩ = some (.nx, ⟨[.val (T rs), .val (.int g'), .own (.lst (DR ls)), r3, r4, r5, q6, .own (.lst (ss.map .int)), q8], p⟩) := by
      show cFor (iRg3 (aCons (cBi fLen (aCons (cVar 0) aNil)) (aCons (cD (.int 0)) (aCons (cUn dNeg (cD (.int 1))) aNil)))) (gN 8) bodyG _ = _
      generalize DR ls = X at *
      simp only [cFz, at40, at41, at42, at43, at20, at21, at30, at31, at32, List.set, dMod_ev, Int.reduceMod, Int.reduceLT, Int.reduceSub, Int.reduceMul, Int.reduceToNat, Nat.reduceLT, Int.zero_add, Int.reduceLE, fAll_b, runF, cSeq, cIf, cSet, cRet, cRetN, cSkip, cCont, cBrk, cVar, cD, cBin, cUn, cBi, aNil, aCons, cTup, cLst, bT, bAnd, bOr, bNot, cAnd, cOr, cNot, cIte, cChain, cIsi, dTy, kb1, kb2, kb3, kb4, kb5, kb6, kb7, fAbs_ev, fMax_ev, fMin_ev, wipeS, Function.comp_apply, Function.comp_def, dIx, dGetAny, cPotGet, cPotSet, getP, setP, cCall, fInt, fLen, fTuple, fList, cLenV, dLt, dLe, dGt, dGe, dB2, dAdd, dSub_ev, dNeg, Nat.reduceLeDiff, cs0, cs1, cs2, cs3, cs4, cs5, cs6, cs7, cs8, cs9, cs10, cs11, cs12, Int.ofNat_eq_natCast, dEq_int, dNe_int, dEq_pair, dNe_pair, dIsN, dNotN, cPar, cPar3, cAsg, gN, gT, gsCons, gsNil, bdOf, cSl, oNone, oSome, dSl, iSeq, iRg1, iRg2, cExpr, dRev, List.map_cons, List.map_nil, List.length_cons, List.length_nil, List.cons_append, List.nil_append, List.append_nil, List.replicate, List.getElem?_cons_zero, List.getElem?_cons_succ, List.set_cons_zero, List.set_cons_succ, Option.bind_some, Option.map_some, Option.bind_none, Option.map_none, Nat.reduceAdd, Nat.reduceSub, Int.reduceAdd, Int.reduceNeg, decide_true, decide_false, Bool.not_true, Bool.not_false, if_true, if_false, Bool.false_eq_true, if_pos, reduceIte, reduceCtorEq, Option.some.injEq, Prod.mk.injEq, and_self, and_true, true_and, szOk, cFor, iRg3, List.length_map, dNeg, hr1, hr2, hb, Bool.and_self, ht, ht2, Int.sub_zero]
      exact e3
    refine run_rt (n := 9) (c := c_told_signs) (ds := [T rs, .int g]) (seq_nx x0 (seq_nx e2 (seq_nx (s1 := ⟨[.val (T rs), .val (.int g), .own (.lst (DR ls)), r3, r4, r5, r6, .no, .no], p⟩) ?_ (seq_nx (s1 := ⟨[.val (T rs), .val (.int g), .own (.lst (DR ls)), r3, r4, r5, r6, .own (.lst []), .no], p⟩) ?_ (seq_nx e4 (b := s_told_signs_5) (r := some (.rt (.lst (ss.reverse.map .int)), ⟨[.val (T rs), .val (.int g'), .own (.lst (DR ls)), r3, r4, r5, q6, .val (.lst (ss.map .int)), q8], p⟩)) ?_)))))
    · generalize DR ls = X at *
      simp only [cFz, at40, at41, at42, at43, at20, at21, at30, at31, at32, List.set, dMod_ev, Int.reduceMod, Int.reduceLT, Int.reduceSub, Int.reduceMul, Int.reduceToNat, Nat.reduceLT, Int.zero_add, Int.reduceLE, fAll_b, runF, cSeq, cIf, cSet, cRet, cRetN, cSkip, cCont, cBrk, cVar, cD, cBin, cUn, cBi, aNil, aCons, cTup, cLst, bT, bAnd, bOr, bNot, cAnd, cOr, cNot, cIte, cChain, cIsi, dTy, kb1, kb2, kb3, kb4, kb5, kb6, kb7, fAbs_ev, fMax_ev, fMin_ev, wipeS, Function.comp_apply, Function.comp_def, dIx, dGetAny, cPotGet, cPotSet, getP, setP, cCall, fInt, fLen, fTuple, fList, cLenV, dLt, dLe, dGt, dGe, dB2, dAdd, dSub_ev, dNeg, Nat.reduceLeDiff, cs0, cs1, cs2, cs3, cs4, cs5, cs6, cs7, cs8, cs9, cs10, cs11, cs12, Int.ofNat_eq_natCast, dEq_int, dNe_int, dEq_pair, dNe_pair, dIsN, dNotN, cPar, cPar3, cAsg, gN, gT, gsCons, gsNil, bdOf, cSl, oNone, oSome, dSl, iSeq, iRg1, iRg2, cExpr, dRev, List.map_cons, List.map_nil, List.length_cons, List.length_nil, List.cons_append, List.nil_append, List.append_nil, List.replicate, List.getElem?_cons_zero, List.getElem?_cons_succ, List.set_cons_zero, List.set_cons_succ, Option.bind_some, Option.map_some, Option.bind_none, Option.map_none, Nat.reduceAdd, Nat.reduceSub, Int.reduceAdd, Int.reduceNeg, decide_true, decide_false, Bool.not_true, Bool.not_false, if_true, if_false, Bool.false_eq_true, if_pos, reduceIte, reduceCtorEq, Option.some.injEq, Prod.mk.injEq, and_self, and_true, true_and, szOk, s_told_signs_2, cIxV, dNeg, l1, dNotIn, keyOf, hin, q]
    · generalize DR ls = X at *
      simp only [cFz, at40, at41, at42, at43, at20, at21, at30, at31, at32, List.set, dMod_ev, Int.reduceMod, Int.reduceLT, Int.reduceSub, Int.reduceMul, Int.reduceToNat, Nat.reduceLT, Int.zero_add, Int.reduceLE, fAll_b, runF, cSeq, cIf, cSet, cRet, cRetN, cSkip, cCont, cBrk, cVar, cD, cBin, cUn, cBi, aNil, aCons, cTup, cLst, bT, bAnd, bOr, bNot, cAnd, cOr, cNot, cIte, cChain, cIsi, dTy, kb1, kb2, kb3, kb4, kb5, kb6, kb7, fAbs_ev, fMax_ev, fMin_ev, wipeS, Function.comp_apply, Function.comp_def, dIx, dGetAny, cPotGet, cPotSet, getP, setP, cCall, fInt, fLen, fTuple, fList, cLenV, dLt, dLe, dGt, dGe, dB2, dAdd, dSub_ev, dNeg, Nat.reduceLeDiff, cs0, cs1, cs2, cs3, cs4, cs5, cs6, cs7, cs8, cs9, cs10, cs11, cs12, Int.ofNat_eq_natCast, dEq_int, dNe_int, dEq_pair, dNe_pair, dIsN, dNotN, cPar, cPar3, cAsg, gN, gT, gsCons, gsNil, bdOf, cSl, oNone, oSome, dSl, iSeq, iRg1, iRg2, cExpr, dRev, List.map_cons, List.map_nil, List.length_cons, List.length_nil, List.cons_append, List.nil_append, List.append_nil, List.replicate, List.getElem?_cons_zero, List.getElem?_cons_succ, List.set_cons_zero, List.set_cons_succ, Option.bind_some, Option.map_some, Option.bind_none, Option.map_none, Nat.reduceAdd, Nat.reduceSub, Int.reduceAdd, Int.reduceNeg, decide_true, decide_false, Bool.not_true, Bool.not_false, if_true, if_false, Bool.false_eq_true, if_pos, reduceIte, reduceCtorEq, Option.some.injEq, Prod.mk.injEq, and_self, and_true, true_and, szOk, s_told_signs_3]
    · generalize DR ls = X at *
      simp only [cFz, at40, at41, at42, at43, at20, at21, at30, at31, at32, List.set, dMod_ev, Int.reduceMod, Int.reduceLT, Int.reduceSub, Int.reduceMul, Int.reduceToNat, Nat.reduceLT, Int.zero_add, Int.reduceLE, fAll_b, runF, cSeq, cIf, cSet, cRet, cRetN, cSkip, cCont, cBrk, cVar, cD, cBin, cUn, cBi, aNil, aCons, cTup, cLst, bT, bAnd, bOr, bNot, cAnd, cOr, cNot, cIte, cChain, cIsi, dTy, kb1, kb2, kb3, kb4, kb5, kb6, kb7, fAbs_ev, fMax_ev, fMin_ev, wipeS, Function.comp_apply, Function.comp_def, dIx, dGetAny, cPotGet, cPotSet, getP, setP, cCall, fInt, fLen, fTuple, fList, cLenV, dLt, dLe, dGt, dGe, dB2, dAdd, dSub_ev, dNeg, Nat.reduceLeDiff, cs0, cs1, cs2, cs3, cs4, cs5, cs6, cs7, cs8, cs9, cs10, cs11, cs12, Int.ofNat_eq_natCast, dEq_int, dNe_int, dEq_pair, dNe_pair, dIsN, dNotN, cPar, cPar3, cAsg, gN, gT, gsCons, gsNil, bdOf, cSl, oNone, oSome, dSl, iSeq, iRg1, iRg2, cExpr, dRev, List.map_cons, List.map_nil, List.length_cons, List.length_nil, List.cons_append, List.nil_append, List.append_nil, List.replicate, List.getElem?_cons_zero, List.getElem?_cons_succ, List.set_cons_zero, List.set_cons_succ, Option.bind_some, Option.map_some, Option.bind_none, Option.map_none, Nat.reduceAdd, Nat.reduceSub, Int.reduceAdd, Int.reduceNeg, decide_true, decide_false, Bool.not_true, Bool.not_false, if_true, if_false, Bool.false_eq_true, if_pos, reduceIte, reduceCtorEq, Option.some.injEq, Prod.mk.injEq, and_self, and_true, true_and, szOk, s_told_signs_5, ← List.map_reverse]
  · refine ⟨.non, ?_, .inr ⟨q, rfl⟩⟩
    refine run_rt (n := 9) (c := c_told_signs) (ds := [T rs, .int g]) (s := ⟨[.val (T rs), .val (.int g), .own (.lst (DR ls)), r3, r4, r5, r6, .no, .no], p⟩) (seq_nx x0 (seq_nx e2 (seq_rt ?_)))
    generalize DR ls = X at *
    simp only [cFz, at40, at41, at42, at43, at20, at21, at30, at31, at32, List.set, dMod_ev, Int.reduceMod, Int.reduceLT, Int.reduceSub, Int.reduceMul, Int.reduceToNat, Nat.reduceLT, Int.zero_add, Int.reduceLE, fAll_b, runF, cSeq, cIf, cSet, cRet, cRetN, cSkip, cCont, cBrk, cVar, cD, cBin, cUn, cBi, aNil, aCons, cTup, cLst, bT, bAnd, bOr, bNot, cAnd, cOr, cNot, cIte, cChain, cIsi, dTy, kb1, kb2, kb3, kb4, kb5, kb6, kb7, fAbs_ev, fMax_ev, fMin_ev, wipeS, Function.comp_apply, Function.comp_def, dIx, dGetAny, cPotGet, cPotSet, getP, setP, cCall, fInt, fLen, fTuple, fList, cLenV, dLt, dLe, dGt, dGe, dB2, dAdd, dSub_ev, dNeg, Nat.reduceLeDiff, cs0, cs1, cs2, cs3, cs4, cs5, cs6, cs7, cs8, cs9, cs10, cs11, cs12, Int.ofNat_eq_natCast, dEq_int, dNe_int, dEq_pair, dNe_pair, dIsN, dNotN, cPar, cPar3, cAsg, gN, gT, gsCons, gsNil, bdOf, cSl, oNone, oSome, dSl, iSeq, iRg1, iRg2, cExpr, dRev, List.map_cons, List.map_nil, List.length_cons, List.length_nil, List.cons_append, List.nil_append, List.append_nil, List.replicate, List.getElem?_cons_zero, List.getElem?_cons_succ, List.set_cons_zero, List.set_cons_succ, Option.bind_some, Option.map_some, Option.bind_none, Option.map_none, Nat.reduceAdd, Nat.reduceSub, Int.reduceAdd, Int.reduceNeg, decide_true, decide_false, Bool.not_true, Bool.not_false, if_true, if_false, Bool.false_eq_true, if_pos, reduceIte, reduceCtorEq, Option.some.injEq, Prod.mk.injEq, and_self, and_true, true_and, szOk, s_told_signs_2, cIxV, dNeg, l1, dNotIn, keyOf, hin, q]
/-! ### told_pose -/
def wf (a b : Int) : Int := if a = 1 then (if b = 1 then 0 else 1) else (if b = -1 then 2 else 3)
theorem way_ev {a b : Int} (ha : a = 1 ∨ a = -1) (hb : b = 1 ∨ b = -1) : f_way_of [.int a, .int b] p = some (.int (wf a b), p) := by
  rcases ha with rfl | rfl <;> rcases hb with rfl | rfl <;> rfl
theorem tpose_ev (v : Rods rs) (x y : Int) : ∃ d, f_told_pose [T rs, pt x y] p = some (d, p) ∧ ((rch rs x y = true ∧ ∃ ws : List Int, d = T ws) ∨ (rch rs x y = false ∧ d = .non)) := by
  obtain ⟨d1, e1, h1⟩ := signs_ev (p := p) v (x + y)
  obtain ⟨d2, e2, h2⟩ := signs_ev (p := p) v (x - y)
  unfold rch
  rcases h1 with ⟨c1, ss, rfl, l1, b1⟩ | ⟨c1, rfl⟩
  · rcases h2 with ⟨c2, ts, rfl, l2, b2⟩ | ⟨c2, rfl⟩
    · let φ : D → D := fun d => match d with
        | .tup [.int a, .int b] => .int (wf a b)
        | _ => .non
      have e := lc_two (it := Rb.iZip (aCons (cVar 2) (aCons (cVar 3) aNil))) (te := cCall f_way_of (aCons (cVar 4) (aCons (cVar 5) aNil))) (i := 4) (j := 5) (p := p) (r := [.val (T rs), .val (pt x y), .val (.lst (ss.map .int)), .val (.lst (ts.map .int)), .no, .no]) (s0 := ⟨[.val (T rs), .val (pt x y), .val (.lst (ss.map .int)), .val (.lst (ts.map .int)), .no, .no], p⟩) (bi := .no) (bj := .no)
        (ds := (List.zip ss ts).map fun z => .tup [.int z.1, .int z.2]) (φ := φ) (by
          rw [← zipD_ints]
          simp only [cFz, at40, at41, at42, at43, at20, at21, at30, at31, at32, List.set, dMod_ev, Int.reduceMod, Int.reduceLT, Int.reduceSub, Int.reduceMul, Int.reduceToNat, Nat.reduceLT, Int.zero_add, Int.reduceLE, fAll_b, runF, cSeq, cIf, cSet, cRet, cRetN, cSkip, cCont, cBrk, cVar, cD, cBin, cUn, cBi, aNil, aCons, cTup, cLst, bT, bAnd, bOr, bNot, cAnd, cOr, cNot, cIte, cChain, cIsi, dTy, kb1, kb2, kb3, kb4, kb5, kb6, kb7, fAbs_ev, fMax_ev, fMin_ev, wipeS, Function.comp_apply, Function.comp_def, dIx, dGetAny, cPotGet, cPotSet, getP, setP, cCall, fInt, fLen, fTuple, fList, cLenV, dLt, dLe, dGt, dGe, dB2, dAdd, dSub_ev, dNeg, Nat.reduceLeDiff, cs0, cs1, cs2, cs3, cs4, cs5, cs6, cs7, cs8, cs9, cs10, cs11, cs12, Int.ofNat_eq_natCast, dEq_int, dNe_int, dEq_pair, dNe_pair, dIsN, dNotN, cPar, cPar3, cAsg, gN, gT, gsCons, gsNil, bdOf, cSl, oNone, oSome, dSl, iSeq, iRg1, iRg2, cExpr, dRev, List.map_cons, List.map_nil, List.length_cons, List.length_nil, List.cons_append, List.nil_append, List.append_nil, List.replicate, List.getElem?_cons_zero, List.getElem?_cons_succ, List.set_cons_zero, List.set_cons_succ, Option.bind_some, Option.map_some, Option.bind_none, Option.map_none, Nat.reduceAdd, Nat.reduceSub, Int.reduceAdd, Int.reduceNeg, decide_true, decide_false, Bool.not_true, Bool.not_false, if_true, if_false, Bool.false_eq_true, if_pos, reduceIte, reduceCtorEq, Option.some.injEq, Prod.mk.injEq, and_self, and_true, true_and, szOk, Rb.iZip, seqOf]) rfl rfl rfl rfl (fun d hd => by
          obtain ⟨z, hz, rfl⟩ := List.mem_map.1 hd
          have hm := List.of_mem_zip (a := z.1) (b := z.2) hz
          refine ⟨_, _, rfl, false, ?_⟩
          simp only [cFz, at40, at41, at42, at43, at20, at21, at30, at31, at32, List.set, dMod_ev, Int.reduceMod, Int.reduceLT, Int.reduceSub, Int.reduceMul, Int.reduceToNat, Nat.reduceLT, Int.zero_add, Int.reduceLE, fAll_b, runF, cSeq, cIf, cSet, cRet, cRetN, cSkip, cCont, cBrk, cVar, cD, cBin, cUn, cBi, aNil, aCons, cTup, cLst, bT, bAnd, bOr, bNot, cAnd, cOr, cNot, cIte, cChain, cIsi, dTy, kb1, kb2, kb3, kb4, kb5, kb6, kb7, fAbs_ev, fMax_ev, fMin_ev, wipeS, Function.comp_apply, Function.comp_def, dIx, dGetAny, cPotGet, cPotSet, getP, setP, cCall, fInt, fLen, fTuple, fList, cLenV, dLt, dLe, dGt, dGe, dB2, dAdd, dSub_ev, dNeg, Nat.reduceLeDiff, cs0, cs1, cs2, cs3, cs4, cs5, cs6, cs7, cs8, cs9, cs10, cs11, cs12, Int.ofNat_eq_natCast, dEq_int, dNe_int, dEq_pair, dNe_pair, dIsN, dNotN, cPar, cPar3, cAsg, gN, gT, gsCons, gsNil, bdOf, cSl, oNone, oSome, dSl, iSeq, iRg1, iRg2, cExpr, dRev, List.map_cons, List.map_nil, List.length_cons, List.length_nil, List.cons_append, List.nil_append, List.append_nil, List.replicate, List.getElem?_cons_zero, List.getElem?_cons_succ, List.set_cons_zero, List.set_cons_succ, Option.bind_some, Option.map_some, Option.bind_none, Option.map_none, Nat.reduceAdd, Nat.reduceSub, Int.reduceAdd, Int.reduceNeg, decide_true, decide_false, Bool.not_true, Bool.not_false, if_true, if_false, Bool.false_eq_true, if_pos, reduceIte, reduceCtorEq, Option.some.injEq, Prod.mk.injEq, and_self, and_true, true_and, szOk, wipeB, φ, way_ev (b1 _ hm.1) (b2 _ hm.2)]) (by rw [List.length_map, List.length_zip]; have := v.l1; omega)
      have em : ((List.zip ss ts).map fun z => D.tup [.int z.1, .int z.2]).map φ = ((List.zip ss ts).map fun z => wf z.1 z.2).map .int := by
        rw [List.map_map, List.map_map]; rfl
      rw [em] at e
      refine ⟨T ((List.zip ss ts).map fun z => wf z.1 z.2), ?_, .inl ⟨by simp [c1, c2], _, rfl⟩⟩
      simp only [cFz, at40, at41, at42, at43, at20, at21, at30, at31, at32, List.set, dMod_ev, Int.reduceMod, Int.reduceLT, Int.reduceSub, Int.reduceMul, Int.reduceToNat, Nat.reduceLT, Int.zero_add, Int.reduceLE, fAll_b, runF, cSeq, cIf, cSet, cRet, cRetN, cSkip, cCont, cBrk, cVar, cD, cBin, cUn, cBi, aNil, aCons, cTup, cLst, bT, bAnd, bOr, bNot, cAnd, cOr, cNot, cIte, cChain, cIsi, dTy, kb1, kb2, kb3, kb4, kb5, kb6, kb7, fAbs_ev, fMax_ev, fMin_ev, wipeS, Function.comp_apply, Function.comp_def, dIx, dGetAny, cPotGet, cPotSet, getP, setP, cCall, fInt, fLen, fTuple, fList, cLenV, dLt, dLe, dGt, dGe, dB2, dAdd, dSub_ev, dNeg, Nat.reduceLeDiff, cs0, cs1, cs2, cs3, cs4, cs5, cs6, cs7, cs8, cs9, cs10, cs11, cs12, Int.ofNat_eq_natCast, dEq_int, dNe_int, dEq_pair, dNe_pair, dIsN, dNotN, cPar, cPar3, cAsg, gN, gT, gsCons, gsNil, bdOf, cSl, oNone, oSome, dSl, iSeq, iRg1, iRg2, cExpr, dRev, List.map_cons, List.map_nil, List.length_cons, List.length_nil, List.cons_append, List.nil_append, List.append_nil, List.replicate, List.getElem?_cons_zero, List.getElem?_cons_succ, List.set_cons_zero, List.set_cons_succ, Option.bind_some, Option.map_some, Option.bind_none, Option.map_none, Nat.reduceAdd, Nat.reduceSub, Int.reduceAdd, Int.reduceNeg, decide_true, decide_false, Bool.not_true, Bool.not_false, if_true, if_false, Bool.false_eq_true, if_pos, reduceIte, reduceCtorEq, Option.some.injEq, Prod.mk.injEq, and_self, and_true, true_and, szOk, f_told_pose, c_told_pose, e1, e2, e]
    · refine ⟨.non, ?_, .inr ⟨by simp [c2], rfl⟩⟩
      simp only [cFz, at40, at41, at42, at43, at20, at21, at30, at31, at32, List.set, dMod_ev, Int.reduceMod, Int.reduceLT, Int.reduceSub, Int.reduceMul, Int.reduceToNat, Nat.reduceLT, Int.zero_add, Int.reduceLE, fAll_b, runF, cSeq, cIf, cSet, cRet, cRetN, cSkip, cCont, cBrk, cVar, cD, cBin, cUn, cBi, aNil, aCons, cTup, cLst, bT, bAnd, bOr, bNot, cAnd, cOr, cNot, cIte, cChain, cIsi, dTy, kb1, kb2, kb3, kb4, kb5, kb6, kb7, fAbs_ev, fMax_ev, fMin_ev, wipeS, Function.comp_apply, Function.comp_def, dIx, dGetAny, cPotGet, cPotSet, getP, setP, cCall, fInt, fLen, fTuple, fList, cLenV, dLt, dLe, dGt, dGe, dB2, dAdd, dSub_ev, dNeg, Nat.reduceLeDiff, cs0, cs1, cs2, cs3, cs4, cs5, cs6, cs7, cs8, cs9, cs10, cs11, cs12, Int.ofNat_eq_natCast, dEq_int, dNe_int, dEq_pair, dNe_pair, dIsN, dNotN, cPar, cPar3, cAsg, gN, gT, gsCons, gsNil, bdOf, cSl, oNone, oSome, dSl, iSeq, iRg1, iRg2, cExpr, dRev, List.map_cons, List.map_nil, List.length_cons, List.length_nil, List.cons_append, List.nil_append, List.append_nil, List.replicate, List.getElem?_cons_zero, List.getElem?_cons_succ, List.set_cons_zero, List.set_cons_succ, Option.bind_some, Option.map_some, Option.bind_none, Option.map_none, Nat.reduceAdd, Nat.reduceSub, Int.reduceAdd, Int.reduceNeg, decide_true, decide_false, Bool.not_true, Bool.not_false, if_true, if_false, Bool.false_eq_true, if_pos, reduceIte, reduceCtorEq, Option.some.injEq, Prod.mk.injEq, and_self, and_true, true_and, szOk, f_told_pose, c_told_pose, e1, e2]
  · refine ⟨.non, ?_, .inr ⟨by simp [c1], rfl⟩⟩
    rcases h2 with ⟨c2, ts, rfl, l2, b2⟩ | ⟨c2, rfl⟩
    · simp only [cFz, at40, at41, at42, at43, at20, at21, at30, at31, at32, List.set, dMod_ev, Int.reduceMod, Int.reduceLT, Int.reduceSub, Int.reduceMul, Int.reduceToNat, Nat.reduceLT, Int.zero_add, Int.reduceLE, fAll_b, runF, cSeq, cIf, cSet, cRet, cRetN, cSkip, cCont, cBrk, cVar, cD, cBin, cUn, cBi, aNil, aCons, cTup, cLst, bT, bAnd, bOr, bNot, cAnd, cOr, cNot, cIte, cChain, cIsi, dTy, kb1, kb2, kb3, kb4, kb5, kb6, kb7, fAbs_ev, fMax_ev, fMin_ev, wipeS, Function.comp_apply, Function.comp_def, dIx, dGetAny, cPotGet, cPotSet, getP, setP, cCall, fInt, fLen, fTuple, fList, cLenV, dLt, dLe, dGt, dGe, dB2, dAdd, dSub_ev, dNeg, Nat.reduceLeDiff, cs0, cs1, cs2, cs3, cs4, cs5, cs6, cs7, cs8, cs9, cs10, cs11, cs12, Int.ofNat_eq_natCast, dEq_int, dNe_int, dEq_pair, dNe_pair, dIsN, dNotN, cPar, cPar3, cAsg, gN, gT, gsCons, gsNil, bdOf, cSl, oNone, oSome, dSl, iSeq, iRg1, iRg2, cExpr, dRev, List.map_cons, List.map_nil, List.length_cons, List.length_nil, List.cons_append, List.nil_append, List.append_nil, List.replicate, List.getElem?_cons_zero, List.getElem?_cons_succ, List.set_cons_zero, List.set_cons_succ, Option.bind_some, Option.map_some, Option.bind_none, Option.map_none, Nat.reduceAdd, Nat.reduceSub, Int.reduceAdd, Int.reduceNeg, decide_true, decide_false, Bool.not_true, Bool.not_false, if_true, if_false, Bool.false_eq_true, if_pos, reduceIte, reduceCtorEq, Option.some.injEq, Prod.mk.injEq, and_self, and_true, true_and, szOk, f_told_pose, c_told_pose, e1, e2]
    · simp only [cFz, at40, at41, at42, at43, at20, at21, at30, at31, at32, List.set, dMod_ev, Int.reduceMod, Int.reduceLT, Int.reduceSub, Int.reduceMul, Int.reduceToNat, Nat.reduceLT, Int.zero_add, Int.reduceLE, fAll_b, runF, cSeq, cIf, cSet, cRet, cRetN, cSkip, cCont, cBrk, cVar, cD, cBin, cUn, cBi, aNil, aCons, cTup, cLst, bT, bAnd, bOr, bNot, cAnd, cOr, cNot, cIte, cChain, cIsi, dTy, kb1, kb2, kb3, kb4, kb5, kb6, kb7, fAbs_ev, fMax_ev, fMin_ev, wipeS, Function.comp_apply, Function.comp_def, dIx, dGetAny, cPotGet, cPotSet, getP, setP, cCall, fInt, fLen, fTuple, fList, cLenV, dLt, dLe, dGt, dGe, dB2, dAdd, dSub_ev, dNeg, Nat.reduceLeDiff, cs0, cs1, cs2, cs3, cs4, cs5, cs6, cs7, cs8, cs9, cs10, cs11, cs12, Int.ofNat_eq_natCast, dEq_int, dNe_int, dEq_pair, dNe_pair, dIsN, dNotN, cPar, cPar3, cAsg, gN, gT, gsCons, gsNil, bdOf, cSl, oNone, oSome, dSl, iSeq, iRg1, iRg2, cExpr, dRev, List.map_cons, List.map_nil, List.length_cons, List.length_nil, List.cons_append, List.nil_append, List.append_nil, List.replicate, List.getElem?_cons_zero, List.getElem?_cons_succ, List.set_cons_zero, List.set_cons_succ, Option.bind_some, Option.map_some, Option.bind_none, Option.map_none, Nat.reduceAdd, Nat.reduceSub, Int.reduceAdd, Int.reduceNeg, decide_true, decide_false, Bool.not_true, Bool.not_false, if_true, if_false, Bool.false_eq_true, if_pos, reduceIte, reduceCtorEq, Option.some.injEq, Prod.mk.injEq, and_self, and_true, true_and, szOk, f_told_pose, c_told_pose, e1, e2]
/-! ### reach -/
theorem sh_strs {n : Nat} {x : Str} (h : PyData.canLay0 (.str x) = true) : D.sh n (.str x) = true := by cases n <;> exact h
theorem eq_pp : dEq (.str "pose") (.str "pose") = some (.bl true, false) := dEq_rfl (sh_strs (by decide +kernel)) rfl
theorem eq_op : dEq (.str "odd") (.str "pose") = some (.bl false, false) := by
  have h1 : D.sh 64 (.str "odd") = true := sh_strs (by decide +kernel)
  have h2 : D.sh 64 (.str "pose") = true := sh_strs (by decide +kernel)
  have h3 : (("odd" : Str) == ("pose" : Str)) = false := by decide +kernel
  simp only [dEq, h1, h2, Bool.and_self, if_true, eqB_str, h3]
theorem eq_fp : dEq (.str "far") (.str "pose") = some (.bl false, false) := by
  have h1 : D.sh 64 (.str "far") = true := sh_strs (by decide +kernel)
  have h2 : D.sh 64 (.str "pose") = true := sh_strs (by decide +kernel)
  have h3 : (("far" : Str) == ("pose" : Str)) = false := by decide +kernel
  simp only [dEq, h1, h2, Bool.and_self, if_true, eqB_str, h3]
theorem eq_sp : dEq (.str "sums") (.str "pose") = some (.bl false, false) := by
  have h1 : D.sh 64 (.str "sums") = true := sh_strs (by decide +kernel)
  have h2 : D.sh 64 (.str "pose") = true := sh_strs (by decide +kernel)
  have h3 : (("sums" : Str) == ("pose" : Str)) = false := by decide +kernel
  simp only [dEq, h1, h2, Bool.and_self, if_true, eqB_str, h3]
theorem reach_ev (v : Rods rs) (a : Poi x y) (h64 : (sm rs).length < 64) : ∃ w rest, f_reach [T rs, pt x y] p = some (.tup (.str w :: rest), p) ∧ dEq (.str w) (.str "pose") = some (.bl (rch rs x y), false) := by
  obtain ⟨d, e, h⟩ := tpose_ev (p := p) v x y
  have es := fSum_t (ns := rs)
  rcases h with ⟨hr, ws, rfl⟩ | ⟨hr, rfl⟩
  · refine ⟨"pose", [T ws], ?_, by rw [hr]; exact eq_pp⟩
    simp only [cFz, at40, at41, at42, at43, at20, at21, at30, at31, at32, List.set, dMod_ev, Int.reduceMod, Int.reduceLT, Int.reduceSub, Int.reduceMul, Int.reduceToNat, Nat.reduceLT, Int.zero_add, Int.reduceLE, fAll_b, runF, cSeq, cIf, cSet, cRet, cRetN, cSkip, cCont, cBrk, cVar, cD, cBin, cUn, cBi, aNil, aCons, cTup, cLst, bT, bAnd, bOr, bNot, cAnd, cOr, cNot, cIte, cChain, cIsi, dTy, kb1, kb2, kb3, kb4, kb5, kb6, kb7, fAbs_ev, fMax_ev, fMin_ev, wipeS, Function.comp_apply, Function.comp_def, dIx, dGetAny, cPotGet, cPotSet, getP, setP, cCall, fInt, fLen, fTuple, fList, cLenV, dLt, dLe, dGt, dGe, dB2, dAdd, dSub_ev, dNeg, Nat.reduceLeDiff, cs0, cs1, cs2, cs3, cs4, cs5, cs6, cs7, cs8, cs9, cs10, cs11, cs12, Int.ofNat_eq_natCast, dEq_int, dNe_int, dEq_pair, dNe_pair, dIsN, dNotN, cPar, cPar3, cAsg, gN, gT, gsCons, gsNil, bdOf, cSl, oNone, oSome, dSl, iSeq, iRg1, iRg2, cExpr, dRev, List.map_cons, List.map_nil, List.length_cons, List.length_nil, List.cons_append, List.nil_append, List.append_nil, List.replicate, List.getElem?_cons_zero, List.getElem?_cons_succ, List.set_cons_zero, List.set_cons_succ, Option.bind_some, Option.map_some, Option.bind_none, Option.map_none, Nat.reduceAdd, Nat.reduceSub, Int.reduceAdd, Int.reduceNeg, decide_true, decide_false, Bool.not_true, Bool.not_false, if_true, if_false, Bool.false_eq_true, if_pos, reduceIte, reduceCtorEq, Option.some.injEq, Prod.mk.injEq, and_self, and_true, true_and, szOk, f_reach, c_reach, s_reach_0, s_reach_1, s_reach_2, look_reach_ev v a, e, dNotN]
  · rw [hr]
    by_cases q1 : (x + y - rs.sum) % 2 = 0
    · by_cases q2 : ab x + ab y > rs.sum
      · refine ⟨"far", [], ?_, eq_fp⟩
        simp only [cFz, at40, at41, at42, at43, at20, at21, at30, at31, at32, List.set, dMod_ev, Int.reduceMod, Int.reduceLT, Int.reduceSub, Int.reduceMul, Int.reduceToNat, Nat.reduceLT, Int.zero_add, Int.reduceLE, fAll_b, runF, cSeq, cIf, cSet, cRet, cRetN, cSkip, cCont, cBrk, cVar, cD, cBin, cUn, cBi, aNil, aCons, cTup, cLst, bT, bAnd, bOr, bNot, cAnd, cOr, cNot, cIte, cChain, cIsi, dTy, kb1, kb2, kb3, kb4, kb5, kb6, kb7, fAbs_ev, fMax_ev, fMin_ev, wipeS, Function.comp_apply, Function.comp_def, dIx, dGetAny, cPotGet, cPotSet, getP, setP, cCall, fInt, fLen, fTuple, fList, cLenV, dLt, dLe, dGt, dGe, dB2, dAdd, dSub_ev, dNeg, Nat.reduceLeDiff, cs0, cs1, cs2, cs3, cs4, cs5, cs6, cs7, cs8, cs9, cs10, cs11, cs12, Int.ofNat_eq_natCast, dEq_int, dNe_int, dEq_pair, dNe_pair, dIsN, dNotN, cPar, cPar3, cAsg, gN, gT, gsCons, gsNil, bdOf, cSl, oNone, oSome, dSl, iSeq, iRg1, iRg2, cExpr, dRev, List.map_cons, List.map_nil, List.length_cons, List.length_nil, List.cons_append, List.nil_append, List.append_nil, List.replicate, List.getElem?_cons_zero, List.getElem?_cons_succ, List.set_cons_zero, List.set_cons_succ, Option.bind_some, Option.map_some, Option.bind_none, Option.map_none, Nat.reduceAdd, Nat.reduceSub, Int.reduceAdd, Int.reduceNeg, decide_true, decide_false, Bool.not_true, Bool.not_false, if_true, if_false, Bool.false_eq_true, if_pos, reduceIte, reduceCtorEq, Option.some.injEq, Prod.mk.injEq, and_self, and_true, true_and, szOk, f_reach, c_reach, s_reach_0, s_reach_1, s_reach_2, s_reach_3, s_reach_4, look_reach_ev v a, e, dNotN, es, q1, q2]
      · by_cases q3 : has (sm rs) (x + y) = true
        · refine ⟨"sums", [.str "difference", T (srt (Kl rs))], ?_, eq_sp⟩
          simp only [cFz, at40, at41, at42, at43, at20, at21, at30, at31, at32, List.set, dMod_ev, Int.reduceMod, Int.reduceLT, Int.reduceSub, Int.reduceMul, Int.reduceToNat, Nat.reduceLT, Int.zero_add, Int.reduceLE, fAll_b, runF, cSeq, cIf, cSet, cRet, cRetN, cSkip, cCont, cBrk, cVar, cD, cBin, cUn, cBi, aNil, aCons, cTup, cLst, bT, bAnd, bOr, bNot, cAnd, cOr, cNot, cIte, cChain, cIsi, dTy, kb1, kb2, kb3, kb4, kb5, kb6, kb7, fAbs_ev, fMax_ev, fMin_ev, wipeS, Function.comp_apply, Function.comp_def, dIx, dGetAny, cPotGet, cPotSet, getP, setP, cCall, fInt, fLen, fTuple, fList, cLenV, dLt, dLe, dGt, dGe, dB2, dAdd, dSub_ev, dNeg, Nat.reduceLeDiff, cs0, cs1, cs2, cs3, cs4, cs5, cs6, cs7, cs8, cs9, cs10, cs11, cs12, Int.ofNat_eq_natCast, dEq_int, dNe_int, dEq_pair, dNe_pair, dIsN, dNotN, cPar, cPar3, cAsg, gN, gT, gsCons, gsNil, bdOf, cSl, oNone, oSome, dSl, iSeq, iRg1, iRg2, cExpr, dRev, List.map_cons, List.map_nil, List.length_cons, List.length_nil, List.cons_append, List.nil_append, List.append_nil, List.replicate, List.getElem?_cons_zero, List.getElem?_cons_succ, List.set_cons_zero, List.set_cons_succ, Option.bind_some, Option.map_some, Option.bind_none, Option.map_none, Nat.reduceAdd, Nat.reduceSub, Int.reduceAdd, Int.reduceNeg, decide_true, decide_false, Bool.not_true, Bool.not_false, if_true, if_false, Bool.false_eq_true, if_pos, reduceIte, reduceCtorEq, Option.some.injEq, Prod.mk.injEq, and_self, and_true, true_and, szOk, f_reach, c_reach, s_reach_0, s_reach_1, s_reach_2, s_reach_3, s_reach_4, s_reach_5, s_reach_6, look_reach_ev v a, e, dNotN, es, q1, q2, sums_ev v, dNotIn, keyOf, some_has, q3, srtD_ev v h64]
        · have q3 : has (sm rs) (x + y) = false := by simpa using q3
          refine ⟨"sums", [.str "sum", T (srt (Kl rs))], ?_, eq_sp⟩
          simp only [cFz, at40, at41, at42, at43, at20, at21, at30, at31, at32, List.set, dMod_ev, Int.reduceMod, Int.reduceLT, Int.reduceSub, Int.reduceMul, Int.reduceToNat, Nat.reduceLT, Int.zero_add, Int.reduceLE, fAll_b, runF, cSeq, cIf, cSet, cRet, cRetN, cSkip, cCont, cBrk, cVar, cD, cBin, cUn, cBi, aNil, aCons, cTup, cLst, bT, bAnd, bOr, bNot, cAnd, cOr, cNot, cIte, cChain, cIsi, dTy, kb1, kb2, kb3, kb4, kb5, kb6, kb7, fAbs_ev, fMax_ev, fMin_ev, wipeS, Function.comp_apply, Function.comp_def, dIx, dGetAny, cPotGet, cPotSet, getP, setP, cCall, fInt, fLen, fTuple, fList, cLenV, dLt, dLe, dGt, dGe, dB2, dAdd, dSub_ev, dNeg, Nat.reduceLeDiff, cs0, cs1, cs2, cs3, cs4, cs5, cs6, cs7, cs8, cs9, cs10, cs11, cs12, Int.ofNat_eq_natCast, dEq_int, dNe_int, dEq_pair, dNe_pair, dIsN, dNotN, cPar, cPar3, cAsg, gN, gT, gsCons, gsNil, bdOf, cSl, oNone, oSome, dSl, iSeq, iRg1, iRg2, cExpr, dRev, List.map_cons, List.map_nil, List.length_cons, List.length_nil, List.cons_append, List.nil_append, List.append_nil, List.replicate, List.getElem?_cons_zero, List.getElem?_cons_succ, List.set_cons_zero, List.set_cons_succ, Option.bind_some, Option.map_some, Option.bind_none, Option.map_none, Nat.reduceAdd, Nat.reduceSub, Int.reduceAdd, Int.reduceNeg, decide_true, decide_false, Bool.not_true, Bool.not_false, if_true, if_false, Bool.false_eq_true, if_pos, reduceIte, reduceCtorEq, Option.some.injEq, Prod.mk.injEq, and_self, and_true, true_and, szOk, f_reach, c_reach, s_reach_0, s_reach_1, s_reach_2, s_reach_3, s_reach_4, s_reach_5, s_reach_6, look_reach_ev v a, e, dNotN, es, q1, q2, sums_ev v, dNotIn, keyOf, some_has, q3, srtD_ev v h64]
    · refine ⟨"odd", [], ?_, eq_op⟩
      simp only [cFz, at40, at41, at42, at43, at20, at21, at30, at31, at32, List.set, dMod_ev, Int.reduceMod, Int.reduceLT, Int.reduceSub, Int.reduceMul, Int.reduceToNat, Nat.reduceLT, Int.zero_add, Int.reduceLE, fAll_b, runF, cSeq, cIf, cSet, cRet, cRetN, cSkip, cCont, cBrk, cVar, cD, cBin, cUn, cBi, aNil, aCons, cTup, cLst, bT, bAnd, bOr, bNot, cAnd, cOr, cNot, cIte, cChain, cIsi, dTy, kb1, kb2, kb3, kb4, kb5, kb6, kb7, fAbs_ev, fMax_ev, fMin_ev, wipeS, Function.comp_apply, Function.comp_def, dIx, dGetAny, cPotGet, cPotSet, getP, setP, cCall, fInt, fLen, fTuple, fList, cLenV, dLt, dLe, dGt, dGe, dB2, dAdd, dSub_ev, dNeg, Nat.reduceLeDiff, cs0, cs1, cs2, cs3, cs4, cs5, cs6, cs7, cs8, cs9, cs10, cs11, cs12, Int.ofNat_eq_natCast, dEq_int, dNe_int, dEq_pair, dNe_pair, dIsN, dNotN, cPar, cPar3, cAsg, gN, gT, gsCons, gsNil, bdOf, cSl, oNone, oSome, dSl, iSeq, iRg1, iRg2, cExpr, dRev, List.map_cons, List.map_nil, List.length_cons, List.length_nil, List.cons_append, List.nil_append, List.append_nil, List.replicate, List.getElem?_cons_zero, List.getElem?_cons_succ, List.set_cons_zero, List.set_cons_succ, Option.bind_some, Option.map_some, Option.bind_none, Option.map_none, Nat.reduceAdd, Nat.reduceSub, Int.reduceAdd, Int.reduceNeg, decide_true, decide_false, Bool.not_true, Bool.not_false, if_true, if_false, Bool.false_eq_true, if_pos, reduceIte, reduceCtorEq, Option.some.injEq, Prod.mk.injEq, and_self, and_true, true_and, szOk, f_reach, c_reach, s_reach_0, s_reach_1, s_reach_2, s_reach_3, look_reach_ev v a, e, dNotN, es, q1]
end
end Lk11

namespace Lk11
open PySem PySem.Spec PyProof.Rows L2 Rb
/-! ### the slots -/
structure Sl (r : List Bd) : Prop where
  len : r.length = 20
  pot : r[0]? = some (.val .pot)
  no : ∀ i, 15 ≤ i → i < 20 → r[i]? = some .no
theorem gs {r : List Bd} {i : Nat} {v : Bd} (h : i < r.length) : (r.set i v)[i]? = some v := List.getElem?_set_self h
theorem gn {r : List Bd} {i j : Nat} {v : Bd} {x : Option Bd} (h : r[j]? = x) (hij : i ≠ j) : (r.set i v)[j]? = x := by rw [List.getElem?_set_ne hij]; exact h
theorem Sl.set {r : List Bd} {i : Nat} {v : Bd} (s : Sl r) (h1 : 0 < i) (h2 : i < 15) : Sl (r.set i v) :=
  ⟨by rw [List.length_set]; exact s.len, gn s.pot (by omega), fun j a b => gn (s.no j a b) (by omega)⟩
def W (r : List Bd) (L : List (Nat × D)) : Prop := Sl r ∧ ∀ i d, L.lookup i = some d → r[i]? = some (.val d)
theorem W.set {r : List Bd} {L : List (Nat × D)} {i : Nat} {d : D} (w : W r L) (h1 : 0 < i) (h2 : i < 15) : W (r.set i (.val d)) ((i, d) :: L) := by
  refine ⟨w.1.set h1 h2, fun j e h => ?_⟩
  rw [List.lookup_cons] at h
  by_cases q : i = j
  · subst q
    simp at h
    subst h
    exact gs (by rw [w.1.len]; omega)
  · have : (j == i) = false := by simp; exact fun e => q e.symm
    rw [this] at h
    exact gn (w.2 j e h) q
theorem W.any {r : List Bd} {L : List (Nat × D)} {i : Nat} {b : Bd} (w : W r L) (h1 : 0 < i) (h2 : i < 15) (hn : L.lookup i = none) : W (r.set i b) L := by
  refine ⟨w.1.set h1 h2, fun j e h => ?_⟩
  have q : i ≠ j := fun q => by subst q; rw [hn] at h; cases h
  exact gn (w.2 j e h) q
theorem W.get {r : List Bd} {L : List (Nat × D)} {i : Nat} {d : D} (w : W r L) (h : L.lookup i = some d) : r[i]? = some (.val d) := w.2 i d h
theorem if_skip {t : ST} {s s' : S} (h : t s = some (false, s')) : cIf t (cRet (cD (.bl false))) cSkip s = some (.nx, s') := if_f h rfl
theorem ne_test0 {X Y : SE} {s : S} {x y : D} {b b' : Bool} (h : X s = some ((x, b), s)) (h' : Y s = some ((y, b'), s)) (hd : dNe x y = some (.bl false, false)) : bT (cBin dNe X Y) s = some (false, s) := by
  simp only [bT, cBin, h, h', hd, Option.bind_some, Option.map_some]
theorem ne_skip {X Y : SE} {s : S} {x y : D} {b b' : Bool} (h : X s = some ((x, b), s)) (h' : Y s = some ((y, b'), s)) (hd : dNe x y = some (.bl false, false)) : cIf (bT (cBin dNe X Y)) (cRet (cD (.bl false))) cSkip s = some (.nx, s) := if_skip (ne_test0 h h' hd)
theorem bOr_ff {ta tb : ST} {s s' s'' : S} (h1 : ta s = some (false, s')) (h2 : tb s' = some (false, s'')) : bOr ta tb s = some (false, s'') := by
  simp only [bOr, h1, h2, Option.bind_some, Bool.false_eq_true, if_false]
theorem bAnd_f {ta tb : ST} {s : S} (h1 : ta s = some (false, s) ∨ (ta s = some (true, s) ∧ tb s = some (false, s))) : bAnd ta tb s = some (false, s) := by
  rcases h1 with h | ⟨h, h'⟩
  · simp only [bAnd, h, Option.bind_some, Bool.false_eq_true, if_false]
  · simp only [bAnd, h, h', Option.bind_some, if_true]
theorem set_fz {c : SE} {s : S} {d : D} {b : Bool} {r : List Bd} {p : Pt} {i : Nat} (h : c s = some ((d, b), ⟨r, p⟩)) : cSet i (cFz c) s = some (.nx, ⟨r.set i (.val d), p⟩) := by
  simp only [cSet, cFz, h, Option.map_some]; rfl
theorem neT {xs ys : List Int} (h : xs = ys) : dNe (T xs) (T ys) = some (.bl false, false) := dNe_rfl (by rw [sh_tup64]; exact shL_ints xs) (by rw [h])
theorem neI {x y : Int} (h : x = y) : dNe (.int x) (.int y) = some (.bl false, false) := by rw [dNe_int]; simp [h]
theorem neB {x y : Bool} (h : x = y) : dNe (.bl x) (.bl y) = some (.bl false, false) := by rw [dNe_bl]; simp [h]
/-! ### plain -/
section
variable {rs ms : List Int} {x y m : Int}
theorem hm_pos : decide (hm rs x y > 0) = rch rs x y := by
  have n1 := c_nn (rs := rs) (t := x + y)
  have n2 := c_nn (rs := rs) (t := x - y)
  unfold hm rch
  by_cases h1 : 0 < c rs (x + y)
  · by_cases h2 : 0 < c rs (x - y)
    · have := Int.mul_pos h1 h2
      simp [h1, h2, this]
    · have e : c rs (x - y) = 0 := by omega
      simp [e]
  · have e : c rs (x + y) = 0 := by omega
    simp [e]
theorem c_swap {t u : Int} (h : u = t ∨ u = -t) : c rs u = c rs t := by
  rcases h with rfl | rfl
  · rfl
  · exact c_even
theorem moves : (hm rs (-y) x = hm rs x y ∧ rch rs (-y) x = rch rs x y) ∧ (hm rs (-x) (-y) = hm rs x y ∧ rch rs (-x) (-y) = rch rs x y) ∧ (hm rs x (-y) = hm rs x y ∧ rch rs x (-y) = rch rs x y) ∧ hm rs y x = hm rs x y ∧ rch rs y x = rch rs x y := by
  have e1 : c rs (-y + x) = c rs (x - y) := c_swap (by omega)
  have e2 : c rs (-y - x) = c rs (x + y) := c_swap (by omega)
  have e3 : c rs (-x + -y) = c rs (x + y) := c_swap (by omega)
  have e4 : c rs (-x - -y) = c rs (x - y) := c_swap (by omega)
  have e5 : c rs (x + -y) = c rs (x - y) := c_swap (by omega)
  have e6 : c rs (x - -y) = c rs (x + y) := c_swap (by omega)
  have e7 : c rs (y + x) = c rs (x + y) := c_swap (by omega)
  have e8 : c rs (y - x) = c rs (x - y) := c_swap (by omega)
  unfold hm rch
  rw [e1, e2, e3, e4, e5, e6, e7, e8]
  refine ⟨⟨Int.mul_comm _ _, Bool.and_comm _ _⟩, ⟨rfl, rfl⟩, ⟨Int.mul_comm _ _, Bool.and_comm _ _⟩, rfl, rfl⟩
theorem hm_more : hm (rs ++ [m]) x y = hm rs (x + m) y + (hm rs (x - m) y + (hm rs x (y + m) + (hm rs x (y - m) + 0))) := by
  unfold hm
  rw [c_snoc, c_snoc]
  have e1 : x + m + y = x + y + m := by omega
  have e2 : x + m - y = x - y + m := by omega
  have e3 : x - m + y = x + y - m := by omega
  have e4 : x - m - y = x - y - m := by omega
  have e5 : x + (y + m) = x + y + m := by omega
  have e6 : x - (y + m) = x - y - m := by omega
  have e7 : x + (y - m) = x + y - m := by omega
  have e8 : x - (y - m) = x - y + m := by omega
  rw [e1, e2, e3, e4, e5, e6, e7, e8]
  generalize c rs (x + y + m) = b
  generalize c rs (x + y - m) = a
  generalize c rs (x - y + m) = d
  generalize c rs (x - y - m) = e
  grind
theorem rch_more : rch (rs ++ [m]) x y = [rch rs (x + m) y, rch rs (x - m) y, rch rs x (y + m), rch rs x (y - m)].any id := by
  unfold rch
  rw [c_snoc, c_snoc]
  have e1 : x + m + y = x + y + m := by omega
  have e2 : x + m - y = x - y + m := by omega
  have e3 : x - m + y = x + y - m := by omega
  have e4 : x - m - y = x - y - m := by omega
  have e5 : x + (y + m) = x + y + m := by omega
  have e6 : x - (y + m) = x - y - m := by omega
  have e7 : x + (y - m) = x + y - m := by omega
  have e8 : x - (y - m) = x - y + m := by omega
  rw [e1, e2, e3, e4, e5, e6, e7, e8]
  have n1 := c_nn (rs := rs) (t := x + y + m)
  have n2 := c_nn (rs := rs) (t := x + y - m)
  have n3 := c_nn (rs := rs) (t := x - y + m)
  have n4 := c_nn (rs := rs) (t := x - y - m)
  generalize c rs (x + y + m) = b at *
  generalize c rs (x + y - m) = a at *
  generalize c rs (x - y + m) = d at *
  generalize c rs (x - y - m) = e at *
  have h1 : (0 < a + b) ↔ (0 < a ∨ 0 < b) := by omega
  have h2 : (0 < e + d) ↔ (0 < e ∨ 0 < d) := by omega
  have h1' : decide (0 < a + b) = (decide (0 < a) || decide (0 < b)) := by rw [← Bool.decide_or]; exact decide_eq_decide.2 h1
  have h2' : decide (0 < e + d) = (decide (0 < e) || decide (0 < d)) := by rw [← Bool.decide_or]; exact decide_eq_decide.2 h2
  rw [h1', h2']
  simp only [List.any_cons, List.any_nil, id_eq]
  cases decide (0 < a) <;> cases decide (0 < b) <;> cases decide (0 < d) <;> cases decide (0 < e) <;> rfl
theorem rch_near (v : Rods rs) (h : rch rs x y = true) : ab x + ab y ≤ rs.sum := by
  unfold rch at h
  rw [Bool.and_eq_true] at h
  have h1 := at_snoc v.pos (of_decide_eq_true h.1)
  have h2 := at_snoc v.pos (of_decide_eq_true h.2)
  unfold At at h1 h2
  unfold ab
  repeat' split
  all_goals omega
/-! all lengths as often -/
abbrev sc (k : Int) (rs : List Int) : List Int := rs.map (k * ·)
theorem sum_sc (k : Int) : ∀ rs : List Int, (sc k rs).sum = k * rs.sum
  | [] => by simp
  | r :: rs => by
    have := sum_sc k rs
    show (k * r :: sc k rs).sum = _
    rw [List.sum_cons, this, List.sum_cons, Int.mul_add]
theorem Kl_sc {k : Int} (hk : 0 < k) : Kl (sc k rs) = (Kl rs).map (k * ·) := by
  unfold Kl
  rw [sm_scl hk]
  unfold scl
  rw [List.map_map, List.map_map]; rfl
theorem len_sc {k : Int} (hk : 0 < k) : (sm (sc k rs)).length = (sm rs).length := by
  rw [sm_scl hk]; simp [scl]
theorem hm_sc {k : Int} (hk : 0 < k) : hm (sc k rs) (k * x) (k * y) = hm rs x y := by
  unfold hm
  rw [← Int.mul_add, ← Int.mul_sub, c_scl hk, c_scl hk]
theorem ab_sc {k a : Int} (hk : 0 < k) : ab (k * a) = k * ab a := by
  unfold ab
  by_cases h : a < 0
  · have : k * a < 0 := Int.mul_neg_of_pos_of_neg hk h
    rw [if_pos h, if_pos this, Int.mul_neg]
  · have : 0 ≤ k * a := Int.mul_nonneg (by omega) (by omega)
    rw [if_neg h, if_neg (by omega)]
theorem minL_is {ns : List Int} (h : 0 < ns.length) : minL ns ∈ ns ∧ ∀ n ∈ ns, minL ns ≤ n := by
  cases ns with
  | nil => simp at h
  | cons n ns =>
    have := foldl_min_le ns n
    refine ⟨?_, fun y hy => ?_⟩
    · rcases this.2.2 with q | q
      · show ns.foldl min n ∈ _
        rw [q]; exact .head _
      · exact .tail _ q
    · rcases List.mem_cons.1 hy with rfl | hy
      · exact this.1
      · exact this.2.1 y hy
theorem minL_sc {k : Int} (hk : 0 < k) {ns : List Int} (h : 0 < ns.length) : minL (ns.map (k * ·)) = k * minL ns := by
  obtain ⟨a1, a2⟩ := minL_is (ns := ns.map (k * ·)) (by rw [List.length_map]; exact h)
  obtain ⟨b1, b2⟩ := minL_is h
  obtain ⟨n, hn, e⟩ := List.mem_map.1 a1
  have h1 := a2 (k * minL ns) (List.mem_map.2 ⟨_, b1, rfl⟩)
  have h2 := Int.mul_le_mul_of_nonneg_left (b2 n hn) (Int.le_of_lt hk)
  omega
theorem least_sc {k : Int} (hk : 0 < k) : minL ((Kl (sc k rs)).map ab) = k * minL ((Kl rs).map ab) := by
  rw [Kl_sc hk, List.map_map]
  have : ((Kl rs).map (ab ∘ (k * ·))) = ((Kl rs).map ab).map (k * ·) := by
    rw [List.map_map]
    exact List.map_congr_left fun a _ => ab_sc hk
  rw [this]
  exact minL_sc hk (by rw [List.length_map]; exact List.length_pos_iff.2 Kl_ne)
structure Sm9 (rs : List Int) : Prop where
  v : Rods rs
  l8 : rs.length ≤ 8
  r9 : ∀ r ∈ rs, r ≤ 9
  h64 : (sm rs).length < 64
theorem sum_le9 : ∀ {rs : List Int} {B : Int}, (∀ r ∈ rs, 1 ≤ r ∧ r ≤ B) → rs.sum ≤ B * rs.length
  | [], _, _ => by simp
  | r :: rs, B, h => by
    have := sum_le9 (rs := rs) fun w hw => h w (.tail _ hw)
    have := h r (.head _)
    have e : B * ((rs.length + 1 : Nat) : Int) = B * rs.length + B := by rw [Int.natCast_add, Int.mul_add]; simp
    rw [List.sum_cons, List.length_cons]; omega
theorem Sm9.perm (s : Sm9 rs) (h : rs.Perm ms) : Rods ms := by
  refine ⟨by rw [← h.length_eq]; exact s.v.l0, by rw [← h.length_eq]; exact s.v.l1, fun r hr => s.v.rb r (h.mem_iff.2 hr), ?_⟩
  have := sum_le9 (rs := ms) (B := 9) fun r hr => ⟨(s.v.rb r (h.mem_iff.2 hr)).1, s.r9 r (h.mem_iff.2 hr)⟩
  have h1 := s.l8
  have h2 := h.length_eq
  omega
theorem Sm9.great {k : Int} (s : Sm9 rs) (hk : 2 ≤ k ∧ k ≤ 5) : Rods (sc k rs) := by
  have hb : ∀ r ∈ sc k rs, 1 ≤ r ∧ r ≤ 60 := fun r hr => by
    obtain ⟨q, hq, rfl⟩ := List.mem_map.1 hr
    have h1 := (s.v.rb q hq).1
    have h2 := s.r9 q hq
    have h3 := Int.mul_le_mul hk.2 h2 (by omega) (by decide)
    have h4 := Int.mul_le_mul hk.1 h1 (by decide) (by omega)
    omega
  have := sum_le9 hb
  have h1 := s.l8
  rw [List.length_map] at this
  exact ⟨by rw [List.length_map]; exact s.v.l0, by rw [List.length_map]; exact s.v.l1, hb, by omega⟩
theorem Sm9.more (s : Sm9 rs) (hm : 1 ≤ m ∧ m ≤ 9) : Rods (rs ++ [m]) := by
  have hb : ∀ r ∈ rs ++ [m], 1 ≤ r ∧ r ≤ 60 := fun r hr => by
    rcases List.mem_append.1 hr with hr | hr
    · exact s.v.rb r hr
    · rw [List.mem_singleton.1 hr]; omega
  have := sum_le9 hb
  have h1 := s.l8
  have h0 := s.v.l0
  rw [List.length_append, List.length_singleton] at this
  exact ⟨by rw [List.length_append]; simp, by rw [List.length_append, List.length_singleton]; omega, hb, by omega⟩
end
end Lk11

namespace Lk11
open PySem PySem.Spec PyProof.Rows L2 Rb
theorem takeK : Take f__law_take := take_ev (A := 95257) (B := 3163) (q0 := 2147483647) (q1 := 2147483629) (q2 := 2147483587) (q3 := 2147483579) (q4 := 2147483563) (C := 13441) (E := 419) (M := 2305843009213693907) (W := 229) (by decide)
theorem some_is : f__law_some = runF 6 (someC f__law_take) := rfl
theorem rods_is : f__law_rods_drawn = runF 4 (rodsC2 f__law_take) := rfl
theorem pose_is : f__law_pose_drawn = runF 3 (poseC f__law_take) := rfl
theorem perm_ints : ∀ {ns : List Int} {ds : List D}, ds.Perm (ns.map .int) → ∃ ms : List Int, ds = ms.map .int ∧ ms.Perm ns := fun {ns ds} h => by
  have hall : ∀ d ∈ ds, ∃ i, d = .int i := fun d hd => by
    obtain ⟨i, _, rfl⟩ := List.mem_map.1 (h.mem_iff.1 hd)
    exact ⟨i, rfl⟩
  have : ∃ ms : List Int, ds = ms.map .int := by
    clear h
    induction ds with
    | nil => exact ⟨[], rfl⟩
    | cons d ds ih =>
      obtain ⟨i, rfl⟩ := hall d (.head _)
      obtain ⟨ms, rfl⟩ := ih fun d hd => hall d (.tail _ hd)
      exact ⟨i :: ms, rfl⟩
  obtain ⟨ms, rfl⟩ := this
  refine ⟨ms, rfl, ?_⟩
  have h2 := h.map (fun d => match d with | .int i => i | _ => 0)
  rw [List.map_map, List.map_map] at h2
  have e : ∀ l : List Int, l.map ((fun d => match d with | .int i => i | _ => 0) ∘ D.int) = l := fun l => by
    conv => rhs; rw [← List.map_id l]
    rfl
  rw [e, e] at h2
  exact h2
/-- a point near enough -/
structure Nr (x y : Int) : Prop where
  x0 : -100 ≤ x
  x1 : x ≤ 100
  y0 : -100 ≤ y
  y1 : y ≤ 100
theorem Nr.poi {x y a b : Int} (n : Nr x y) (ha : -500 ≤ a ∧ a ≤ 500) (hb : -500 ≤ b ∧ b ≤ 500) : Poi (x + a) (y + b) := ⟨by have := n.x0; omega, by have := n.x1; omega, by have := n.y0; omega, by have := n.y1; omega⟩
theorem Nr.p0 {x y : Int} (n : Nr x y) : Poi x y := ⟨by have := n.x0; omega, by have := n.x1; omega, by have := n.y0; omega, by have := n.y1; omega⟩
section
variable {r : List Bd} {u : Int × Int × Int} {n : Nat} {rs ms : List Int} {x y m k : Int} {p : Pt} {L : List (Nat × D)}
theorem b0 (s : Sm9 rs) (a : Nr x y) (h1 : r[1]? = some (.val (T rs))) (h2 : r[2]? = some (.val (pt x y))) : s__law_is_right_0 ⟨r, p⟩ = some (.nx, ⟨(r.set 3 (.val (.int (hm rs x y)))).set 4 (.val (.bl (rch rs x y))), p⟩) := by
  simp only [cFz, at40, at41, at42, at43, at20, at21, at30, at31, at32, List.set, dMod_ev, Int.reduceMod, Int.reduceLT, Int.reduceSub, Int.reduceMul, Int.reduceToNat, Nat.reduceLT, Int.zero_add, Int.reduceLE, fAll_b, runF, cSeq, cIf, cSet, cRet, cRetN, cSkip, cCont, cBrk, cVar, cD, cBin, cUn, cBi, aNil, aCons, cTup, cLst, bT, bAnd, bOr, bNot, cAnd, cOr, cNot, cIte, cChain, cIsi, dTy, kb1, kb2, kb3, kb4, kb5, kb6, kb7, fAbs_ev, fMax_ev, fMin_ev, wipeS, Function.comp_apply, Function.comp_def, dIx, dGetAny, cPotGet, cPotSet, getP, setP, cCall, fInt, fLen, fTuple, fList, cLenV, dLt, dLe, dGt, dGe, dB2, dAdd, dSub_ev, dNeg, Nat.reduceLeDiff, cs0, cs1, cs2, cs3, cs4, cs5, cs6, cs7, cs8, cs9, cs10, cs11, cs12, Int.ofNat_eq_natCast, dEq_int, dNe_int, dEq_pair, dNe_pair, dIsN, dNotN, cPar, cPar3, cAsg, gN, gT, gsCons, gsNil, bdOf, cSl, oNone, oSome, dSl, iSeq, iRg1, iRg2, cExpr, dRev, List.map_cons, List.map_nil, List.length_cons, List.length_nil, List.cons_append, List.nil_append, List.append_nil, List.replicate, List.getElem?_cons_zero, List.getElem?_cons_succ, List.set_cons_zero, List.set_cons_succ, Option.bind_some, Option.map_some, Option.bind_none, Option.map_none, Nat.reduceAdd, Nat.reduceSub, Int.reduceAdd, Int.reduceNeg, decide_true, decide_false, Bool.not_true, Bool.not_false, if_true, if_false, Bool.false_eq_true, if_pos, reduceIte, reduceCtorEq, Option.some.injEq, Prod.mk.injEq, and_self, and_true, true_and, szOk, s__law_is_right_0, h1, h2, poses_ev s.v a.p0, reached_ev s.v a.p0]
theorem b1 (s : Sm9 rs) (a : Nr x y) (h1 : r[1]? = some (.val (T rs))) (h2 : r[2]? = some (.val (pt x y))) (h3 : r[3]? = some (.val (.int (hm rs x y)))) (h4 : r[4]? = some (.val (.bl (rch rs x y)))) : s__law_is_right_1 ⟨r, p⟩ = some (.nx, ⟨r, p⟩) := by
  obtain ⟨w, rest, e, he⟩ := reach_ev (p := p) s.v a.p0 s.h64
  have g : L2.atI (D.str w :: rest) 0 = some (.str w) := atI_nat (j := 0) rfl
  have hp : decide (0 < hm rs x y) = rch rs x y := hm_pos
  refine if_skip (bOr_ff (s' := ⟨r, p⟩) (ne_test0 (x := .bl (rch rs x y)) (y := .bl (rch rs x y)) (b := false) (b' := false) ?_ ?_ (neB rfl)) (ne_test0 (x := .bl (rch rs x y)) (y := .bl (rch rs x y)) (b := false) (b' := false) ?_ ?_ (neB rfl)))
  · simp only [cFz, at40, at41, at42, at43, at20, at21, at30, at31, at32, List.set, dMod_ev, Int.reduceMod, Int.reduceLT, Int.reduceSub, Int.reduceMul, Int.reduceToNat, Nat.reduceLT, Int.zero_add, Int.reduceLE, fAll_b, runF, cSeq, cIf, cSet, cRet, cRetN, cSkip, cCont, cBrk, cVar, cD, cBin, cUn, cBi, aNil, aCons, cTup, cLst, bT, bAnd, bOr, bNot, cAnd, cOr, cNot, cIte, cChain, cIsi, dTy, kb1, kb2, kb3, kb4, kb5, kb6, kb7, fAbs_ev, fMax_ev, fMin_ev, wipeS, Function.comp_apply, Function.comp_def, dIx, dGetAny, cPotGet, cPotSet, getP, setP, cCall, fInt, fLen, fTuple, fList, cLenV, dLt, dLe, dGt, dGe, dB2, dAdd, dSub_ev, dNeg, Nat.reduceLeDiff, cs0, cs1, cs2, cs3, cs4, cs5, cs6, cs7, cs8, cs9, cs10, cs11, cs12, Int.ofNat_eq_natCast, dEq_int, dNe_int, dEq_pair, dNe_pair, dIsN, dNotN, cPar, cPar3, cAsg, gN, gT, gsCons, gsNil, bdOf, cSl, oNone, oSome, dSl, iSeq, iRg1, iRg2, cExpr, dRev, List.map_cons, List.map_nil, List.length_cons, List.length_nil, List.cons_append, List.nil_append, List.append_nil, List.replicate, List.getElem?_cons_zero, List.getElem?_cons_succ, List.set_cons_zero, List.set_cons_succ, Option.bind_some, Option.map_some, Option.bind_none, Option.map_none, Nat.reduceAdd, Nat.reduceSub, Int.reduceAdd, Int.reduceNeg, decide_true, decide_false, Bool.not_true, Bool.not_false, if_true, if_false, Bool.false_eq_true, if_pos, reduceIte, reduceCtorEq, Option.some.injEq, Prod.mk.injEq, and_self, and_true, true_and, szOk, h3, hp]
  · simp only [cFz, at40, at41, at42, at43, at20, at21, at30, at31, at32, List.set, dMod_ev, Int.reduceMod, Int.reduceLT, Int.reduceSub, Int.reduceMul, Int.reduceToNat, Nat.reduceLT, Int.zero_add, Int.reduceLE, fAll_b, runF, cSeq, cIf, cSet, cRet, cRetN, cSkip, cCont, cBrk, cVar, cD, cBin, cUn, cBi, aNil, aCons, cTup, cLst, bT, bAnd, bOr, bNot, cAnd, cOr, cNot, cIte, cChain, cIsi, dTy, kb1, kb2, kb3, kb4, kb5, kb6, kb7, fAbs_ev, fMax_ev, fMin_ev, wipeS, Function.comp_apply, Function.comp_def, dIx, dGetAny, cPotGet, cPotSet, getP, setP, cCall, fInt, fLen, fTuple, fList, cLenV, dLt, dLe, dGt, dGe, dB2, dAdd, dSub_ev, dNeg, Nat.reduceLeDiff, cs0, cs1, cs2, cs3, cs4, cs5, cs6, cs7, cs8, cs9, cs10, cs11, cs12, Int.ofNat_eq_natCast, dEq_int, dNe_int, dEq_pair, dNe_pair, dIsN, dNotN, cPar, cPar3, cAsg, gN, gT, gsCons, gsNil, bdOf, cSl, oNone, oSome, dSl, iSeq, iRg1, iRg2, cExpr, dRev, List.map_cons, List.map_nil, List.length_cons, List.length_nil, List.cons_append, List.nil_append, List.append_nil, List.replicate, List.getElem?_cons_zero, List.getElem?_cons_succ, List.set_cons_zero, List.set_cons_succ, Option.bind_some, Option.map_some, Option.bind_none, Option.map_none, Nat.reduceAdd, Nat.reduceSub, Int.reduceAdd, Int.reduceNeg, decide_true, decide_false, Bool.not_true, Bool.not_false, if_true, if_false, Bool.false_eq_true, if_pos, reduceIte, reduceCtorEq, Option.some.injEq, Prod.mk.injEq, and_self, and_true, true_and, szOk, h4]
  · simp only [cFz, at40, at41, at42, at43, at20, at21, at30, at31, at32, List.set, dMod_ev, Int.reduceMod, Int.reduceLT, Int.reduceSub, Int.reduceMul, Int.reduceToNat, Nat.reduceLT, Int.zero_add, Int.reduceLE, fAll_b, runF, cSeq, cIf, cSet, cRet, cRetN, cSkip, cCont, cBrk, cVar, cD, cBin, cUn, cBi, aNil, aCons, cTup, cLst, bT, bAnd, bOr, bNot, cAnd, cOr, cNot, cIte, cChain, cIsi, dTy, kb1, kb2, kb3, kb4, kb5, kb6, kb7, fAbs_ev, fMax_ev, fMin_ev, wipeS, Function.comp_apply, Function.comp_def, dIx, dGetAny, cPotGet, cPotSet, getP, setP, cCall, fInt, fLen, fTuple, fList, cLenV, dLt, dLe, dGt, dGe, dB2, dAdd, dSub_ev, dNeg, Nat.reduceLeDiff, cs0, cs1, cs2, cs3, cs4, cs5, cs6, cs7, cs8, cs9, cs10, cs11, cs12, Int.ofNat_eq_natCast, dEq_int, dNe_int, dEq_pair, dNe_pair, dIsN, dNotN, cPar, cPar3, cAsg, gN, gT, gsCons, gsNil, bdOf, cSl, oNone, oSome, dSl, iSeq, iRg1, iRg2, cExpr, dRev, List.map_cons, List.map_nil, List.length_cons, List.length_nil, List.cons_append, List.nil_append, List.append_nil, List.replicate, List.getElem?_cons_zero, List.getElem?_cons_succ, List.set_cons_zero, List.set_cons_succ, Option.bind_some, Option.map_some, Option.bind_none, Option.map_none, Nat.reduceAdd, Nat.reduceSub, Int.reduceAdd, Int.reduceNeg, decide_true, decide_false, Bool.not_true, Bool.not_false, if_true, if_false, Bool.false_eq_true, if_pos, reduceIte, reduceCtorEq, Option.some.injEq, Prod.mk.injEq, and_self, and_true, true_and, szOk, h1, h2, e, g, he]
  · simp only [cFz, at40, at41, at42, at43, at20, at21, at30, at31, at32, List.set, dMod_ev, Int.reduceMod, Int.reduceLT, Int.reduceSub, Int.reduceMul, Int.reduceToNat, Nat.reduceLT, Int.zero_add, Int.reduceLE, fAll_b, runF, cSeq, cIf, cSet, cRet, cRetN, cSkip, cCont, cBrk, cVar, cD, cBin, cUn, cBi, aNil, aCons, cTup, cLst, bT, bAnd, bOr, bNot, cAnd, cOr, cNot, cIte, cChain, cIsi, dTy, kb1, kb2, kb3, kb4, kb5, kb6, kb7, fAbs_ev, fMax_ev, fMin_ev, wipeS, Function.comp_apply, Function.comp_def, dIx, dGetAny, cPotGet, cPotSet, getP, setP, cCall, fInt, fLen, fTuple, fList, cLenV, dLt, dLe, dGt, dGe, dB2, dAdd, dSub_ev, dNeg, Nat.reduceLeDiff, cs0, cs1, cs2, cs3, cs4, cs5, cs6, cs7, cs8, cs9, cs10, cs11, cs12, Int.ofNat_eq_natCast, dEq_int, dNe_int, dEq_pair, dNe_pair, dIsN, dNotN, cPar, cPar3, cAsg, gN, gT, gsCons, gsNil, bdOf, cSl, oNone, oSome, dSl, iSeq, iRg1, iRg2, cExpr, dRev, List.map_cons, List.map_nil, List.length_cons, List.length_nil, List.cons_append, List.nil_append, List.append_nil, List.replicate, List.getElem?_cons_zero, List.getElem?_cons_succ, List.set_cons_zero, List.set_cons_succ, Option.bind_some, Option.map_some, Option.bind_none, Option.map_none, Nat.reduceAdd, Nat.reduceSub, Int.reduceAdd, Int.reduceNeg, decide_true, decide_false, Bool.not_true, Bool.not_false, if_true, if_false, Bool.false_eq_true, if_pos, reduceIte, reduceCtorEq, Option.some.injEq, Prod.mk.injEq, and_self, and_true, true_and, szOk, h4]
theorem b2 (h2 : r[2]? = some (.val (pt x y))) : s__law_is_right_2 ⟨r, p⟩ = some (.nx, ⟨(r.set 5 (.val (.int x))).set 6 (.val (.int y)), p⟩) := by
  simp only [cFz, at40, at41, at42, at43, at20, at21, at30, at31, at32, List.set, dMod_ev, Int.reduceMod, Int.reduceLT, Int.reduceSub, Int.reduceMul, Int.reduceToNat, Nat.reduceLT, Int.zero_add, Int.reduceLE, fAll_b, runF, cSeq, cIf, cSet, cRet, cRetN, cSkip, cCont, cBrk, cVar, cD, cBin, cUn, cBi, aNil, aCons, cTup, cLst, bT, bAnd, bOr, bNot, cAnd, cOr, cNot, cIte, cChain, cIsi, dTy, kb1, kb2, kb3, kb4, kb5, kb6, kb7, fAbs_ev, fMax_ev, fMin_ev, wipeS, Function.comp_apply, Function.comp_def, dIx, dGetAny, cPotGet, cPotSet, getP, setP, cCall, fInt, fLen, fTuple, fList, cLenV, dLt, dLe, dGt, dGe, dB2, dAdd, dSub_ev, dNeg, Nat.reduceLeDiff, cs0, cs1, cs2, cs3, cs4, cs5, cs6, cs7, cs8, cs9, cs10, cs11, cs12, Int.ofNat_eq_natCast, dEq_int, dNe_int, dEq_pair, dNe_pair, dIsN, dNotN, cPar, cPar3, cAsg, gN, gT, gsCons, gsNil, bdOf, cSl, oNone, oSome, dSl, iSeq, iRg1, iRg2, cExpr, dRev, List.map_cons, List.map_nil, List.length_cons, List.length_nil, List.cons_append, List.nil_append, List.append_nil, List.replicate, List.getElem?_cons_zero, List.getElem?_cons_succ, List.set_cons_zero, List.set_cons_succ, Option.bind_some, Option.map_some, Option.bind_none, Option.map_none, Nat.reduceAdd, Nat.reduceSub, Int.reduceAdd, Int.reduceNeg, decide_true, decide_false, Bool.not_true, Bool.not_false, if_true, if_false, Bool.false_eq_true, if_pos, reduceIte, reduceCtorEq, Option.some.injEq, Prod.mk.injEq, and_self, and_true, true_and, szOk, s__law_is_right_2, h2]
def body3 : SS := (cSeq (cIf (bOr (bT (cBin dNe (cCall f_how_many_poses (aCons (cVar 1) (aCons (cVar 7) aNil))) (cVar 3))) (bT (cBin dNe (cCall f_is_reached (aCons (cVar 1) (aCons (cVar 7) aNil))) (cVar 4))))
  (cRet (cD (.bl false)))
  cSkip)
  (cIf (bT (cBin dNe (cBin dGetAny (cCall f_nearest_to (aCons (cVar 1) (aCons (cVar 7) aNil))) (cD (.int 0))) (cBin dGetAny (cCall f_nearest_to (aCons (cVar 1) (aCons (cVar 2) aNil))) (cD (.int 0)))))
  (cRet (cD (.bl false)))
  cSkip))
theorem body3_ev {x' y' : Int} (v : Rods rs) (a : Poi x y) (a' : Poi x' y') (e1 : hm rs x' y' = hm rs x y) (e2 : rch rs x' y' = rch rs x y) (e3 : nv rs x' y' = nv rs x y) (h1 : r[1]? = some (.val (T rs))) (h2 : r[2]? = some (.val (pt x y))) (h3 : r[3]? = some (.val (.int (hm rs x y)))) (h4 : r[4]? = some (.val (.bl (rch rs x y)))) (h7 : r[7]? = some (.val (pt x' y'))) : body3 ⟨r, p⟩ = some (.nx, ⟨r, p⟩) := by
  refine seq_nx (s1 := ⟨r, p⟩) (if_skip (bOr_ff (s' := ⟨r, p⟩) (ne_test0 (x := .int (hm rs x' y')) (y := .int (hm rs x y)) (b := false) (b' := false) ?_ ?_ (neI e1)) (ne_test0 (x := .bl (rch rs x' y')) (y := .bl (rch rs x y)) (b := false) (b' := false) ?_ ?_ (neB e2)))) (ne_skip (x := .int (nv rs x' y')) (y := .int (nv rs x y)) (b := false) (b' := false) ?_ ?_ (neI e3))
  · simp only [cFz, at40, at41, at42, at43, at20, at21, at30, at31, at32, List.set, dMod_ev, Int.reduceMod, Int.reduceLT, Int.reduceSub, Int.reduceMul, Int.reduceToNat, Nat.reduceLT, Int.zero_add, Int.reduceLE, fAll_b, runF, cSeq, cIf, cSet, cRet, cRetN, cSkip, cCont, cBrk, cVar, cD, cBin, cUn, cBi, aNil, aCons, cTup, cLst, bT, bAnd, bOr, bNot, cAnd, cOr, cNot, cIte, cChain, cIsi, dTy, kb1, kb2, kb3, kb4, kb5, kb6, kb7, fAbs_ev, fMax_ev, fMin_ev, wipeS, Function.comp_apply, Function.comp_def, dIx, dGetAny, cPotGet, cPotSet, getP, setP, cCall, fInt, fLen, fTuple, fList, cLenV, dLt, dLe, dGt, dGe, dB2, dAdd, dSub_ev, dNeg, Nat.reduceLeDiff, cs0, cs1, cs2, cs3, cs4, cs5, cs6, cs7, cs8, cs9, cs10, cs11, cs12, Int.ofNat_eq_natCast, dEq_int, dNe_int, dEq_pair, dNe_pair, dIsN, dNotN, cPar, cPar3, cAsg, gN, gT, gsCons, gsNil, bdOf, cSl, oNone, oSome, dSl, iSeq, iRg1, iRg2, cExpr, dRev, List.map_cons, List.map_nil, List.length_cons, List.length_nil, List.cons_append, List.nil_append, List.append_nil, List.replicate, List.getElem?_cons_zero, List.getElem?_cons_succ, List.set_cons_zero, List.set_cons_succ, Option.bind_some, Option.map_some, Option.bind_none, Option.map_none, Nat.reduceAdd, Nat.reduceSub, Int.reduceAdd, Int.reduceNeg, decide_true, decide_false, Bool.not_true, Bool.not_false, if_true, if_false, Bool.false_eq_true, if_pos, reduceIte, reduceCtorEq, Option.some.injEq, Prod.mk.injEq, and_self, and_true, true_and, szOk, h1, h7, poses_ev v a']
  · simp only [cFz, at40, at41, at42, at43, at20, at21, at30, at31, at32, List.set, dMod_ev, Int.reduceMod, Int.reduceLT, Int.reduceSub, Int.reduceMul, Int.reduceToNat, Nat.reduceLT, Int.zero_add, Int.reduceLE, fAll_b, runF, cSeq, cIf, cSet, cRet, cRetN, cSkip, cCont, cBrk, cVar, cD, cBin, cUn, cBi, aNil, aCons, cTup, cLst, bT, bAnd, bOr, bNot, cAnd, cOr, cNot, cIte, cChain, cIsi, dTy, kb1, kb2, kb3, kb4, kb5, kb6, kb7, fAbs_ev, fMax_ev, fMin_ev, wipeS, Function.comp_apply, Function.comp_def, dIx, dGetAny, cPotGet, cPotSet, getP, setP, cCall, fInt, fLen, fTuple, fList, cLenV, dLt, dLe, dGt, dGe, dB2, dAdd, dSub_ev, dNeg, Nat.reduceLeDiff, cs0, cs1, cs2, cs3, cs4, cs5, cs6, cs7, cs8, cs9, cs10, cs11, cs12, Int.ofNat_eq_natCast, dEq_int, dNe_int, dEq_pair, dNe_pair, dIsN, dNotN, cPar, cPar3, cAsg, gN, gT, gsCons, gsNil, bdOf, cSl, oNone, oSome, dSl, iSeq, iRg1, iRg2, cExpr, dRev, List.map_cons, List.map_nil, List.length_cons, List.length_nil, List.cons_append, List.nil_append, List.append_nil, List.replicate, List.getElem?_cons_zero, List.getElem?_cons_succ, List.set_cons_zero, List.set_cons_succ, Option.bind_some, Option.map_some, Option.bind_none, Option.map_none, Nat.reduceAdd, Nat.reduceSub, Int.reduceAdd, Int.reduceNeg, decide_true, decide_false, Bool.not_true, Bool.not_false, if_true, if_false, Bool.false_eq_true, if_pos, reduceIte, reduceCtorEq, Option.some.injEq, Prod.mk.injEq, and_self, and_true, true_and, szOk, h3]
  · simp only [cFz, at40, at41, at42, at43, at20, at21, at30, at31, at32, List.set, dMod_ev, Int.reduceMod, Int.reduceLT, Int.reduceSub, Int.reduceMul, Int.reduceToNat, Nat.reduceLT, Int.zero_add, Int.reduceLE, fAll_b, runF, cSeq, cIf, cSet, cRet, cRetN, cSkip, cCont, cBrk, cVar, cD, cBin, cUn, cBi, aNil, aCons, cTup, cLst, bT, bAnd, bOr, bNot, cAnd, cOr, cNot, cIte, cChain, cIsi, dTy, kb1, kb2, kb3, kb4, kb5, kb6, kb7, fAbs_ev, fMax_ev, fMin_ev, wipeS, Function.comp_apply, Function.comp_def, dIx, dGetAny, cPotGet, cPotSet, getP, setP, cCall, fInt, fLen, fTuple, fList, cLenV, dLt, dLe, dGt, dGe, dB2, dAdd, dSub_ev, dNeg, Nat.reduceLeDiff, cs0, cs1, cs2, cs3, cs4, cs5, cs6, cs7, cs8, cs9, cs10, cs11, cs12, Int.ofNat_eq_natCast, dEq_int, dNe_int, dEq_pair, dNe_pair, dIsN, dNotN, cPar, cPar3, cAsg, gN, gT, gsCons, gsNil, bdOf, cSl, oNone, oSome, dSl, iSeq, iRg1, iRg2, cExpr, dRev, List.map_cons, List.map_nil, List.length_cons, List.length_nil, List.cons_append, List.nil_append, List.append_nil, List.replicate, List.getElem?_cons_zero, List.getElem?_cons_succ, List.set_cons_zero, List.set_cons_succ, Option.bind_some, Option.map_some, Option.bind_none, Option.map_none, Nat.reduceAdd, Nat.reduceSub, Int.reduceAdd, Int.reduceNeg, decide_true, decide_false, Bool.not_true, Bool.not_false, if_true, if_false, Bool.false_eq_true, if_pos, reduceIte, reduceCtorEq, Option.some.injEq, Prod.mk.injEq, and_self, and_true, true_and, szOk, h1, h7, reached_ev v a']
  · simp only [cFz, at40, at41, at42, at43, at20, at21, at30, at31, at32, List.set, dMod_ev, Int.reduceMod, Int.reduceLT, Int.reduceSub, Int.reduceMul, Int.reduceToNat, Nat.reduceLT, Int.zero_add, Int.reduceLE, fAll_b, runF, cSeq, cIf, cSet, cRet, cRetN, cSkip, cCont, cBrk, cVar, cD, cBin, cUn, cBi, aNil, aCons, cTup, cLst, bT, bAnd, bOr, bNot, cAnd, cOr, cNot, cIte, cChain, cIsi, dTy, kb1, kb2, kb3, kb4, kb5, kb6, kb7, fAbs_ev, fMax_ev, fMin_ev, wipeS, Function.comp_apply, Function.comp_def, dIx, dGetAny, cPotGet, cPotSet, getP, setP, cCall, fInt, fLen, fTuple, fList, cLenV, dLt, dLe, dGt, dGe, dB2, dAdd, dSub_ev, dNeg, Nat.reduceLeDiff, cs0, cs1, cs2, cs3, cs4, cs5, cs6, cs7, cs8, cs9, cs10, cs11, cs12, Int.ofNat_eq_natCast, dEq_int, dNe_int, dEq_pair, dNe_pair, dIsN, dNotN, cPar, cPar3, cAsg, gN, gT, gsCons, gsNil, bdOf, cSl, oNone, oSome, dSl, iSeq, iRg1, iRg2, cExpr, dRev, List.map_cons, List.map_nil, List.length_cons, List.length_nil, List.cons_append, List.nil_append, List.append_nil, List.replicate, List.getElem?_cons_zero, List.getElem?_cons_succ, List.set_cons_zero, List.set_cons_succ, Option.bind_some, Option.map_some, Option.bind_none, Option.map_none, Nat.reduceAdd, Nat.reduceSub, Int.reduceAdd, Int.reduceNeg, decide_true, decide_false, Bool.not_true, Bool.not_false, if_true, if_false, Bool.false_eq_true, if_pos, reduceIte, reduceCtorEq, Option.some.injEq, Prod.mk.injEq, and_self, and_true, true_and, szOk, h4]
  · simp only [cFz, at40, at41, at42, at43, at20, at21, at30, at31, at32, List.set, dMod_ev, Int.reduceMod, Int.reduceLT, Int.reduceSub, Int.reduceMul, Int.reduceToNat, Nat.reduceLT, Int.zero_add, Int.reduceLE, fAll_b, runF, cSeq, cIf, cSet, cRet, cRetN, cSkip, cCont, cBrk, cVar, cD, cBin, cUn, cBi, aNil, aCons, cTup, cLst, bT, bAnd, bOr, bNot, cAnd, cOr, cNot, cIte, cChain, cIsi, dTy, kb1, kb2, kb3, kb4, kb5, kb6, kb7, fAbs_ev, fMax_ev, fMin_ev, wipeS, Function.comp_apply, Function.comp_def, dIx, dGetAny, cPotGet, cPotSet, getP, setP, cCall, fInt, fLen, fTuple, fList, cLenV, dLt, dLe, dGt, dGe, dB2, dAdd, dSub_ev, dNeg, Nat.reduceLeDiff, cs0, cs1, cs2, cs3, cs4, cs5, cs6, cs7, cs8, cs9, cs10, cs11, cs12, Int.ofNat_eq_natCast, dEq_int, dNe_int, dEq_pair, dNe_pair, dIsN, dNotN, cPar, cPar3, cAsg, gN, gT, gsCons, gsNil, bdOf, cSl, oNone, oSome, dSl, iSeq, iRg1, iRg2, cExpr, dRev, List.map_cons, List.map_nil, List.length_cons, List.length_nil, List.cons_append, List.nil_append, List.append_nil, List.replicate, List.getElem?_cons_zero, List.getElem?_cons_succ, List.set_cons_zero, List.set_cons_succ, Option.bind_some, Option.map_some, Option.bind_none, Option.map_none, Nat.reduceAdd, Nat.reduceSub, Int.reduceAdd, Int.reduceNeg, decide_true, decide_false, Bool.not_true, Bool.not_false, if_true, if_false, Bool.false_eq_true, if_pos, reduceIte, reduceCtorEq, Option.some.injEq, Prod.mk.injEq, and_self, and_true, true_and, szOk, h1, h7, near_ev v a']
  · simp only [cFz, at40, at41, at42, at43, at20, at21, at30, at31, at32, List.set, dMod_ev, Int.reduceMod, Int.reduceLT, Int.reduceSub, Int.reduceMul, Int.reduceToNat, Nat.reduceLT, Int.zero_add, Int.reduceLE, fAll_b, runF, cSeq, cIf, cSet, cRet, cRetN, cSkip, cCont, cBrk, cVar, cD, cBin, cUn, cBi, aNil, aCons, cTup, cLst, bT, bAnd, bOr, bNot, cAnd, cOr, cNot, cIte, cChain, cIsi, dTy, kb1, kb2, kb3, kb4, kb5, kb6, kb7, fAbs_ev, fMax_ev, fMin_ev, wipeS, Function.comp_apply, Function.comp_def, dIx, dGetAny, cPotGet, cPotSet, getP, setP, cCall, fInt, fLen, fTuple, fList, cLenV, dLt, dLe, dGt, dGe, dB2, dAdd, dSub_ev, dNeg, Nat.reduceLeDiff, cs0, cs1, cs2, cs3, cs4, cs5, cs6, cs7, cs8, cs9, cs10, cs11, cs12, Int.ofNat_eq_natCast, dEq_int, dNe_int, dEq_pair, dNe_pair, dIsN, dNotN, cPar, cPar3, cAsg, gN, gT, gsCons, gsNil, bdOf, cSl, oNone, oSome, dSl, iSeq, iRg1, iRg2, cExpr, dRev, List.map_cons, List.map_nil, List.length_cons, List.length_nil, List.cons_append, List.nil_append, List.append_nil, List.replicate, List.getElem?_cons_zero, List.getElem?_cons_succ, List.set_cons_zero, List.set_cons_succ, Option.bind_some, Option.map_some, Option.bind_none, Option.map_none, Nat.reduceAdd, Nat.reduceSub, Int.reduceAdd, Int.reduceNeg, decide_true, decide_false, Bool.not_true, Bool.not_false, if_true, if_false, Bool.false_eq_true, if_pos, reduceIte, reduceCtorEq, Option.some.injEq, Prod.mk.injEq, and_self, and_true, true_and, szOk, h1, h2, near_ev v a]
theorem b3 (s : Sm9 rs) (a : Nr x y) (w : W r L) (h1 : L.lookup 1 = some (T rs)) (h2 : L.lookup 2 = some (pt x y)) (h3 : L.lookup 3 = some (.int (hm rs x y))) (h4 : L.lookup 4 = some (.bl (rch rs x y))) (h5 : L.lookup 5 = some (.int x)) (h6 : L.lookup 6 = some (.int y)) (h7 : L.lookup 7 = none) :
    ∃ r', s__law_is_right_3 ⟨r, p⟩ = some (.nx, ⟨r', p⟩) ∧ W r' L := by
  have hmv := moves (rs := rs) (x := x) (y := y)
  have hnv := nv_moves (rs := rs) (x := x) (y := y)
  have hx0 := a.x0; have hx1 := a.x1; have hy0 := a.y0; have hy1 := a.y1
  have all : ∀ d ∈ [pt (-y) x, pt (-x) (-y), pt x (-y), pt y x], ∃ x' y', d = pt x' y' ∧ Poi x' y' ∧ hm rs x' y' = hm rs x y ∧ rch rs x' y' = rch rs x y ∧ nv rs x' y' = nv rs x y := fun d hd => by
    simp only [List.mem_cons, List.not_mem_nil, or_false] at hd
    rcases hd with rfl | rfl | rfl | rfl
    · exact ⟨_, _, rfl, ⟨by omega, by omega, by omega, by omega⟩, hmv.1.1, hmv.1.2, hnv.1⟩
    · exact ⟨_, _, rfl, ⟨by omega, by omega, by omega, by omega⟩, hmv.2.1.1, hmv.2.1.2, hnv.2.1⟩
    · exact ⟨_, _, rfl, ⟨by omega, by omega, by omega, by omega⟩, hmv.2.2.1.1, hmv.2.2.1.2, hnv.2.2.1⟩
    · exact ⟨_, _, rfl, ⟨by omega, by omega, by omega, by omega⟩, hmv.2.2.2.1, hmv.2.2.2.2, hnv.2.2.2⟩
  obtain ⟨s', e, r', rfl, w'⟩ := for_inv (g := gN 7) (body := body3) (fun j s => ∃ r', s = ⟨r', p⟩ ∧ W r' L) [pt (-y) x, pt (-x) (-y), pt x (-y), pt y x] 0 ⟨r, p⟩ (fun j d s0 hd ⟨r1, es, w1⟩ => by
      subst es
      obtain ⟨x', y', rfl, a', e1, e2, e3⟩ := all d (List.mem_of_getElem? hd)
      have w2 := w1.any (i := 7) (b := .val (pt x' y')) (by decide) (by decide) h7
      exact ⟨_, rfl, .nx, _, body3_ev s.v a.p0 a' e1 e2 e3 (w2.get h1) (w2.get h2) (w2.get h3) (w2.get h4) (gs (by rw [w1.1.len]; decide)), .inl rfl, _, rfl, w2⟩) ⟨r, rfl, w⟩
  refine ⟨r', ?_, w'⟩
  show cFor (iSeq (cTup (aCons (cTup (aCons (cUn dNeg (cVar 6)) (aCons (cVar 5) aNil))) (aCons (cTup (aCons (cUn dNeg (cVar 5)) (aCons (cUn dNeg (cVar 6)) aNil))) (aCons (cTup (aCons (cVar 5) (aCons (cUn dNeg (cVar 6)) aNil))) (aCons (cTup (aCons (cVar 6) (aCons (cVar 5) aNil))) aNil)))))) (gN 7) body3 ⟨r, p⟩ = _
  simp only [cFz, at40, at41, at42, at43, at20, at21, at30, at31, at32, List.set, dMod_ev, Int.reduceMod, Int.reduceLT, Int.reduceSub, Int.reduceMul, Int.reduceToNat, Nat.reduceLT, Int.zero_add, Int.reduceLE, fAll_b, runF, cSeq, cIf, cSet, cRet, cRetN, cSkip, cCont, cBrk, cVar, cD, cBin, cUn, cBi, aNil, aCons, cTup, cLst, bT, bAnd, bOr, bNot, cAnd, cOr, cNot, cIte, cChain, cIsi, dTy, kb1, kb2, kb3, kb4, kb5, kb6, kb7, fAbs_ev, fMax_ev, fMin_ev, wipeS, Function.comp_apply, Function.comp_def, dIx, dGetAny, cPotGet, cPotSet, getP, setP, cCall, fInt, fLen, fTuple, fList, cLenV, dLt, dLe, dGt, dGe, dB2, dAdd, dSub_ev, dNeg, Nat.reduceLeDiff, cs0, cs1, cs2, cs3, cs4, cs5, cs6, cs7, cs8, cs9, cs10, cs11, cs12, Int.ofNat_eq_natCast, dEq_int, dNe_int, dEq_pair, dNe_pair, dIsN, dNotN, cPar, cPar3, cAsg, gN, gT, gsCons, gsNil, bdOf, cSl, oNone, oSome, dSl, iSeq, iRg1, iRg2, cExpr, dRev, List.map_cons, List.map_nil, List.length_cons, List.length_nil, List.cons_append, List.nil_append, List.append_nil, List.replicate, List.getElem?_cons_zero, List.getElem?_cons_succ, List.set_cons_zero, List.set_cons_succ, Option.bind_some, Option.map_some, Option.bind_none, Option.map_none, Nat.reduceAdd, Nat.reduceSub, Int.reduceAdd, Int.reduceNeg, decide_true, decide_false, Bool.not_true, Bool.not_false, if_true, if_false, Bool.false_eq_true, if_pos, reduceIte, reduceCtorEq, Option.some.injEq, Prod.mk.injEq, and_self, and_true, true_and, szOk, cFor, w.get h5, w.get h6, dNeg]
  exact e
theorem b4 (sl : Sl r) (s : Sm9 rs) (h : Pk n u) (hn : n ≤ 1000000) (h1 : r[1]? = some (.val (T rs))) : ∃ ms u', rs.Perm ms ∧ Pk (n + 8) u' ∧ s__law_is_right_4 ⟨r, some u⟩ = some (.nx, ⟨r.set 8 (.val (T ms)), some u'⟩) := by
  have hl8 := s.l8
  obtain ⟨rem, fnd, u', e, l, hp, h'⟩ := some_ev takeK (ds := rs.map .int) h (by omega) (by rw [List.length_map]; omega) (many := (rs.map D.int).length) (Nat.le_refl _) (.inl rfl)
  rw [← some_is] at e
  have hr : rem = [] := by
    have := hp.length_eq
    rw [List.length_append, l] at this
    exact List.eq_nil_of_length_eq_zero (by omega)
  subst hr
  obtain ⟨ms, rfl, hq⟩ := perm_ints (by simpa using hp)
  rw [List.length_map] at h'
  have e2 := lc_map (it := iSeq (cCall f__law_some (aCons (cVar 0) (aCons (cBi fList (aCons (cVar 1) aNil)) (aCons (cBi fLen (aCons (cVar 1) aNil)) aNil))))) (te := cBi fInt (aCons (cVar 15) aNil)) (i := 15) (p := some u') (r := r) (b0 := .no) (s0 := ⟨r, some u⟩) (ds := ms.map .int) (φ := fun d => d) (by simp only [cFz, at40, at41, at42, at43, at20, at21, at30, at31, at32, List.set, dMod_ev, Int.reduceMod, Int.reduceLT, Int.reduceSub, Int.reduceMul, Int.reduceToNat, Nat.reduceLT, Int.zero_add, Int.reduceLE, fAll_b, runF, cSeq, cIf, cSet, cRet, cRetN, cSkip, cCont, cBrk, cVar, cD, cBin, cUn, cBi, aNil, aCons, cTup, cLst, bT, bAnd, bOr, bNot, cAnd, cOr, cNot, cIte, cChain, cIsi, dTy, kb1, kb2, kb3, kb4, kb5, kb6, kb7, fAbs_ev, fMax_ev, fMin_ev, wipeS, Function.comp_apply, Function.comp_def, dIx, dGetAny, cPotGet, cPotSet, getP, setP, cCall, fInt, fLen, fTuple, fList, cLenV, dLt, dLe, dGt, dGe, dB2, dAdd, dSub_ev, dNeg, Nat.reduceLeDiff, cs0, cs1, cs2, cs3, cs4, cs5, cs6, cs7, cs8, cs9, cs10, cs11, cs12, Int.ofNat_eq_natCast, dEq_int, dNe_int, dEq_pair, dNe_pair, dIsN, dNotN, cPar, cPar3, cAsg, gN, gT, gsCons, gsNil, bdOf, cSl, oNone, oSome, dSl, iSeq, iRg1, iRg2, cExpr, dRev, List.map_cons, List.map_nil, List.length_cons, List.length_nil, List.cons_append, List.nil_append, List.append_nil, List.replicate, List.getElem?_cons_zero, List.getElem?_cons_succ, List.set_cons_zero, List.set_cons_succ, Option.bind_some, Option.map_some, Option.bind_none, Option.map_none, Nat.reduceAdd, Nat.reduceSub, Int.reduceAdd, Int.reduceNeg, decide_true, decide_false, Bool.not_true, Bool.not_false, if_true, if_false, Bool.false_eq_true, if_pos, reduceIte, reduceCtorEq, Option.some.injEq, Prod.mk.injEq, and_self, and_true, true_and, szOk, sl.pot, h1, e]) (sl.no 15 (by omega) (by omega)) rfl (fun d hd => by
    obtain ⟨w, _, rfl⟩ := List.mem_map.1 hd
    refine ⟨false, ?_⟩
    simp only [cFz, at40, at41, at42, at43, at20, at21, at30, at31, at32, List.set, dMod_ev, Int.reduceMod, Int.reduceLT, Int.reduceSub, Int.reduceMul, Int.reduceToNat, Nat.reduceLT, Int.zero_add, Int.reduceLE, fAll_b, runF, cSeq, cIf, cSet, cRet, cRetN, cSkip, cCont, cBrk, cVar, cD, cBin, cUn, cBi, aNil, aCons, cTup, cLst, bT, bAnd, bOr, bNot, cAnd, cOr, cNot, cIte, cChain, cIsi, dTy, kb1, kb2, kb3, kb4, kb5, kb6, kb7, fAbs_ev, fMax_ev, fMin_ev, wipeS, Function.comp_apply, Function.comp_def, dIx, dGetAny, cPotGet, cPotSet, getP, setP, cCall, fInt, fLen, fTuple, fList, cLenV, dLt, dLe, dGt, dGe, dB2, dAdd, dSub_ev, dNeg, Nat.reduceLeDiff, cs0, cs1, cs2, cs3, cs4, cs5, cs6, cs7, cs8, cs9, cs10, cs11, cs12, Int.ofNat_eq_natCast, dEq_int, dNe_int, dEq_pair, dNe_pair, dIsN, dNotN, cPar, cPar3, cAsg, gN, gT, gsCons, gsNil, bdOf, cSl, oNone, oSome, dSl, iSeq, iRg1, iRg2, cExpr, dRev, List.map_cons, List.map_nil, List.length_cons, List.length_nil, List.cons_append, List.nil_append, List.append_nil, List.replicate, List.getElem?_cons_zero, List.getElem?_cons_succ, List.set_cons_zero, List.set_cons_succ, Option.bind_some, Option.map_some, Option.bind_none, Option.map_none, Nat.reduceAdd, Nat.reduceSub, Int.reduceAdd, Int.reduceNeg, decide_true, decide_false, Bool.not_true, Bool.not_false, if_true, if_false, Bool.false_eq_true, if_pos, reduceIte, reduceCtorEq, Option.some.injEq, Prod.mk.injEq, and_self, and_true, true_and, szOk, gs (v := .val (.int w)) (show 15 < r.length by rw [sl.len]; decide)]) (by rw [List.length_map, hq.length_eq]; omega)
  rw [List.map_id'] at e2
  refine ⟨ms, u', hq.symm, h'.mono (by omega), ?_⟩
  simp only [cFz, at40, at41, at42, at43, at20, at21, at30, at31, at32, List.set, dMod_ev, Int.reduceMod, Int.reduceLT, Int.reduceSub, Int.reduceMul, Int.reduceToNat, Nat.reduceLT, Int.zero_add, Int.reduceLE, fAll_b, runF, cSeq, cIf, cSet, cRet, cRetN, cSkip, cCont, cBrk, cVar, cD, cBin, cUn, cBi, aNil, aCons, cTup, cLst, bT, bAnd, bOr, bNot, cAnd, cOr, cNot, cIte, cChain, cIsi, dTy, kb1, kb2, kb3, kb4, kb5, kb6, kb7, fAbs_ev, fMax_ev, fMin_ev, wipeS, Function.comp_apply, Function.comp_def, dIx, dGetAny, cPotGet, cPotSet, getP, setP, cCall, fInt, fLen, fTuple, fList, cLenV, dLt, dLe, dGt, dGe, dB2, dAdd, dSub_ev, dNeg, Nat.reduceLeDiff, cs0, cs1, cs2, cs3, cs4, cs5, cs6, cs7, cs8, cs9, cs10, cs11, cs12, Int.ofNat_eq_natCast, dEq_int, dNe_int, dEq_pair, dNe_pair, dIsN, dNotN, cPar, cPar3, cAsg, gN, gT, gsCons, gsNil, bdOf, cSl, oNone, oSome, dSl, iSeq, iRg1, iRg2, cExpr, dRev, List.map_cons, List.map_nil, List.length_cons, List.length_nil, List.cons_append, List.nil_append, List.append_nil, List.replicate, List.getElem?_cons_zero, List.getElem?_cons_succ, List.set_cons_zero, List.set_cons_succ, Option.bind_some, Option.map_some, Option.bind_none, Option.map_none, Nat.reduceAdd, Nat.reduceSub, Int.reduceAdd, Int.reduceNeg, decide_true, decide_false, Bool.not_true, Bool.not_false, if_true, if_false, Bool.false_eq_true, if_pos, reduceIte, reduceCtorEq, Option.some.injEq, Prod.mk.injEq, and_self, and_true, true_and, szOk, s__law_is_right_4, e2]
theorem sh_tsame : D.sh 64 (.tup [.str "same"]) = true := by simp only [sh_tup64, shL_cons, shL_nil, sh_same, Bool.and_self]
theorem b5 (s : Sm9 rs) (a : Nr x y) (hp : rs.Perm ms) (h1 : r[1]? = some (.val (T rs))) (h2 : r[2]? = some (.val (pt x y))) (h3 : r[3]? = some (.val (.int (hm rs x y)))) (h8 : r[8]? = some (.val (T ms))) : s__law_is_right_5 ⟨r, p⟩ = some (.nx, ⟨r, p⟩) := by
  have v2 := s.perm hp
  have hc := c_perm hp
  have e : hm ms x y = hm rs x y := by unfold hm; rw [hc]
  refine if_skip (bOr_ff (s' := ⟨r, p⟩) (ne_test0 (x := .int (hm ms x y)) (y := .int (hm rs x y)) (b := false) (b' := false) ?_ ?_ (neI e)) (ne_test0 (x := .tup [.str "same"]) (y := .tup [.str "same"]) (b := false) (b' := false) ?_ ?_ (dNe_rfl sh_tsame rfl)))
  · simp only [cFz, at40, at41, at42, at43, at20, at21, at30, at31, at32, List.set, dMod_ev, Int.reduceMod, Int.reduceLT, Int.reduceSub, Int.reduceMul, Int.reduceToNat, Nat.reduceLT, Int.zero_add, Int.reduceLE, fAll_b, runF, cSeq, cIf, cSet, cRet, cRetN, cSkip, cCont, cBrk, cVar, cD, cBin, cUn, cBi, aNil, aCons, cTup, cLst, bT, bAnd, bOr, bNot, cAnd, cOr, cNot, cIte, cChain, cIsi, dTy, kb1, kb2, kb3, kb4, kb5, kb6, kb7, fAbs_ev, fMax_ev, fMin_ev, wipeS, Function.comp_apply, Function.comp_def, dIx, dGetAny, cPotGet, cPotSet, getP, setP, cCall, fInt, fLen, fTuple, fList, cLenV, dLt, dLe, dGt, dGe, dB2, dAdd, dSub_ev, dNeg, Nat.reduceLeDiff, cs0, cs1, cs2, cs3, cs4, cs5, cs6, cs7, cs8, cs9, cs10, cs11, cs12, Int.ofNat_eq_natCast, dEq_int, dNe_int, dEq_pair, dNe_pair, dIsN, dNotN, cPar, cPar3, cAsg, gN, gT, gsCons, gsNil, bdOf, cSl, oNone, oSome, dSl, iSeq, iRg1, iRg2, cExpr, dRev, List.map_cons, List.map_nil, List.length_cons, List.length_nil, List.cons_append, List.nil_append, List.append_nil, List.replicate, List.getElem?_cons_zero, List.getElem?_cons_succ, List.set_cons_zero, List.set_cons_succ, Option.bind_some, Option.map_some, Option.bind_none, Option.map_none, Nat.reduceAdd, Nat.reduceSub, Int.reduceAdd, Int.reduceNeg, decide_true, decide_false, Bool.not_true, Bool.not_false, if_true, if_false, Bool.false_eq_true, if_pos, reduceIte, reduceCtorEq, Option.some.injEq, Prod.mk.injEq, and_self, and_true, true_and, szOk, h8, h2, poses_ev v2 a.p0]
  · simp only [cFz, at40, at41, at42, at43, at20, at21, at30, at31, at32, List.set, dMod_ev, Int.reduceMod, Int.reduceLT, Int.reduceSub, Int.reduceMul, Int.reduceToNat, Nat.reduceLT, Int.zero_add, Int.reduceLE, fAll_b, runF, cSeq, cIf, cSet, cRet, cRetN, cSkip, cCont, cBrk, cVar, cD, cBin, cUn, cBi, aNil, aCons, cTup, cLst, bT, bAnd, bOr, bNot, cAnd, cOr, cNot, cIte, cChain, cIsi, dTy, kb1, kb2, kb3, kb4, kb5, kb6, kb7, fAbs_ev, fMax_ev, fMin_ev, wipeS, Function.comp_apply, Function.comp_def, dIx, dGetAny, cPotGet, cPotSet, getP, setP, cCall, fInt, fLen, fTuple, fList, cLenV, dLt, dLe, dGt, dGe, dB2, dAdd, dSub_ev, dNeg, Nat.reduceLeDiff, cs0, cs1, cs2, cs3, cs4, cs5, cs6, cs7, cs8, cs9, cs10, cs11, cs12, Int.ofNat_eq_natCast, dEq_int, dNe_int, dEq_pair, dNe_pair, dIsN, dNotN, cPar, cPar3, cAsg, gN, gT, gsCons, gsNil, bdOf, cSl, oNone, oSome, dSl, iSeq, iRg1, iRg2, cExpr, dRev, List.map_cons, List.map_nil, List.length_cons, List.length_nil, List.cons_append, List.nil_append, List.append_nil, List.replicate, List.getElem?_cons_zero, List.getElem?_cons_succ, List.set_cons_zero, List.set_cons_succ, Option.bind_some, Option.map_some, Option.bind_none, Option.map_none, Nat.reduceAdd, Nat.reduceSub, Int.reduceAdd, Int.reduceNeg, decide_true, decide_false, Bool.not_true, Bool.not_false, if_true, if_false, Bool.false_eq_true, if_pos, reduceIte, reduceCtorEq, Option.some.injEq, Prod.mk.injEq, and_self, and_true, true_and, szOk, h3]
  · simp only [cFz, at40, at41, at42, at43, at20, at21, at30, at31, at32, List.set, dMod_ev, Int.reduceMod, Int.reduceLT, Int.reduceSub, Int.reduceMul, Int.reduceToNat, Nat.reduceLT, Int.zero_add, Int.reduceLE, fAll_b, runF, cSeq, cIf, cSet, cRet, cRetN, cSkip, cCont, cBrk, cVar, cD, cBin, cUn, cBi, aNil, aCons, cTup, cLst, bT, bAnd, bOr, bNot, cAnd, cOr, cNot, cIte, cChain, cIsi, dTy, kb1, kb2, kb3, kb4, kb5, kb6, kb7, fAbs_ev, fMax_ev, fMin_ev, wipeS, Function.comp_apply, Function.comp_def, dIx, dGetAny, cPotGet, cPotSet, getP, setP, cCall, fInt, fLen, fTuple, fList, cLenV, dLt, dLe, dGt, dGe, dB2, dAdd, dSub_ev, dNeg, Nat.reduceLeDiff, cs0, cs1, cs2, cs3, cs4, cs5, cs6, cs7, cs8, cs9, cs10, cs11, cs12, Int.ofNat_eq_natCast, dEq_int, dNe_int, dEq_pair, dNe_pair, dIsN, dNotN, cPar, cPar3, cAsg, gN, gT, gsCons, gsNil, bdOf, cSl, oNone, oSome, dSl, iSeq, iRg1, iRg2, cExpr, dRev, List.map_cons, List.map_nil, List.length_cons, List.length_nil, List.cons_append, List.nil_append, List.append_nil, List.replicate, List.getElem?_cons_zero, List.getElem?_cons_succ, List.set_cons_zero, List.set_cons_succ, Option.bind_some, Option.map_some, Option.bind_none, Option.map_none, Nat.reduceAdd, Nat.reduceSub, Int.reduceAdd, Int.reduceNeg, decide_true, decide_false, Bool.not_true, Bool.not_false, if_true, if_false, Bool.false_eq_true, if_pos, reduceIte, reduceCtorEq, Option.some.injEq, Prod.mk.injEq, and_self, and_true, true_and, szOk, h1, h8, same_ev s.v v2 hc]
  · simp only [cFz, at40, at41, at42, at43, at20, at21, at30, at31, at32, List.set, dMod_ev, Int.reduceMod, Int.reduceLT, Int.reduceSub, Int.reduceMul, Int.reduceToNat, Nat.reduceLT, Int.zero_add, Int.reduceLE, fAll_b, runF, cSeq, cIf, cSet, cRet, cRetN, cSkip, cCont, cBrk, cVar, cD, cBin, cUn, cBi, aNil, aCons, cTup, cLst, bT, bAnd, bOr, bNot, cAnd, cOr, cNot, cIte, cChain, cIsi, dTy, kb1, kb2, kb3, kb4, kb5, kb6, kb7, fAbs_ev, fMax_ev, fMin_ev, wipeS, Function.comp_apply, Function.comp_def, dIx, dGetAny, cPotGet, cPotSet, getP, setP, cCall, fInt, fLen, fTuple, fList, cLenV, dLt, dLe, dGt, dGe, dB2, dAdd, dSub_ev, dNeg, Nat.reduceLeDiff, cs0, cs1, cs2, cs3, cs4, cs5, cs6, cs7, cs8, cs9, cs10, cs11, cs12, Int.ofNat_eq_natCast, dEq_int, dNe_int, dEq_pair, dNe_pair, dIsN, dNotN, cPar, cPar3, cAsg, gN, gT, gsCons, gsNil, bdOf, cSl, oNone, oSome, dSl, iSeq, iRg1, iRg2, cExpr, dRev, List.map_cons, List.map_nil, List.length_cons, List.length_nil, List.cons_append, List.nil_append, List.append_nil, List.replicate, List.getElem?_cons_zero, List.getElem?_cons_succ, List.set_cons_zero, List.set_cons_succ, Option.bind_some, Option.map_some, Option.bind_none, Option.map_none, Nat.reduceAdd, Nat.reduceSub, Int.reduceAdd, Int.reduceNeg, decide_true, decide_false, Bool.not_true, Bool.not_false, if_true, if_false, Bool.false_eq_true, if_pos, reduceIte, reduceCtorEq, Option.some.injEq, Prod.mk.injEq, and_self, and_true, true_and, szOk]
theorem b6 (s : Sl r) (h : Pk n u) (hn : n ≤ 1000000) : ∃ (k : Int) (u' : Int × Int × Int), (2 ≤ k ∧ k ≤ 5) ∧ Pk (n + 1) u' ∧ s__law_is_right_6 ⟨r, some u⟩ = some (.nx, ⟨r.set 9 (.val (.int k)), some u'⟩) := by
  obtain ⟨r1, u1, e1, b0, b1, h1⟩ := takeK 4 u n h (by omega) (by omega) (by omega)
  refine ⟨2 + r1, u1, by omega, h1, ?_⟩
  exact set_fz (b := false) (by simp only [cFz, at40, at41, at42, at43, at20, at21, at30, at31, at32, List.set, dMod_ev, Int.reduceMod, Int.reduceLT, Int.reduceSub, Int.reduceMul, Int.reduceToNat, Nat.reduceLT, Int.zero_add, Int.reduceLE, fAll_b, runF, cSeq, cIf, cSet, cRet, cRetN, cSkip, cCont, cBrk, cVar, cD, cBin, cUn, cBi, aNil, aCons, cTup, cLst, bT, bAnd, bOr, bNot, cAnd, cOr, cNot, cIte, cChain, cIsi, dTy, kb1, kb2, kb3, kb4, kb5, kb6, kb7, fAbs_ev, fMax_ev, fMin_ev, wipeS, Function.comp_apply, Function.comp_def, dIx, dGetAny, cPotGet, cPotSet, getP, setP, cCall, fInt, fLen, fTuple, fList, cLenV, dLt, dLe, dGt, dGe, dB2, dAdd, dSub_ev, dNeg, Nat.reduceLeDiff, cs0, cs1, cs2, cs3, cs4, cs5, cs6, cs7, cs8, cs9, cs10, cs11, cs12, Int.ofNat_eq_natCast, dEq_int, dNe_int, dEq_pair, dNe_pair, dIsN, dNotN, cPar, cPar3, cAsg, gN, gT, gsCons, gsNil, bdOf, cSl, oNone, oSome, dSl, iSeq, iRg1, iRg2, cExpr, dRev, List.map_cons, List.map_nil, List.length_cons, List.length_nil, List.cons_append, List.nil_append, List.append_nil, List.replicate, List.getElem?_cons_zero, List.getElem?_cons_succ, List.set_cons_zero, List.set_cons_succ, Option.bind_some, Option.map_some, Option.bind_none, Option.map_none, Nat.reduceAdd, Nat.reduceSub, Int.reduceAdd, Int.reduceNeg, decide_true, decide_false, Bool.not_true, Bool.not_false, if_true, if_false, Bool.false_eq_true, if_pos, reduceIte, reduceCtorEq, Option.some.injEq, Prod.mk.injEq, and_self, and_true, true_and, szOk, s.pot, e1])
theorem mul_lc {it : SI} {i j : Nat} {xs : List Int} (sl : Sl r) (hit : it ⟨r, p⟩ = some (xs.map .int, ⟨r, p⟩)) (hi : 15 ≤ i) (hi2 : i < 20) (hj : r[j]? = some (.val (.int k))) (hji : j < 15) (hk : 2 ≤ k ∧ k ≤ 5) (hx : ∀ w ∈ xs, -100000 ≤ w ∧ w ≤ 100000) (hz : xs.length ≤ 1000) :
    cLC it (gN i) bYes (cBin dMulI (cVar j) (cVar i)) [i] ⟨r, p⟩ = some ((.lst ((xs.map (k * ·)).map .int), true), ⟨r, p⟩) := by
  have e2 := lc_map (it := it) (te := cBin dMulI (cVar j) (cVar i)) (i := i) (p := p) (r := r) (b0 := .no) (s0 := ⟨r, p⟩) (ds := xs.map .int) (φ := fun d => match d with | .int w => .int (k * w) | _ => .non) hit (sl.no i hi hi2) rfl (fun d hd => by
    obtain ⟨w, hw, rfl⟩ := List.mem_map.1 hd
    have hb := hx w hw
    have m1 := dMul_i (a := k) (b := w) (by omega) (by omega)
    refine ⟨false, ?_⟩
    simp only [cFz, at40, at41, at42, at43, at20, at21, at30, at31, at32, List.set, dMod_ev, Int.reduceMod, Int.reduceLT, Int.reduceSub, Int.reduceMul, Int.reduceToNat, Nat.reduceLT, Int.zero_add, Int.reduceLE, fAll_b, runF, cSeq, cIf, cSet, cRet, cRetN, cSkip, cCont, cBrk, cVar, cD, cBin, cUn, cBi, aNil, aCons, cTup, cLst, bT, bAnd, bOr, bNot, cAnd, cOr, cNot, cIte, cChain, cIsi, dTy, kb1, kb2, kb3, kb4, kb5, kb6, kb7, fAbs_ev, fMax_ev, fMin_ev, wipeS, Function.comp_apply, Function.comp_def, dIx, dGetAny, cPotGet, cPotSet, getP, setP, cCall, fInt, fLen, fTuple, fList, cLenV, dLt, dLe, dGt, dGe, dB2, dAdd, dSub_ev, dNeg, Nat.reduceLeDiff, cs0, cs1, cs2, cs3, cs4, cs5, cs6, cs7, cs8, cs9, cs10, cs11, cs12, Int.ofNat_eq_natCast, dEq_int, dNe_int, dEq_pair, dNe_pair, dIsN, dNotN, cPar, cPar3, cAsg, gN, gT, gsCons, gsNil, bdOf, cSl, oNone, oSome, dSl, iSeq, iRg1, iRg2, cExpr, dRev, List.map_cons, List.map_nil, List.length_cons, List.length_nil, List.cons_append, List.nil_append, List.append_nil, List.replicate, List.getElem?_cons_zero, List.getElem?_cons_succ, List.set_cons_zero, List.set_cons_succ, Option.bind_some, Option.map_some, Option.bind_none, Option.map_none, Nat.reduceAdd, Nat.reduceSub, Int.reduceAdd, Int.reduceNeg, decide_true, decide_false, Bool.not_true, Bool.not_false, if_true, if_false, Bool.false_eq_true, if_pos, reduceIte, reduceCtorEq, Option.some.injEq, Prod.mk.injEq, and_self, and_true, true_and, szOk, gs (v := .val (.int w)) (show i < r.length by rw [sl.len]; omega), gn hj (show i ≠ j by omega), m1]) (by rw [List.length_map]; omega)
  rw [e2, List.map_map, List.map_map]
  rfl
theorem b7 (sl : Sl r) (s : Sm9 rs) (hk : 2 ≤ k ∧ k ≤ 5) (h1 : r[1]? = some (.val (T rs))) (h9 : r[9]? = some (.val (.int k))) : s__law_is_right_7 ⟨r, p⟩ = some (.nx, ⟨r.set 10 (.val (T (sc k rs))), p⟩) := by
  have e := mul_lc (it := iSeq (cVar 1)) (i := 15) (j := 9) (p := p) (xs := rs) sl (by simp only [cFz, at40, at41, at42, at43, at20, at21, at30, at31, at32, List.set, dMod_ev, Int.reduceMod, Int.reduceLT, Int.reduceSub, Int.reduceMul, Int.reduceToNat, Nat.reduceLT, Int.zero_add, Int.reduceLE, fAll_b, runF, cSeq, cIf, cSet, cRet, cRetN, cSkip, cCont, cBrk, cVar, cD, cBin, cUn, cBi, aNil, aCons, cTup, cLst, bT, bAnd, bOr, bNot, cAnd, cOr, cNot, cIte, cChain, cIsi, dTy, kb1, kb2, kb3, kb4, kb5, kb6, kb7, fAbs_ev, fMax_ev, fMin_ev, wipeS, Function.comp_apply, Function.comp_def, dIx, dGetAny, cPotGet, cPotSet, getP, setP, cCall, fInt, fLen, fTuple, fList, cLenV, dLt, dLe, dGt, dGe, dB2, dAdd, dSub_ev, dNeg, Nat.reduceLeDiff, cs0, cs1, cs2, cs3, cs4, cs5, cs6, cs7, cs8, cs9, cs10, cs11, cs12, Int.ofNat_eq_natCast, dEq_int, dNe_int, dEq_pair, dNe_pair, dIsN, dNotN, cPar, cPar3, cAsg, gN, gT, gsCons, gsNil, bdOf, cSl, oNone, oSome, dSl, iSeq, iRg1, iRg2, cExpr, dRev, List.map_cons, List.map_nil, List.length_cons, List.length_nil, List.cons_append, List.nil_append, List.append_nil, List.replicate, List.getElem?_cons_zero, List.getElem?_cons_succ, List.set_cons_zero, List.set_cons_succ, Option.bind_some, Option.map_some, Option.bind_none, Option.map_none, Nat.reduceAdd, Nat.reduceSub, Int.reduceAdd, Int.reduceNeg, decide_true, decide_false, Bool.not_true, Bool.not_false, if_true, if_false, Bool.false_eq_true, if_pos, reduceIte, reduceCtorEq, Option.some.injEq, Prod.mk.injEq, and_self, and_true, true_and, szOk, h1]) (by decide) (by decide) h9 (by decide) hk (fun w hw => by have := s.v.rb w hw; omega) (by have := s.l8; omega)
  simp only [cFz, at40, at41, at42, at43, at20, at21, at30, at31, at32, List.set, dMod_ev, Int.reduceMod, Int.reduceLT, Int.reduceSub, Int.reduceMul, Int.reduceToNat, Nat.reduceLT, Int.zero_add, Int.reduceLE, fAll_b, runF, cSeq, cIf, cSet, cRet, cRetN, cSkip, cCont, cBrk, cVar, cD, cBin, cUn, cBi, aNil, aCons, cTup, cLst, bT, bAnd, bOr, bNot, cAnd, cOr, cNot, cIte, cChain, cIsi, dTy, kb1, kb2, kb3, kb4, kb5, kb6, kb7, fAbs_ev, fMax_ev, fMin_ev, wipeS, Function.comp_apply, Function.comp_def, dIx, dGetAny, cPotGet, cPotSet, getP, setP, cCall, fInt, fLen, fTuple, fList, cLenV, dLt, dLe, dGt, dGe, dB2, dAdd, dSub_ev, dNeg, Nat.reduceLeDiff, cs0, cs1, cs2, cs3, cs4, cs5, cs6, cs7, cs8, cs9, cs10, cs11, cs12, Int.ofNat_eq_natCast, dEq_int, dNe_int, dEq_pair, dNe_pair, dIsN, dNotN, cPar, cPar3, cAsg, gN, gT, gsCons, gsNil, bdOf, cSl, oNone, oSome, dSl, iSeq, iRg1, iRg2, cExpr, dRev, List.map_cons, List.map_nil, List.length_cons, List.length_nil, List.cons_append, List.nil_append, List.append_nil, List.replicate, List.getElem?_cons_zero, List.getElem?_cons_succ, List.set_cons_zero, List.set_cons_succ, Option.bind_some, Option.map_some, Option.bind_none, Option.map_none, Nat.reduceAdd, Nat.reduceSub, Int.reduceAdd, Int.reduceNeg, decide_true, decide_false, Bool.not_true, Bool.not_false, if_true, if_false, Bool.false_eq_true, if_pos, reduceIte, reduceCtorEq, Option.some.injEq, Prod.mk.injEq, and_self, and_true, true_and, szOk, s__law_is_right_7, e]
theorem b8 (s : Sm9 rs) (a : Nr x y) (hk : 2 ≤ k ∧ k ≤ 5) (h1 : r[1]? = some (.val (T rs))) (h3 : r[3]? = some (.val (.int (hm rs x y)))) (h5 : r[5]? = some (.val (.int x))) (h6 : r[6]? = some (.val (.int y))) (h9 : r[9]? = some (.val (.int k))) (h10 : r[10]? = some (.val (T (sc k rs)))) : s__law_is_right_8 ⟨r, p⟩ = some (.nx, ⟨r, p⟩) := by
  have hx0 := a.x0; have hx1 := a.x1; have hy0 := a.y0; have hy1 := a.y1
  have m1 := dMul_i (a := k) (b := x) (by omega) (by omega)
  have m2 := dMul_i (a := k) (b := y) (by omega) (by omega)
  have v2 := s.great hk
  have hb : ∀ w, -100 ≤ w → w ≤ 100 → -10000 ≤ k * w ∧ k * w ≤ 10000 := fun w h1 h2 => by
    have e1 := Int.mul_le_mul_of_nonneg_left h2 (show 0 ≤ k by omega)
    have e2 := Int.mul_le_mul_of_nonneg_left h1 (show 0 ≤ k by omega)
    omega
  have a2 : Poi (k * x) (k * y) := ⟨(hb x hx0 hx1).1, (hb x hx0 hx1).2, (hb y hy0 hy1).1, (hb y hy0 hy1).2⟩
  have hl := len_sc (rs := rs) (k := k) (by omega)
  refine if_skip (bOr_ff (s' := ⟨r, p⟩) (ne_test0 (x := .int (hm (sc k rs) (k * x) (k * y))) (y := .int (hm rs x y)) (b := false) (b' := false) ?_ ?_ (neI (hm_sc (by omega)))) (ne_test0 (x := .int (((sm (sc k rs)).length : Int) ^ 2)) (y := .int (((sm rs).length : Int) ^ 2)) (b := false) (b' := false) ?_ ?_ (neI (by rw [hl]))))
  · simp only [cFz, at40, at41, at42, at43, at20, at21, at30, at31, at32, List.set, dMod_ev, Int.reduceMod, Int.reduceLT, Int.reduceSub, Int.reduceMul, Int.reduceToNat, Nat.reduceLT, Int.zero_add, Int.reduceLE, fAll_b, runF, cSeq, cIf, cSet, cRet, cRetN, cSkip, cCont, cBrk, cVar, cD, cBin, cUn, cBi, aNil, aCons, cTup, cLst, bT, bAnd, bOr, bNot, cAnd, cOr, cNot, cIte, cChain, cIsi, dTy, kb1, kb2, kb3, kb4, kb5, kb6, kb7, fAbs_ev, fMax_ev, fMin_ev, wipeS, Function.comp_apply, Function.comp_def, dIx, dGetAny, cPotGet, cPotSet, getP, setP, cCall, fInt, fLen, fTuple, fList, cLenV, dLt, dLe, dGt, dGe, dB2, dAdd, dSub_ev, dNeg, Nat.reduceLeDiff, cs0, cs1, cs2, cs3, cs4, cs5, cs6, cs7, cs8, cs9, cs10, cs11, cs12, Int.ofNat_eq_natCast, dEq_int, dNe_int, dEq_pair, dNe_pair, dIsN, dNotN, cPar, cPar3, cAsg, gN, gT, gsCons, gsNil, bdOf, cSl, oNone, oSome, dSl, iSeq, iRg1, iRg2, cExpr, dRev, List.map_cons, List.map_nil, List.length_cons, List.length_nil, List.cons_append, List.nil_append, List.append_nil, List.replicate, List.getElem?_cons_zero, List.getElem?_cons_succ, List.set_cons_zero, List.set_cons_succ, Option.bind_some, Option.map_some, Option.bind_none, Option.map_none, Nat.reduceAdd, Nat.reduceSub, Int.reduceAdd, Int.reduceNeg, decide_true, decide_false, Bool.not_true, Bool.not_false, if_true, if_false, Bool.false_eq_true, if_pos, reduceIte, reduceCtorEq, Option.some.injEq, Prod.mk.injEq, and_self, and_true, true_and, szOk, h10, h9, h5, h6, m1, m2, poses_ev v2 a2]
  · simp only [cFz, at40, at41, at42, at43, at20, at21, at30, at31, at32, List.set, dMod_ev, Int.reduceMod, Int.reduceLT, Int.reduceSub, Int.reduceMul, Int.reduceToNat, Nat.reduceLT, Int.zero_add, Int.reduceLE, fAll_b, runF, cSeq, cIf, cSet, cRet, cRetN, cSkip, cCont, cBrk, cVar, cD, cBin, cUn, cBi, aNil, aCons, cTup, cLst, bT, bAnd, bOr, bNot, cAnd, cOr, cNot, cIte, cChain, cIsi, dTy, kb1, kb2, kb3, kb4, kb5, kb6, kb7, fAbs_ev, fMax_ev, fMin_ev, wipeS, Function.comp_apply, Function.comp_def, dIx, dGetAny, cPotGet, cPotSet, getP, setP, cCall, fInt, fLen, fTuple, fList, cLenV, dLt, dLe, dGt, dGe, dB2, dAdd, dSub_ev, dNeg, Nat.reduceLeDiff, cs0, cs1, cs2, cs3, cs4, cs5, cs6, cs7, cs8, cs9, cs10, cs11, cs12, Int.ofNat_eq_natCast, dEq_int, dNe_int, dEq_pair, dNe_pair, dIsN, dNotN, cPar, cPar3, cAsg, gN, gT, gsCons, gsNil, bdOf, cSl, oNone, oSome, dSl, iSeq, iRg1, iRg2, cExpr, dRev, List.map_cons, List.map_nil, List.length_cons, List.length_nil, List.cons_append, List.nil_append, List.append_nil, List.replicate, List.getElem?_cons_zero, List.getElem?_cons_succ, List.set_cons_zero, List.set_cons_succ, Option.bind_some, Option.map_some, Option.bind_none, Option.map_none, Nat.reduceAdd, Nat.reduceSub, Int.reduceAdd, Int.reduceNeg, decide_true, decide_false, Bool.not_true, Bool.not_false, if_true, if_false, Bool.false_eq_true, if_pos, reduceIte, reduceCtorEq, Option.some.injEq, Prod.mk.injEq, and_self, and_true, true_and, szOk, h3]
  · simp only [cFz, at40, at41, at42, at43, at20, at21, at30, at31, at32, List.set, dMod_ev, Int.reduceMod, Int.reduceLT, Int.reduceSub, Int.reduceMul, Int.reduceToNat, Nat.reduceLT, Int.zero_add, Int.reduceLE, fAll_b, runF, cSeq, cIf, cSet, cRet, cRetN, cSkip, cCont, cBrk, cVar, cD, cBin, cUn, cBi, aNil, aCons, cTup, cLst, bT, bAnd, bOr, bNot, cAnd, cOr, cNot, cIte, cChain, cIsi, dTy, kb1, kb2, kb3, kb4, kb5, kb6, kb7, fAbs_ev, fMax_ev, fMin_ev, wipeS, Function.comp_apply, Function.comp_def, dIx, dGetAny, cPotGet, cPotSet, getP, setP, cCall, fInt, fLen, fTuple, fList, cLenV, dLt, dLe, dGt, dGe, dB2, dAdd, dSub_ev, dNeg, Nat.reduceLeDiff, cs0, cs1, cs2, cs3, cs4, cs5, cs6, cs7, cs8, cs9, cs10, cs11, cs12, Int.ofNat_eq_natCast, dEq_int, dNe_int, dEq_pair, dNe_pair, dIsN, dNotN, cPar, cPar3, cAsg, gN, gT, gsCons, gsNil, bdOf, cSl, oNone, oSome, dSl, iSeq, iRg1, iRg2, cExpr, dRev, List.map_cons, List.map_nil, List.length_cons, List.length_nil, List.cons_append, List.nil_append, List.append_nil, List.replicate, List.getElem?_cons_zero, List.getElem?_cons_succ, List.set_cons_zero, List.set_cons_succ, Option.bind_some, Option.map_some, Option.bind_none, Option.map_none, Nat.reduceAdd, Nat.reduceSub, Int.reduceAdd, Int.reduceNeg, decide_true, decide_false, Bool.not_true, Bool.not_false, if_true, if_false, Bool.false_eq_true, if_pos, reduceIte, reduceCtorEq, Option.some.injEq, Prod.mk.injEq, and_self, and_true, true_and, szOk, h10, many_ev v2]
  · simp only [cFz, at40, at41, at42, at43, at20, at21, at30, at31, at32, List.set, dMod_ev, Int.reduceMod, Int.reduceLT, Int.reduceSub, Int.reduceMul, Int.reduceToNat, Nat.reduceLT, Int.zero_add, Int.reduceLE, fAll_b, runF, cSeq, cIf, cSet, cRet, cRetN, cSkip, cCont, cBrk, cVar, cD, cBin, cUn, cBi, aNil, aCons, cTup, cLst, bT, bAnd, bOr, bNot, cAnd, cOr, cNot, cIte, cChain, cIsi, dTy, kb1, kb2, kb3, kb4, kb5, kb6, kb7, fAbs_ev, fMax_ev, fMin_ev, wipeS, Function.comp_apply, Function.comp_def, dIx, dGetAny, cPotGet, cPotSet, getP, setP, cCall, fInt, fLen, fTuple, fList, cLenV, dLt, dLe, dGt, dGe, dB2, dAdd, dSub_ev, dNeg, Nat.reduceLeDiff, cs0, cs1, cs2, cs3, cs4, cs5, cs6, cs7, cs8, cs9, cs10, cs11, cs12, Int.ofNat_eq_natCast, dEq_int, dNe_int, dEq_pair, dNe_pair, dIsN, dNotN, cPar, cPar3, cAsg, gN, gT, gsCons, gsNil, bdOf, cSl, oNone, oSome, dSl, iSeq, iRg1, iRg2, cExpr, dRev, List.map_cons, List.map_nil, List.length_cons, List.length_nil, List.cons_append, List.nil_append, List.append_nil, List.replicate, List.getElem?_cons_zero, List.getElem?_cons_succ, List.set_cons_zero, List.set_cons_succ, Option.bind_some, Option.map_some, Option.bind_none, Option.map_none, Nat.reduceAdd, Nat.reduceSub, Int.reduceAdd, Int.reduceNeg, decide_true, decide_false, Bool.not_true, Bool.not_false, if_true, if_false, Bool.false_eq_true, if_pos, reduceIte, reduceCtorEq, Option.some.injEq, Prod.mk.injEq, and_self, and_true, true_and, szOk, h1, many_ev s.v]
theorem Kl_bd (s : Sm9 rs) : ∀ w ∈ Kl rs, -1000 ≤ w ∧ w ≤ 1000 := fun w hw => by
  have := at_snoc s.v.pos (Kl_mem.1 hw)
  have h2 := s.v.sb
  unfold At at this
  omega
theorem b9 (sl : Sl r) (s : Sm9 rs) (hk : 2 ≤ k ∧ k ≤ 5) (h1 : r[1]? = some (.val (T rs))) (h9 : r[9]? = some (.val (.int k))) (h10 : r[10]? = some (.val (T (sc k rs)))) : s__law_is_right_9 ⟨r, p⟩ = some (.nx, ⟨r, p⟩) := by
  have v2 := s.great hk
  have hl := len_sc (rs := rs) (k := k) (by omega)
  have hne : 0 < ((Kl rs).map ab).length := by rw [List.length_map]; exact List.length_pos_iff.2 Kl_ne
  have hmem := (minL_is hne).1
  have hbd : 0 ≤ minL ((Kl rs).map ab) ∧ minL ((Kl rs).map ab) ≤ 1000 := by
    obtain ⟨w, hw, e⟩ := List.mem_map.1 hmem
    have := Kl_bd s w hw
    rw [← e]
    unfold ab
    split <;> omega
  have m1 := dMul_i (a := k) (b := minL ((Kl rs).map ab)) (by omega) (by omega)
  have e := mul_lc (it := iSeq (cCall f_sums_of (aCons (cVar 1) aNil))) (i := 16) (j := 9) (p := p) (xs := srt (Kl rs)) sl (by simp only [cFz, at40, at41, at42, at43, at20, at21, at30, at31, at32, List.set, dMod_ev, Int.reduceMod, Int.reduceLT, Int.reduceSub, Int.reduceMul, Int.reduceToNat, Nat.reduceLT, Int.zero_add, Int.reduceLE, fAll_b, runF, cSeq, cIf, cSet, cRet, cRetN, cSkip, cCont, cBrk, cVar, cD, cBin, cUn, cBi, aNil, aCons, cTup, cLst, bT, bAnd, bOr, bNot, cAnd, cOr, cNot, cIte, cChain, cIsi, dTy, kb1, kb2, kb3, kb4, kb5, kb6, kb7, fAbs_ev, fMax_ev, fMin_ev, wipeS, Function.comp_apply, Function.comp_def, dIx, dGetAny, cPotGet, cPotSet, getP, setP, cCall, fInt, fLen, fTuple, fList, cLenV, dLt, dLe, dGt, dGe, dB2, dAdd, dSub_ev, dNeg, Nat.reduceLeDiff, cs0, cs1, cs2, cs3, cs4, cs5, cs6, cs7, cs8, cs9, cs10, cs11, cs12, Int.ofNat_eq_natCast, dEq_int, dNe_int, dEq_pair, dNe_pair, dIsN, dNotN, cPar, cPar3, cAsg, gN, gT, gsCons, gsNil, bdOf, cSl, oNone, oSome, dSl, iSeq, iRg1, iRg2, cExpr, dRev, List.map_cons, List.map_nil, List.length_cons, List.length_nil, List.cons_append, List.nil_append, List.append_nil, List.replicate, List.getElem?_cons_zero, List.getElem?_cons_succ, List.set_cons_zero, List.set_cons_succ, Option.bind_some, Option.map_some, Option.bind_none, Option.map_none, Nat.reduceAdd, Nat.reduceSub, Int.reduceAdd, Int.reduceNeg, decide_true, decide_false, Bool.not_true, Bool.not_false, if_true, if_false, Bool.false_eq_true, if_pos, reduceIte, reduceCtorEq, Option.some.injEq, Prod.mk.injEq, and_self, and_true, true_and, szOk, h1, sumsOf_ev s.v s.h64]) (by decide) (by decide) h9 (by decide) hk (fun w hw => by have := Kl_bd s w ((srt_perm _).mem_iff.1 hw); omega) (by rw [srt_len, Kl_len]; have := s.h64; omega)
  have es : srt (Kl (sc k rs)) = (srt (Kl rs)).map (k * ·) := by rw [Kl_sc (by omega), srt_mul (by omega)]
  refine if_skip (bOr_ff (s' := ⟨r, p⟩) (ne_test0 (x := .int (minL ((Kl (sc k rs)).map ab))) (y := .int (k * minL ((Kl rs).map ab))) (b := false) (b' := false) ?_ ?_ (neI (least_sc (by omega)))) (ne_test0 (x := T (srt (Kl (sc k rs)))) (y := T ((srt (Kl rs)).map (k * ·))) (b := false) (b' := false) ?_ ?_ (neT es)))
  · simp only [cFz, at40, at41, at42, at43, at20, at21, at30, at31, at32, List.set, dMod_ev, Int.reduceMod, Int.reduceLT, Int.reduceSub, Int.reduceMul, Int.reduceToNat, Nat.reduceLT, Int.zero_add, Int.reduceLE, fAll_b, runF, cSeq, cIf, cSet, cRet, cRetN, cSkip, cCont, cBrk, cVar, cD, cBin, cUn, cBi, aNil, aCons, cTup, cLst, bT, bAnd, bOr, bNot, cAnd, cOr, cNot, cIte, cChain, cIsi, dTy, kb1, kb2, kb3, kb4, kb5, kb6, kb7, fAbs_ev, fMax_ev, fMin_ev, wipeS, Function.comp_apply, Function.comp_def, dIx, dGetAny, cPotGet, cPotSet, getP, setP, cCall, fInt, fLen, fTuple, fList, cLenV, dLt, dLe, dGt, dGe, dB2, dAdd, dSub_ev, dNeg, Nat.reduceLeDiff, cs0, cs1, cs2, cs3, cs4, cs5, cs6, cs7, cs8, cs9, cs10, cs11, cs12, Int.ofNat_eq_natCast, dEq_int, dNe_int, dEq_pair, dNe_pair, dIsN, dNotN, cPar, cPar3, cAsg, gN, gT, gsCons, gsNil, bdOf, cSl, oNone, oSome, dSl, iSeq, iRg1, iRg2, cExpr, dRev, List.map_cons, List.map_nil, List.length_cons, List.length_nil, List.cons_append, List.nil_append, List.append_nil, List.replicate, List.getElem?_cons_zero, List.getElem?_cons_succ, List.set_cons_zero, List.set_cons_succ, Option.bind_some, Option.map_some, Option.bind_none, Option.map_none, Nat.reduceAdd, Nat.reduceSub, Int.reduceAdd, Int.reduceNeg, decide_true, decide_false, Bool.not_true, Bool.not_false, if_true, if_false, Bool.false_eq_true, if_pos, reduceIte, reduceCtorEq, Option.some.injEq, Prod.mk.injEq, and_self, and_true, true_and, szOk, h10, least_ev v2]
  · simp only [cFz, at40, at41, at42, at43, at20, at21, at30, at31, at32, List.set, dMod_ev, Int.reduceMod, Int.reduceLT, Int.reduceSub, Int.reduceMul, Int.reduceToNat, Nat.reduceLT, Int.zero_add, Int.reduceLE, fAll_b, runF, cSeq, cIf, cSet, cRet, cRetN, cSkip, cCont, cBrk, cVar, cD, cBin, cUn, cBi, aNil, aCons, cTup, cLst, bT, bAnd, bOr, bNot, cAnd, cOr, cNot, cIte, cChain, cIsi, dTy, kb1, kb2, kb3, kb4, kb5, kb6, kb7, fAbs_ev, fMax_ev, fMin_ev, wipeS, Function.comp_apply, Function.comp_def, dIx, dGetAny, cPotGet, cPotSet, getP, setP, cCall, fInt, fLen, fTuple, fList, cLenV, dLt, dLe, dGt, dGe, dB2, dAdd, dSub_ev, dNeg, Nat.reduceLeDiff, cs0, cs1, cs2, cs3, cs4, cs5, cs6, cs7, cs8, cs9, cs10, cs11, cs12, Int.ofNat_eq_natCast, dEq_int, dNe_int, dEq_pair, dNe_pair, dIsN, dNotN, cPar, cPar3, cAsg, gN, gT, gsCons, gsNil, bdOf, cSl, oNone, oSome, dSl, iSeq, iRg1, iRg2, cExpr, dRev, List.map_cons, List.map_nil, List.length_cons, List.length_nil, List.cons_append, List.nil_append, List.append_nil, List.replicate, List.getElem?_cons_zero, List.getElem?_cons_succ, List.set_cons_zero, List.set_cons_succ, Option.bind_some, Option.map_some, Option.bind_none, Option.map_none, Nat.reduceAdd, Nat.reduceSub, Int.reduceAdd, Int.reduceNeg, decide_true, decide_false, Bool.not_true, Bool.not_false, if_true, if_false, Bool.false_eq_true, if_pos, reduceIte, reduceCtorEq, Option.some.injEq, Prod.mk.injEq, and_self, and_true, true_and, szOk, h9, h1, least_ev s.v, m1]
  · simp only [cFz, at40, at41, at42, at43, at20, at21, at30, at31, at32, List.set, dMod_ev, Int.reduceMod, Int.reduceLT, Int.reduceSub, Int.reduceMul, Int.reduceToNat, Nat.reduceLT, Int.zero_add, Int.reduceLE, fAll_b, runF, cSeq, cIf, cSet, cRet, cRetN, cSkip, cCont, cBrk, cVar, cD, cBin, cUn, cBi, aNil, aCons, cTup, cLst, bT, bAnd, bOr, bNot, cAnd, cOr, cNot, cIte, cChain, cIsi, dTy, kb1, kb2, kb3, kb4, kb5, kb6, kb7, fAbs_ev, fMax_ev, fMin_ev, wipeS, Function.comp_apply, Function.comp_def, dIx, dGetAny, cPotGet, cPotSet, getP, setP, cCall, fInt, fLen, fTuple, fList, cLenV, dLt, dLe, dGt, dGe, dB2, dAdd, dSub_ev, dNeg, Nat.reduceLeDiff, cs0, cs1, cs2, cs3, cs4, cs5, cs6, cs7, cs8, cs9, cs10, cs11, cs12, Int.ofNat_eq_natCast, dEq_int, dNe_int, dEq_pair, dNe_pair, dIsN, dNotN, cPar, cPar3, cAsg, gN, gT, gsCons, gsNil, bdOf, cSl, oNone, oSome, dSl, iSeq, iRg1, iRg2, cExpr, dRev, List.map_cons, List.map_nil, List.length_cons, List.length_nil, List.cons_append, List.nil_append, List.append_nil, List.replicate, List.getElem?_cons_zero, List.getElem?_cons_succ, List.set_cons_zero, List.set_cons_succ, Option.bind_some, Option.map_some, Option.bind_none, Option.map_none, Nat.reduceAdd, Nat.reduceSub, Int.reduceAdd, Int.reduceNeg, decide_true, decide_false, Bool.not_true, Bool.not_false, if_true, if_false, Bool.false_eq_true, if_pos, reduceIte, reduceCtorEq, Option.some.injEq, Prod.mk.injEq, and_self, and_true, true_and, szOk, h10, sumsOf_ev v2 (by rw [hl]; exact s.h64)]
  · simp only [cFz, at40, at41, at42, at43, at20, at21, at30, at31, at32, List.set, dMod_ev, Int.reduceMod, Int.reduceLT, Int.reduceSub, Int.reduceMul, Int.reduceToNat, Nat.reduceLT, Int.zero_add, Int.reduceLE, fAll_b, runF, cSeq, cIf, cSet, cRet, cRetN, cSkip, cCont, cBrk, cVar, cD, cBin, cUn, cBi, aNil, aCons, cTup, cLst, bT, bAnd, bOr, bNot, cAnd, cOr, cNot, cIte, cChain, cIsi, dTy, kb1, kb2, kb3, kb4, kb5, kb6, kb7, fAbs_ev, fMax_ev, fMin_ev, wipeS, Function.comp_apply, Function.comp_def, dIx, dGetAny, cPotGet, cPotSet, getP, setP, cCall, fInt, fLen, fTuple, fList, cLenV, dLt, dLe, dGt, dGe, dB2, dAdd, dSub_ev, dNeg, Nat.reduceLeDiff, cs0, cs1, cs2, cs3, cs4, cs5, cs6, cs7, cs8, cs9, cs10, cs11, cs12, Int.ofNat_eq_natCast, dEq_int, dNe_int, dEq_pair, dNe_pair, dIsN, dNotN, cPar, cPar3, cAsg, gN, gT, gsCons, gsNil, bdOf, cSl, oNone, oSome, dSl, iSeq, iRg1, iRg2, cExpr, dRev, List.map_cons, List.map_nil, List.length_cons, List.length_nil, List.cons_append, List.nil_append, List.append_nil, List.replicate, List.getElem?_cons_zero, List.getElem?_cons_succ, List.set_cons_zero, List.set_cons_succ, Option.bind_some, Option.map_some, Option.bind_none, Option.map_none, Nat.reduceAdd, Nat.reduceSub, Int.reduceAdd, Int.reduceNeg, decide_true, decide_false, Bool.not_true, Bool.not_false, if_true, if_false, Bool.false_eq_true, if_pos, reduceIte, reduceCtorEq, Option.some.injEq, Prod.mk.injEq, and_self, and_true, true_and, szOk, e]
theorem b10 (s : Sm9 rs) (h1 : r[1]? = some (.val (T rs))) (h4 : r[4]? = some (.val (.bl (rch rs x y)))) (h5 : r[5]? = some (.val (.int x))) (h6 : r[6]? = some (.val (.int y))) : s__law_is_right_10 ⟨r, p⟩ = some (.nx, ⟨r, p⟩) := by
  have es := fSum_t (ns := rs)
  refine if_skip (bAnd_f ?_)
  cases hr : rch rs x y with
  | false =>
    rw [hr] at h4
    exact .inl (by simp only [cFz, at40, at41, at42, at43, at20, at21, at30, at31, at32, List.set, dMod_ev, Int.reduceMod, Int.reduceLT, Int.reduceSub, Int.reduceMul, Int.reduceToNat, Nat.reduceLT, Int.zero_add, Int.reduceLE, fAll_b, runF, cSeq, cIf, cSet, cRet, cRetN, cSkip, cCont, cBrk, cVar, cD, cBin, cUn, cBi, aNil, aCons, cTup, cLst, bT, bAnd, bOr, bNot, cAnd, cOr, cNot, cIte, cChain, cIsi, dTy, kb1, kb2, kb3, kb4, kb5, kb6, kb7, fAbs_ev, fMax_ev, fMin_ev, wipeS, Function.comp_apply, Function.comp_def, dIx, dGetAny, cPotGet, cPotSet, getP, setP, cCall, fInt, fLen, fTuple, fList, cLenV, dLt, dLe, dGt, dGe, dB2, dAdd, dSub_ev, dNeg, Nat.reduceLeDiff, cs0, cs1, cs2, cs3, cs4, cs5, cs6, cs7, cs8, cs9, cs10, cs11, cs12, Int.ofNat_eq_natCast, dEq_int, dNe_int, dEq_pair, dNe_pair, dIsN, dNotN, cPar, cPar3, cAsg, gN, gT, gsCons, gsNil, bdOf, cSl, oNone, oSome, dSl, iSeq, iRg1, iRg2, cExpr, dRev, List.map_cons, List.map_nil, List.length_cons, List.length_nil, List.cons_append, List.nil_append, List.append_nil, List.replicate, List.getElem?_cons_zero, List.getElem?_cons_succ, List.set_cons_zero, List.set_cons_succ, Option.bind_some, Option.map_some, Option.bind_none, Option.map_none, Nat.reduceAdd, Nat.reduceSub, Int.reduceAdd, Int.reduceNeg, decide_true, decide_false, Bool.not_true, Bool.not_false, if_true, if_false, Bool.false_eq_true, if_pos, reduceIte, reduceCtorEq, Option.some.injEq, Prod.mk.injEq, and_self, and_true, true_and, szOk, h4])
  | true =>
    rw [hr] at h4
    have := rch_near s.v hr
    have q : ¬ ab x + ab y > rs.sum := by omega
    have q2 : ¬ rs.sum < ab x + ab y := by omega
    exact .inr ⟨by simp only [cFz, at40, at41, at42, at43, at20, at21, at30, at31, at32, List.set, dMod_ev, Int.reduceMod, Int.reduceLT, Int.reduceSub, Int.reduceMul, Int.reduceToNat, Nat.reduceLT, Int.zero_add, Int.reduceLE, fAll_b, runF, cSeq, cIf, cSet, cRet, cRetN, cSkip, cCont, cBrk, cVar, cD, cBin, cUn, cBi, aNil, aCons, cTup, cLst, bT, bAnd, bOr, bNot, cAnd, cOr, cNot, cIte, cChain, cIsi, dTy, kb1, kb2, kb3, kb4, kb5, kb6, kb7, fAbs_ev, fMax_ev, fMin_ev, wipeS, Function.comp_apply, Function.comp_def, dIx, dGetAny, cPotGet, cPotSet, getP, setP, cCall, fInt, fLen, fTuple, fList, cLenV, dLt, dLe, dGt, dGe, dB2, dAdd, dSub_ev, dNeg, Nat.reduceLeDiff, cs0, cs1, cs2, cs3, cs4, cs5, cs6, cs7, cs8, cs9, cs10, cs11, cs12, Int.ofNat_eq_natCast, dEq_int, dNe_int, dEq_pair, dNe_pair, dIsN, dNotN, cPar, cPar3, cAsg, gN, gT, gsCons, gsNil, bdOf, cSl, oNone, oSome, dSl, iSeq, iRg1, iRg2, cExpr, dRev, List.map_cons, List.map_nil, List.length_cons, List.length_nil, List.cons_append, List.nil_append, List.append_nil, List.replicate, List.getElem?_cons_zero, List.getElem?_cons_succ, List.set_cons_zero, List.set_cons_succ, Option.bind_some, Option.map_some, Option.bind_none, Option.map_none, Nat.reduceAdd, Nat.reduceSub, Int.reduceAdd, Int.reduceNeg, decide_true, decide_false, Bool.not_true, Bool.not_false, if_true, if_false, Bool.false_eq_true, if_pos, reduceIte, reduceCtorEq, Option.some.injEq, Prod.mk.injEq, and_self, and_true, true_and, szOk, h4], by simp only [cFz, at40, at41, at42, at43, at20, at21, at30, at31, at32, List.set, dMod_ev, Int.reduceMod, Int.reduceLT, Int.reduceSub, Int.reduceMul, Int.reduceToNat, Nat.reduceLT, Int.zero_add, Int.reduceLE, fAll_b, runF, cSeq, cIf, cSet, cRet, cRetN, cSkip, cCont, cBrk, cVar, cD, cBin, cUn, cBi, aNil, aCons, cTup, cLst, bT, bAnd, bOr, bNot, cAnd, cOr, cNot, cIte, cChain, cIsi, dTy, kb1, kb2, kb3, kb4, kb5, kb6, kb7, fAbs_ev, fMax_ev, fMin_ev, wipeS, Function.comp_apply, Function.comp_def, dIx, dGetAny, cPotGet, cPotSet, getP, setP, cCall, fInt, fLen, fTuple, fList, cLenV, dLt, dLe, dGt, dGe, dB2, dAdd, dSub_ev, dNeg, Nat.reduceLeDiff, cs0, cs1, cs2, cs3, cs4, cs5, cs6, cs7, cs8, cs9, cs10, cs11, cs12, Int.ofNat_eq_natCast, dEq_int, dNe_int, dEq_pair, dNe_pair, dIsN, dNotN, cPar, cPar3, cAsg, gN, gT, gsCons, gsNil, bdOf, cSl, oNone, oSome, dSl, iSeq, iRg1, iRg2, cExpr, dRev, List.map_cons, List.map_nil, List.length_cons, List.length_nil, List.cons_append, List.nil_append, List.append_nil, List.replicate, List.getElem?_cons_zero, List.getElem?_cons_succ, List.set_cons_zero, List.set_cons_succ, Option.bind_some, Option.map_some, Option.bind_none, Option.map_none, Nat.reduceAdd, Nat.reduceSub, Int.reduceAdd, Int.reduceNeg, decide_true, decide_false, Bool.not_true, Bool.not_false, if_true, if_false, Bool.false_eq_true, if_pos, reduceIte, reduceCtorEq, Option.some.injEq, Prod.mk.injEq, and_self, and_true, true_and, szOk, h5, h6, h1, es, q, q2]⟩
theorem b11 (s : Sl r) (h : Pk n u) (hn : n ≤ 1000000) : ∃ (m : Int) (u' : Int × Int × Int), (1 ≤ m ∧ m ≤ 9) ∧ Pk (n + 1) u' ∧ s__law_is_right_11 ⟨r, some u⟩ = some (.nx, ⟨r.set 11 (.val (.int m)), some u'⟩) := by
  obtain ⟨r1, u1, e1, b0, b1, h1⟩ := takeK 9 u n h (by omega) (by omega) (by omega)
  refine ⟨1 + r1, u1, by omega, h1, ?_⟩
  exact set_fz (b := false) (by simp only [cFz, at40, at41, at42, at43, at20, at21, at30, at31, at32, List.set, dMod_ev, Int.reduceMod, Int.reduceLT, Int.reduceSub, Int.reduceMul, Int.reduceToNat, Nat.reduceLT, Int.zero_add, Int.reduceLE, fAll_b, runF, cSeq, cIf, cSet, cRet, cRetN, cSkip, cCont, cBrk, cVar, cD, cBin, cUn, cBi, aNil, aCons, cTup, cLst, bT, bAnd, bOr, bNot, cAnd, cOr, cNot, cIte, cChain, cIsi, dTy, kb1, kb2, kb3, kb4, kb5, kb6, kb7, fAbs_ev, fMax_ev, fMin_ev, wipeS, Function.comp_apply, Function.comp_def, dIx, dGetAny, cPotGet, cPotSet, getP, setP, cCall, fInt, fLen, fTuple, fList, cLenV, dLt, dLe, dGt, dGe, dB2, dAdd, dSub_ev, dNeg, Nat.reduceLeDiff, cs0, cs1, cs2, cs3, cs4, cs5, cs6, cs7, cs8, cs9, cs10, cs11, cs12, Int.ofNat_eq_natCast, dEq_int, dNe_int, dEq_pair, dNe_pair, dIsN, dNotN, cPar, cPar3, cAsg, gN, gT, gsCons, gsNil, bdOf, cSl, oNone, oSome, dSl, iSeq, iRg1, iRg2, cExpr, dRev, List.map_cons, List.map_nil, List.length_cons, List.length_nil, List.cons_append, List.nil_append, List.append_nil, List.replicate, List.getElem?_cons_zero, List.getElem?_cons_succ, List.set_cons_zero, List.set_cons_succ, Option.bind_some, Option.map_some, Option.bind_none, Option.map_none, Nat.reduceAdd, Nat.reduceSub, Int.reduceAdd, Int.reduceNeg, decide_true, decide_false, Bool.not_true, Bool.not_false, if_true, if_false, Bool.false_eq_true, if_pos, reduceIte, reduceCtorEq, Option.some.injEq, Prod.mk.injEq, and_self, and_true, true_and, szOk, s.pot, e1])
abbrev bes (x y m : Int) : List D := [pt (x + m) y, pt (x - m) y, pt x (y + m), pt x (y - m)]
theorem b12 (h5 : r[5]? = some (.val (.int x))) (h6 : r[6]? = some (.val (.int y))) (h11 : r[11]? = some (.val (.int m))) : s__law_is_right_12 ⟨r, p⟩ = some (.nx, ⟨r.set 12 (.val (.lst (bes x y m))), p⟩) := by
  exact set_fz (b := true) (by simp only [cFz, at40, at41, at42, at43, at20, at21, at30, at31, at32, List.set, dMod_ev, Int.reduceMod, Int.reduceLT, Int.reduceSub, Int.reduceMul, Int.reduceToNat, Nat.reduceLT, Int.zero_add, Int.reduceLE, fAll_b, runF, cSeq, cIf, cSet, cRet, cRetN, cSkip, cCont, cBrk, cVar, cD, cBin, cUn, cBi, aNil, aCons, cTup, cLst, bT, bAnd, bOr, bNot, cAnd, cOr, cNot, cIte, cChain, cIsi, dTy, kb1, kb2, kb3, kb4, kb5, kb6, kb7, fAbs_ev, fMax_ev, fMin_ev, wipeS, Function.comp_apply, Function.comp_def, dIx, dGetAny, cPotGet, cPotSet, getP, setP, cCall, fInt, fLen, fTuple, fList, cLenV, dLt, dLe, dGt, dGe, dB2, dAdd, dSub_ev, dNeg, Nat.reduceLeDiff, cs0, cs1, cs2, cs3, cs4, cs5, cs6, cs7, cs8, cs9, cs10, cs11, cs12, Int.ofNat_eq_natCast, dEq_int, dNe_int, dEq_pair, dNe_pair, dIsN, dNotN, cPar, cPar3, cAsg, gN, gT, gsCons, gsNil, bdOf, cSl, oNone, oSome, dSl, iSeq, iRg1, iRg2, cExpr, dRev, List.map_cons, List.map_nil, List.length_cons, List.length_nil, List.cons_append, List.nil_append, List.append_nil, List.replicate, List.getElem?_cons_zero, List.getElem?_cons_succ, List.set_cons_zero, List.set_cons_succ, Option.bind_some, Option.map_some, Option.bind_none, Option.map_none, Nat.reduceAdd, Nat.reduceSub, Int.reduceAdd, Int.reduceNeg, decide_true, decide_false, Bool.not_true, Bool.not_false, if_true, if_false, Bool.false_eq_true, if_pos, reduceIte, reduceCtorEq, Option.some.injEq, Prod.mk.injEq, and_self, and_true, true_and, szOk, h5, h6, h11])
theorem bes_poi (a : Nr x y) (hm : 1 ≤ m ∧ m ≤ 9) : ∀ d ∈ bes x y m, ∃ x' y', d = pt x' y' ∧ Poi x' y' := fun d hd => by
  have hx0 := a.x0; have hx1 := a.x1; have hy0 := a.y0; have hy1 := a.y1
  simp only [bes, List.mem_cons, List.not_mem_nil, or_false] at hd
  rcases hd with rfl | rfl | rfl | rfl <;> exact ⟨_, _, rfl, ⟨by omega, by omega, by omega, by omega⟩⟩
theorem more_ev (s : Sm9 rs) (h1 : r[1]? = some (.val (T rs))) (h11 : r[11]? = some (.val (.int m))) : cBin dAdd (cVar 1) (cTup (aCons (cVar 11) aNil)) ⟨r, p⟩ = some ((T (rs ++ [m]), false), ⟨r, p⟩) := by
  have hz : (rs.map D.int).length ≤ 16777215 := by rw [List.length_map]; have := s.l8; omega
  unfold T
  rw [List.map_append]
  simp only [cFz, at40, at41, at42, at43, at20, at21, at30, at31, at32, List.set, dMod_ev, Int.reduceMod, Int.reduceLT, Int.reduceSub, Int.reduceMul, Int.reduceToNat, Nat.reduceLT, Int.zero_add, Int.reduceLE, fAll_b, runF, cSeq, cIf, cSet, cRet, cRetN, cSkip, cCont, cBrk, cVar, cD, cBin, cUn, cBi, aNil, aCons, cTup, cLst, bT, bAnd, bOr, bNot, cAnd, cOr, cNot, cIte, cChain, cIsi, dTy, kb1, kb2, kb3, kb4, kb5, kb6, kb7, fAbs_ev, fMax_ev, fMin_ev, wipeS, Function.comp_apply, Function.comp_def, dIx, dGetAny, cPotGet, cPotSet, getP, setP, cCall, fInt, fLen, fTuple, fList, cLenV, dLt, dLe, dGt, dGe, dB2, dAdd, dSub_ev, dNeg, Nat.reduceLeDiff, cs0, cs1, cs2, cs3, cs4, cs5, cs6, cs7, cs8, cs9, cs10, cs11, cs12, Int.ofNat_eq_natCast, dEq_int, dNe_int, dEq_pair, dNe_pair, dIsN, dNotN, cPar, cPar3, cAsg, gN, gT, gsCons, gsNil, bdOf, cSl, oNone, oSome, dSl, iSeq, iRg1, iRg2, cExpr, dRev, List.map_cons, List.map_nil, List.length_cons, List.length_nil, List.cons_append, List.nil_append, List.append_nil, List.replicate, List.getElem?_cons_zero, List.getElem?_cons_succ, List.set_cons_zero, List.set_cons_succ, Option.bind_some, Option.map_some, Option.bind_none, Option.map_none, Nat.reduceAdd, Nat.reduceSub, Int.reduceAdd, Int.reduceNeg, decide_true, decide_false, Bool.not_true, Bool.not_false, if_true, if_false, Bool.false_eq_true, if_pos, reduceIte, reduceCtorEq, Option.some.injEq, Prod.mk.injEq, and_self, and_true, true_and, szOk, h1, h11, hz]
theorem b13 (sl : Sl r) (s : Sm9 rs) (a : Nr x y) (hm' : 1 ≤ m ∧ m ≤ 9) (h1 : r[1]? = some (.val (T rs))) (h2 : r[2]? = some (.val (pt x y))) (h11 : r[11]? = some (.val (.int m))) (h12 : r[12]? = some (.val (.lst (bes x y m)))) : s__law_is_right_13 ⟨r, p⟩ = some (.nx, ⟨r, p⟩) := by
  have e := lc_map (it := iSeq (cVar 12)) (te := cCall f_how_many_poses (aCons (cVar 1) (aCons (cVar 17) aNil))) (i := 17) (p := p) (r := r) (b0 := .no) (s0 := ⟨r, p⟩) (ds := bes x y m) (φ := fun d => match d with | .tup [.int a, .int b] => .int (hm rs a b) | _ => .non) (by simp only [cFz, at40, at41, at42, at43, at20, at21, at30, at31, at32, List.set, dMod_ev, Int.reduceMod, Int.reduceLT, Int.reduceSub, Int.reduceMul, Int.reduceToNat, Nat.reduceLT, Int.zero_add, Int.reduceLE, fAll_b, runF, cSeq, cIf, cSet, cRet, cRetN, cSkip, cCont, cBrk, cVar, cD, cBin, cUn, cBi, aNil, aCons, cTup, cLst, bT, bAnd, bOr, bNot, cAnd, cOr, cNot, cIte, cChain, cIsi, dTy, kb1, kb2, kb3, kb4, kb5, kb6, kb7, fAbs_ev, fMax_ev, fMin_ev, wipeS, Function.comp_apply, Function.comp_def, dIx, dGetAny, cPotGet, cPotSet, getP, setP, cCall, fInt, fLen, fTuple, fList, cLenV, dLt, dLe, dGt, dGe, dB2, dAdd, dSub_ev, dNeg, Nat.reduceLeDiff, cs0, cs1, cs2, cs3, cs4, cs5, cs6, cs7, cs8, cs9, cs10, cs11, cs12, Int.ofNat_eq_natCast, dEq_int, dNe_int, dEq_pair, dNe_pair, dIsN, dNotN, cPar, cPar3, cAsg, gN, gT, gsCons, gsNil, bdOf, cSl, oNone, oSome, dSl, iSeq, iRg1, iRg2, cExpr, dRev, List.map_cons, List.map_nil, List.length_cons, List.length_nil, List.cons_append, List.nil_append, List.append_nil, List.replicate, List.getElem?_cons_zero, List.getElem?_cons_succ, List.set_cons_zero, List.set_cons_succ, Option.bind_some, Option.map_some, Option.bind_none, Option.map_none, Nat.reduceAdd, Nat.reduceSub, Int.reduceAdd, Int.reduceNeg, decide_true, decide_false, Bool.not_true, Bool.not_false, if_true, if_false, Bool.false_eq_true, if_pos, reduceIte, reduceCtorEq, Option.some.injEq, Prod.mk.injEq, and_self, and_true, true_and, szOk, h12]) (sl.no 17 (by omega) (by omega)) rfl (fun d hd => by
    obtain ⟨x', y', rfl, a'⟩ := bes_poi a hm' d hd
    refine ⟨false, ?_⟩
    simp only [cFz, at40, at41, at42, at43, at20, at21, at30, at31, at32, List.set, dMod_ev, Int.reduceMod, Int.reduceLT, Int.reduceSub, Int.reduceMul, Int.reduceToNat, Nat.reduceLT, Int.zero_add, Int.reduceLE, fAll_b, runF, cSeq, cIf, cSet, cRet, cRetN, cSkip, cCont, cBrk, cVar, cD, cBin, cUn, cBi, aNil, aCons, cTup, cLst, bT, bAnd, bOr, bNot, cAnd, cOr, cNot, cIte, cChain, cIsi, dTy, kb1, kb2, kb3, kb4, kb5, kb6, kb7, fAbs_ev, fMax_ev, fMin_ev, wipeS, Function.comp_apply, Function.comp_def, dIx, dGetAny, cPotGet, cPotSet, getP, setP, cCall, fInt, fLen, fTuple, fList, cLenV, dLt, dLe, dGt, dGe, dB2, dAdd, dSub_ev, dNeg, Nat.reduceLeDiff, cs0, cs1, cs2, cs3, cs4, cs5, cs6, cs7, cs8, cs9, cs10, cs11, cs12, Int.ofNat_eq_natCast, dEq_int, dNe_int, dEq_pair, dNe_pair, dIsN, dNotN, cPar, cPar3, cAsg, gN, gT, gsCons, gsNil, bdOf, cSl, oNone, oSome, dSl, iSeq, iRg1, iRg2, cExpr, dRev, List.map_cons, List.map_nil, List.length_cons, List.length_nil, List.cons_append, List.nil_append, List.append_nil, List.replicate, List.getElem?_cons_zero, List.getElem?_cons_succ, List.set_cons_zero, List.set_cons_succ, Option.bind_some, Option.map_some, Option.bind_none, Option.map_none, Nat.reduceAdd, Nat.reduceSub, Int.reduceAdd, Int.reduceNeg, decide_true, decide_false, Bool.not_true, Bool.not_false, if_true, if_false, Bool.false_eq_true, if_pos, reduceIte, reduceCtorEq, Option.some.injEq, Prod.mk.injEq, and_self, and_true, true_and, szOk, gs (v := .val (pt x' y')) (show 17 < r.length by rw [sl.len]; omega), gn h1 (show 17 ≠ 1 by omega), poses_ev s.v a']) (by simp)
  have e3 := fSum_l (ns := [hm rs (x + m) y, hm rs (x - m) y, hm rs x (y + m), hm rs x (y - m)])
  have v2 := s.more hm'
  have me := more_ev (p := p) s h1 h11
  simp only [bes, List.map_cons, List.map_nil] at e e3
  refine ne_skip (x := .int (hm (rs ++ [m]) x y)) (y := .int ([hm rs (x + m) y, hm rs (x - m) y, hm rs x (y + m), hm rs x (y - m)].sum)) (b := false) (b' := false) ?_ ?_ (neI (by rw [hm_more]; simp only [List.sum_cons, List.sum_nil]))
  · have : (aCons (cBin dAdd (cVar 1) (cTup (aCons (cVar 11) aNil))) (aCons (cVar 2) aNil)) ⟨r, p⟩ = some ([T (rs ++ [m]), pt x y], ⟨r, p⟩) := by
      simp only [aCons, me, Option.bind_some]
      simp only [cFz, at40, at41, at42, at43, at20, at21, at30, at31, at32, List.set, dMod_ev, Int.reduceMod, Int.reduceLT, Int.reduceSub, Int.reduceMul, Int.reduceToNat, Nat.reduceLT, Int.zero_add, Int.reduceLE, fAll_b, runF, cSeq, cIf, cSet, cRet, cRetN, cSkip, cCont, cBrk, cVar, cD, cBin, cUn, cBi, aNil, aCons, cTup, cLst, bT, bAnd, bOr, bNot, cAnd, cOr, cNot, cIte, cChain, cIsi, dTy, kb1, kb2, kb3, kb4, kb5, kb6, kb7, fAbs_ev, fMax_ev, fMin_ev, wipeS, Function.comp_apply, Function.comp_def, dIx, dGetAny, cPotGet, cPotSet, getP, setP, cCall, fInt, fLen, fTuple, fList, cLenV, dLt, dLe, dGt, dGe, dB2, dAdd, dSub_ev, dNeg, Nat.reduceLeDiff, cs0, cs1, cs2, cs3, cs4, cs5, cs6, cs7, cs8, cs9, cs10, cs11, cs12, Int.ofNat_eq_natCast, dEq_int, dNe_int, dEq_pair, dNe_pair, dIsN, dNotN, cPar, cPar3, cAsg, gN, gT, gsCons, gsNil, bdOf, cSl, oNone, oSome, dSl, iSeq, iRg1, iRg2, cExpr, dRev, List.map_cons, List.map_nil, List.length_cons, List.length_nil, List.cons_append, List.nil_append, List.append_nil, List.replicate, List.getElem?_cons_zero, List.getElem?_cons_succ, List.set_cons_zero, List.set_cons_succ, Option.bind_some, Option.map_some, Option.bind_none, Option.map_none, Nat.reduceAdd, Nat.reduceSub, Int.reduceAdd, Int.reduceNeg, decide_true, decide_false, Bool.not_true, Bool.not_false, if_true, if_false, Bool.false_eq_true, if_pos, reduceIte, reduceCtorEq, Option.some.injEq, Prod.mk.injEq, and_self, and_true, true_and, szOk, h2]
    simp only [cCall, this, Option.bind_some, poses_ev v2 a.p0, Option.map_some]
  · simp only [cFz, at40, at41, at42, at43, at20, at21, at30, at31, at32, List.set, dMod_ev, Int.reduceMod, Int.reduceLT, Int.reduceSub, Int.reduceMul, Int.reduceToNat, Nat.reduceLT, Int.zero_add, Int.reduceLE, fAll_b, runF, cSeq, cIf, cSet, cRet, cRetN, cSkip, cCont, cBrk, cVar, cD, cBin, cUn, cBi, aNil, aCons, cTup, cLst, bT, bAnd, bOr, bNot, cAnd, cOr, cNot, cIte, cChain, cIsi, dTy, kb1, kb2, kb3, kb4, kb5, kb6, kb7, fAbs_ev, fMax_ev, fMin_ev, wipeS, Function.comp_apply, Function.comp_def, dIx, dGetAny, cPotGet, cPotSet, getP, setP, cCall, fInt, fLen, fTuple, fList, cLenV, dLt, dLe, dGt, dGe, dB2, dAdd, dSub_ev, dNeg, Nat.reduceLeDiff, cs0, cs1, cs2, cs3, cs4, cs5, cs6, cs7, cs8, cs9, cs10, cs11, cs12, Int.ofNat_eq_natCast, dEq_int, dNe_int, dEq_pair, dNe_pair, dIsN, dNotN, cPar, cPar3, cAsg, gN, gT, gsCons, gsNil, bdOf, cSl, oNone, oSome, dSl, iSeq, iRg1, iRg2, cExpr, dRev, List.map_cons, List.map_nil, List.length_cons, List.length_nil, List.cons_append, List.nil_append, List.append_nil, List.replicate, List.getElem?_cons_zero, List.getElem?_cons_succ, List.set_cons_zero, List.set_cons_succ, Option.bind_some, Option.map_some, Option.bind_none, Option.map_none, Nat.reduceAdd, Nat.reduceSub, Int.reduceAdd, Int.reduceNeg, decide_true, decide_false, Bool.not_true, Bool.not_false, if_true, if_false, Bool.false_eq_true, if_pos, reduceIte, reduceCtorEq, Option.some.injEq, Prod.mk.injEq, and_self, and_true, true_and, szOk, e, e3]
theorem b14 (sl : Sl r) (s : Sm9 rs) (a : Nr x y) (hm' : 1 ≤ m ∧ m ≤ 9) (h1 : r[1]? = some (.val (T rs))) (h2 : r[2]? = some (.val (pt x y))) (h11 : r[11]? = some (.val (.int m))) (h12 : r[12]? = some (.val (.lst (bes x y m)))) : s__law_is_right_14 ⟨r, p⟩ = some (.nx, ⟨r, p⟩) := by
  have e := lc_map (it := iSeq (cVar 12)) (te := cCall f_is_reached (aCons (cVar 1) (aCons (cVar 17) aNil))) (i := 17) (p := p) (r := r) (b0 := .no) (s0 := ⟨r, p⟩) (ds := bes x y m) (φ := fun d => match d with | .tup [.int a, .int b] => .bl (rch rs a b) | _ => .non) (by simp only [cFz, at40, at41, at42, at43, at20, at21, at30, at31, at32, List.set, dMod_ev, Int.reduceMod, Int.reduceLT, Int.reduceSub, Int.reduceMul, Int.reduceToNat, Nat.reduceLT, Int.zero_add, Int.reduceLE, fAll_b, runF, cSeq, cIf, cSet, cRet, cRetN, cSkip, cCont, cBrk, cVar, cD, cBin, cUn, cBi, aNil, aCons, cTup, cLst, bT, bAnd, bOr, bNot, cAnd, cOr, cNot, cIte, cChain, cIsi, dTy, kb1, kb2, kb3, kb4, kb5, kb6, kb7, fAbs_ev, fMax_ev, fMin_ev, wipeS, Function.comp_apply, Function.comp_def, dIx, dGetAny, cPotGet, cPotSet, getP, setP, cCall, fInt, fLen, fTuple, fList, cLenV, dLt, dLe, dGt, dGe, dB2, dAdd, dSub_ev, dNeg, Nat.reduceLeDiff, cs0, cs1, cs2, cs3, cs4, cs5, cs6, cs7, cs8, cs9, cs10, cs11, cs12, Int.ofNat_eq_natCast, dEq_int, dNe_int, dEq_pair, dNe_pair, dIsN, dNotN, cPar, cPar3, cAsg, gN, gT, gsCons, gsNil, bdOf, cSl, oNone, oSome, dSl, iSeq, iRg1, iRg2, cExpr, dRev, List.map_cons, List.map_nil, List.length_cons, List.length_nil, List.cons_append, List.nil_append, List.append_nil, List.replicate, List.getElem?_cons_zero, List.getElem?_cons_succ, List.set_cons_zero, List.set_cons_succ, Option.bind_some, Option.map_some, Option.bind_none, Option.map_none, Nat.reduceAdd, Nat.reduceSub, Int.reduceAdd, Int.reduceNeg, decide_true, decide_false, Bool.not_true, Bool.not_false, if_true, if_false, Bool.false_eq_true, if_pos, reduceIte, reduceCtorEq, Option.some.injEq, Prod.mk.injEq, and_self, and_true, true_and, szOk, h12]) (sl.no 17 (by omega) (by omega)) rfl (fun d hd => by
    obtain ⟨x', y', rfl, a'⟩ := bes_poi a hm' d hd
    refine ⟨false, ?_⟩
    simp only [cFz, at40, at41, at42, at43, at20, at21, at30, at31, at32, List.set, dMod_ev, Int.reduceMod, Int.reduceLT, Int.reduceSub, Int.reduceMul, Int.reduceToNat, Nat.reduceLT, Int.zero_add, Int.reduceLE, fAll_b, runF, cSeq, cIf, cSet, cRet, cRetN, cSkip, cCont, cBrk, cVar, cD, cBin, cUn, cBi, aNil, aCons, cTup, cLst, bT, bAnd, bOr, bNot, cAnd, cOr, cNot, cIte, cChain, cIsi, dTy, kb1, kb2, kb3, kb4, kb5, kb6, kb7, fAbs_ev, fMax_ev, fMin_ev, wipeS, Function.comp_apply, Function.comp_def, dIx, dGetAny, cPotGet, cPotSet, getP, setP, cCall, fInt, fLen, fTuple, fList, cLenV, dLt, dLe, dGt, dGe, dB2, dAdd, dSub_ev, dNeg, Nat.reduceLeDiff, cs0, cs1, cs2, cs3, cs4, cs5, cs6, cs7, cs8, cs9, cs10, cs11, cs12, Int.ofNat_eq_natCast, dEq_int, dNe_int, dEq_pair, dNe_pair, dIsN, dNotN, cPar, cPar3, cAsg, gN, gT, gsCons, gsNil, bdOf, cSl, oNone, oSome, dSl, iSeq, iRg1, iRg2, cExpr, dRev, List.map_cons, List.map_nil, List.length_cons, List.length_nil, List.cons_append, List.nil_append, List.append_nil, List.replicate, List.getElem?_cons_zero, List.getElem?_cons_succ, List.set_cons_zero, List.set_cons_succ, Option.bind_some, Option.map_some, Option.bind_none, Option.map_none, Nat.reduceAdd, Nat.reduceSub, Int.reduceAdd, Int.reduceNeg, decide_true, decide_false, Bool.not_true, Bool.not_false, if_true, if_false, Bool.false_eq_true, if_pos, reduceIte, reduceCtorEq, Option.some.injEq, Prod.mk.injEq, and_self, and_true, true_and, szOk, gs (v := .val (pt x' y')) (show 17 < r.length by rw [sl.len]; omega), gn h1 (show 17 ≠ 1 by omega), reached_ev s.v a']) (by simp)
  have e3 := fAny_b (bs := [rch rs (x + m) y, rch rs (x - m) y, rch rs x (y + m), rch rs x (y - m)])
  have v2 := s.more hm'
  have me := more_ev (p := p) s h1 h11
  simp only [bes, List.map_cons, List.map_nil] at e e3
  refine ne_skip (x := .bl (rch (rs ++ [m]) x y)) (y := .bl ([rch rs (x + m) y, rch rs (x - m) y, rch rs x (y + m), rch rs x (y - m)].any id)) (b := false) (b' := false) ?_ ?_ (neB rch_more)
  · have : (aCons (cBin dAdd (cVar 1) (cTup (aCons (cVar 11) aNil))) (aCons (cVar 2) aNil)) ⟨r, p⟩ = some ([T (rs ++ [m]), pt x y], ⟨r, p⟩) := by
      simp only [aCons, me, Option.bind_some]
      simp only [cFz, at40, at41, at42, at43, at20, at21, at30, at31, at32, List.set, dMod_ev, Int.reduceMod, Int.reduceLT, Int.reduceSub, Int.reduceMul, Int.reduceToNat, Nat.reduceLT, Int.zero_add, Int.reduceLE, fAll_b, runF, cSeq, cIf, cSet, cRet, cRetN, cSkip, cCont, cBrk, cVar, cD, cBin, cUn, cBi, aNil, aCons, cTup, cLst, bT, bAnd, bOr, bNot, cAnd, cOr, cNot, cIte, cChain, cIsi, dTy, kb1, kb2, kb3, kb4, kb5, kb6, kb7, fAbs_ev, fMax_ev, fMin_ev, wipeS, Function.comp_apply, Function.comp_def, dIx, dGetAny, cPotGet, cPotSet, getP, setP, cCall, fInt, fLen, fTuple, fList, cLenV, dLt, dLe, dGt, dGe, dB2, dAdd, dSub_ev, dNeg, Nat.reduceLeDiff, cs0, cs1, cs2, cs3, cs4, cs5, cs6, cs7, cs8, cs9, cs10, cs11, cs12, Int.ofNat_eq_natCast, dEq_int, dNe_int, dEq_pair, dNe_pair, dIsN, dNotN, cPar, cPar3, cAsg, gN, gT, gsCons, gsNil, bdOf, cSl, oNone, oSome, dSl, iSeq, iRg1, iRg2, cExpr, dRev, List.map_cons, List.map_nil, List.length_cons, List.length_nil, List.cons_append, List.nil_append, List.append_nil, List.replicate, List.getElem?_cons_zero, List.getElem?_cons_succ, List.set_cons_zero, List.set_cons_succ, Option.bind_some, Option.map_some, Option.bind_none, Option.map_none, Nat.reduceAdd, Nat.reduceSub, Int.reduceAdd, Int.reduceNeg, decide_true, decide_false, Bool.not_true, Bool.not_false, if_true, if_false, Bool.false_eq_true, if_pos, reduceIte, reduceCtorEq, Option.some.injEq, Prod.mk.injEq, and_self, and_true, true_and, szOk, h2]
    simp only [cCall, this, Option.bind_some, reached_ev v2 a.p0, Option.map_some]
  · simp only [cFz, at40, at41, at42, at43, at20, at21, at30, at31, at32, List.set, dMod_ev, Int.reduceMod, Int.reduceLT, Int.reduceSub, Int.reduceMul, Int.reduceToNat, Nat.reduceLT, Int.zero_add, Int.reduceLE, fAll_b, runF, cSeq, cIf, cSet, cRet, cRetN, cSkip, cCont, cBrk, cVar, cD, cBin, cUn, cBi, aNil, aCons, cTup, cLst, bT, bAnd, bOr, bNot, cAnd, cOr, cNot, cIte, cChain, cIsi, dTy, kb1, kb2, kb3, kb4, kb5, kb6, kb7, fAbs_ev, fMax_ev, fMin_ev, wipeS, Function.comp_apply, Function.comp_def, dIx, dGetAny, cPotGet, cPotSet, getP, setP, cCall, fInt, fLen, fTuple, fList, cLenV, dLt, dLe, dGt, dGe, dB2, dAdd, dSub_ev, dNeg, Nat.reduceLeDiff, cs0, cs1, cs2, cs3, cs4, cs5, cs6, cs7, cs8, cs9, cs10, cs11, cs12, Int.ofNat_eq_natCast, dEq_int, dNe_int, dEq_pair, dNe_pair, dIsN, dNotN, cPar, cPar3, cAsg, gN, gT, gsCons, gsNil, bdOf, cSl, oNone, oSome, dSl, iSeq, iRg1, iRg2, cExpr, dRev, List.map_cons, List.map_nil, List.length_cons, List.length_nil, List.cons_append, List.nil_append, List.append_nil, List.replicate, List.getElem?_cons_zero, List.getElem?_cons_succ, List.set_cons_zero, List.set_cons_succ, Option.bind_some, Option.map_some, Option.bind_none, Option.map_none, Nat.reduceAdd, Nat.reduceSub, Int.reduceAdd, Int.reduceNeg, decide_true, decide_false, Bool.not_true, Bool.not_false, if_true, if_false, Bool.false_eq_true, if_pos, reduceIte, reduceCtorEq, Option.some.injEq, Prod.mk.injEq, and_self, and_true, true_and, szOk, e, e3]
theorem b15 (s : Sm9 rs) (a : Nr x y) (h1 : r[1]? = some (.val (T rs))) (h2 : r[2]? = some (.val (pt x y))) : s__law_is_right_15 ⟨r, p⟩ = some (.nx, ⟨r.set 13 (.val (.int (nv rs x y))), p⟩) := by
  simp only [cFz, at40, at41, at42, at43, at20, at21, at30, at31, at32, List.set, dMod_ev, Int.reduceMod, Int.reduceLT, Int.reduceSub, Int.reduceMul, Int.reduceToNat, Nat.reduceLT, Int.zero_add, Int.reduceLE, fAll_b, runF, cSeq, cIf, cSet, cRet, cRetN, cSkip, cCont, cBrk, cVar, cD, cBin, cUn, cBi, aNil, aCons, cTup, cLst, bT, bAnd, bOr, bNot, cAnd, cOr, cNot, cIte, cChain, cIsi, dTy, kb1, kb2, kb3, kb4, kb5, kb6, kb7, fAbs_ev, fMax_ev, fMin_ev, wipeS, Function.comp_apply, Function.comp_def, dIx, dGetAny, cPotGet, cPotSet, getP, setP, cCall, fInt, fLen, fTuple, fList, cLenV, dLt, dLe, dGt, dGe, dB2, dAdd, dSub_ev, dNeg, Nat.reduceLeDiff, cs0, cs1, cs2, cs3, cs4, cs5, cs6, cs7, cs8, cs9, cs10, cs11, cs12, Int.ofNat_eq_natCast, dEq_int, dNe_int, dEq_pair, dNe_pair, dIsN, dNotN, cPar, cPar3, cAsg, gN, gT, gsCons, gsNil, bdOf, cSl, oNone, oSome, dSl, iSeq, iRg1, iRg2, cExpr, dRev, List.map_cons, List.map_nil, List.length_cons, List.length_nil, List.cons_append, List.nil_append, List.append_nil, List.replicate, List.getElem?_cons_zero, List.getElem?_cons_succ, List.set_cons_zero, List.set_cons_succ, Option.bind_some, Option.map_some, Option.bind_none, Option.map_none, Nat.reduceAdd, Nat.reduceSub, Int.reduceAdd, Int.reduceNeg, decide_true, decide_false, Bool.not_true, Bool.not_false, if_true, if_false, Bool.false_eq_true, if_pos, reduceIte, reduceCtorEq, Option.some.injEq, Prod.mk.injEq, and_self, and_true, true_and, szOk, s__law_is_right_15, h1, h2, near_ev s.v a.p0]
abbrev nrs (x y : Int) : List D := [pt (x + 1) (y + 0), pt (x + 0) (y + 1), pt (x + -1) (y + 0), pt (x + 0) (y + -1)]
theorem ways_ev : f__law_ways [] p = some (.tup [pt 1 0, pt 0 1, pt (-1) 0, pt 0 (-1)], p) := by
  simp only [cFz, at40, at41, at42, at43, at20, at21, at30, at31, at32, List.set, dMod_ev, Int.reduceMod, Int.reduceLT, Int.reduceSub, Int.reduceMul, Int.reduceToNat, Nat.reduceLT, Int.zero_add, Int.reduceLE, fAll_b, runF, cSeq, cIf, cSet, cRet, cRetN, cSkip, cCont, cBrk, cVar, cD, cBin, cUn, cBi, aNil, aCons, cTup, cLst, bT, bAnd, bOr, bNot, cAnd, cOr, cNot, cIte, cChain, cIsi, dTy, kb1, kb2, kb3, kb4, kb5, kb6, kb7, fAbs_ev, fMax_ev, fMin_ev, wipeS, Function.comp_apply, Function.comp_def, dIx, dGetAny, cPotGet, cPotSet, getP, setP, cCall, fInt, fLen, fTuple, fList, cLenV, dLt, dLe, dGt, dGe, dB2, dAdd, dSub_ev, dNeg, Nat.reduceLeDiff, cs0, cs1, cs2, cs3, cs4, cs5, cs6, cs7, cs8, cs9, cs10, cs11, cs12, Int.ofNat_eq_natCast, dEq_int, dNe_int, dEq_pair, dNe_pair, dIsN, dNotN, cPar, cPar3, cAsg, gN, gT, gsCons, gsNil, bdOf, cSl, oNone, oSome, dSl, iSeq, iRg1, iRg2, cExpr, dRev, List.map_cons, List.map_nil, List.length_cons, List.length_nil, List.cons_append, List.nil_append, List.append_nil, List.replicate, List.getElem?_cons_zero, List.getElem?_cons_succ, List.set_cons_zero, List.set_cons_succ, Option.bind_some, Option.map_some, Option.bind_none, Option.map_none, Nat.reduceAdd, Nat.reduceSub, Int.reduceAdd, Int.reduceNeg, decide_true, decide_false, Bool.not_true, Bool.not_false, if_true, if_false, Bool.false_eq_true, if_pos, reduceIte, reduceCtorEq, Option.some.injEq, Prod.mk.injEq, and_self, and_true, true_and, szOk, f__law_ways, c__law_ways, dNeg]
theorem b16 (sl : Sl r) (h5 : r[5]? = some (.val (.int x))) (h6 : r[6]? = some (.val (.int y))) : s__law_is_right_16 ⟨r, p⟩ = some (.nx, ⟨r.set 14 (.val (.lst (nrs x y))), p⟩) := by
  have e := lc_two (it := iSeq (cCall f__law_ways aNil)) (te := cTup (aCons (cBin dAdd (cVar 5) (cVar 18)) (aCons (cBin dAdd (cVar 6) (cVar 19)) aNil))) (i := 18) (j := 19) (p := p) (r := r) (s0 := ⟨r, p⟩) (bi := .no) (bj := .no) (ds := [pt 1 0, pt 0 1, pt (-1) 0, pt 0 (-1)]) (φ := fun d => match d with | .tup [.int a, .int b] => pt (x + a) (y + b) | _ => .non) (by simp only [cFz, at40, at41, at42, at43, at20, at21, at30, at31, at32, List.set, dMod_ev, Int.reduceMod, Int.reduceLT, Int.reduceSub, Int.reduceMul, Int.reduceToNat, Nat.reduceLT, Int.zero_add, Int.reduceLE, fAll_b, runF, cSeq, cIf, cSet, cRet, cRetN, cSkip, cCont, cBrk, cVar, cD, cBin, cUn, cBi, aNil, aCons, cTup, cLst, bT, bAnd, bOr, bNot, cAnd, cOr, cNot, cIte, cChain, cIsi, dTy, kb1, kb2, kb3, kb4, kb5, kb6, kb7, fAbs_ev, fMax_ev, fMin_ev, wipeS, Function.comp_apply, Function.comp_def, dIx, dGetAny, cPotGet, cPotSet, getP, setP, cCall, fInt, fLen, fTuple, fList, cLenV, dLt, dLe, dGt, dGe, dB2, dAdd, dSub_ev, dNeg, Nat.reduceLeDiff, cs0, cs1, cs2, cs3, cs4, cs5, cs6, cs7, cs8, cs9, cs10, cs11, cs12, Int.ofNat_eq_natCast, dEq_int, dNe_int, dEq_pair, dNe_pair, dIsN, dNotN, cPar, cPar3, cAsg, gN, gT, gsCons, gsNil, bdOf, cSl, oNone, oSome, dSl, iSeq, iRg1, iRg2, cExpr, dRev, List.map_cons, List.map_nil, List.length_cons, List.length_nil, List.cons_append, List.nil_append, List.append_nil, List.replicate, List.getElem?_cons_zero, List.getElem?_cons_succ, List.set_cons_zero, List.set_cons_succ, Option.bind_some, Option.map_some, Option.bind_none, Option.map_none, Nat.reduceAdd, Nat.reduceSub, Int.reduceAdd, Int.reduceNeg, decide_true, decide_false, Bool.not_true, Bool.not_false, if_true, if_false, Bool.false_eq_true, if_pos, reduceIte, reduceCtorEq, Option.some.injEq, Prod.mk.injEq, and_self, and_true, true_and, szOk, ways_ev]) (sl.no 18 (by omega) (by omega)) (sl.no 19 (by omega) (by omega)) rfl rfl (fun d hd => by
    have : ∃ a b, d = pt a b := by
      simp only [List.mem_cons, List.not_mem_nil, or_false] at hd
      rcases hd with rfl | rfl | rfl | rfl <;> exact ⟨_, _, rfl⟩
    obtain ⟨a, b, rfl⟩ := this
    refine ⟨_, _, rfl, false, ?_⟩
    have wl : (wipeB r [18, 19]).length = 20 := by rw [wipeB_len]; exact sl.len
    have k5 : (wipeB r [18, 19])[5]? = some (.val (.int x)) := by rw [wipeB_get]; exact h5
    have k6 : (wipeB r [18, 19])[6]? = some (.val (.int y)) := by rw [wipeB_get]; exact h6
    have g1 : (((wipeB r [18, 19]).set 18 (.val (.int a))).set 19 (.val (.int b)))[18]? = some (.val (.int a)) := gn (gs (by omega)) (by decide)
    have g2 : (((wipeB r [18, 19]).set 18 (.val (.int a))).set 19 (.val (.int b)))[19]? = some (.val (.int b)) := gs (by rw [List.length_set]; omega)
    have g5 : (((wipeB r [18, 19]).set 18 (.val (.int a))).set 19 (.val (.int b)))[5]? = some (.val (.int x)) := gn (gn k5 (by decide)) (by decide)
    have g6 : (((wipeB r [18, 19]).set 18 (.val (.int a))).set 19 (.val (.int b)))[6]? = some (.val (.int y)) := gn (gn k6 (by decide)) (by decide)
    simp only [cFz, at40, at41, at42, at43, at20, at21, at30, at31, at32, List.set, dMod_ev, Int.reduceMod, Int.reduceLT, Int.reduceSub, Int.reduceMul, Int.reduceToNat, Nat.reduceLT, Int.zero_add, Int.reduceLE, fAll_b, runF, cSeq, cIf, cSet, cRet, cRetN, cSkip, cCont, cBrk, cVar, cD, cBin, cUn, cBi, aNil, aCons, cTup, cLst, bT, bAnd, bOr, bNot, cAnd, cOr, cNot, cIte, cChain, cIsi, dTy, kb1, kb2, kb3, kb4, kb5, kb6, kb7, fAbs_ev, fMax_ev, fMin_ev, wipeS, Function.comp_apply, Function.comp_def, dIx, dGetAny, cPotGet, cPotSet, getP, setP, cCall, fInt, fLen, fTuple, fList, cLenV, dLt, dLe, dGt, dGe, dB2, dAdd, dSub_ev, dNeg, Nat.reduceLeDiff, cs0, cs1, cs2, cs3, cs4, cs5, cs6, cs7, cs8, cs9, cs10, cs11, cs12, Int.ofNat_eq_natCast, dEq_int, dNe_int, dEq_pair, dNe_pair, dIsN, dNotN, cPar, cPar3, cAsg, gN, gT, gsCons, gsNil, bdOf, cSl, oNone, oSome, dSl, iSeq, iRg1, iRg2, cExpr, dRev, List.map_cons, List.map_nil, List.length_cons, List.length_nil, List.cons_append, List.nil_append, List.append_nil, List.replicate, List.getElem?_cons_zero, List.getElem?_cons_succ, List.set_cons_zero, List.set_cons_succ, Option.bind_some, Option.map_some, Option.bind_none, Option.map_none, Nat.reduceAdd, Nat.reduceSub, Int.reduceAdd, Int.reduceNeg, decide_true, decide_false, Bool.not_true, Bool.not_false, if_true, if_false, Bool.false_eq_true, if_pos, reduceIte, reduceCtorEq, Option.some.injEq, Prod.mk.injEq, and_self, and_true, true_and, szOk, g1, g2, g5, g6]) (by simp)
  exact set_fz (b := true) e
theorem b17 (sl : Sl r) (s : Sm9 rs) (a : Nr x y) (h1 : r[1]? = some (.val (T rs))) (h13 : r[13]? = some (.val (.int (nv rs x y)))) (h14 : r[14]? = some (.val (.lst (nrs x y)))) : s__law_is_right_17 ⟨r, p⟩ = some (.rt (.bl true), ⟨r, p⟩) := by
  have e := lc_map (it := iSeq (cVar 14)) (te := cBin dLe (cBi fAbs (aCons (cBin dSub (cBin dGetAny (cCall f_nearest_to (aCons (cVar 1) (aCons (cVar 17) aNil))) (cD (.int 0))) (cVar 13)) aNil)) (cD (.int 1))) (i := 17) (p := p) (r := r) (b0 := .no) (s0 := ⟨r, p⟩) (ds := nrs x y) (φ := fun _ => .bl true) (by simp only [cFz, at40, at41, at42, at43, at20, at21, at30, at31, at32, List.set, dMod_ev, Int.reduceMod, Int.reduceLT, Int.reduceSub, Int.reduceMul, Int.reduceToNat, Nat.reduceLT, Int.zero_add, Int.reduceLE, fAll_b, runF, cSeq, cIf, cSet, cRet, cRetN, cSkip, cCont, cBrk, cVar, cD, cBin, cUn, cBi, aNil, aCons, cTup, cLst, bT, bAnd, bOr, bNot, cAnd, cOr, cNot, cIte, cChain, cIsi, dTy, kb1, kb2, kb3, kb4, kb5, kb6, kb7, fAbs_ev, fMax_ev, fMin_ev, wipeS, Function.comp_apply, Function.comp_def, dIx, dGetAny, cPotGet, cPotSet, getP, setP, cCall, fInt, fLen, fTuple, fList, cLenV, dLt, dLe, dGt, dGe, dB2, dAdd, dSub_ev, dNeg, Nat.reduceLeDiff, cs0, cs1, cs2, cs3, cs4, cs5, cs6, cs7, cs8, cs9, cs10, cs11, cs12, Int.ofNat_eq_natCast, dEq_int, dNe_int, dEq_pair, dNe_pair, dIsN, dNotN, cPar, cPar3, cAsg, gN, gT, gsCons, gsNil, bdOf, cSl, oNone, oSome, dSl, iSeq, iRg1, iRg2, cExpr, dRev, List.map_cons, List.map_nil, List.length_cons, List.length_nil, List.cons_append, List.nil_append, List.append_nil, List.replicate, List.getElem?_cons_zero, List.getElem?_cons_succ, List.set_cons_zero, List.set_cons_succ, Option.bind_some, Option.map_some, Option.bind_none, Option.map_none, Nat.reduceAdd, Nat.reduceSub, Int.reduceAdd, Int.reduceNeg, decide_true, decide_false, Bool.not_true, Bool.not_false, if_true, if_false, Bool.false_eq_true, if_pos, reduceIte, reduceCtorEq, Option.some.injEq, Prod.mk.injEq, and_self, and_true, true_and, szOk, h14]) (sl.no 17 (by omega) (by omega)) rfl (fun d hd => by
    have : ∃ i j, d = pt (x + i) (y + j) ∧ Poi (x + i) (y + j) ∧ ab (nv rs (x + i) (y + j) - nv rs x y) ≤ 1 := by
      simp only [nrs, List.mem_cons, List.not_mem_nil, or_false] at hd
      rcases hd with rfl | rfl | rfl | rfl
      · exact ⟨1, 0, rfl, a.poi (by omega) (by omega), nv_near (by omega)⟩
      · exact ⟨0, 1, rfl, a.poi (by omega) (by omega), nv_near (by omega)⟩
      · exact ⟨-1, 0, rfl, a.poi (by omega) (by omega), nv_near (by omega)⟩
      · exact ⟨0, -1, rfl, a.poi (by omega) (by omega), nv_near (by omega)⟩
    obtain ⟨i, j, rfl, a', hb⟩ := this
    refine ⟨false, ?_⟩
    simp only [cFz, at40, at41, at42, at43, at20, at21, at30, at31, at32, List.set, dMod_ev, Int.reduceMod, Int.reduceLT, Int.reduceSub, Int.reduceMul, Int.reduceToNat, Nat.reduceLT, Int.zero_add, Int.reduceLE, fAll_b, runF, cSeq, cIf, cSet, cRet, cRetN, cSkip, cCont, cBrk, cVar, cD, cBin, cUn, cBi, aNil, aCons, cTup, cLst, bT, bAnd, bOr, bNot, cAnd, cOr, cNot, cIte, cChain, cIsi, dTy, kb1, kb2, kb3, kb4, kb5, kb6, kb7, fAbs_ev, fMax_ev, fMin_ev, wipeS, Function.comp_apply, Function.comp_def, dIx, dGetAny, cPotGet, cPotSet, getP, setP, cCall, fInt, fLen, fTuple, fList, cLenV, dLt, dLe, dGt, dGe, dB2, dAdd, dSub_ev, dNeg, Nat.reduceLeDiff, cs0, cs1, cs2, cs3, cs4, cs5, cs6, cs7, cs8, cs9, cs10, cs11, cs12, Int.ofNat_eq_natCast, dEq_int, dNe_int, dEq_pair, dNe_pair, dIsN, dNotN, cPar, cPar3, cAsg, gN, gT, gsCons, gsNil, bdOf, cSl, oNone, oSome, dSl, iSeq, iRg1, iRg2, cExpr, dRev, List.map_cons, List.map_nil, List.length_cons, List.length_nil, List.cons_append, List.nil_append, List.append_nil, List.replicate, List.getElem?_cons_zero, List.getElem?_cons_succ, List.set_cons_zero, List.set_cons_succ, Option.bind_some, Option.map_some, Option.bind_none, Option.map_none, Nat.reduceAdd, Nat.reduceSub, Int.reduceAdd, Int.reduceNeg, decide_true, decide_false, Bool.not_true, Bool.not_false, if_true, if_false, Bool.false_eq_true, if_pos, reduceIte, reduceCtorEq, Option.some.injEq, Prod.mk.injEq, and_self, and_true, true_and, szOk, gs (v := .val (pt (x + i) (y + j))) (show 17 < r.length by rw [sl.len]; omega), gn h1 (show 17 ≠ 1 by omega), gn h13 (show 17 ≠ 13 by omega), near_ev s.v a', hb]) (by simp)
  have e2 : (nrs x y).map (fun _ => D.bl true) = [true, true, true, true].map D.bl := rfl
  rw [e2] at e
  have e3 := fAll_b (bs := [true, true, true, true])
  simp only [dLe, List.map_cons, List.map_nil] at e e3
  simp only [cFz, at40, at41, at42, at43, at20, at21, at30, at31, at32, List.set, dMod_ev, Int.reduceMod, Int.reduceLT, Int.reduceSub, Int.reduceMul, Int.reduceToNat, Nat.reduceLT, Int.zero_add, Int.reduceLE, fAll_b, runF, cSeq, cIf, cSet, cRet, cRetN, cSkip, cCont, cBrk, cVar, cD, cBin, cUn, cBi, aNil, aCons, cTup, cLst, bT, bAnd, bOr, bNot, cAnd, cOr, cNot, cIte, cChain, cIsi, dTy, kb1, kb2, kb3, kb4, kb5, kb6, kb7, fAbs_ev, fMax_ev, fMin_ev, wipeS, Function.comp_apply, Function.comp_def, dIx, dGetAny, cPotGet, cPotSet, getP, setP, cCall, fInt, fLen, fTuple, fList, cLenV, dLt, dLe, dGt, dGe, dB2, dAdd, dSub_ev, dNeg, Nat.reduceLeDiff, cs0, cs1, cs2, cs3, cs4, cs5, cs6, cs7, cs8, cs9, cs10, cs11, cs12, Int.ofNat_eq_natCast, dEq_int, dNe_int, dEq_pair, dNe_pair, dIsN, dNotN, cPar, cPar3, cAsg, gN, gT, gsCons, gsNil, bdOf, cSl, oNone, oSome, dSl, iSeq, iRg1, iRg2, cExpr, dRev, List.map_cons, List.map_nil, List.length_cons, List.length_nil, List.cons_append, List.nil_append, List.append_nil, List.replicate, List.getElem?_cons_zero, List.getElem?_cons_succ, List.set_cons_zero, List.set_cons_succ, Option.bind_some, Option.map_some, Option.bind_none, Option.map_none, Nat.reduceAdd, Nat.reduceSub, Int.reduceAdd, Int.reduceNeg, decide_true, decide_false, Bool.not_true, Bool.not_false, if_true, if_false, Bool.false_eq_true, if_pos, reduceIte, reduceCtorEq, Option.some.injEq, Prod.mk.injEq, and_self, and_true, true_and, szOk, s__law_is_right_17, e, e3]
  rfl
end
end Lk11

namespace Lk11
open PySem PySem.Spec PyProof.Rows L2 Rb
/-! ### one point -/
theorem is_right_ev {rs : List Int} {x y : Int} {u : Int × Int × Int} {n : Nat} (s : Sm9 rs) (a : Nr x y) (h : Pk n u) (hn : n ≤ 100000) : ∃ u', f__law_is_right [.pot, T rs, pt x y] (some u) = some (.bl true, some u') ∧ Pk (n + 20) u' := by
  have w0 : W ([.val .pot, .val (T rs), .val (pt x y)] ++ List.replicate 17 .no) [(2, pt x y), (1, T rs)] := by
    refine ⟨⟨rfl, rfl, fun i a b => ?_⟩, fun i d e => ?_⟩
    · have : i = 15 ∨ i = 16 ∨ i = 17 ∨ i = 18 ∨ i = 19 := by omega
      rcases this with rfl | rfl | rfl | rfl | rfl <;> rfl
    · by_cases q : i = 2
      · subst q; cases (show some (pt x y) = some d from e); rfl
      · by_cases q2 : i = 1
        · subst q2; cases (show some (T rs) = some d from e); rfl
        · have h1 : (i == 2) = false := by simpa using q
          have h2 : (i == 1) = false := by simpa using q2
          rw [List.lookup_cons, h1] at e
          dsimp only at e
          rw [List.lookup_cons, h2] at e
          cases e
  have e0 := b0 (p := some u) s a (w0.get rfl) (w0.get rfl)
  have w1 := (w0.set (i := 3) (d := .int (hm rs x y)) (by decide) (by decide)).set (i := 4) (d := .bl (rch rs x y)) (by decide) (by decide)
  have e1 := b1 (p := some u) s a (w1.get rfl) (w1.get rfl) (w1.get rfl) (w1.get rfl)
  have e2 := b2 (p := some u) (x := x) (y := y) (w1.get rfl)
  have w2 := (w1.set (i := 5) (d := .int x) (by decide) (by decide)).set (i := 6) (d := .int y) (by decide) (by decide)
  obtain ⟨r3, e3, w3⟩ := b3 (p := some u) s a w2 rfl rfl rfl rfl rfl rfl rfl
  obtain ⟨ms, u4, hp, k4, e4⟩ := b4 w3.1 s h (by omega) (w3.get rfl)
  have w4 := w3.set (i := 8) (d := T ms) (by decide) (by decide)
  have e5 := b5 (p := some u4) s a hp (w4.get rfl) (w4.get rfl) (w4.get rfl) (w4.get rfl)
  obtain ⟨k, u6, hk, k6, e6⟩ := b6 w4.1 k4 (by omega)
  have w6 := w4.set (i := 9) (d := .int k) (by decide) (by decide)
  have e7 := b7 (p := some u6) w6.1 s hk (w6.get rfl) (w6.get rfl)
  have w7 := w6.set (i := 10) (d := T (sc k rs)) (by decide) (by decide)
  have e8 := b8 (p := some u6) s a hk (w7.get rfl) (w7.get rfl) (w7.get rfl) (w7.get rfl) (w7.get rfl) (w7.get rfl)
  have e9 := b9 (p := some u6) w7.1 s hk (w7.get rfl) (w7.get rfl) (w7.get rfl)
  have e10 := b10 (p := some u6) (x := x) (y := y) s (w7.get rfl) (w7.get rfl) (w7.get rfl) (w7.get rfl)
  obtain ⟨m, u11, hm', k11, e11⟩ := b11 w7.1 k6 (by omega)
  have w11 := w7.set (i := 11) (d := .int m) (by decide) (by decide)
  have e12 := b12 (p := some u11) (x := x) (y := y) (m := m) (w11.get rfl) (w11.get rfl) (w11.get rfl)
  have w12 := w11.set (i := 12) (d := .lst (bes x y m)) (by decide) (by decide)
  have e13 := b13 (p := some u11) w12.1 s a hm' (w12.get rfl) (w12.get rfl) (w12.get rfl) (w12.get rfl)
  have e14 := b14 (p := some u11) w12.1 s a hm' (w12.get rfl) (w12.get rfl) (w12.get rfl) (w12.get rfl)
  have e15 := b15 (p := some u11) s a (w12.get rfl) (w12.get rfl)
  have w15 := w12.set (i := 13) (d := .int (nv rs x y)) (by decide) (by decide)
  have e16 := b16 (p := some u11) (x := x) (y := y) w15.1 (w15.get rfl) (w15.get rfl)
  have w16 := w15.set (i := 14) (d := .lst (nrs x y)) (by decide) (by decide)
  have e17 := b17 (p := some u11) w16.1 s a (w16.get rfl) (w16.get rfl) (w16.get rfl)
  refine ⟨u11, ?_, k11.mono (by omega)⟩
  exact run_rt (n := 20) (c := c__law_is_right) (ds := [.pot, T rs, pt x y]) (p := some u) (seq_nx e0 (seq_nx e1 (seq_nx e2 (seq_nx e3 (seq_nx e4 (seq_nx e5 (seq_nx e6 (seq_nx e7 (seq_nx e8 (seq_nx e9 (seq_nx e10 (seq_nx e11 (seq_nx e12 (seq_nx e13 (seq_nx e14 (seq_nx e15 (seq_nx e16 e17)))))))))))))))))
/-! ### the tip -/
def wx (w : Int) : Int := if w = 0 then 1 else if w = 2 then -1 else 0
def wy (w : Int) : Int := if w = 1 then 1 else if w = 3 then -1 else 0
abbrev WAYSD : D := .tup [.tup [.int 1, .int 0], .tup [.int 0, .int 1], .tup [.int (-1), .int 0], .tup [.int 0, .int (-1)]]
theorem wayD_ev {w : Int} (h : 0 ≤ w ∧ w ≤ 3) : L2.atI [D.tup [.int 1, .int 0], .tup [.int 0, .int 1], .tup [.int (-1), .int 0], .tup [.int 0, .int (-1)]] w = some (.tup [.int (wx w), .int (wy w)]) := by
  have : w = 0 ∨ w = 1 ∨ w = 2 ∨ w = 3 := by omega
  rcases this with rfl | rfl | rfl | rfl <;> rfl
theorem w_bd {w : Int} : (-1 ≤ wx w ∧ wx w ≤ 1) ∧ (-1 ≤ wy w ∧ wy w ≤ 1) := by
  unfold wx wy
  repeat' split
  all_goals omega
def bodyJ : SS := (cSeq (cAsg (gT 2 (gsCons (gN 5) (gsCons (gN 6) gsNil))) (cIxV 2 (cUn dNeg (cD (.int 1)))))
  (cApp 2 (cTup (aCons (cBin dAdd (cVar 5) (cBin dMulI (cVar 3) (cBin dGetAny (cBin dGetAny (cD WAYSD) (cVar 4)) (cD (.int 0))))) (aCons (cBin dAdd (cVar 6) (cBin dMulI (cVar 3) (cBin dGetAny (cBin dGetAny (cD WAYSD) (cVar 4)) (cD (.int 1))))) aNil)))))
section
variable {rs ps : List Int} {p : Pt}
theorem joints_loop {a b : Bd} : ∀ (l : List (Int × Int)) (acc : List D) (x y B : Int) (r3 r4 r5 r6 : Bd), (∀ z ∈ l, (1 ≤ z.1 ∧ z.1 ≤ 60) ∧ 0 ≤ z.2 ∧ z.2 ≤ 3) → acc.length + l.length ≤ 1000 → (-B ≤ x ∧ x ≤ B) ∧ -B ≤ y ∧ y ≤ B →
    ∃ acc' x' y' r3' r4' r5' r6', forL (gT 2 (gsCons (gN 3) (gsCons (gN 4) gsNil))) bodyJ (l.map fun z => D.tup [.int z.1, .int z.2]) ⟨[a, b, .own (.lst (acc ++ [pt x y])), r3, r4, r5, r6], p⟩ = some (.nx, ⟨[a, b, .own (.lst (acc' ++ [pt x' y'])), r3', r4', r5', r6'], p⟩) ∧ (-(B + (l.map (·.1)).sum) ≤ x' ∧ x' ≤ B + (l.map (·.1)).sum) ∧ -(B + (l.map (·.1)).sum) ≤ y' ∧ y' ≤ B + (l.map (·.1)).sum
  | [], acc, x, y, B, r3, r4, r5, r6, _, _, hb => ⟨acc, x, y, r3, r4, r5, r6, rfl, by simpa using hb⟩
  | (r, w) :: l, acc, x, y, B, r3, r4, r5, r6, h, hz, hb => by
    obtain ⟨h1, h2⟩ := h (r, w) (.head _)
    simp only [] at h1 h2
    have hw := w_bd (w := w)
    have m1 := dMul_i (a := r) (b := wx w) (by omega) (by omega)
    have m2 := dMul_i (a := r) (b := wy w) (by omega) (by omega)
    rw [List.length_cons] at hz
    have hz1 : (acc ++ [pt x y]).length ≤ 16777215 := by rw [List.length_append]; simp; omega
    have hx : -r ≤ r * wx w ∧ r * wx w ≤ r := by
      have : wx w = 1 ∨ wx w = -1 ∨ wx w = 0 := by omega
      rcases this with e | e | e <;> rw [e] <;> omega
    have hy : -r ≤ r * wy w ∧ r * wy w ≤ r := by
      have : wy w = 1 ∨ wy w = -1 ∨ wy w = 0 := by omega
      rcases this with e | e | e <;> rw [e] <;> omega
    obtain ⟨acc', x', y', s3, s4, s5, s6, ih, hb'⟩ := joints_loop l (acc ++ [pt x y]) (x + r * wx w) (y + r * wy w) (B + r) (.val (.int r)) (.val (.int w)) (.val (.int x)) (.val (.int y)) (fun z hz => h z (.tail _ hz)) (by rw [List.length_append]; simp; omega) (by omega)
    refine ⟨acc', x', y', s3, s4, s5, s6, ?_, ?_⟩
    · have body : bodyJ ⟨[a, b, .own (.lst (acc ++ [pt x y])), .val (.int r), .val (.int w), r5, r6], p⟩ = some (.nx, ⟨[a, b, .own (.lst (acc ++ [pt x y] ++ [pt (x + r * wx w) (y + r * wy w)])), .val (.int r), .val (.int w), .val (.int x), .val (.int y)], p⟩) := by
        simp only [cFz, at40, at41, at42, at43, at20, at21, at30, at31, at32, List.set, dMod_ev, Int.reduceMod, Int.reduceLT, Int.reduceSub, Int.reduceMul, Int.reduceToNat, Nat.reduceLT, Int.zero_add, Int.reduceLE, fAll_b, runF, cSeq, cIf, cSet, cRet, cRetN, cSkip, cCont, cBrk, cVar, cD, cBin, cUn, cBi, aNil, aCons, cTup, cLst, bT, bAnd, bOr, bNot, cAnd, cOr, cNot, cIte, cChain, cIsi, dTy, kb1, kb2, kb3, kb4, kb5, kb6, kb7, fAbs_ev, fMax_ev, fMin_ev, wipeS, Function.comp_apply, Function.comp_def, dIx, dGetAny, cPotGet, cPotSet, getP, setP, cCall, fInt, fLen, fTuple, fList, cLenV, dLt, dLe, dGt, dGe, dB2, dAdd, dSub_ev, dNeg, Nat.reduceLeDiff, cs0, cs1, cs2, cs3, cs4, cs5, cs6, cs7, cs8, cs9, cs10, cs11, cs12, Int.ofNat_eq_natCast, dEq_int, dNe_int, dEq_pair, dNe_pair, dIsN, dNotN, cPar, cPar3, cAsg, gN, gT, gsCons, gsNil, bdOf, cSl, oNone, oSome, dSl, iSeq, iRg1, iRg2, cExpr, dRev, List.map_cons, List.map_nil, List.length_cons, List.length_nil, List.cons_append, List.nil_append, List.append_nil, List.replicate, List.getElem?_cons_zero, List.getElem?_cons_succ, List.set_cons_zero, List.set_cons_succ, Option.bind_some, Option.map_some, Option.bind_none, Option.map_none, Nat.reduceAdd, Nat.reduceSub, Int.reduceAdd, Int.reduceNeg, decide_true, decide_false, Bool.not_true, Bool.not_false, if_true, if_false, Bool.false_eq_true, if_pos, reduceIte, reduceCtorEq, Option.some.injEq, Prod.mk.injEq, and_self, and_true, true_and, szOk, bodyJ, cIxV, atI_last, cApp, wayD_ev h2, m1, m2, hz1]
      simp only [List.map_cons, forL]
      simp only [cFz, at40, at41, at42, at43, at20, at21, at30, at31, at32, List.set, dMod_ev, Int.reduceMod, Int.reduceLT, Int.reduceSub, Int.reduceMul, Int.reduceToNat, Nat.reduceLT, Int.zero_add, Int.reduceLE, fAll_b, runF, cSeq, cIf, cSet, cRet, cRetN, cSkip, cCont, cBrk, cVar, cD, cBin, cUn, cBi, aNil, aCons, cTup, cLst, bT, bAnd, bOr, bNot, cAnd, cOr, cNot, cIte, cChain, cIsi, dTy, kb1, kb2, kb3, kb4, kb5, kb6, kb7, fAbs_ev, fMax_ev, fMin_ev, wipeS, Function.comp_apply, Function.comp_def, dIx, dGetAny, cPotGet, cPotSet, getP, setP, cCall, fInt, fLen, fTuple, fList, cLenV, dLt, dLe, dGt, dGe, dB2, dAdd, dSub_ev, dNeg, Nat.reduceLeDiff, cs0, cs1, cs2, cs3, cs4, cs5, cs6, cs7, cs8, cs9, cs10, cs11, cs12, Int.ofNat_eq_natCast, dEq_int, dNe_int, dEq_pair, dNe_pair, dIsN, dNotN, cPar, cPar3, cAsg, gN, gT, gsCons, gsNil, bdOf, cSl, oNone, oSome, dSl, iSeq, iRg1, iRg2, cExpr, dRev, List.map_cons, List.map_nil, List.length_cons, List.length_nil, List.cons_append, List.nil_append, List.append_nil, List.replicate, List.getElem?_cons_zero, List.getElem?_cons_succ, List.set_cons_zero, List.set_cons_succ, Option.bind_some, Option.map_some, Option.bind_none, Option.map_none, Nat.reduceAdd, Nat.reduceSub, Int.reduceAdd, Int.reduceNeg, decide_true, decide_false, Bool.not_true, Bool.not_false, if_true, if_false, Bool.false_eq_true, if_pos, reduceIte, reduceCtorEq, Option.some.injEq, Prod.mk.injEq, and_self, and_true, true_and, szOk, body]
      exact ih
    · rw [List.map_cons, List.sum_cons]
      omega
theorem look_pose_ev (v : Rods rs) (hl : ps.length = rs.length) (hb : ∀ w ∈ ps, 0 ≤ w ∧ w ≤ 3) : f_look_at_pose [T rs, T ps] p = some (.non, p) := by
  have e := are_ints_ev (p := p) hb (by have := v.l1; omega)
  have hq : decide ((ps.length : Int) = (rs.length : Int)) = true := decide_eq_true (by rw [hl])
  simp only [cFz, at40, at41, at42, at43, at20, at21, at30, at31, at32, List.set, dMod_ev, Int.reduceMod, Int.reduceLT, Int.reduceSub, Int.reduceMul, Int.reduceToNat, Nat.reduceLT, Int.zero_add, Int.reduceLE, fAll_b, runF, cSeq, cIf, cSet, cRet, cRetN, cSkip, cCont, cBrk, cVar, cD, cBin, cUn, cBi, aNil, aCons, cTup, cLst, bT, bAnd, bOr, bNot, cAnd, cOr, cNot, cIte, cChain, cIsi, dTy, kb1, kb2, kb3, kb4, kb5, kb6, kb7, fAbs_ev, fMax_ev, fMin_ev, wipeS, Function.comp_apply, Function.comp_def, dIx, dGetAny, cPotGet, cPotSet, getP, setP, cCall, fInt, fLen, fTuple, fList, cLenV, dLt, dLe, dGt, dGe, dB2, dAdd, dSub_ev, dNeg, Nat.reduceLeDiff, cs0, cs1, cs2, cs3, cs4, cs5, cs6, cs7, cs8, cs9, cs10, cs11, cs12, Int.ofNat_eq_natCast, dEq_int, dNe_int, dEq_pair, dNe_pair, dIsN, dNotN, cPar, cPar3, cAsg, gN, gT, gsCons, gsNil, bdOf, cSl, oNone, oSome, dSl, iSeq, iRg1, iRg2, cExpr, dRev, List.map_cons, List.map_nil, List.length_cons, List.length_nil, List.cons_append, List.nil_append, List.append_nil, List.replicate, List.getElem?_cons_zero, List.getElem?_cons_succ, List.set_cons_zero, List.set_cons_succ, Option.bind_some, Option.map_some, Option.bind_none, Option.map_none, Nat.reduceAdd, Nat.reduceSub, Int.reduceAdd, Int.reduceNeg, decide_true, decide_false, Bool.not_true, Bool.not_false, if_true, if_false, Bool.false_eq_true, if_pos, reduceIte, reduceCtorEq, Option.some.injEq, Prod.mk.injEq, and_self, and_true, true_and, szOk, f_look_at_pose, c_look_at_pose, look_rods_ev v, f_is_pose, c_is_pose, e, List.length_map, hq]
theorem tip_ev (v : Rods rs) (hl : ps.length = rs.length) (hb : ∀ w ∈ ps, 0 ≤ w ∧ w ≤ 3) : ∃ x y, f_tip_of [T rs, T ps] p = some (pt x y, p) ∧ (-rs.sum ≤ x ∧ x ≤ rs.sum) ∧ -rs.sum ≤ y ∧ y ≤ rs.sum := by
  have ok : ∀ z ∈ List.zip rs ps, (1 ≤ z.1 ∧ z.1 ≤ 60) ∧ 0 ≤ z.2 ∧ z.2 ≤ 3 := fun z hz => by
    have := List.of_mem_zip (a := z.1) (b := z.2) hz
    exact ⟨v.rb _ this.1, hb _ this.2⟩
  obtain ⟨acc, x, y, a3, a4, a5, a6, e, hbd⟩ := joints_loop (p := p) (a := .val (T rs)) (b := .val (T ps)) (List.zip rs ps) [] 0 0 0 .no .no .no .no ok (by have := v.l1; rw [List.length_zip]; simp; omega) (by omega)
  have hs : ((List.zip rs ps).map (·.1)) = rs := List.map_fst_zip (by omega)
  rw [hs, Int.zero_add] at hbd
  rw [← zipD_ints] at e
  simp only [List.nil_append] at e
  have e2 : cFor (Rb.iZip (aCons (cVar 0) (aCons (cVar 1) aNil))) (gT 2 (gsCons (gN 3) (gsCons (gN 4) gsNil))) bodyJ ⟨[.val (T rs), .val (T ps), .own (.lst [pt 0 0]), .no, .no, .no, .no], p⟩ = some (.nx, ⟨[.val (T rs), .val (T ps), .own (.lst (acc ++ [pt x y])), a3, a4, a5, a6], p⟩) := by
    simp only [cFz, at40, at41, at42, at43, at20, at21, at30, at31, at32, List.set, dMod_ev, Int.reduceMod, Int.reduceLT, Int.reduceSub, Int.reduceMul, Int.reduceToNat, Nat.reduceLT, Int.zero_add, Int.reduceLE, fAll_b, runF, cSeq, cIf, cSet, cRet, cRetN, cSkip, cCont, cBrk, cVar, cD, cBin, cUn, cBi, aNil, aCons, cTup, cLst, bT, bAnd, bOr, bNot, cAnd, cOr, cNot, cIte, cChain, cIsi, dTy, kb1, kb2, kb3, kb4, kb5, kb6, kb7, fAbs_ev, fMax_ev, fMin_ev, wipeS, Function.comp_apply, Function.comp_def, dIx, dGetAny, cPotGet, cPotSet, getP, setP, cCall, fInt, fLen, fTuple, fList, cLenV, dLt, dLe, dGt, dGe, dB2, dAdd, dSub_ev, dNeg, Nat.reduceLeDiff, cs0, cs1, cs2, cs3, cs4, cs5, cs6, cs7, cs8, cs9, cs10, cs11, cs12, Int.ofNat_eq_natCast, dEq_int, dNe_int, dEq_pair, dNe_pair, dIsN, dNotN, cPar, cPar3, cAsg, gN, gT, gsCons, gsNil, bdOf, cSl, oNone, oSome, dSl, iSeq, iRg1, iRg2, cExpr, dRev, List.map_cons, List.map_nil, List.length_cons, List.length_nil, List.cons_append, List.nil_append, List.append_nil, List.replicate, List.getElem?_cons_zero, List.getElem?_cons_succ, List.set_cons_zero, List.set_cons_succ, Option.bind_some, Option.map_some, Option.bind_none, Option.map_none, Nat.reduceAdd, Nat.reduceSub, Int.reduceAdd, Int.reduceNeg, decide_true, decide_false, Bool.not_true, Bool.not_false, if_true, if_false, Bool.false_eq_true, if_pos, reduceIte, reduceCtorEq, Option.some.injEq, Prod.mk.injEq, and_self, and_true, true_and, szOk, cFor, Rb.iZip, seqOf, e]
  have ej : f_told_joints [T rs, T ps] p = some (.lst (acc ++ [pt x y]), p) := by
    refine (run_rt (s := ⟨[.val (T rs), .val (T ps), .val (.lst (acc ++ [pt x y])), a3, a4, a5, a6], p⟩) (seq_nx (s1 := ⟨[.val (T rs), .val (T ps), .own (.lst [pt 0 0]), .no, .no, .no, .no], p⟩) ?_ (seq_nx e2 ?_)))
    · simp only [cFz, at40, at41, at42, at43, at20, at21, at30, at31, at32, List.set, dMod_ev, Int.reduceMod, Int.reduceLT, Int.reduceSub, Int.reduceMul, Int.reduceToNat, Nat.reduceLT, Int.zero_add, Int.reduceLE, fAll_b, runF, cSeq, cIf, cSet, cRet, cRetN, cSkip, cCont, cBrk, cVar, cD, cBin, cUn, cBi, aNil, aCons, cTup, cLst, bT, bAnd, bOr, bNot, cAnd, cOr, cNot, cIte, cChain, cIsi, dTy, kb1, kb2, kb3, kb4, kb5, kb6, kb7, fAbs_ev, fMax_ev, fMin_ev, wipeS, Function.comp_apply, Function.comp_def, dIx, dGetAny, cPotGet, cPotSet, getP, setP, cCall, fInt, fLen, fTuple, fList, cLenV, dLt, dLe, dGt, dGe, dB2, dAdd, dSub_ev, dNeg, Nat.reduceLeDiff, cs0, cs1, cs2, cs3, cs4, cs5, cs6, cs7, cs8, cs9, cs10, cs11, cs12, Int.ofNat_eq_natCast, dEq_int, dNe_int, dEq_pair, dNe_pair, dIsN, dNotN, cPar, cPar3, cAsg, gN, gT, gsCons, gsNil, bdOf, cSl, oNone, oSome, dSl, iSeq, iRg1, iRg2, cExpr, dRev, List.map_cons, List.map_nil, List.length_cons, List.length_nil, List.cons_append, List.nil_append, List.append_nil, List.replicate, List.getElem?_cons_zero, List.getElem?_cons_succ, List.set_cons_zero, List.set_cons_succ, Option.bind_some, Option.map_some, Option.bind_none, Option.map_none, Nat.reduceAdd, Nat.reduceSub, Int.reduceAdd, Int.reduceNeg, decide_true, decide_false, Bool.not_true, Bool.not_false, if_true, if_false, Bool.false_eq_true, if_pos, reduceIte, reduceCtorEq, Option.some.injEq, Prod.mk.injEq, and_self, and_true, true_and, szOk]
    · simp only [cFz, at40, at41, at42, at43, at20, at21, at30, at31, at32, List.set, dMod_ev, Int.reduceMod, Int.reduceLT, Int.reduceSub, Int.reduceMul, Int.reduceToNat, Nat.reduceLT, Int.zero_add, Int.reduceLE, fAll_b, runF, cSeq, cIf, cSet, cRet, cRetN, cSkip, cCont, cBrk, cVar, cD, cBin, cUn, cBi, aNil, aCons, cTup, cLst, bT, bAnd, bOr, bNot, cAnd, cOr, cNot, cIte, cChain, cIsi, dTy, kb1, kb2, kb3, kb4, kb5, kb6, kb7, fAbs_ev, fMax_ev, fMin_ev, wipeS, Function.comp_apply, Function.comp_def, dIx, dGetAny, cPotGet, cPotSet, getP, setP, cCall, fInt, fLen, fTuple, fList, cLenV, dLt, dLe, dGt, dGe, dB2, dAdd, dSub_ev, dNeg, Nat.reduceLeDiff, cs0, cs1, cs2, cs3, cs4, cs5, cs6, cs7, cs8, cs9, cs10, cs11, cs12, Int.ofNat_eq_natCast, dEq_int, dNe_int, dEq_pair, dNe_pair, dIsN, dNotN, cPar, cPar3, cAsg, gN, gT, gsCons, gsNil, bdOf, cSl, oNone, oSome, dSl, iSeq, iRg1, iRg2, cExpr, dRev, List.map_cons, List.map_nil, List.length_cons, List.length_nil, List.cons_append, List.nil_append, List.append_nil, List.replicate, List.getElem?_cons_zero, List.getElem?_cons_succ, List.set_cons_zero, List.set_cons_succ, Option.bind_some, Option.map_some, Option.bind_none, Option.map_none, Nat.reduceAdd, Nat.reduceSub, Int.reduceAdd, Int.reduceNeg, decide_true, decide_false, Bool.not_true, Bool.not_false, if_true, if_false, Bool.false_eq_true, if_pos, reduceIte, reduceCtorEq, Option.some.injEq, Prod.mk.injEq, and_self, and_true, true_and, szOk]
  refine ⟨x, y, ?_, hbd⟩
  simp only [cFz, at40, at41, at42, at43, at20, at21, at30, at31, at32, List.set, dMod_ev, Int.reduceMod, Int.reduceLT, Int.reduceSub, Int.reduceMul, Int.reduceToNat, Nat.reduceLT, Int.zero_add, Int.reduceLE, fAll_b, runF, cSeq, cIf, cSet, cRet, cRetN, cSkip, cCont, cBrk, cVar, cD, cBin, cUn, cBi, aNil, aCons, cTup, cLst, bT, bAnd, bOr, bNot, cAnd, cOr, cNot, cIte, cChain, cIsi, dTy, kb1, kb2, kb3, kb4, kb5, kb6, kb7, fAbs_ev, fMax_ev, fMin_ev, wipeS, Function.comp_apply, Function.comp_def, dIx, dGetAny, cPotGet, cPotSet, getP, setP, cCall, fInt, fLen, fTuple, fList, cLenV, dLt, dLe, dGt, dGe, dB2, dAdd, dSub_ev, dNeg, Nat.reduceLeDiff, cs0, cs1, cs2, cs3, cs4, cs5, cs6, cs7, cs8, cs9, cs10, cs11, cs12, Int.ofNat_eq_natCast, dEq_int, dNe_int, dEq_pair, dNe_pair, dIsN, dNotN, cPar, cPar3, cAsg, gN, gT, gsCons, gsNil, bdOf, cSl, oNone, oSome, dSl, iSeq, iRg1, iRg2, cExpr, dRev, List.map_cons, List.map_nil, List.length_cons, List.length_nil, List.cons_append, List.nil_append, List.append_nil, List.replicate, List.getElem?_cons_zero, List.getElem?_cons_succ, List.set_cons_zero, List.set_cons_succ, Option.bind_some, Option.map_some, Option.bind_none, Option.map_none, Nat.reduceAdd, Nat.reduceSub, Int.reduceAdd, Int.reduceNeg, decide_true, decide_false, Bool.not_true, Bool.not_false, if_true, if_false, Bool.false_eq_true, if_pos, reduceIte, reduceCtorEq, Option.some.injEq, Prod.mk.injEq, and_self, and_true, true_and, szOk, f_tip_of, c_tip_of, look_pose_ev v hl hb, ej, dNeg, atI_last]
end
end Lk11

namespace Lk11
open PySem PySem.Spec PyProof.Rows L2 Rb
theorem sq_iff {a b : Nat} : ((a : Int) ^ 2 = (b : Int) ^ 2) ↔ a = b := by
  constructor
  · intro h
    have h2 : a ^ 2 = b ^ 2 := by exact_mod_cast h
    exact (Nat.pow_left_inj (by decide)).1 h2
  · rintro rfl; rfl
theorem sh_tfull : D.sh 64 (.tup [.str "full"]) = true := by simp only [sh_tup64, shL_cons, shL_nil, sh_full, Bool.and_self]
theorem sh_gap {n : Nat} : D.sh n (.str "gap") = true := sh_strs (by decide +kernel)
theorem full_eq (b : Prop) [Decidable b] (g : Int) : dEq (if b then .tup [.str "full"] else .tup [.str "gap", .int g]) (.tup [.str "full"]) = some (.bl (decide b), false) := by
  by_cases h : b
  · rw [if_pos h, decide_eq_true h]; exact dEq_rfl sh_tfull rfl
  · rw [if_neg h, decide_eq_false h]
    have h1 : D.sh 64 (.tup [.str "gap", .int g]) = true := by simp only [sh_tup64, shL_cons, shL_nil, sh_gap, sh_int, Bool.and_self]
    unfold dEq
    simp only [h1, sh_tfull, Bool.and_self, if_true, eqB_tup, eqB_tupF1, Bool.and_false]
theorem sm9_of {rs : List Int} {most long : Int} (hm : (most = 3 ∧ long = 9) ∨ (most = 6 ∧ long = 9) ∨ (most = 8 ∧ long = 5)) (l0 : 1 ≤ rs.length) (l1 : (rs.length : Int) ≤ most) (hb : ∀ r ∈ rs, 1 ≤ r ∧ r ≤ long) : Sm9 rs ∧ rs.sum ≤ 54 := by
  have hb9 : ∀ r ∈ rs, 1 ≤ r ∧ r ≤ 9 := fun r hr => by have := hb r hr; omega
  have hs := sum_le9 hb
  have hs54 : rs.sum ≤ 54 := by
    rcases hm with ⟨h1, h2⟩ | ⟨h1, h2⟩ | ⟨h1, h2⟩ <;> subst h2 <;> omega
  have v : Rods rs := ⟨l0, by omega, fun r hr => by have := hb9 r hr; omega, by omega⟩
  have h0 := sum_nn v.pos
  have hl := len_le v.pos (S := rs.sum.toNat) (by omega)
  exact ⟨⟨v, by omega, fun r hr => (hb9 r hr).2, by omega⟩, hs54⟩
def body7 : SS := (cIf (bNot (bT (cCall f__law_is_right (aCons (cVar 0) (aCons (cVar 3) (aCons (cVar 7) aNil))))))
  (cRet (cD (.bl false)))
  cSkip)
section
variable {r1 r2 r4 r5 r6 r7 : Bd} {u : Int × Int × Int} {n : Nat} {rs : List Int} {x y : Int}
theorem body7_ev (s : Sm9 rs) (a : Nr x y) (h : Pk n u) (hn : n ≤ 100000) : ∃ u', body7 ⟨[.val .pot, r1, r2, .val (T rs), r4, r5, r6, .val (pt x y)], some u⟩ = some (.nx, ⟨[.val .pot, r1, r2, .val (T rs), r4, r5, r6, .val (pt x y)], some u'⟩) ∧ Pk (n + 20) u' := by
  obtain ⟨u', e, h'⟩ := is_right_ev s a h hn
  exact ⟨u', by simp only [cFz, at40, at41, at42, at43, at20, at21, at30, at31, at32, List.set, dMod_ev, Int.reduceMod, Int.reduceLT, Int.reduceSub, Int.reduceMul, Int.reduceToNat, Nat.reduceLT, Int.zero_add, Int.reduceLE, fAll_b, runF, cSeq, cIf, cSet, cRet, cRetN, cSkip, cCont, cBrk, cVar, cD, cBin, cUn, cBi, aNil, aCons, cTup, cLst, bT, bAnd, bOr, bNot, cAnd, cOr, cNot, cIte, cChain, cIsi, dTy, kb1, kb2, kb3, kb4, kb5, kb6, kb7, fAbs_ev, fMax_ev, fMin_ev, wipeS, Function.comp_apply, Function.comp_def, dIx, dGetAny, cPotGet, cPotSet, getP, setP, cCall, fInt, fLen, fTuple, fList, cLenV, dLt, dLe, dGt, dGe, dB2, dAdd, dSub_ev, dNeg, Nat.reduceLeDiff, cs0, cs1, cs2, cs3, cs4, cs5, cs6, cs7, cs8, cs9, cs10, cs11, cs12, Int.ofNat_eq_natCast, dEq_int, dNe_int, dEq_pair, dNe_pair, dIsN, dNotN, cPar, cPar3, cAsg, gN, gT, gsCons, gsNil, bdOf, cSl, oNone, oSome, dSl, iSeq, iRg1, iRg2, cExpr, dRev, List.map_cons, List.map_nil, List.length_cons, List.length_nil, List.cons_append, List.nil_append, List.append_nil, List.replicate, List.getElem?_cons_zero, List.getElem?_cons_succ, List.set_cons_zero, List.set_cons_succ, Option.bind_some, Option.map_some, Option.bind_none, Option.map_none, Nat.reduceAdd, Nat.reduceSub, Int.reduceAdd, Int.reduceNeg, decide_true, decide_false, Bool.not_true, Bool.not_false, if_true, if_false, Bool.false_eq_true, if_pos, reduceIte, reduceCtorEq, Option.some.injEq, Prod.mk.injEq, and_self, and_true, true_and, szOk, body7, e], h'⟩
end
def rowC : SS := (cSeq s__law_right_0
  (cSeq s__law_right_1
  (cSeq s__law_right_2
  (cSeq s__law_right_3
  (cSeq s__law_right_4
  s__law_right_5)))))
theorem row_ev {most long : Int} {r3 r4 r5 r6 r7 : Bd} {u : Int × Int × Int} {n : Nat} (hm : (most = 3 ∧ long = 9) ∨ (most = 6 ∧ long = 9) ∨ (most = 8 ∧ long = 5)) (h : Pk n u) (hn : n ≤ 10000) :
    ∃ r3' r4' r5' r6' r7' u', rowC ⟨[.val .pot, .val (.int most), .val (.int long), r3, r4, r5, r6, r7], some u⟩ = some (.nx, ⟨[.val .pot, .val (.int most), .val (.int long), r3', r4', r5', r6', r7'], some u'⟩) ∧ Pk (n + 1200) u' := by
  obtain ⟨rs, u0, e0, l0, l1, hb, k0⟩ := rods_ev2 takeK (most := most) (long := long) h (by omega) (by omega) (by omega) (by omega) (by omega)
  rw [← rods_is] at e0
  obtain ⟨s9, hs⟩ := sm9_of hm l0 l1 hb
  have h0 := sum_nn s9.v.pos
  obtain ⟨ps, u1, e1, pl, pb, k1⟩ := pose_ev takeK (ds := rs.map .int) k0 (by omega) (by rw [List.length_map]; have := s9.l8; omega) (.inr rfl)
  rw [← pose_is] at e1
  rw [List.length_map] at pl k1
  obtain ⟨x, y, e2, hx, hy⟩ := tip_ev (p := some u1) s9.v pl pb
  obtain ⟨t1, u2, e3, a0, a1, k2⟩ := takeK (2 * (rs.sum + 3) + 1) u1 _ k1 (by have := s9.l8; omega) (by omega) (by omega)
  obtain ⟨t2, u3, e4, b0, b1, k3⟩ := takeK (2 * (rs.sum + 3) + 1) u2 _ k2 (by have := s9.l8; omega) (by omega) (by omega)
  have hl8 := s9.l8
  obtain ⟨u4, e5, k4⟩ := body7_ev (r1 := .val (.int most)) (r2 := .val (.int long)) (r4 := .val (pt x y)) (r5 := .val (.int (rs.sum + 3))) (r6 := .val (pt (t1 - (rs.sum + 3)) (t2 - (rs.sum + 3)))) s9 (x := x) (y := y) ⟨by omega, by omega, by omega, by omega⟩ k3 (by omega)
  obtain ⟨u5, e6, k5⟩ := body7_ev (r1 := .val (.int most)) (r2 := .val (.int long)) (r4 := .val (pt x y)) (r5 := .val (.int (rs.sum + 3))) (r6 := .val (pt (t1 - (rs.sum + 3)) (t2 - (rs.sum + 3)))) s9 (x := x + 1) (y := y - 1) ⟨by omega, by omega, by omega, by omega⟩ k4 (by omega)
  obtain ⟨u6, e7, k6⟩ := body7_ev (r1 := .val (.int most)) (r2 := .val (.int long)) (r4 := .val (pt x y)) (r5 := .val (.int (rs.sum + 3))) (r6 := .val (pt (t1 - (rs.sum + 3)) (t2 - (rs.sum + 3)))) s9 (x := t1 - (rs.sum + 3)) (y := t2 - (rs.sum + 3)) ⟨by omega, by omega, by omega, by omega⟩ k5 (by omega)
  have es := fSum_t (ns := rs)
  have m1 := dMul_i (a := 2) (b := rs.sum + 3) (by decide) (by omega)
  have x0 : s__law_right_0 ⟨[.val .pot, .val (.int most), .val (.int long), r3, r4, r5, r6, r7], some u⟩ = some (.nx, ⟨[.val .pot, .val (.int most), .val (.int long), .val (T rs), r4, r5, r6, r7], some u0⟩) := by simp only [cFz, at40, at41, at42, at43, at20, at21, at30, at31, at32, List.set, dMod_ev, Int.reduceMod, Int.reduceLT, Int.reduceSub, Int.reduceMul, Int.reduceToNat, Nat.reduceLT, Int.zero_add, Int.reduceLE, fAll_b, runF, cSeq, cIf, cSet, cRet, cRetN, cSkip, cCont, cBrk, cVar, cD, cBin, cUn, cBi, aNil, aCons, cTup, cLst, bT, bAnd, bOr, bNot, cAnd, cOr, cNot, cIte, cChain, cIsi, dTy, kb1, kb2, kb3, kb4, kb5, kb6, kb7, fAbs_ev, fMax_ev, fMin_ev, wipeS, Function.comp_apply, Function.comp_def, dIx, dGetAny, cPotGet, cPotSet, getP, setP, cCall, fInt, fLen, fTuple, fList, cLenV, dLt, dLe, dGt, dGe, dB2, dAdd, dSub_ev, dNeg, Nat.reduceLeDiff, cs0, cs1, cs2, cs3, cs4, cs5, cs6, cs7, cs8, cs9, cs10, cs11, cs12, Int.ofNat_eq_natCast, dEq_int, dNe_int, dEq_pair, dNe_pair, dIsN, dNotN, cPar, cPar3, cAsg, gN, gT, gsCons, gsNil, bdOf, cSl, oNone, oSome, dSl, iSeq, iRg1, iRg2, cExpr, dRev, List.map_cons, List.map_nil, List.length_cons, List.length_nil, List.cons_append, List.nil_append, List.append_nil, List.replicate, List.getElem?_cons_zero, List.getElem?_cons_succ, List.set_cons_zero, List.set_cons_succ, Option.bind_some, Option.map_some, Option.bind_none, Option.map_none, Nat.reduceAdd, Nat.reduceSub, Int.reduceAdd, Int.reduceNeg, decide_true, decide_false, Bool.not_true, Bool.not_false, if_true, if_false, Bool.false_eq_true, if_pos, reduceIte, reduceCtorEq, Option.some.injEq, Prod.mk.injEq, and_self, and_true, true_and, szOk, s__law_right_0, e0]
  have x1 : s__law_right_1 ⟨[.val .pot, .val (.int most), .val (.int long), .val (T rs), r4, r5, r6, r7], some u0⟩ = some (.nx, ⟨[.val .pot, .val (.int most), .val (.int long), .val (T rs), .val (pt x y), r5, r6, r7], some u1⟩) := by simp only [cFz, at40, at41, at42, at43, at20, at21, at30, at31, at32, List.set, dMod_ev, Int.reduceMod, Int.reduceLT, Int.reduceSub, Int.reduceMul, Int.reduceToNat, Nat.reduceLT, Int.zero_add, Int.reduceLE, fAll_b, runF, cSeq, cIf, cSet, cRet, cRetN, cSkip, cCont, cBrk, cVar, cD, cBin, cUn, cBi, aNil, aCons, cTup, cLst, bT, bAnd, bOr, bNot, cAnd, cOr, cNot, cIte, cChain, cIsi, dTy, kb1, kb2, kb3, kb4, kb5, kb6, kb7, fAbs_ev, fMax_ev, fMin_ev, wipeS, Function.comp_apply, Function.comp_def, dIx, dGetAny, cPotGet, cPotSet, getP, setP, cCall, fInt, fLen, fTuple, fList, cLenV, dLt, dLe, dGt, dGe, dB2, dAdd, dSub_ev, dNeg, Nat.reduceLeDiff, cs0, cs1, cs2, cs3, cs4, cs5, cs6, cs7, cs8, cs9, cs10, cs11, cs12, Int.ofNat_eq_natCast, dEq_int, dNe_int, dEq_pair, dNe_pair, dIsN, dNotN, cPar, cPar3, cAsg, gN, gT, gsCons, gsNil, bdOf, cSl, oNone, oSome, dSl, iSeq, iRg1, iRg2, cExpr, dRev, List.map_cons, List.map_nil, List.length_cons, List.length_nil, List.cons_append, List.nil_append, List.append_nil, List.replicate, List.getElem?_cons_zero, List.getElem?_cons_succ, List.set_cons_zero, List.set_cons_succ, Option.bind_some, Option.map_some, Option.bind_none, Option.map_none, Nat.reduceAdd, Nat.reduceSub, Int.reduceAdd, Int.reduceNeg, decide_true, decide_false, Bool.not_true, Bool.not_false, if_true, if_false, Bool.false_eq_true, if_pos, reduceIte, reduceCtorEq, Option.some.injEq, Prod.mk.injEq, and_self, and_true, true_and, szOk, s__law_right_1, e1, e2]
  have x2 : s__law_right_2 ⟨[.val .pot, .val (.int most), .val (.int long), .val (T rs), .val (pt x y), r5, r6, r7], some u1⟩ = some (.nx, ⟨[.val .pot, .val (.int most), .val (.int long), .val (T rs), .val (pt x y), .val (.int (rs.sum + 3)), r6, r7], some u1⟩) := by simp only [cFz, at40, at41, at42, at43, at20, at21, at30, at31, at32, List.set, dMod_ev, Int.reduceMod, Int.reduceLT, Int.reduceSub, Int.reduceMul, Int.reduceToNat, Nat.reduceLT, Int.zero_add, Int.reduceLE, fAll_b, runF, cSeq, cIf, cSet, cRet, cRetN, cSkip, cCont, cBrk, cVar, cD, cBin, cUn, cBi, aNil, aCons, cTup, cLst, bT, bAnd, bOr, bNot, cAnd, cOr, cNot, cIte, cChain, cIsi, dTy, kb1, kb2, kb3, kb4, kb5, kb6, kb7, fAbs_ev, fMax_ev, fMin_ev, wipeS, Function.comp_apply, Function.comp_def, dIx, dGetAny, cPotGet, cPotSet, getP, setP, cCall, fInt, fLen, fTuple, fList, cLenV, dLt, dLe, dGt, dGe, dB2, dAdd, dSub_ev, dNeg, Nat.reduceLeDiff, cs0, cs1, cs2, cs3, cs4, cs5, cs6, cs7, cs8, cs9, cs10, cs11, cs12, Int.ofNat_eq_natCast, dEq_int, dNe_int, dEq_pair, dNe_pair, dIsN, dNotN, cPar, cPar3, cAsg, gN, gT, gsCons, gsNil, bdOf, cSl, oNone, oSome, dSl, iSeq, iRg1, iRg2, cExpr, dRev, List.map_cons, List.map_nil, List.length_cons, List.length_nil, List.cons_append, List.nil_append, List.append_nil, List.replicate, List.getElem?_cons_zero, List.getElem?_cons_succ, List.set_cons_zero, List.set_cons_succ, Option.bind_some, Option.map_some, Option.bind_none, Option.map_none, Nat.reduceAdd, Nat.reduceSub, Int.reduceAdd, Int.reduceNeg, decide_true, decide_false, Bool.not_true, Bool.not_false, if_true, if_false, Bool.false_eq_true, if_pos, reduceIte, reduceCtorEq, Option.some.injEq, Prod.mk.injEq, and_self, and_true, true_and, szOk, s__law_right_2, es]
  have x3 : s__law_right_3 ⟨[.val .pot, .val (.int most), .val (.int long), .val (T rs), .val (pt x y), .val (.int (rs.sum + 3)), r6, r7], some u1⟩ = some (.nx, ⟨[.val .pot, .val (.int most), .val (.int long), .val (T rs), .val (pt x y), .val (.int (rs.sum + 3)), .val (pt (t1 - (rs.sum + 3)) (t2 - (rs.sum + 3))), r7], some u3⟩) := by simp only [cFz, at40, at41, at42, at43, at20, at21, at30, at31, at32, List.set, dMod_ev, Int.reduceMod, Int.reduceLT, Int.reduceSub, Int.reduceMul, Int.reduceToNat, Nat.reduceLT, Int.zero_add, Int.reduceLE, fAll_b, runF, cSeq, cIf, cSet, cRet, cRetN, cSkip, cCont, cBrk, cVar, cD, cBin, cUn, cBi, aNil, aCons, cTup, cLst, bT, bAnd, bOr, bNot, cAnd, cOr, cNot, cIte, cChain, cIsi, dTy, kb1, kb2, kb3, kb4, kb5, kb6, kb7, fAbs_ev, fMax_ev, fMin_ev, wipeS, Function.comp_apply, Function.comp_def, dIx, dGetAny, cPotGet, cPotSet, getP, setP, cCall, fInt, fLen, fTuple, fList, cLenV, dLt, dLe, dGt, dGe, dB2, dAdd, dSub_ev, dNeg, Nat.reduceLeDiff, cs0, cs1, cs2, cs3, cs4, cs5, cs6, cs7, cs8, cs9, cs10, cs11, cs12, Int.ofNat_eq_natCast, dEq_int, dNe_int, dEq_pair, dNe_pair, dIsN, dNotN, cPar, cPar3, cAsg, gN, gT, gsCons, gsNil, bdOf, cSl, oNone, oSome, dSl, iSeq, iRg1, iRg2, cExpr, dRev, List.map_cons, List.map_nil, List.length_cons, List.length_nil, List.cons_append, List.nil_append, List.append_nil, List.replicate, List.getElem?_cons_zero, List.getElem?_cons_succ, List.set_cons_zero, List.set_cons_succ, Option.bind_some, Option.map_some, Option.bind_none, Option.map_none, Nat.reduceAdd, Nat.reduceSub, Int.reduceAdd, Int.reduceNeg, decide_true, decide_false, Bool.not_true, Bool.not_false, if_true, if_false, Bool.false_eq_true, if_pos, reduceIte, reduceCtorEq, Option.some.injEq, Prod.mk.injEq, and_self, and_true, true_and, szOk, s__law_right_3, m1, e3, e4]
  have x4 : s__law_right_4 ⟨[.val .pot, .val (.int most), .val (.int long), .val (T rs), .val (pt x y), .val (.int (rs.sum + 3)), .val (pt (t1 - (rs.sum + 3)) (t2 - (rs.sum + 3))), r7], some u3⟩ = some (.nx, ⟨[.val .pot, .val (.int most), .val (.int long), .val (T rs), .val (pt x y), .val (.int (rs.sum + 3)), .val (pt (t1 - (rs.sum + 3)) (t2 - (rs.sum + 3))), .val (pt (t1 - (rs.sum + 3)) (t2 - (rs.sum + 3)))], some u6⟩) := by
    show cFor (iSeq (cTup (aCons (cVar 4) (aCons (cTup (aCons (cBin dAdd (cBin dGetAny (cVar 4) (cD (.int 0))) (cD (.int 1))) (aCons (cBin dSub (cBin dGetAny (cVar 4) (cD (.int 1))) (cD (.int 1))) aNil))) (aCons (cVar 6) aNil))))) (gN 7) body7 _ = _
    simp only [cFz, at40, at41, at42, at43, at20, at21, at30, at31, at32, List.set, dMod_ev, Int.reduceMod, Int.reduceLT, Int.reduceSub, Int.reduceMul, Int.reduceToNat, Nat.reduceLT, Int.zero_add, Int.reduceLE, fAll_b, runF, cSeq, cIf, cSet, cRet, cRetN, cSkip, cCont, cBrk, cVar, cD, cBin, cUn, cBi, aNil, aCons, cTup, cLst, bT, bAnd, bOr, bNot, cAnd, cOr, cNot, cIte, cChain, cIsi, dTy, kb1, kb2, kb3, kb4, kb5, kb6, kb7, fAbs_ev, fMax_ev, fMin_ev, wipeS, Function.comp_apply, Function.comp_def, dIx, dGetAny, cPotGet, cPotSet, getP, setP, cCall, fInt, fLen, fTuple, fList, cLenV, dLt, dLe, dGt, dGe, dB2, dAdd, dSub_ev, dNeg, Nat.reduceLeDiff, cs0, cs1, cs2, cs3, cs4, cs5, cs6, cs7, cs8, cs9, cs10, cs11, cs12, Int.ofNat_eq_natCast, dEq_int, dNe_int, dEq_pair, dNe_pair, dIsN, dNotN, cPar, cPar3, cAsg, gN, gT, gsCons, gsNil, bdOf, cSl, oNone, oSome, dSl, iSeq, iRg1, iRg2, cExpr, dRev, List.map_cons, List.map_nil, List.length_cons, List.length_nil, List.cons_append, List.nil_append, List.append_nil, List.replicate, List.getElem?_cons_zero, List.getElem?_cons_succ, List.set_cons_zero, List.set_cons_succ, Option.bind_some, Option.map_some, Option.bind_none, Option.map_none, Nat.reduceAdd, Nat.reduceSub, Int.reduceAdd, Int.reduceNeg, decide_true, decide_false, Bool.not_true, Bool.not_false, if_true, if_false, Bool.false_eq_true, if_pos, reduceIte, reduceCtorEq, Option.some.injEq, Prod.mk.injEq, and_self, and_true, true_and, szOk, cFor, forL, e5, e6, e7]
  have hp := pow2_i (b := rs.sum + 1) (by omega)
  have hS : rs.sum + 1 = ((rs.sum.toNat + 1 : Nat) : Int) := by omega
  have x5 : s__law_right_5 ⟨[.val .pot, .val (.int most), .val (.int long), .val (T rs), .val (pt x y), .val (.int (rs.sum + 3)), .val (pt (t1 - (rs.sum + 3)) (t2 - (rs.sum + 3))), .val (pt (t1 - (rs.sum + 3)) (t2 - (rs.sum + 3)))], some u6⟩ = some (.nx, ⟨[.val .pot, .val (.int most), .val (.int long), .val (T rs), .val (pt x y), .val (.int (rs.sum + 3)), .val (pt (t1 - (rs.sum + 3)) (t2 - (rs.sum + 3))), .val (pt (t1 - (rs.sum + 3)) (t2 - (rs.sum + 3)))], some u6⟩) := by
    have hd : decide ((sm rs).length = rs.sum.toNat + 1) = decide (((sm rs).length : Int) ^ 2 = (rs.sum + 1) ^ 2) := by
      rw [hS]
      exact decide_eq_decide.2 sq_iff.symm
    refine ne_skip (x := .bl (decide ((sm rs).length = rs.sum.toNat + 1))) (y := .bl (decide (((sm rs).length : Int) ^ 2 = (rs.sum + 1) ^ 2))) (b := false) (b' := false) ?_ ?_ (neB hd)
    · simp only [cFz, at40, at41, at42, at43, at20, at21, at30, at31, at32, List.set, dMod_ev, Int.reduceMod, Int.reduceLT, Int.reduceSub, Int.reduceMul, Int.reduceToNat, Nat.reduceLT, Int.zero_add, Int.reduceLE, fAll_b, runF, cSeq, cIf, cSet, cRet, cRetN, cSkip, cCont, cBrk, cVar, cD, cBin, cUn, cBi, aNil, aCons, cTup, cLst, bT, bAnd, bOr, bNot, cAnd, cOr, cNot, cIte, cChain, cIsi, dTy, kb1, kb2, kb3, kb4, kb5, kb6, kb7, fAbs_ev, fMax_ev, fMin_ev, wipeS, Function.comp_apply, Function.comp_def, dIx, dGetAny, cPotGet, cPotSet, getP, setP, cCall, fInt, fLen, fTuple, fList, cLenV, dLt, dLe, dGt, dGe, dB2, dAdd, dSub_ev, dNeg, Nat.reduceLeDiff, cs0, cs1, cs2, cs3, cs4, cs5, cs6, cs7, cs8, cs9, cs10, cs11, cs12, Int.ofNat_eq_natCast, dEq_int, dNe_int, dEq_pair, dNe_pair, dIsN, dNotN, cPar, cPar3, cAsg, gN, gT, gsCons, gsNil, bdOf, cSl, oNone, oSome, dSl, iSeq, iRg1, iRg2, cExpr, dRev, List.map_cons, List.map_nil, List.length_cons, List.length_nil, List.cons_append, List.nil_append, List.append_nil, List.replicate, List.getElem?_cons_zero, List.getElem?_cons_succ, List.set_cons_zero, List.set_cons_succ, Option.bind_some, Option.map_some, Option.bind_none, Option.map_none, Nat.reduceAdd, Nat.reduceSub, Int.reduceAdd, Int.reduceNeg, decide_true, decide_false, Bool.not_true, Bool.not_false, if_true, if_false, Bool.false_eq_true, if_pos, reduceIte, reduceCtorEq, Option.some.injEq, Prod.mk.injEq, and_self, and_true, true_and, szOk, full_ev s9.v, full_eq]
    · simp only [cFz, at40, at41, at42, at43, at20, at21, at30, at31, at32, List.set, dMod_ev, Int.reduceMod, Int.reduceLT, Int.reduceSub, Int.reduceMul, Int.reduceToNat, Nat.reduceLT, Int.zero_add, Int.reduceLE, fAll_b, runF, cSeq, cIf, cSet, cRet, cRetN, cSkip, cCont, cBrk, cVar, cD, cBin, cUn, cBi, aNil, aCons, cTup, cLst, bT, bAnd, bOr, bNot, cAnd, cOr, cNot, cIte, cChain, cIsi, dTy, kb1, kb2, kb3, kb4, kb5, kb6, kb7, fAbs_ev, fMax_ev, fMin_ev, wipeS, Function.comp_apply, Function.comp_def, dIx, dGetAny, cPotGet, cPotSet, getP, setP, cCall, fInt, fLen, fTuple, fList, cLenV, dLt, dLe, dGt, dGe, dB2, dAdd, dSub_ev, dNeg, Nat.reduceLeDiff, cs0, cs1, cs2, cs3, cs4, cs5, cs6, cs7, cs8, cs9, cs10, cs11, cs12, Int.ofNat_eq_natCast, dEq_int, dNe_int, dEq_pair, dNe_pair, dIsN, dNotN, cPar, cPar3, cAsg, gN, gT, gsCons, gsNil, bdOf, cSl, oNone, oSome, dSl, iSeq, iRg1, iRg2, cExpr, dRev, List.map_cons, List.map_nil, List.length_cons, List.length_nil, List.cons_append, List.nil_append, List.append_nil, List.replicate, List.getElem?_cons_zero, List.getElem?_cons_succ, List.set_cons_zero, List.set_cons_succ, Option.bind_some, Option.map_some, Option.bind_none, Option.map_none, Nat.reduceAdd, Nat.reduceSub, Int.reduceAdd, Int.reduceNeg, decide_true, decide_false, Bool.not_true, Bool.not_false, if_true, if_false, Bool.false_eq_true, if_pos, reduceIte, reduceCtorEq, Option.some.injEq, Prod.mk.injEq, and_self, and_true, true_and, szOk, many_ev s9.v, es, hp]
  exact ⟨_, _, _, _, _, u6, seq_nx x0 (seq_nx x1 (seq_nx x2 (seq_nx x3 (seq_nx x4 x5)))), k6.mono (by omega)⟩
theorem right_ev (u : Int × Int × Int) (h : Pk 0 u) : ∃ u', f__law_right [.pot] (some u) = some (.bl true, some u') := by
  obtain ⟨a3, a4, a5, a6, a7, u1, e1, k1⟩ := row_ev (most := 3) (long := 9) (r3 := .no) (r4 := .no) (r5 := .no) (r6 := .no) (r7 := .no) (.inl ⟨rfl, rfl⟩) h (by decide)
  obtain ⟨b3, b4, b5, b6, b7, u2, e2, k2⟩ := row_ev (most := 6) (long := 9) (r3 := a3) (r4 := a4) (r5 := a5) (r6 := a6) (r7 := a7) (.inr (.inl ⟨rfl, rfl⟩)) k1 (by decide)
  obtain ⟨c3, c4, c5, c6, c7, u3, e3, k3⟩ := row_ev (most := 8) (long := 5) (r3 := b3) (r4 := b4) (r5 := b5) (r6 := b6) (r7 := b7) (.inr (.inr ⟨rfl, rfl⟩)) k2 (by decide)
  refine ⟨u3, ?_⟩
  have e : cFor (iSeq (cTup (aCons (cTup (aCons (cD (.int 3)) (aCons (cD (.int 9)) aNil))) (aCons (cTup (aCons (cD (.int 6)) (aCons (cD (.int 9)) aNil))) (aCons (cTup (aCons (cD (.int 8)) (aCons (cD (.int 5)) aNil))) aNil))))) (gT 2 (gsCons (gN 1) (gsCons (gN 2) gsNil))) rowC ⟨[.val .pot, .no, .no, .no, .no, .no, .no, .no], some u⟩ = some (.nx, ⟨[.val .pot, .val (.int 8), .val (.int 5), c3, c4, c5, c6, c7], some u3⟩) := by
    simp only [cFz, at40, at41, at42, at43, at20, at21, at30, at31, at32, List.set, dMod_ev, Int.reduceMod, Int.reduceLT, Int.reduceSub, Int.reduceMul, Int.reduceToNat, Nat.reduceLT, Int.zero_add, Int.reduceLE, fAll_b, runF, cSeq, cIf, cSet, cRet, cRetN, cSkip, cCont, cBrk, cVar, cD, cBin, cUn, cBi, aNil, aCons, cTup, cLst, bT, bAnd, bOr, bNot, cAnd, cOr, cNot, cIte, cChain, cIsi, dTy, kb1, kb2, kb3, kb4, kb5, kb6, kb7, fAbs_ev, fMax_ev, fMin_ev, wipeS, Function.comp_apply, Function.comp_def, dIx, dGetAny, cPotGet, cPotSet, getP, setP, cCall, fInt, fLen, fTuple, fList, cLenV, dLt, dLe, dGt, dGe, dB2, dAdd, dSub_ev, dNeg, Nat.reduceLeDiff, cs0, cs1, cs2, cs3, cs4, cs5, cs6, cs7, cs8, cs9, cs10, cs11, cs12, Int.ofNat_eq_natCast, dEq_int, dNe_int, dEq_pair, dNe_pair, dIsN, dNotN, cPar, cPar3, cAsg, gN, gT, gsCons, gsNil, bdOf, cSl, oNone, oSome, dSl, iSeq, iRg1, iRg2, cExpr, dRev, List.map_cons, List.map_nil, List.length_cons, List.length_nil, List.cons_append, List.nil_append, List.append_nil, List.replicate, List.getElem?_cons_zero, List.getElem?_cons_succ, List.set_cons_zero, List.set_cons_succ, Option.bind_some, Option.map_some, Option.bind_none, Option.map_none, Nat.reduceAdd, Nat.reduceSub, Int.reduceAdd, Int.reduceNeg, decide_true, decide_false, Bool.not_true, Bool.not_false, if_true, if_false, Bool.false_eq_true, if_pos, reduceIte, reduceCtorEq, Option.some.injEq, Prod.mk.injEq, and_self, and_true, true_and, szOk, cFor, forL, e1, e2, e3]
  exact run_rt (n := 8) (c := c__law_right) (ds := [.pot]) (p := some u) (seq_nx (b := cRet (cD (.bl true))) e rfl)
theorem math (ns : List Int) (_ : ns.length ≤ 63) (_ : ∀ z ∈ ns, PySem.Builtin.Int.intBits z ≤ 1048576) : ∃ p', f_law [.scr ns] none = some (.bl true, p') :=
  law_ev (fp := f__law_pot) (fr := f__law_right) (m := 3) (by decide) (fun place h0 h1 => pot_ev (a := 1000211) (b := 4639) (c := 3163) (a2 := 72161) (b2 := 10853) (c2 := 2843) (m := 2305843009213693951) (m2 := 2305843009213693921) (by decide) h0 h1) right_ev
end Lk11

open PySem PySem.W PyProof.Rows
set_option maxHeartbeats 0 in
theorem PySem.Challenge.cw_reachedbyturns_k11_whole_reach_turned_an_holds : PySem.Challenge.rw_reachedbyturns_k11_whole_reach_turned_an.Holds := by
  w_on; o_law; k_head; (case hw => w_witness2)
  k_fill
  refine L2.walk_ofB (l := PySem.Challenge.rw_reachedbyturns_k11_whole_reach_turned_an) (n := 63) (k := 9) (x := "script") (CX := fun _ => L2.CX0) (sp := fun w => Rb.spF _ 1 Lk11.f_law) rfl (by decide) rfl ⟨rfl, by decide, by decide⟩ (fun w h Y => PySem.W.kIn_of Y) ?F (fun _ _ a ns hl hb _ hS => Rb.sp_law (Lk11.math ns hl hb) hS) (fun _ _ _ _ _ h => h)
  case F =>
    intro w mg fa h KX G hmg
    refine' Lk11.all_mk KX G hmg ?a0 ?l0 ?c0 ?k0 ?a1 ?l1 ?c1 ?k1 ?a2 ?l2 ?c2 ?k2 ?a3 ?l3 ?c3 ?k3 ?a4 ?l4 ?c4 ?k4 ?a5 ?l5 ?c5 ?k5 ?a6 ?l6 ?c6 ?k6 ?a7 ?l7 ?c7 ?k7 ?a8 ?l8 ?c8 ?k8 ?a9 ?l9 ?c9 ?k9 ?a10 ?l10 ?c10 ?k10 ?a11 ?l11 ?c11 ?k11 ?a12 ?l12 ?c12 ?k12 ?a13 ?l13 ?c13 ?k13 ?a14 ?l14 ?c14 ?k14 ?a15 ?l15 ?c15 ?k15 ?a16 ?l16 ?c16 ?k16 ?a17 ?l17 ?c17 ?k17 ?a18 ?l18 ?c18 ?k18 ?a19 ?l19 ?c19 ?k19 ?a20 ?l20 ?c20 ?k20 ?a21 ?l21 ?c21 ?k21 ?a22 ?l22 ?c22 ?k22 ?a23 ?l23 ?c23 ?k23 ?a24 ?l24 ?c24 ?k24 ?a25 ?l25 ?c25 ?k25 ?a26 ?l26 ?c26 ?k26 ?a27 ?l27 ?c27 ?k27 ?a28 ?l28 ?c28 ?k28 ?a29 ?l29 ?c29 ?k29 ?a30 ?l30 ?c30 ?k30 ?a31 ?l31 ?c31 ?k31 ?a32 ?l32 ?c32 ?k32 ?a33 ?l33 ?c33 ?k33 ?a34 ?l34 ?c34 ?k34 ?zb0 ?zb1 ?zb2 ?zb3 ?zb4 ?zb5 ?zb6 ?zb7 ?zb8 ?zb9 ?zb10 ?zb11 ?zb12 ?zb13 ?zb14 ?zc0 ?zc1 ?zc2 ?zc3 ?zc4 ?zc5 ?zc6 ?zc7 ?zc8 ?zc9 ?zc10 ?zc11 ?zc12 ?zc13 ?zc14 ?zw0 ?zw1 ?zw2 ?zw3 ?zw4
    (case a0 => k_is); (case l0 => k_is); (case c0 => k_is); (case k0 => k_is); (case a1 => k_is); (case l1 => k_is); (case c1 => k_is); (case k1 => k_is); (case a2 => k_is); (case l2 => k_is); (case c2 => k_is); (case k2 => k_is); (case a3 => k_is); (case l3 => k_is); (case c3 => k_is); (case k3 => k_is); (case a4 => k_is); (case l4 => k_is); (case c4 => k_is); (case k4 => k_is); (case a5 => k_is); (case l5 => k_is); (case c5 => k_is); (case k5 => k_is); (case a6 => k_is); (case l6 => k_is); (case c6 => k_is); (case k6 => k_is); (case a7 => k_is); (case l7 => k_is); (case c7 => k_is); (case k7 => k_is); (case a8 => k_is); (case l8 => k_is); (case c8 => k_is); (case k8 => k_is); (case a9 => k_is); (case l9 => k_is); (case c9 => k_is); (case k9 => k_is); (case a10 => k_is); (case l10 => k_is); (case c10 => k_is); (case k10 => k_is); (case a11 => k_is); (case l11 => k_is); (case c11 => k_is); (case k11 => k_is); (case a12 => k_is); (case l12 => k_is); (case c12 => k_is); (case k12 => k_is); (case a13 => k_is); (case l13 => k_is); (case c13 => k_is); (case k13 => k_is); (case a14 => k_is); (case l14 => k_is); (case c14 => k_is); (case k14 => k_is); (case a15 => k_is); (case l15 => k_is); (case c15 => k_is); (case k15 => k_is); (case a16 => k_is); (case l16 => k_is); (case c16 => k_is); (case k16 => k_is); (case a17 => k_is); (case l17 => k_is); (case c17 => k_is); (case k17 => k_is); (case a18 => k_is); (case l18 => k_is); (case c18 => k_is); (case k18 => k_is); (case a19 => k_is); (case l19 => k_is); (case c19 => k_is); (case k19 => k_is); (case a20 => k_is); (case l20 => k_is); (case c20 => k_is); (case k20 => k_is); (case a21 => k_is); (case l21 => k_is); (case c21 => k_is); (case k21 => k_is); (case a22 => k_is); (case l22 => k_is); (case c22 => k_is); (case k22 => k_is); (case a23 => k_is); (case l23 => k_is); (case c23 => k_is); (case k23 => k_is); (case a24 => k_is); (case l24 => k_is); (case c24 => k_is); (case k24 => k_is); (case a25 => k_is); (case l25 => k_is); (case c25 => k_is); (case k25 => k_is); (case a26 => k_is); (case l26 => k_is); (case c26 => k_is); (case k26 => k_is); (case a27 => k_is); (case l27 => k_is); (case c27 => k_is); (case k27 => k_is); (case a28 => k_is); (case l28 => k_is); (case c28 => k_is); (case k28 => k_is); (case a29 => k_is); (case l29 => k_is); (case c29 => k_is); (case k29 => k_is); (case a30 => k_is); (case l30 => k_is); (case c30 => k_is); (case k30 => k_is); (case a31 => k_is); (case l31 => k_is); (case c31 => k_is); (case k31 => k_is); (case a32 => k_is); (case l32 => k_is); (case c32 => k_is); (case k32 => k_is); (case a33 => k_is); (case l33 => k_is); (case c33 => k_is); (case k33 => k_is); (case a34 => k_is); (case l34 => k_is); (case c34 => k_is); (case k34 => k_is); (case zb0 => k_is); (case zb1 => k_is); (case zb2 => k_is); (case zb3 => k_is); (case zb4 => k_is); (case zb5 => k_is); (case zb6 => k_is); (case zb7 => k_is); (case zb8 => k_is); (case zb9 => k_is); (case zb10 => k_is); (case zb11 => k_is); (case zb12 => k_is); (case zb13 => k_is); (case zb14 => k_is); (case zc0 => k_is); (case zc1 => k_is); (case zc2 => k_is); (case zc3 => k_is); (case zc4 => k_is); (case zc5 => k_is); (case zc6 => k_is); (case zc7 => k_is); (case zc8 => k_is); (case zc9 => k_is); (case zc10 => k_is); (case zc11 => k_is); (case zc12 => k_is); (case zc13 => k_is); (case zc14 => k_is); (case zw0 => k_is); (case zw1 => k_is); (case zw2 => k_is); (case zw3 => k_is); (case zw4 => k_is)

