import PyProof.Rows.All
import Wide.All
import OpenK.AllK
import Wide.FinOn
import HandS.ForMost
import HandS.Wide
import HandS.Flow
import HandS.Deep
import HandS.IsInst
import HandS.DictComp
import HandS.AnyAll
import HandS.Evl
import HandS.EndTab
import HandS.TupAny
import HandS.Style
import KE.GoesMore
import KE.GoesEnum
import PyProof.GenCompD
import PyProof.ReprLen
import PyProof.Rows.RegFStrParts
import HandS.NestedK
import PySem.Challenge.RW_guanaco_k85_covers_of_other_types
set_option Elab.async false
set_option linter.all false
set_option maxRecDepth 100000
set_option maxHeartbeats 4000000
/-! The ground of the walk: immutable data seen through a ghost heap G below the abstract heap H. -/
namespace G
open PySem L2 Evl
mutual
/-- the value v is the datum d, all of its objects in G -/
inductive Dat (G : Hp) : V → PyData → Prop
  | non : Dat G .non .none
  | bl (b : Bool) : Dat G (.bl b) (.bool b)
  | int (i : Int) : Dat G (.int i) (.int i)
  | str (x : Str) : Dat G (.str x) (.str x)
  | lst {a : Addr} {xs : List V} {ds : List PyData} : G a = some (.lst xs) → Dats G xs ds → Dat G (.ref a) (.list ds)
  | tup {a : Addr} {xs : List V} {ds : List PyData} : G a = some (.tup xs) → Dats G xs ds → Dat G (.ref a) (.tuple ds)
inductive Dats (G : Hp) : List V → List PyData → Prop
  | nil : Dats G [] []
  | cons {v : V} {vs : List V} {d : PyData} {ds : List PyData} : Dat G v d → Dats G vs ds → Dats G (v :: vs) (d :: ds)
end
mutual
theorem Dat.mono {G G' : Hp} (e : Ex G G') : ∀ (d : PyData) (v : V), Dat G v d → Dat G' v d
  | .none, _, h => by cases h; exact .non
  | .bool b, _, h => by cases h; exact .bl b
  | .int i, _, h => by cases h; exact .int i
  | .str x, _, h => by cases h; exact .str x
  | .list ds, _, h => by
    cases h with
    | lst h1 h2 => exact .lst (e _ _ h1) (Dats.mono e ds _ h2)
  | .tuple ds, _, h => by
    cases h with
    | tup h1 h2 => exact .tup (e _ _ h1) (Dats.mono e ds _ h2)
  | .dict _, _, h => by cases h
theorem Dats.mono {G G' : Hp} (e : Ex G G') : ∀ (ds : List PyData) (vs : List V), Dats G vs ds → Dats G' vs ds
  | [], _, h => by cases h; exact .nil
  | d :: ds, _, h => by
    cases h with
    | cons h1 h2 => exact .cons (Dat.mono e d _ h1) (Dats.mono e ds _ h2)
end
theorem Dat.m {G G' : Hp} {v : V} {d : PyData} (h : Dat G v d) (e : Ex G G') : Dat G' v d := Dat.mono e d v h
theorem Dats.m {G G' : Hp} {vs : List V} {ds : List PyData} (h : Dats G vs ds) (e : Ex G G') : Dats G' vs ds := Dats.mono e ds vs h
mutual
theorem Dat.dp {K : PySem.W.Frag} {G H : Hp} (e : Ex G H) : ∀ (d : PyData) (v : V), Dat G v d → Dp K H v d
  | .none, _, h => by cases h; exact .non
  | .bool b, _, h => by cases h; exact .bl b
  | .int i, _, h => by cases h; exact .int i
  | .str x, _, h => by cases h; exact .str x
  | .list ds, _, h => by
    cases h with
    | lst h1 h2 => exact .lst (sq_of (e _ _ h1)) (Dats.dp e ds _ h2)
  | .tuple ds, _, h => by
    cases h with
    | tup h1 h2 => exact .tup (st_of (e _ _ h1)) (Dats.dp e ds _ h2)
  | .dict _, _, h => by cases h
theorem Dats.dp {K : PySem.W.Frag} {G H : Hp} (e : Ex G H) : ∀ (ds : List PyData) (vs : List V), Dats G vs ds → DpAll K H vs ds
  | [], _, h => by cases h; exact .nil
  | d :: ds, _, h => by
    cases h with
    | cons h1 h2 => exact .cons (Dat.dp e d _ h1) (Dats.dp e ds _ h2)
end
theorem Dats.len {G : Hp} : ∀ {vs : List V} {ds : List PyData}, Dats G vs ds → vs.length = ds.length
  | _, _, .nil => rfl
  | _, _, .cons _ t => congrArg (· + 1) (Dats.len t)
theorem Dats.get {G : Hp} : ∀ {vs : List V} {ds : List PyData} {i : Nat} {d : PyData}, Dats G vs ds → ds[i]? = some d → ∃ v, vs[i]? = some v ∧ Dat G v d
  | _, _, _, _, .nil, h => by simp at h
  | _, _, 0, _, .cons a _, h => by
    simp at h
    subst h
    exact ⟨_, rfl, a⟩
  | _, _, i + 1, d, .cons _ t, h => by
    obtain ⟨v, h1, h2⟩ := Dats.get (i := i) (d := d) t (by simpa using h)
    exact ⟨v, by simpa using h1, h2⟩
theorem Dats.getV {G : Hp} {vs : List V} {ds : List PyData} {i : Nat} {v : V} (h : Dats G vs ds) (hv : vs[i]? = some v) : ∃ d, ds[i]? = some d ∧ Dat G v d := by
  have hl := h.len
  have hi : i < ds.length := by
    have := (List.getElem?_eq_some_iff.mp hv).1
    omega
  obtain ⟨v', h1, h2⟩ := h.get (List.getElem?_eq_getElem hi)
  rw [hv] at h1
  cases h1
  exact ⟨_, List.getElem?_eq_getElem hi, h2⟩
theorem Dats.app {G : Hp} : ∀ {vs ws : List V} {ds es : List PyData}, Dats G vs ds → Dats G ws es → Dats G (vs ++ ws) (ds ++ es)
  | _, _, _, _, .nil, h => h
  | _, _, _, _, .cons a t, h => .cons a (Dats.app t h)
theorem Dats.snoc {G : Hp} {vs : List V} {ds : List PyData} {v : V} {d : PyData} (h : Dats G vs ds) (h1 : Dat G v d) : Dats G (vs ++ [v]) (ds ++ [d]) := h.app (.cons h1 .nil)
theorem Dats.drop {G : Hp} : ∀ {vs : List V} {ds : List PyData} (n : Nat), Dats G vs ds → Dats G (vs.drop n) (ds.drop n)
  | _, _, 0, h => h
  | _, _, _ + 1, .nil => .nil
  | _, _, n + 1, .cons _ t => Dats.drop n t
theorem Dats.take {G : Hp} : ∀ {vs : List V} {ds : List PyData} (n : Nat), Dats G vs ds → Dats G (vs.take n) (ds.take n)
  | _, _, 0, _ => .nil
  | _, _, _ + 1, .nil => .nil
  | _, _, n + 1, .cons a t => .cons a (Dats.take n t)
theorem Dats.rev {G : Hp} : ∀ {vs : List V} {ds : List PyData}, Dats G vs ds → Dats G vs.reverse ds.reverse
  | _, _, .nil => .nil
  | _, _, .cons a t => by
    rw [List.reverse_cons, List.reverse_cons]
    exact (Dats.rev t).snoc a
theorem Dats.rep {G : Hp} {v : V} {d : PyData} (h : Dat G v d) : ∀ n, Dats G (List.replicate n v) (List.replicate n d)
  | 0 => .nil
  | n + 1 => .cons h (Dats.rep h n)

/-- from (G, H) to (G', H'): what stood stands (tables may grow), what was tracked and no datum stays none -/
structure Go (G H G' H' : Hp) : Prop where
  g : Ex G G'
  gh : Ex G' H'
  h : ∀ a o, H a = some o → (∀ ps, o ≠ HO.tbl ps) → H' a = some o
  t : ∀ a ps, H a = some (HO.tbl ps) → ∃ ps', H' a = some (HO.tbl ps') ∧ (TriplesOk ps.toList → TriplesOk ps'.toList)
  n : ∀ a, G a = none → H a ≠ none → G' a = none
theorem Go.refl {G H : Hp} (e : Ex G H) : Go G H G H := ⟨Ex.refl G, e, fun _ _ h _ => h, fun _ ps h => ⟨ps, h, id⟩, fun _ h _ => h⟩
theorem Go.some_of {G H G' H' : Hp} (a : Go G H G' H') {p : Addr} (h : H p ≠ none) : H' p ≠ none := by
  cases e : H p with
  | none => exact absurd e h
  | some o =>
    intro z
    by_cases q : ∃ ps, o = HO.tbl ps
    · obtain ⟨ps, rfl⟩ := q
      obtain ⟨ps', e', _⟩ := a.t p ps e
      rw [z] at e'
      cases e'
    · have e' := a.h p o e fun ps z2 => q ⟨ps, z2⟩
      rw [z] at e'
      cases e'
theorem Go.trans {G H G1 H1 G2 H2 : Hp} (a : Go G H G1 H1) (b : Go G1 H1 G2 H2) : Go G H G2 H2 where
  g := a.g.trans b.g
  gh := b.gh
  h := fun p o e q => b.h p o (a.h p o e q) q
  t := fun p ps e => by
    obtain ⟨p1, e1, t1⟩ := a.t p ps e
    obtain ⟨p2, e2, t2⟩ := b.t p p1 e1
    exact ⟨p2, e2, fun z => t2 (t1 z)⟩
  n := fun p e1 e2 => b.n p (a.n p e1 e2) (a.some_of e2)
theorem Go.back {G H G' H' : Hp} (a : Go G H G' H') {p : Addr} (h : H' p = none) : H p = none := by
  cases e : H p with
  | none => rfl
  | some o => exact absurd h (a.some_of (by rw [e]; exact fun z => nomatch z))
theorem gnone {G H : Hp} (e : Ex G H) {p : Addr} (h : H p = none) : G p = none := fresh_back e h
/-- a new object that never changes -/
theorem Go.imm {G H : Hp} (e : Ex G H) {p : Addr} {o : HO} (h : H p = none) : Go G H (upd G p o) (upd H p o) where
  g := Ex.new (gnone e h)
  gh := fun a u q => by
    by_cases z : a = p
    · subst z
      rw [upd_same] at q ⊢
      exact q
    · rw [upd_ne z] at q ⊢
      exact e a u q
  h := fun a u q _ => by
    rw [upd_ne (ne_of_none q h)]
    exact q
  t := fun a ps q => ⟨ps, by rw [upd_ne (ne_of_none q h)]; exact q, id⟩
  n := fun a q1 q2 => by
    have z : a ≠ p := fun z => q2 (z ▸ h)
    rw [upd_ne z]
    exact q1
/-- a new object that changes -/
theorem Go.born {G H : Hp} (e : Ex G H) {p : Addr} {o : HO} (h : H p = none) : Go G H G (upd H p o) where
  g := Ex.refl G
  gh := e.trans (Ex.new h)
  h := fun a u q _ => by
    rw [upd_ne (ne_of_none q h)]
    exact q
  t := fun a ps q => ⟨ps, by rw [upd_ne (ne_of_none q h)]; exact q, id⟩
  n := fun _ q _ => q
/-- it changes -/
theorem Go.mut {G0 H0 G H : Hp} (a : Go G0 H0 G H) {p : Addr} {o : HO} (h : H0 p = none) (hg : G p = none) : Go G0 H0 G (upd H p o) where
  g := a.g
  gh := fun b u q => by
    rw [upd_ne (ne_of_none q hg)]
    exact a.gh b u q
  h := fun b u q z => by
    rw [upd_ne (ne_of_none q h)]
    exact a.h b u q z
  t := fun b ps q => by
    rw [upd_ne (ne_of_none q h)]
    exact a.t b ps q
  n := a.n
/-- it changes no more -/
theorem Go.freeze {G0 H0 G H : Hp} (a : Go G0 H0 G H) {p : Addr} {o : HO} (h : H0 p = none) (hg : G p = none) (hp : H p = some o) : Go G0 H0 (upd G p o) H where
  g := fun b u q => by
    rw [upd_ne (ne_of_none (a.g b u q) hg)]
    exact a.g b u q
  gh := fun b u q => by
    by_cases z : b = p
    · subst z
      rw [upd_same] at q
      rw [hp]
      exact q
    · rw [upd_ne z] at q
      exact a.gh b u q
  h := a.h
  t := a.t
  n := fun b q1 q2 => by
    have z : b ≠ p := fun z => q2 (z ▸ h)
    rw [upd_ne z]
    exact a.n b q1 q2
theorem Go.lst {G H G' H' : Hp} (a : Go G H G' H') {p : Addr} {xs : List V} (h : H p = some (.lst xs)) : H' p = some (.lst xs) := a.h p _ h fun _ z => nomatch z
theorem Go.out {G H G' H' : Hp} (a : Go G H G' H') {p : Addr} {o : HO} (hg : G p = none) (h : H p = some o) : G' p = none := a.n p hg (by rw [h]; exact fun z => nomatch z)

/-- what is known of a value: it is a datum, or it is just that value -/
inductive Sv where
  | dat (d : PyData)
  | val (v : V)
def Is (G : Hp) (s : Sv) (v : V) : Prop := match s with
  | .dat d => Dat G v d
  | .val u => v = u
theorem Is.m {G G' : Hp} {s : Sv} {v : V} (h : Is G s v) (e : Ex G G') : Is G' s v := by
  cases s with
  | dat d => exact Dat.m h e
  | val u => exact h
inductive Iss (G : Hp) : List Sv → List V → Prop
  | nil : Iss G [] []
  | cons {s : Sv} {ss : List Sv} {v : V} {vs : List V} : Is G s v → Iss G ss vs → Iss G (s :: ss) (v :: vs)
theorem Iss.m {G G' : Hp} (e : Ex G G') : ∀ {ss : List Sv} {vs : List V}, Iss G ss vs → Iss G' ss vs
  | _, _, .nil => .nil
  | _, _, .cons h t => .cons (h.m e) (Iss.m e t)
theorem Iss.dats {G : Hp} : ∀ {ds : List PyData} {vs : List V}, Iss G (ds.map Sv.dat) vs → Dats G vs ds
  | [], _, h => by cases h; exact .nil
  | _ :: _, _, h => by
    cases h with
    | cons h1 h2 => exact .cons h1 (Iss.dats h2)

def Evs (te : TE) (σ : L2.St) (G H : Hp) (s : Sv) : Prop := ∀ G1 H1, Go G H G1 H1 → ∀ Q : VK, (∀ v G2 H2, Go G1 H1 G2 H2 → Is G2 s v → Q v H2) → te σ H1 Q
abbrev EvD (te : TE) (σ : L2.St) (G H : Hp) (d : PyData) : Prop := Evs te σ G H (.dat d)
def EvB (tt : TT) (σ : L2.St) (G H : Hp) (b : Bool) : Prop := ∀ G1 H1, Go G H G1 H1 → ∀ Q : Bool → Hp → Prop, (∀ G2 H2, Go G1 H1 G2 H2 → Q b H2) → tt σ H1 Q
def Eva (ta : TA) (σ : L2.St) (G H : Hp) (ss : List Sv) : Prop := ∀ G1 H1, Go G H G1 H1 → ∀ Q : List V → Hp → Prop, (∀ vs G2 H2, Go G1 H1 G2 H2 → Iss G2 ss vs → Q vs H2) → ta σ H1 Q
def Evo (to : TO) (σ : L2.St) (G H : Hp) (o : Option Int) : Prop := ∀ G1 H1, Go G H G1 H1 → ∀ Q : Option Int → Hp → Prop, (∀ G2 H2, Go G1 H1 G2 H2 → Q o H2) → to σ H1 Q
section
variable {K : PySem.W.Frag} {σ : L2.St} {G H G' H' : Hp} {ta tb te tc : TE} {t u : TT} {s : Sv} {v : V} {d e : PyData}
theorem Evs.m (a : Go G H G' H') (h : Evs te σ G H s) : Evs te σ G' H' s := fun G1 H1 b => h G1 H1 (a.trans b)
theorem EvB.m {b : Bool} (a : Go G H G' H') (h : EvB t σ G H b) : EvB t σ G' H' b := fun G1 H1 b => h G1 H1 (a.trans b)
theorem ev_var {i : Nat} (h : σ[i]? = some (some v)) (hs : Is G s v) : Evs (tVar i) σ G H s := fun G1 H1 a Q q => ⟨v, h, q v G1 H1 (Go.refl a.gh) (hs.m a.g)⟩
theorem ev_c (hs : ∀ G, Is G s v) : Evs (tC v) σ G H s := fun G1 H1 a Q q => q v G1 H1 (Go.refl a.gh) (hs _)
theorem ev_int {i : Int} : EvD (tC (.int i)) σ G H (.int i) := ev_c fun _ => .int i
theorem ev_str {x : Str} : EvD (tC (.str x)) σ G H (.str x) := ev_c fun _ => .str x
theorem ev_bl {b : Bool} : EvD (tC (.bl b)) σ G H (.bool b) := ev_c fun _ => .bl b
theorem ev_non : EvD (tC .non) σ G H .none := ev_c fun _ => .non
theorem ea_nil : Eva tNil σ G H [] := fun G1 H1 a Q q => q [] G1 H1 (Go.refl a.gh) .nil
theorem ea_cons {tr : TA} {ss : List Sv} (h : Evs ta σ G H s) (hr : Eva tr σ G H ss) : Eva (tCons ta tr) σ G H (s :: ss) := fun G1 H1 a Q q =>
  h G1 H1 a _ fun v G2 H2 b hv => hr G2 H2 (a.trans b) _ fun vs G3 H3 c hvs => q (v :: vs) G3 H3 (b.trans c) (.cons (hv.m c.g) hvs)
theorem dat_tup {G H : Hp} (e : Ex G H) {p : Addr} {xs : List V} {ds : List PyData} (h : Dats G xs ds) (hp : H p = none) : Dat (upd G p (.tup xs)) (.ref p) (.tuple ds) :=
  .tup upd_same (h.m (Ex.new (gnone e hp)))
theorem dat_lst {G H : Hp} (e : Ex G H) {p : Addr} {xs : List V} {ds : List PyData} (h : Dats G xs ds) (hp : H p = none) : Dat (upd G p (.lst xs)) (.ref p) (.list ds) :=
  .lst upd_same (h.m (Ex.new (gnone e hp)))
theorem ev_tup {ta : TA} {ds : List PyData} (h : Eva ta σ G H (ds.map .dat)) (hl : ds.length ≤ 100000) : EvD (tTup ta) σ G H (.tuple ds) := fun G1 H1 a Q q =>
  h G1 H1 a _ fun vs G2 H2 b hv => ⟨sz_of (by rw [hv.dats.len]; exact hl), fun p hp => q _ _ _ (b.trans (Go.imm b.gh hp)) (dat_tup b.gh hv.dats hp)⟩
theorem ev_lst {ta : TA} {ds : List PyData} (h : Eva ta σ G H (ds.map .dat)) (hl : ds.length ≤ 100000) : EvD (tLst ta) σ G H (.list ds) := fun G1 H1 a Q q =>
  h G1 H1 a _ fun vs G2 H2 b hv => ⟨sz_of (by rw [hv.dats.len]; exact hl), fun p hp => q _ _ _ (b.trans (Go.imm b.gh hp)) (dat_lst b.gh hv.dats hp)⟩
theorem atI_dat {G : Hp} {xs : List V} {ds : List PyData} {i : Int} (h : Dats G xs ds) (ha : atI ds i = some d) : ∃ v, atI xs i = some v ∧ Dat G v d := by
  unfold atI at ha ⊢
  rw [h.len]
  cases hn : ixN ds.length i with
  | none =>
    rw [hn] at ha
    cases ha
  | some j =>
    rw [hn] at ha
    exact h.get ha
theorem ev_op {r : R2} {s1 s2 : Sv} (h1 : Evs ta σ G H s1) (h2 : Evs tb σ G H s2)
    (hr : ∀ x y G1 H1, Go G H G1 H1 → Is G1 s1 x → Is G1 s2 y → ∀ Q : VK, (∀ v G2 H2, Go G1 H1 G2 H2 → Is G2 s v → Q v H2) → r x y H1 Q) : Evs (tOp r ta tb) σ G H s := fun G1 H1 a Q q =>
  h1 G1 H1 a _ fun x G2 H2 b hx => h2 G2 H2 (a.trans b) _ fun y G3 H3 c hy => hr x y G3 H3 ((a.trans b).trans c) (hx.m c.g) hy Q fun v G4 H4 d hv => q v G4 H4 ((b.trans c).trans d) hv
theorem ev_ixT {ds : List PyData} {i : Int} (h1 : EvD ta σ G H (.tuple ds)) (h2 : EvD tb σ G H (.int i)) (ha : atI ds i = some d) : EvD (tOp (rIxT K) ta tb) σ G H d := ev_op h1 h2 fun x y G1 H1 a hx hy Q q => by
  cases hx with
  | tup e1 e2 =>
    cases hy
    obtain ⟨v, e3, e4⟩ := atI_dat e2 ha
    exact ⟨_, _, _, v, rfl, rfl, st_of (a.gh _ _ e1), e3, q v G1 H1 (Go.refl a.gh) e4⟩
theorem ev_ixL {ds : List PyData} {i : Int} (h1 : EvD ta σ G H (.list ds)) (h2 : EvD tb σ G H (.int i)) (ha : atI ds i = some d) : EvD (tOp (rIxL K) ta tb) σ G H d := ev_op h1 h2 fun x y G1 H1 a hx hy Q q => by
  cases hx with
  | lst e1 e2 =>
    cases hy
    obtain ⟨v, e3, e4⟩ := atI_dat e2 ha
    exact ⟨_, _, _, v, rfl, rfl, sq_of (a.gh _ _ e1), e3, q v G1 H1 (Go.refl a.gh) e4⟩
/-- a list or a tuple -/
abbrev rIxA (K : PySem.W.Frag) : R2 := fun x y H Q => rIxL K x y H Q ∨ rIxT K x y H Q
theorem ix_any {X : Cx} : IxR X (rIxA X.K) := IxR.or ix_list ix_tup
theorem ev_it {ds : List PyData} {i : Int} (h1 : EvD ta σ G H (.tuple ds)) (h2 : EvD tb σ G H (.int i)) (ha : atI ds i = some d) : EvD (tOp (rIxA K) ta tb) σ G H d := ev_op h1 h2 fun x y G1 H1 a hx hy Q q => by
  cases hx with
  | tup e1 e2 =>
    cases hy
    obtain ⟨v, e3, e4⟩ := atI_dat e2 ha
    exact .inr ⟨_, _, _, v, rfl, rfl, st_of (a.gh _ _ e1), e3, q v G1 H1 (Go.refl a.gh) e4⟩
theorem ev_il {ds : List PyData} {i : Int} (h1 : EvD ta σ G H (.list ds)) (h2 : EvD tb σ G H (.int i)) (ha : atI ds i = some d) : EvD (tOp (rIxA K) ta tb) σ G H d := ev_op h1 h2 fun x y G1 H1 a hx hy Q q => by
  cases hx with
  | lst e1 e2 =>
    cases hy
    obtain ⟨v, e3, e4⟩ := atI_dat e2 ha
    exact .inl ⟨_, _, _, v, rfl, rfl, sq_of (a.gh _ _ e1), e3, q v G1 H1 (Go.refl a.gh) e4⟩
/-- flat data -/
def flat : PyData → Bool
  | .none | .int _ | .str _ => true
  | _ => false
theorem flat_eq {G : Hp} {x y : V} {d e : PyData} (hx : Dat G x d) (hy : Dat G y e) (fd : flat d = true) (fe : flat e = true) : scal x y = true ∧ decide (x = y) = PyData.eqv d e := by
  cases d <;> cases e <;> first | (cases fd; done) | (cases fe; done) | (cases hx; cases hy; refine ⟨rfl, ?_⟩; simp [PyData.eqv]; done) | skip
  all_goals (cases hx; cases hy; refine ⟨rfl, ?_⟩; simp [PyData.eqv, Bool.beq_eq_decide_eq])
theorem ev_eqF (h1 : EvD ta σ G H d) (h2 : EvD tb σ G H e) (fd : flat d = true) (fe : flat e = true) : EvD (tOp rEq ta tb) σ G H (.bool (PyData.eqv d e)) := ev_op h1 h2 fun x y G1 H1 a hx hy Q q => by
  obtain ⟨e1, e2⟩ := flat_eq hx hy fd fe
  exact ⟨e1, by rw [e2]; exact q _ G1 H1 (Go.refl a.gh) (.bl _)⟩
theorem ev_neF (h1 : EvD ta σ G H d) (h2 : EvD tb σ G H e) (fd : flat d = true) (fe : flat e = true) : EvD (tOp rNe ta tb) σ G H (.bool (!PyData.eqv d e)) := ev_op h1 h2 fun x y G1 H1 a hx hy Q q => by
  obtain ⟨e1, e2⟩ := flat_eq hx hy fd fe
  exact ⟨e1, by rw [e2]; exact q _ G1 H1 (Go.refl a.gh) (.bl _)⟩
theorem ev_eqD (h1 : EvD ta σ G H d) (h2 : EvD tb σ G H e) (fd : SeqAt.shaped d = true) (fe : SeqAt.shaped e = true) : EvD (tOp (rEqD K) ta tb) σ G H (.bool (PyData.eqv d e)) := ev_op h1 h2 fun x y G1 H1 a hx hy Q q =>
  ⟨d, e, Dat.dp a.gh _ _ hx, Dat.dp a.gh _ _ hy, fd, fe, q _ G1 H1 (Go.refl a.gh) (.bl _)⟩
theorem ev_neD (h1 : EvD ta σ G H d) (h2 : EvD tb σ G H e) (fd : SeqAt.shaped d = true) (fe : SeqAt.shaped e = true) : EvD (tOp (rNeD K) ta tb) σ G H (.bool (!PyData.eqv d e)) := ev_op h1 h2 fun x y G1 H1 a hx hy Q q =>
  ⟨d, e, Dat.dp a.gh _ _ hx, Dat.dp a.gh _ _ hy, fd, fe, q _ G1 H1 (Go.refl a.gh) (.bl _)⟩
theorem ev_inD {ds : List PyData} (h1 : EvD ta σ G H d) (h2 : EvD tb σ G H (.list ds)) (fd : SeqAt.shaped d = true) (fe : SeqAt.shaped (.list ds) = true) : EvD (tOp (rInD K) ta tb) σ G H (.bool (ds.any fun z => PyData.eqv z d)) := ev_op h1 h2 fun x y G1 H1 a hx hy Q q =>
  ⟨d, ds, Dat.dp a.gh _ _ hx, Dat.dp a.gh _ _ hy, fd, fe, q _ G1 H1 (Go.refl a.gh) (.bl _)⟩
theorem ev_ninD {ds : List PyData} (h1 : EvD ta σ G H d) (h2 : EvD tb σ G H (.list ds)) (fd : SeqAt.shaped d = true) (fe : SeqAt.shaped (.list ds) = true) : EvD (tOp (rNotInD K) ta tb) σ G H (.bool (!ds.any fun z => PyData.eqv z d)) := ev_op h1 h2 fun x y G1 H1 a hx hy Q q =>
  ⟨d, ds, Dat.dp a.gh _ _ hx, Dat.dp a.gh _ _ hy, fd, fe, q _ G1 H1 (Go.refl a.gh) (.bl _)⟩
/-- two lists glued -/
theorem ev_cat {ds es : List PyData} (h1 : EvD ta σ G H (.list ds)) (h2 : EvD tb σ G H (.list es)) (hl : ds.length + es.length ≤ 1000000) : EvD (tOp rCat ta tb) σ G H (.list (ds ++ es)) := ev_op h1 h2 fun x y G1 H1 a hx hy Q q => by
  cases hx with
  | lst e1 e2 =>
    cases hy with
    | lst e3 e4 =>
      exact ⟨_, _, _, _, rfl, rfl, a.gh _ _ e1, a.gh _ _ e3, by rw [e2.len, e4.len]; exact Nat.le_trans hl (by decide), fun p hp => q _ _ _ (Go.imm a.gh hp) (dat_lst a.gh (e2.app e4) hp)⟩
theorem ev_add {i j : Int} (h1 : EvD ta σ G H (.int i)) (h2 : EvD tb σ G H (.int j)) : EvD (tOp (rI0 fun i j => .int (i + j)) ta tb) σ G H (.int (i + j)) := ev_op h1 h2 fun x y G1 H1 a hx hy Q q => by
  cases hx
  cases hy
  exact ⟨i, j, rfl, rfl, q _ G1 H1 (Go.refl a.gh) (.int _)⟩
theorem ev_sub {i j : Int} (h1 : EvD ta σ G H (.int i)) (h2 : EvD tb σ G H (.int j)) : EvD (tOp (rI0 fun i j => .int (i - j)) ta tb) σ G H (.int (i - j)) := ev_op h1 h2 fun x y G1 H1 a hx hy Q q => by
  cases hx
  cases hy
  exact ⟨i, j, rfl, rfl, q _ G1 H1 (Go.refl a.gh) (.int _)⟩
theorem ev_I0b {g : Int → Int → Bool} {i j : Int} (h1 : EvD ta σ G H (.int i)) (h2 : EvD tb σ G H (.int j)) : EvD (tOp (rI0 fun i j => .bl (g i j)) ta tb) σ G H (.bool (g i j)) := ev_op h1 h2 fun x y G1 H1 a hx hy Q q => by
  cases hx
  cases hy
  exact ⟨i, j, rfl, rfl, q _ G1 H1 (Go.refl a.gh) (.bl _)⟩
theorem ev_neg {i : Int} (h1 : EvD ta σ G H (.int i)) : EvD (tUn (rU fun i => .int (-i)) ta) σ G H (.int (-i)) := fun G1 H1 a Q q =>
  h1 G1 H1 a _ fun x G2 H2 b hx => by
    cases hx
    exact ⟨i, rfl, q _ G2 H2 b (.int _)⟩
def isNo : PyData → Bool
  | .none => true
  | _ => false
theorem ev_isN (h : EvD ta σ G H d) : EvD (tIsN ta) σ G H (.bool (isNo d)) := fun G1 H1 a Q q =>
  h G1 H1 a _ fun x G2 H2 b hx => by
    have e : decide (x = V.non) = isNo d := by
      cases hx <;> simp [isNo]
    show Q (.bl (decide (x = V.non))) H2
    rw [e]
    exact q _ G2 H2 b (.bl _)
theorem ev_notN (h : EvD ta σ G H d) : EvD (tNotN ta) σ G H (.bool (!isNo d)) := fun G1 H1 a Q q =>
  h G1 H1 a _ fun x G2 H2 b hx => by
    have e : decide (x = V.non) = isNo d := by
      cases hx <;> simp [isNo]
    show Q (.bl (!decide (x = V.non))) H2
    rw [e]
    exact q _ G2 H2 b (.bl _)
/-- slices -/
theorem eo_none : Evo tNoPart σ G H none := fun G1 H1 a Q q => q G1 H1 (Go.refl a.gh)
theorem eo_some {i : Int} (h : EvD te σ G H (.int i)) : Evo (tPart te) σ G H (some i) := fun G1 H1 a Q q => h G1 H1 a _ fun x G2 H2 b hx => by
  cases hx
  exact ⟨i, rfl, q G2 H2 b⟩
def cutD (ds : List PyData) (lo hi : Option Int) : List PyData := (ds.drop (HT.sIx ds.length 0 lo)).take (HT.sIx ds.length ds.length hi - HT.sIx ds.length 0 lo)
theorem cut_dat {G : Hp} {xs : List V} {ds : List PyData} (h : Dats G xs ds) (lo hi : Option Int) : Dats G (cutV xs lo hi) (cutD ds lo hi) := by
  unfold cutV cutD
  rw [h.len]
  exact (h.drop _).take _
theorem ev_slL {tl th : TO} {ds : List PyData} {lo hi : Option Int} (h : EvD te σ G H (.list ds)) (h1 : Evo tl σ G H lo) (h2 : Evo th σ G H hi) : EvD (tSl (rSlL K) te tl th) σ G H (.list (cutD ds lo hi)) := fun G1 H1 a Q q =>
  h G1 H1 a _ fun x G2 H2 b hx => h1 G2 H2 (a.trans b) _ fun G3 H3 c => h2 G3 H3 ((a.trans b).trans c) _ fun G4 H4 f => by
    have hx2 : Dat G4 x (.list ds) := Dat.m hx (c.trans f).g
    cases hx2 with
    | lst e1 e2 => exact ⟨_, _, rfl, sq_of (f.gh _ _ e1), fun p hp => q _ _ _ (((b.trans c).trans f).trans (Go.imm f.gh hp)) (dat_lst f.gh (cut_dat e2 lo hi) hp)⟩
/-- tests -/
theorem eb_test {b : Bool} (h : EvD te σ G H (.bool b)) : EvB (tTest te) σ G H b := fun G1 H1 a Q q => h G1 H1 a _ fun x G2 H2 c hx => by
  cases hx
  exact ⟨b, rfl, q G2 H2 c⟩
theorem eb_B {b : Bool} (h : EvD te σ G H (.bool b)) : EvB (tB te) σ G H b := fun G1 H1 a Q q => h G1 H1 a _ fun x G2 H2 c hx => by
  cases hx
  exact ⟨b, rfl, q G2 H2 c⟩
theorem eb_and {a b : Bool} (h1 : EvB t σ G H a) (h2 : a = true → EvB u σ G H b) : EvB (tAnd t u) σ G H (a && b) := fun G1 H1 x Q q => h1 G1 H1 x _ fun G2 H2 y => by
  cases a with
  | true => exact (h2 rfl) G2 H2 (x.trans y) Q fun G3 H3 z => q G3 H3 (y.trans z)
  | false => exact q G2 H2 y
theorem eb_or {a b : Bool} (h1 : EvB t σ G H a) (h2 : a = false → EvB u σ G H b) : EvB (tOr t u) σ G H (a || b) := fun G1 H1 x Q q => h1 G1 H1 x _ fun G2 H2 y => by
  cases a with
  | true => exact q G2 H2 y
  | false => exact (h2 rfl) G2 H2 (x.trans y) Q fun G3 H3 z => q G3 H3 (y.trans z)
theorem eb_not {a : Bool} (h1 : EvB t σ G H a) : EvB (tNot t) σ G H (!a) := fun G1 H1 x Q q => h1 G1 H1 x _ fun G2 H2 y => q G2 H2 y
theorem eb_is {a b : Bool} (h : EvB t σ G H a) (e : a = b) : EvB t σ G H b := e ▸ h
theorem ev_is (h : EvD te σ G H d) (x : d = e) : EvD te σ G H e := x ▸ h
theorem ev_andV {a b : Bool} (h1 : EvD ta σ G H (.bool a)) (h2 : a = true → EvD tb σ G H (.bool b)) : EvD (tAndV ta tb) σ G H (.bool (a && b)) := fun G1 H1 x Q q => h1 G1 H1 x _ fun z G2 H2 y hz => by
  cases hz
  refine ⟨a, rfl, ?_⟩
  cases a with
  | true => exact (h2 rfl) G2 H2 (x.trans y) Q fun v G3 H3 w hv => q v G3 H3 (y.trans w) hv
  | false => exact q _ G2 H2 y (.bl _)
theorem ev_orV {a b : Bool} (h1 : EvD ta σ G H (.bool a)) (h2 : a = false → EvD tb σ G H (.bool b)) : EvD (tOrV ta tb) σ G H (.bool (a || b)) := fun G1 H1 x Q q => h1 G1 H1 x _ fun z G2 H2 y hz => by
  cases hz
  refine ⟨a, rfl, ?_⟩
  cases a with
  | true => exact q _ G2 H2 y (.bl _)
  | false => exact (h2 rfl) G2 H2 (x.trans y) Q fun v G3 H3 w hv => q v G3 H3 (y.trans w) hv
theorem ev_notV {a : Bool} (h1 : EvD ta σ G H (.bool a)) : EvD (tNotV ta) σ G H (.bool (!a)) := fun G1 H1 x Q q => h1 G1 H1 x _ fun z G2 H2 y hz => by
  cases hz
  exact ⟨a, rfl, q _ G2 H2 y (.bl _)⟩
theorem ev_if {b : Bool} (h : EvB t σ G H b) (h1 : b = true → Evs ta σ G H s) (h2 : b = false → Evs tb σ G H s) : Evs (tIf t ta tb) σ G H s := fun G1 H1 x Q q => h G1 H1 x _ fun G2 H2 y => by
  cases b with
  | true => exact (h1 rfl) G2 H2 (x.trans y) Q fun v G3 H3 w hv => q v G3 H3 (y.trans w) hv
  | false => exact (h2 rfl) G2 H2 (x.trans y) Q fun v G3 H3 w hv => q v G3 H3 (y.trans w) hv
/-- truth -/
def truD : PyData → Option Bool
  | .none => some false
  | .bool b => some b
  | .int i => some (i != 0)
  | .list xs => some !xs.isEmpty
  | .tuple xs => some !xs.isEmpty
  | _ => none
theorem isEmpty_len {α β : Type} {xs : List α} {ys : List β} (h : xs.length = ys.length) : xs.isEmpty = ys.isEmpty := by
  cases xs <;> cases ys <;> simp_all
theorem truV_dat {G H : Hp} (e : Ex G H) {v : V} {b : Bool} (h : Dat G v d) (ht : truD d = some b) : TruV K v H b := by
  cases h with
  | non => cases ht; exact rfl
  | bl c => cases ht; exact rfl
  | int i => cases ht; exact rfl
  | str x => cases ht
  | lst e1 e2 =>
    cases ht
    exact .inl ⟨_, sq_of (e _ _ e1), by rw [isEmpty_len e2.len]⟩
  | tup e1 e2 =>
    cases ht
    exact .inr (.inl ⟨_, st_of (e _ _ e1), by rw [isEmpty_len e2.len]⟩)
abbrev tTru (K : PySem.W.Frag) (ta : TE) : TT := fun σ H Q => ta σ H fun x H' => ∃ k, TruV K x H' k ∧ Q k H'
theorem eb_tru {b : Bool} (h : EvD ta σ G H d) (ht : truD d = some b) : EvB (tTru K ta) σ G H b := fun G1 H1 a Q q => h G1 H1 a _ fun x G2 H2 c hx => ⟨b, truV_dat c.gh hx ht, q G2 H2 c⟩
theorem ev_notT {b : Bool} (h : EvD ta σ G H d) (ht : truD d = some b) : EvD (tNotT K ta) σ G H (.bool (!b)) := fun G1 H1 a Q q => h G1 H1 a _ fun x G2 H2 c hx => ⟨b, truV_dat c.gh hx ht, q _ G2 H2 c (.bl _)⟩
theorem ev_orT {b : Bool} (h : EvD ta σ G H d) (ht : truD d = some b) (h1 : b = true → d = e) (h2 : b = false → EvD tb σ G H e) : EvD (tOrT K ta tb) σ G H e := fun G1 H1 a Q q => h G1 H1 a _ fun x G2 H2 c hx => by
  refine ⟨b, truV_dat c.gh hx ht, ?_⟩
  cases b with
  | true =>
    have z := h1 rfl
    subst z
    exact q x G2 H2 c hx
  | false => exact (h2 rfl) G2 H2 (a.trans c) Q fun v G3 H3 w hv => q v G3 H3 (c.trans w) hv

/-- calls -/
theorem ev_cb {r : List V → Hp → VK → Prop} {ta : TA} {ss : List Sv} (h : Eva ta σ G H ss)
    (hr : ∀ vs G1 H1, Go G H G1 H1 → Iss G1 ss vs → ∀ Q : VK, (∀ v G2 H2, Go G1 H1 G2 H2 → Is G2 s v → Q v H2) → r vs H1 Q) : Evs (tCB r ta) σ G H s := fun G1 H1 a Q q =>
  h G1 H1 a _ fun vs G2 H2 b hv => hr vs G2 H2 (a.trans b) hv Q fun v G3 H3 c hs => q v G3 H3 (b.trans c) hs
theorem ev_len {ds : List PyData} (h : EvD ta σ G H (.list ds)) : EvD (tCB (rLenS K) (tCons ta tNil)) σ G H (.int (ds.length : Int)) := ev_cb (ea_cons h ea_nil) fun vs G1 H1 a hv Q q => by
  cases hv with
  | cons h1 h2 =>
    cases h2
    cases h1 with
    | lst e1 e2 =>
      refine ⟨_, _, rfl, .inl (sq_of (a.gh _ _ e1)), ?_⟩
      rw [e2.len]
      exact q _ G1 H1 (Go.refl a.gh) (.int _)
theorem ev_lenT {ds : List PyData} (h : EvD ta σ G H (.tuple ds)) : EvD (tCB (rLenS K) (tCons ta tNil)) σ G H (.int (ds.length : Int)) := ev_cb (ea_cons h ea_nil) fun vs G1 H1 a hv Q q => by
  cases hv with
  | cons h1 h2 =>
    cases h2
    cases h1 with
    | tup e1 e2 =>
      refine ⟨_, _, rfl, .inr (st_of (a.gh _ _ e1)), ?_⟩
      rw [e2.len]
      exact q _ G1 H1 (Go.refl a.gh) (.int _)
theorem ev_listL {ds : List PyData} (h : EvD ta σ G H (.list ds)) : EvD (tCB (rListS K) (tCons ta tNil)) σ G H (.list ds) := ev_cb (ea_cons h ea_nil) fun vs G1 H1 a hv Q q => by
  cases hv with
  | cons h1 h2 =>
    cases h2
    cases h1 with
    | lst e1 e2 => exact ⟨_, _, rfl, .inl (sq_of (a.gh _ _ e1)), fun l hl => q _ _ _ (Go.imm a.gh hl) (dat_lst a.gh e2 hl)⟩
theorem ev_listT {ds : List PyData} (h : EvD ta σ G H (.tuple ds)) : EvD (tCB (rListS K) (tCons ta tNil)) σ G H (.list ds) := ev_cb (ea_cons h ea_nil) fun vs G1 H1 a hv Q q => by
  cases hv with
  | cons h1 h2 =>
    cases h2
    cases h1 with
    | tup e1 e2 => exact ⟨_, _, rfl, .inr (st_of (a.gh _ _ e1)), fun l hl => q _ _ _ (Go.imm a.gh hl) (dat_lst a.gh e2 hl)⟩
abbrev rTupS (K : PySem.W.Frag) : List V → Hp → VK → Prop := fun xs H Q => ∃ p ys, xs = [.ref p] ∧ ((SqL K H p ys ∧ ∀ l, H l = none → Q (.ref l) (upd H l (.tup ys))) ∨ (SqT K H p ys ∧ Q (.ref p) H))
theorem ev_tupL {ds : List PyData} (h : EvD ta σ G H (.list ds)) : EvD (tCB (rTupS K) (tCons ta tNil)) σ G H (.tuple ds) := ev_cb (ea_cons h ea_nil) fun vs G1 H1 a hv Q q => by
  cases hv with
  | cons h1 h2 =>
    cases h2
    cases h1 with
    | lst e1 e2 => exact ⟨_, _, rfl, .inl ⟨sq_of (a.gh _ _ e1), fun l hl => q _ _ _ (Go.imm a.gh hl) (dat_tup a.gh e2 hl)⟩⟩
theorem ev_tupT {ds : List PyData} (h : EvD ta σ G H (.tuple ds)) : EvD (tCB (rTupS K) (tCons ta tNil)) σ G H (.tuple ds) := ev_cb (ea_cons h ea_nil) fun vs G1 H1 a hv Q q => by
  cases hv with
  | cons h1 h2 =>
    cases h2
    cases h1 with
    | tup e1 e2 => exact ⟨_, _, rfl, .inr ⟨st_of (a.gh _ _ e1), q _ G1 H1 (Go.refl a.gh) (.tup e1 e2)⟩⟩
/-- the promise of a def that changes nothing -/
def Pur (pre : List PyData → Prop) (post : List PyData → PyData → Prop) : Sp := fun vs H Q _ => ∃ G ds, Ex G H ∧ Dats G vs ds ∧ pre ds ∧ ∀ v G' H' d, Go G H G' H' → post ds d → Dat G' v d → Q v H'
theorem ev_call {pre : List PyData → Prop} {post : List PyData → PyData → Prop} {E : XK} {ta : TA} {ds : List PyData} (h : Eva ta σ G H (ds.map .dat)) (hp : pre ds) (hq : ∀ d', post ds d' → d' = d) : EvD (tCall (Pur pre post) [] E ta) σ G H d := fun G1 H1 a Q q =>
  h G1 H1 a _ fun vs G2 H2 b hv => ⟨G2, ds, b.gh, by rw [List.append_nil]; exact hv.dats, hp, fun v G3 H3 d' c hd hv => by
    have z := hq d' hd
    subst z
    exact q v G3 H3 (b.trans c) hv⟩

/-! ### statements -/
variable {D : Ends} {tu tw tz : TS} {g : TG}
theorem s_ret (e : Ex G H) (h : Evs te σ G H s) (k : ∀ v G1 H1, Go G H G1 H1 → Is G1 s v → D.rt v H1) : tRet te D σ H := h G H (Go.refl e) _ k
theorem s_asg {i : Nat} (e : Ex G H) (h : Evs te σ G H s) (k : ∀ v G1 H1, Go G H G1 H1 → Is G1 s v → D.nx (σ.set i (some v)) H1) : tAsg te (gName i) D σ H := h G H (Go.refl e) _ k
theorem q_asg {i : Nat} (e : Ex G H) (h : Evs te σ G H s) (k : ∀ v G1 H1, Go G H G1 H1 → Is G1 s v → tz D (σ.set i (some v)) H1) : tSeq (tAsg te (gName i)) tz D σ H := s_asg (D := { D with nx := tz D }) e h k
theorem s_if {b : Bool} (e : Ex G H) (h : EvB t σ G H b) (h1 : b = true → ∀ G1 H1, Go G H G1 H1 → tu D σ H1) (h2 : b = false → ∀ G1 H1, Go G H G1 H1 → tw D σ H1) : tIfS t tu tw D σ H := h G H (Go.refl e) _ fun G1 H1 a => by
  cases b with
  | true => exact h1 rfl G1 H1 a
  | false => exact h2 rfl G1 H1 a
theorem q_if {b : Bool} (e : Ex G H) (h : EvB t σ G H b) (h1 : b = true → ∀ G1 H1, Go G H G1 H1 → tu { D with nx := tz D } σ H1) (h2 : b = false → ∀ G1 H1, Go G H G1 H1 → tw { D with nx := tz D } σ H1) : tSeq (tIfS t tu tw) tz D σ H :=
  s_if (D := { D with nx := tz D }) e h h1 h2
/-- an if without an else -/
theorem q_when {b : Bool} (e : Ex G H) (h : EvB t σ G H b) (h1 : b = true → ∀ G1 H1, Go G H G1 H1 → tu { D with nx := tz D } σ H1) (h2 : b = false → ∀ G1 H1, Go G H G1 H1 → tz D σ H1) : tSeq (tIfS t tu tNext) tz D σ H := q_if e h h1 h2
theorem s_when {b : Bool} (e : Ex G H) (h : EvB t σ G H b) (h1 : b = true → ∀ G1 H1, Go G H G1 H1 → tu D σ H1) (h2 : b = false → ∀ G1 H1, Go G H G1 H1 → D.nx σ H1) : tIfS t tu tNext D σ H := s_if e h h1 h2
theorem Dats.getM {α : Type} {enc : α → PyData} {G : Hp} {vs : List V} {as : List α} {i : Nat} {v : V} (h : Dats G vs (as.map enc)) (hv : vs[i]? = some v) : ∃ a, as[i]? = some a ∧ Dat G v (enc a) := by
  obtain ⟨d, h1, h2⟩ := h.getV hv
  rw [List.getElem?_map] at h1
  cases e : as[i]? with
  | none => rw [e] at h1; cases h1
  | some a =>
    rw [e] at h1
    cases h1
    exact ⟨a, rfl, h2⟩
/-- a loop over a list of data -/
theorem s_for {α : Type} {enc : α → PyData} {as : List α} {tl : TE} (e : Ex G H) (h : EvD tl σ G H (.list (as.map enc)))
    (k : ∀ G1 H1, Go G H G1 H1 → ∃ P : Nat → L2.St → Hp → Hp → Prop, P 0 σ G1 H1 ∧ (∀ i σ' G' H', P i σ' G' H' → Ex G1 G' ∧ Ex G' H') ∧
      (∀ i a x σ' G' H', as[i]? = some a → P i σ' G' H' → Dat G' x (enc a) → g x σ' H' fun σ2 H2 => tu { D with nx := fun s h => ∃ G, P (i + 1) s G h, ct := fun s h => ∃ G, P (i + 1) s G h, bk := D.nx } σ2 H2) ∧ ∀ σ' G' H', P as.length σ' G' H' → D.nx σ' H') :
    tFor (iList K tl) g tu D σ H := h G H (Go.refl e) _ fun x G1 H1 a hx => by
  cases hx with
  | lst e1 e2 =>
    rename_i l xs
    obtain ⟨P, p0, pm, ps, pd⟩ := k G1 H1 a
    have hl : xs.length = as.length := by rw [e2.len, List.length_map]
    refine ⟨l, rfl, ⟨xs, sq_of (a.gh _ _ e1)⟩, ?_⟩
    refine for_list (xs := xs) (fun i s h => ∃ G, P i s G h) ⟨G1, p0⟩ (fun i s h _ ⟨G2, p⟩ => ?_) (fun i x s h hx ⟨G2, p⟩ => ?_) fun s h ⟨G2, p⟩ => ?_
    · obtain ⟨a1, a2⟩ := pm i s G2 h p
      exact sq_of (a2 _ _ (a1 _ _ e1))
    · obtain ⟨a1, a2⟩ := pm i s G2 h p
      obtain ⟨d, hd, hv⟩ := e2.getM hx
      exact ps i d x s G2 h hd p (hv.m a1)
    · rw [hl] at p
      exact pd s G2 h p
theorem q_for {α : Type} {enc : α → PyData} {as : List α} {tl : TE} (e : Ex G H) (h : EvD tl σ G H (.list (as.map enc)))
    (k : ∀ G1 H1, Go G H G1 H1 → ∃ P : Nat → L2.St → Hp → Hp → Prop, P 0 σ G1 H1 ∧ (∀ i σ' G' H', P i σ' G' H' → Ex G1 G' ∧ Ex G' H') ∧
      (∀ i a x σ' G' H', as[i]? = some a → P i σ' G' H' → Dat G' x (enc a) → g x σ' H' fun σ2 H2 => tu { D with nx := fun s h => ∃ G, P (i + 1) s G h, ct := fun s h => ∃ G, P (i + 1) s G h, bk := tz D } σ2 H2) ∧ ∀ σ' G' H', P as.length σ' G' H' → tz D σ' H') :
    tSeq (tFor (iList K tl) g tu) tz D σ H := s_for (D := { D with nx := tz D }) e h k
/-- a comprehension over a list of data -/
theorem ev_lc {α : Type} {enc : α → PyData} {as : List α} {tl : TE} {vs : List Nat} (c : α → Bool) (f : α → PyData) (h : EvD tl σ G H (.list (as.map enc))) (hl : as.length ≤ 1000000)
    (k : ∀ a ∈ as, ∀ x G1 H1, Go G H G1 H1 → Dat G1 x (enc a) → ∃ σ2, (∀ R : L2.St → Hp → Prop, R σ2 H1 → g x (wipe σ vs) H1 R) ∧ wipe σ2 vs = wipe σ vs ∧ EvB t σ2 G1 H1 (c a) ∧ (c a = true → EvD te σ2 G1 H1 (f a))) :
    EvD (tLc (iList K tl) g t te vs) σ G H (.list ((as.filter c).map f)) := fun G0 H0 a0 Q q => h G0 H0 a0 _ fun x G1 H1 a hx => by
  cases hx with
  | lst e1 e2 =>
    rename_i l xs
    refine ⟨l, rfl, ⟨xs, sq_of (a.gh _ _ e1)⟩, fun Dl hD => ?_⟩
    have gl : xs.length = as.length := by rw [e2.len, List.length_map]
    refine lc_list (xs := xs) (fun i h => ∃ G2, Go G1 H1 G2 h ∧ G2 Dl = none ∧ ∃ acc, h Dl = some (.lst acc) ∧ Dats G2 acc (((as.take i).filter c).map f)) ⟨G1, Go.born a.gh hD, gnone a.gh hD, [], upd_same, .nil⟩
      (fun i h _ ⟨G2, p, _⟩ => sq_of (p.gh _ _ (p.g _ _ e1))) (fun i x h hx ⟨G2, p, n2, acc, ha, hda⟩ => ?_) fun h ⟨G2, p, n2, acc, ha, hda⟩ => ?_
    · obtain ⟨d, hd, hv⟩ := e2.getM hx
      have hi := (List.getElem?_eq_some_iff.mp hd).1
      obtain ⟨σ2, hg, hw, ht, he⟩ := k d (List.mem_of_getElem? hd) x G2 h ((a0.trans a).trans p) (hv.m p.g)
      have tk : as.take (i + 1) = as.take i ++ [d] := by rw [List.take_add_one, hd]; rfl
      refine hg _ ⟨hw, ht G2 h (Go.refl p.gh) _ fun G3 H3 b => ?_⟩
      cases hc : c d with
      | true =>
        rw [hc] at ht he
        refine (he rfl) G3 H3 b _ fun y G4 H4 b2 hy => ?_
        have bb := b.trans b2
        refine ⟨acc, bb.lst ha, ?_, G4, (p.trans bb).mut hD (bb.out n2 ha), bb.out n2 ha, _, upd_same, ?_⟩
        · rw [hda.len, List.length_map]
          have z := List.length_filter_le c (as.take i)
          rw [List.length_take] at z
          have : min i as.length ≤ as.length := Nat.min_le_right _ _
          exact Nat.lt_of_le_of_lt (by omega) (show 1000000 < sizeLine by decide)
        · rw [tk, List.filter_append, List.map_append, List.filter_cons, hc]
          exact (hda.m bb.g).snoc hy
      | false =>
        refine ⟨G3, p.trans b, b.out n2 ha, acc, b.lst ha, ?_⟩
        rw [tk, List.filter_append, List.map_append, List.filter_cons, hc]
        simp only [Bool.false_eq_true, if_false, List.filter_nil, List.map_nil, List.append_nil]
        exact hda.m b.g
    · rw [gl, List.take_length] at hda
      refine q _ _ _ (a.trans (p.freeze hD n2 ha)) (Dat.lst upd_same (hda.m ?_))
      intro b u z
      rw [upd_ne (ne_of_none z n2)]
      exact z
/-- .. without a test -/
theorem eb_yes : EvB tYes σ G H true := fun G1 H1 a Q q => q G1 H1 (Go.refl a.gh)
theorem ev_lcA {α : Type} {enc : α → PyData} {as : List α} {tl : TE} {vs : List Nat} (f : α → PyData) (h : EvD tl σ G H (.list (as.map enc))) (hl : as.length ≤ 1000000)
    (k : ∀ a ∈ as, ∀ x G1 H1, Go G H G1 H1 → Dat G1 x (enc a) → ∃ σ2, (∀ R : L2.St → Hp → Prop, R σ2 H1 → g x (wipe σ vs) H1 R) ∧ wipe σ2 vs = wipe σ vs ∧ EvD te σ2 G1 H1 (f a)) :
    EvD (tLc (iList K tl) g tYes te vs) σ G H (.list (as.map f)) := by
  have z := ev_lc (K := K) (g := g) (t := tYes) (te := te) (vs := vs) (fun _ : α => true) f h hl fun a ha x G1 H1 b hx => by
    obtain ⟨σ2, h1, h2, h3⟩ := k a ha x G1 H1 b hx
    exact ⟨σ2, h1, h2, eb_yes, fun _ => h3⟩
  rw [List.filter_eq_self.mpr fun _ _ => rfl] at z
  exact z
/-- x.append(e) to a list of one's own -/
theorem q_app {ta : TE} {l : Addr} {xs : List V} {s : Sv} (e : Ex G H) (hl : H l = some (.lst xs)) (hg : G l = none) (ha : Evs ta σ G H (.val (.ref l))) (h : Evs te σ G H s) (hz : xs.length < 1000000)
    (k : ∀ v G1 H1, Go G H G1 H1 → G1 l = none → Is G1 s v → tz D σ (upd H1 l (.lst (xs ++ [v])))) : tSeq (tDrop (tBM K "list" rAppend ta (tCons te tNil))) tz D σ H := ha G H (Go.refl e) _ fun v G1 H1 a hv => by
  cases hv
  refine ⟨.inl ⟨rfl, xs, sq_of (a.lst hl)⟩, h G1 H1 a _ fun v G2 H2 b hs => ⟨l, xs, v, rfl, rfl, (a.trans b).lst hl, Nat.lt_of_lt_of_le hz (by decide), k v G2 H2 (a.trans b) ((a.trans b).out hg hl) hs⟩⟩
theorem s_app {ta : TE} {l : Addr} {xs : List V} {s : Sv} (e : Ex G H) (hl : H l = some (.lst xs)) (hg : G l = none) (ha : Evs ta σ G H (.val (.ref l))) (h : Evs te σ G H s) (hz : xs.length < 1000000)
    (k : ∀ v G1 H1, Go G H G1 H1 → G1 l = none → Is G1 s v → D.nx σ (upd H1 l (.lst (xs ++ [v])))) : tDrop (tBM K "list" rAppend ta (tCons te tNil)) D σ H := q_app (tz := tNext) e hl hg ha h hz k
/-- x = [], a list that will grow -/
theorem q_new {i : Nat} (e : Ex G H) (k : ∀ p, H p = none → Go G H G (upd H p (.lst [])) → tz D (σ.set i (some (.ref p))) (upd H p (.lst []))) : tSeq (tAsg (tLst tNil) (gName i)) tz D σ H :=
  ⟨Nat.zero_le _, fun p hp => k p hp (Go.born e hp)⟩
end
end G

/-! The plain law: types, patterns, values; what the program computes over them, and what that means. -/
namespace M
open PySem
inductive Ty where
  | int | str
  | op (k : Nat)
  | list (t : Ty)
  | tup (ts : List Ty)
inductive Pat where
  | any
  | name (s : Str)
  | pint (i : Int)
  | pstr (s : Str)
  | nil
  | cons (p : Pat)
  | tup (ps : List Pat)
inductive Val where
  | int (i : Int)
  | str (s : Str)
  | nil
  | cons (v : Val)
  | tup (vs : List Val)
  | other
inductive Hd where
  | nil | cons | tup
  | int (i : Int)
  | str (s : Str)
  deriving DecidableEq
/-! ### as data -/
mutual
def Ty.d : Ty → PyData
  | .int => .tuple [.str "con", .str "int", .tuple []]
  | .str => .tuple [.str "con", .str "string", .tuple []]
  | .op 0 => .tuple [.str "fun", .tuple [.str "con", .str "int", .tuple []], .tuple [.str "var", .int 3]]
  | .op 1 => .tuple [.str "con", .str "ref", .tuple [.tuple [.str "var", .str "a"]]]
  | .op 2 => .tuple [.str "var", .int 5]
  | .op _ => .tuple [.str "var", .str "b"]
  | .list t => .tuple [.str "con", .str "list", .tuple [t.d]]
  | .tup ts => .tuple [.str "tuple", .tuple (Ty.ds ts)]
def Ty.ds : List Ty → List PyData
  | [] => []
  | t :: ts => t.d :: Ty.ds ts
end
mutual
def Pat.d : Pat → PyData
  | .any => .tuple [.str "any"]
  | .name s => .tuple [.str "name", .str s]
  | .pint i => .tuple [.str "pint", .int i]
  | .pstr s => .tuple [.str "pstring", .str s]
  | .nil => .tuple [.str "pcon", .tuple [.str "Nil"], .none]
  | .cons p => .tuple [.str "pcon", .tuple [.str "Cons"], p.d]
  | .tup ps => .tuple [.str "ptuple", .tuple (Pat.ds ps)]
def Pat.ds : List Pat → List PyData
  | [] => []
  | p :: ps => p.d :: Pat.ds ps
end
mutual
def Val.d : Val → PyData
  | .int i => .tuple [.str "int", .int i]
  | .str s => .tuple [.str "string", .str s]
  | .nil => .tuple [.str "con", .str "Nil", .none]
  | .cons v => .tuple [.str "con", .str "Cons", v.d]
  | .tup vs => .tuple [.str "tuple", .tuple (Val.ds vs)]
  | .other => .tuple [.str "other"]
def Val.ds : List Val → List PyData
  | [] => []
  | v :: vs => v.d :: Val.ds vs
end
theorem Ty.ds_map : ∀ ts : List Ty, Ty.ds ts = ts.map Ty.d
  | [] => rfl
  | t :: ts => by rw [Ty.ds, Ty.ds_map ts]; rfl
theorem Pat.ds_map : ∀ ts : List Pat, Pat.ds ts = ts.map Pat.d
  | [] => rfl
  | t :: ts => by rw [Pat.ds, Pat.ds_map ts]; rfl
theorem Val.ds_map : ∀ ts : List Val, Val.ds ts = ts.map Val.d
  | [] => rfl
  | t :: ts => by rw [Val.ds, Val.ds_map ts]; rfl
def Hd.d : Hd → PyData
  | .nil => .str "Nil"
  | .cons => .str "Cons"
  | .tup => .tuple []
  | .int i => .tuple [.str "pint", .int i]
  | .str s => .tuple [.str "pstring", .str s]
/-! ### what the program computes -/
def Pat.isOpen : Pat → Bool
  | .any => true
  | .name _ => true
  | _ => false
def Pat.head : Pat → Hd
  | .pint i => .int i
  | .pstr s => .str s
  | .nil => .nil
  | .cons _ => .cons
  | _ => .tup
def Pat.inner : Pat → List Pat
  | .cons p => [p]
  | .tup ps => ps
  | _ => []
def hdP : List Pat → Pat
  | [] => .any
  | p :: _ => p
def specRow (h : Hd) (n : Nat) (row : List Pat) : Option (List Pat) :=
  if (hdP row).isOpen then some (List.replicate n .any ++ row.tail) else if (hdP row).head = h then some ((hdP row).inner ++ row.tail) else none
def spec (rows : List (List Pat)) (h : Hd) (n : Nat) : List (List Pat) := rows.filterMap (specRow h n)
def restRows (rows : List (List Pat)) : List (List Pat) := (rows.filter fun r => (hdP r).isOpen).map List.tail
def foundStep (fs : List Hd) (p : Pat) : List Hd := if p.isOpen || fs.contains p.head then fs else fs ++ [p.head]
def found (col : List Pat) : List Hd := col.foldl foundStep []
def heads (t : Ty) (col : List Pat) : List (Hd × List Ty) × Bool :=
  match t with
  | .tup ts => ([(.tup, ts)], false)
  | .list t => ([(.nil, []), (.cons, [.tup [t, .list t]])], false)
  | _ => ((found col).map fun h => (h, []), true)
def present (col : List Pat) : List Hd := (col.filter fun p => !p.isOpen).map Pat.head
def told (cs : List (Hd × List Ty)) (col : List Pat) : List (Hd × List Ty) := cs.filter fun c => (present col).contains c.1
def others (cs : List (Hd × List Ty)) (col : List Pat) : List (Hd × List Ty) := cs.filter fun c => !(present col).contains c.1
def shown (h : Hd) (ps : List Pat) : Pat :=
  match h with
  | .tup => .tup ps
  | .cons => .cons (hdP ps)
  | _ => .nil
def cutFound (h : Hd) (n : Nat) (f : List Pat) : List Pat := shown h (f.take n) :: f.drop n
def leftOut : Nat → List Ty → List (List Pat) → Option (List Pat)
  | 0, _, _ => none
  | _ + 1, tys, [] => some (tys.map fun _ => .any)
  | _ + 1, [], _ :: _ => none
  | n + 1, t :: tys, r0 :: rs =>
    let rows := r0 :: rs
    let col := rows.map hdP
    if col.all Pat.isOpen then (leftOut n tys (restRows rows)).map (Pat.any :: ·)
    else if (heads t col).2 then (leftOut n tys (restRows rows)).map (Pat.any :: ·)
    else
      let rest := match others (heads t col).1 col with
        | [] => none
        | c :: _ => (leftOut n tys (restRows rows)).map fun f => shown c.1 (c.2.map fun _ => .any) :: f
      match rest with
      | some f => some f
      | none => (told (heads t col).1 col).findSome? fun c => (leftOut n (c.2 ++ tys) (spec rows c.1 c.2.length)).map (cutFound c.1 c.2.length)
def fitsMore : Nat → List Ty → List (List Pat) → List Pat → Bool
  | 0, _, _, _ => false
  | _ + 1, [], rows, _ => rows.isEmpty
  | n + 1, t :: tys, rows, row =>
    if !(hdP row).isOpen then
      match (heads t [hdP row]).1.find? fun c => decide (c.1 = (hdP row).head) with
      | some c => fitsMore n (c.2 ++ tys) (spec rows (hdP row).head (hdP row).inner.length) ((hdP row).inner ++ row.tail)
      | none => false
    else
      let col := rows.map hdP
      if col.all Pat.isOpen then fitsMore n tys (restRows rows) row.tail
      else (((heads t col).2 || !(others (heads t col).1 col).isEmpty) && fitsMore n tys (restRows rows) row.tail) || (told (heads t col).1 col).any fun c => fitsMore n (c.2 ++ tys) (spec rows c.1 c.2.length) (List.replicate c.2.length .any ++ row.tail)
/-! ### what is asked of patterns -/
mutual
def wt : Pat → Ty → Bool
  | .any, _ => true
  | .name _, _ => true
  | .pint _, .int => true
  | .pstr _, .str => true
  | .nil, .list _ => true
  | .cons p, .list t => wt p (.tup [t, .list t])
  | .tup ps, .tup ts => wts ps ts
  | _, _ => false
def wts : List Pat → List Ty → Bool
  | [], [] => true
  | p :: ps, t :: ts => wt p t && wts ps ts
  | _, _ => false
end
mutual
/-- its constants are neither 9 nor z -/
def low : Pat → Bool
  | .pint i => decide (i ≠ 9)
  | .pstr s => decide (s ≠ "z")
  | .cons p => low p
  | .tup ps => lows ps
  | _ => true
def lows : List Pat → Bool
  | [] => true
  | p :: ps => low p && lows ps
end
mutual
def dep : Pat → Nat
  | .any => 0
  | .name _ => 0
  | .cons p => dep p + 1
  | .tup ps => deps ps + 1
  | _ => 1
def deps : List Pat → Nat
  | [] => 0
  | p :: ps => max (dep p) (deps ps)
end
mutual
def vt : Val → Ty → Bool
  | .int _, .int => true
  | .str _, .str => true
  | .nil, .list _ => true
  | .cons v, .list t => vt v (.tup [t, .list t])
  | .tup vs, .tup ts => vts vs ts
  | .other, .op _ => true
  | _, _ => false
def vts : List Val → List Ty → Bool
  | [], [] => true
  | v :: vs, t :: ts => vt v t && vts vs ts
  | _, _ => false
end
mutual
def fits : Pat → Val → Bool
  | .any, _ => true
  | .name _, _ => true
  | .pint i, .int j => decide (i = j)
  | .pstr s, .str r => decide (s = r)
  | .nil, .nil => true
  | .cons p, .cons v => fits p v
  | .tup ps, .tup vs => fitss ps vs
  | _, _ => false
def fitss : List Pat → List Val → Bool
  | [], [] => true
  | p :: ps, v :: vs => fits p v && fitss ps vs
  | _, _ => false
end
theorem wts_len : ∀ {ps : List Pat} {ts : List Ty}, wts ps ts = true → ps.length = ts.length
  | [], [], _ => rfl
  | [], _ :: _, h => by simp [wts] at h
  | _ :: _, [], h => by simp [wts] at h
  | p :: ps, t :: ts, h => by
    simp only [wts, Bool.and_eq_true] at h
    simp [wts_len h.2]
theorem vts_len : ∀ {ps : List Val} {ts : List Ty}, vts ps ts = true → ps.length = ts.length
  | [], [], _ => rfl
  | [], _ :: _, h => by simp [vts] at h
  | _ :: _, [], h => by simp [vts] at h
  | p :: ps, t :: ts, h => by
    simp only [vts, Bool.and_eq_true] at h
    simp [vts_len h.2]
theorem wts_app : ∀ {ps qs : List Pat} {ts us : List Ty}, wts ps ts = true → wts qs us = true → wts (ps ++ qs) (ts ++ us) = true
  | [], _, [], _, _, h => h
  | [], _, _ :: _, _, h, _ => by simp [wts] at h
  | _ :: _, _, [], _, h, _ => by simp [wts] at h
  | p :: ps, qs, t :: ts, us, h, h2 => by
    simp only [wts, Bool.and_eq_true, List.cons_append] at h ⊢
    exact ⟨h.1, wts_app h.2 h2⟩
theorem vts_app : ∀ {ps qs : List Val} {ts us : List Ty}, vts ps ts = true → vts qs us = true → vts (ps ++ qs) (ts ++ us) = true
  | [], _, [], _, _, h => h
  | [], _, _ :: _, _, h, _ => by simp [vts] at h
  | _ :: _, _, [], _, h, _ => by simp [vts] at h
  | p :: ps, qs, t :: ts, us, h, h2 => by
    simp only [vts, Bool.and_eq_true, List.cons_append] at h ⊢
    exact ⟨h.1, vts_app h.2 h2⟩
theorem fitss_app : ∀ {ps qs : List Pat} {vs ws : List Val}, ps.length = vs.length → fitss (ps ++ qs) (vs ++ ws) = (fitss ps vs && fitss qs ws)
  | [], _, [], _, _ => by simp [fitss]
  | [], _, _ :: _, _, h => by simp at h
  | _ :: _, _, [], _, h => by simp at h
  | p :: ps, qs, v :: vs, ws, h => by
    simp only [List.cons_append, fitss]
    rw [fitss_app (by simpa using h), Bool.and_assoc]
theorem wts_any : ∀ ts : List Ty, wts (List.replicate ts.length .any) ts = true
  | [] => rfl
  | t :: ts => by simp [List.replicate_succ, wts, wt, wts_any ts]
theorem fitss_any : ∀ vs : List Val, fitss (List.replicate vs.length .any) vs = true
  | [] => rfl
  | t :: ts => by simp [List.replicate_succ, fitss, fits, fitss_any ts]
theorem lows_app : ∀ {ps qs : List Pat}, lows ps = true → lows qs = true → lows (ps ++ qs) = true
  | [], _, _, h => h
  | p :: ps, qs, h, h2 => by
    simp only [lows, Bool.and_eq_true, List.cons_append] at h ⊢
    exact ⟨h.1, lows_app h.2 h2⟩
theorem lows_any : ∀ n : Nat, lows (List.replicate n .any) = true
  | 0 => rfl
  | n + 1 => by simp [List.replicate_succ, lows, low, lows_any n]
/-! ### the columns' depths -/
def bnd : Nat → Nat
  | 0 => 1
  | k + 1 => 1 + 3 * bnd k
def need (ks : List Nat) : Nat := (ks.map bnd).sum
def under : List Pat → List Nat → Bool
  | [], [] => true
  | p :: ps, k :: ks => decide (dep p ≤ k) && under ps ks
  | _, _ => false
theorem under_app : ∀ {ps qs : List Pat} {ts us : List Nat}, under ps ts = true → under qs us = true → under (ps ++ qs) (ts ++ us) = true
  | [], _, [], _, _, h => h
  | [], _, _ :: _, _, h, _ => by simp [under] at h
  | _ :: _, _, [], _, h, _ => by simp [under] at h
  | p :: ps, qs, t :: ts, us, h, h2 => by
    simp only [under, Bool.and_eq_true, List.cons_append] at h ⊢
    exact ⟨h.1, under_app h.2 h2⟩
theorem under_rep : ∀ (ps : List Pat) (k : Nat), deps ps ≤ k → under ps (List.replicate ps.length k) = true
  | [], _, _ => rfl
  | p :: ps, k, h => by
    simp only [deps] at h
    simp only [List.length_cons, List.replicate_succ, under, Bool.and_eq_true, decide_eq_true_eq]
    exact ⟨by omega, under_rep ps k (by omega)⟩
theorem under_any : ∀ (n k : Nat), under (List.replicate n .any) (List.replicate n k) = true
  | 0, _ => rfl
  | n + 1, k => by simp [List.replicate_succ, under, dep, under_any n k]
theorem bnd_pos (k : Nat) : 1 ≤ bnd k := by cases k <;> simp [bnd]
theorem bnd_mono : ∀ {j k : Nat}, j ≤ k → bnd j ≤ bnd k
  | 0, k, _ => bnd_pos k
  | j + 1, 0, h => by omega
  | j + 1, k + 1, h => by
    have := bnd_mono (j := j) (k := k) (by omega)
    simp only [bnd]
    omega
theorem need_cons (k : Nat) (ks : List Nat) : need (k :: ks) = bnd k + need ks := by simp [need]
theorem need_rep (n k : Nat) (ks : List Nat) : need (List.replicate n k ++ ks) = n * bnd k + need ks := by
  induction n with
  | zero => simp
  | succ n ih => rw [List.replicate_succ, List.cons_append, need_cons, ih, Nat.add_mul]; omega
/-! ### rows -/
structure Rows (tys : List Ty) (ks : List Nat) (rows : List (List Pat)) : Prop where
  len : ks.length = tys.length
  wt : ∀ r ∈ rows, wts r tys = true
  dep : ∀ r ∈ rows, under r ks = true
/-! tuples have at most three parts, and types are small -/
mutual
def slim : Ty → Bool
  | .list t => slim t
  | .tup ts => decide (ts.length ≤ 3) && slims ts
  | _ => true
def slims : List Ty → Bool
  | [] => true
  | t :: ts => slim t && slims ts
end
theorem slims_app : ∀ {ts us : List Ty}, slims ts = true → slims us = true → slims (ts ++ us) = true
  | [], _, _, h => h
  | t :: ts, us, h, h2 => by
    simp only [slims, Bool.and_eq_true, List.cons_append] at h ⊢
    exact ⟨h.1, slims_app h.2 h2⟩
theorem row_cons {t : Ty} {tys : List Ty} {r : List Pat} (h : wts r (t :: tys) = true) : ∃ p q, r = p :: q ∧ wt p t = true ∧ wts q tys = true := by
  cases r with
  | nil => simp [wts] at h
  | cons p q =>
    simp only [wts, Bool.and_eq_true] at h
    exact ⟨p, q, rfl, h.1, h.2⟩
theorem Rows.rest {t : Ty} {tys : List Ty} {k : Nat} {ks : List Nat} {rows : List (List Pat)} (h : Rows (t :: tys) (k :: ks) rows) : Rows tys ks (restRows rows) where
  len := by simpa using h.len
  wt := fun r hr => by
    obtain ⟨r0, h0, rfl⟩ := List.mem_map.mp hr
    have h1 := h.wt r0 (List.mem_filter.mp h0).1
    obtain ⟨p, q, rfl, _, h2⟩ := row_cons h1
    exact h2
  dep := fun r hr => by
    obtain ⟨r0, h0, rfl⟩ := List.mem_map.mp hr
    have h1 := h.wt r0 (List.mem_filter.mp h0).1
    have h3 := h.dep r0 (List.mem_filter.mp h0).1
    obtain ⟨p, q, rfl, _, h2⟩ := row_cons h1
    simp only [under, Bool.and_eq_true] at h3
    exact h3.2
/-- a choice that heads may give -/
def Ok (t : Ty) (c : Hd × List Ty) : Prop :=
  match t with
  | .tup ts => c = (.tup, ts)
  | .list t => c = (.nil, []) ∨ c = (.cons, [.tup [t, .list t]])
  | _ => c.2 = [] ∧ ((∃ i, c.1 = .int i) ∨ ∃ s, c.1 = .str s)
theorem inner_wt {t : Ty} {p : Pat} {c : Hd × List Ty} (ho : Ok t c) (hp : wt p t = true) (hn : p.isOpen = false) (hh : p.head = c.1) : wts p.inner c.2 = true := by
  cases t with
  | tup ts =>
    cases p <;> simp [wt, Pat.isOpen] at hp hn
    simp only [Ok] at ho
    subst ho
    exact hp
  | list t =>
    simp only [Ok] at ho
    rcases ho with rfl | rfl
    · cases p <;> simp [wt, Pat.isOpen, Pat.head] at hp hn hh
      rfl
    · cases p <;> simp [wt, Pat.isOpen, Pat.head] at hp hn hh
      simp [Pat.inner, wts, hp]
  | int =>
    obtain ⟨e, _⟩ := ho
    cases p <;> simp [wt, Pat.isOpen] at hp hn
    rw [e]; rfl
  | str =>
    obtain ⟨e, _⟩ := ho
    cases p <;> simp [wt, Pat.isOpen] at hp hn
    rw [e]; rfl
  | op k =>
    cases p <;> simp [wt, Pat.isOpen] at hp hn
theorem dep_inner {p : Pat} {k : Nat} (hn : p.isOpen = false) (h : dep p ≤ k) : ∃ j, k = j + 1 ∧ deps p.inner ≤ j := by
  cases p <;> simp [Pat.isOpen] at hn <;> simp only [dep] at h <;> refine ⟨k - 1, by omega, ?_⟩ <;> simp [Pat.inner, deps] <;> omega
theorem deps_le : ∀ {ps : List Pat} {k : Nat}, deps ps ≤ k → under ps (List.replicate ps.length k) = true := fun {ps k} h => under_rep ps k h
theorem specRow_open {h : Hd} {n : Nat} {p : Pat} {q : List Pat} (e : p.isOpen = true) : specRow h n (p :: q) = some (List.replicate n .any ++ q) := by simp [specRow, hdP, e]
theorem specRow_same {h : Hd} {n : Nat} {p : Pat} {q : List Pat} (e : p.isOpen = false) (z : p.head = h) : specRow h n (p :: q) = some (p.inner ++ q) := by simp [specRow, hdP, e, z]
theorem specRow_else {h : Hd} {n : Nat} {p : Pat} {q : List Pat} (e : p.isOpen = false) (z : p.head ≠ h) : specRow h n (p :: q) = none := by simp [specRow, hdP, e, z]
theorem Rows.spec {t : Ty} {tys : List Ty} {k : Nat} {ks : List Nat} {rows : List (List Pat)} {c : Hd × List Ty} (h : Rows (t :: tys) (k :: ks) rows) (ho : Ok t c) : Rows (c.2 ++ tys) (List.replicate c.2.length (k - 1) ++ ks) (M.spec rows c.1 c.2.length) where
  len := by
    have := h.len
    simp at this ⊢
    exact this
  wt := fun r hr => by
    obtain ⟨r0, h0, hs⟩ := List.mem_filterMap.mp hr
    obtain ⟨p, q, rfl, h1, h2⟩ := row_cons (h.wt r0 h0)
    cases ho1 : p.isOpen with
    | true =>
      rw [specRow_open ho1] at hs
      cases hs
      exact wts_app (wts_any _) h2
    | false =>
      by_cases hh : p.head = c.1
      · rw [specRow_same ho1 hh] at hs
        cases hs
        exact wts_app (inner_wt ho h1 ho1 hh) h2
      · rw [specRow_else ho1 hh] at hs
        cases hs
  dep := fun r hr => by
    obtain ⟨r0, h0, hs⟩ := List.mem_filterMap.mp hr
    obtain ⟨p, q, rfl, h1, h2⟩ := row_cons (h.wt r0 h0)
    have hd := h.dep _ h0
    simp only [under, Bool.and_eq_true, decide_eq_true_eq] at hd
    cases ho1 : p.isOpen with
    | true =>
      rw [specRow_open ho1] at hs
      cases hs
      exact under_app (under_any _ _) hd.2
    | false =>
      by_cases hh : p.head = c.1
      · rw [specRow_same ho1 hh] at hs
        cases hs
        obtain ⟨j, rfl, hj⟩ := dep_inner ho1 hd.1
        have hl := wts_len (inner_wt ho h1 ho1 hh)
        rw [← hl, Nat.add_sub_cancel]
        exact under_app (deps_le hj) hd.2
      · rw [specRow_else ho1 hh] at hs
        cases hs
theorem slim_ok {t : Ty} {c : Hd × List Ty} (ho : Ok t c) (hs : slim t = true) : c.2.length ≤ 3 ∧ slims c.2 = true := by
  cases t with
  | tup ts =>
    simp only [Ok] at ho
    subst ho
    simp only [slim, Bool.and_eq_true, decide_eq_true_eq] at hs
    exact hs
  | list t =>
    simp only [Ok] at ho
    rcases ho with rfl | rfl
    · exact ⟨by simp, rfl⟩
    · simp only [slim] at hs
      exact ⟨by simp, by simp [slims, slim, hs]⟩
  | int => obtain ⟨e, _⟩ := ho; rw [e]; exact ⟨by simp, rfl⟩
  | str => obtain ⟨e, _⟩ := ho; rw [e]; exact ⟨by simp, rfl⟩
  | op k => obtain ⟨e, _⟩ := ho; rw [e]; exact ⟨by simp, rfl⟩
/-- the fuel falls -/
theorem need_spec {c : Hd × List Ty} {k n : Nat} {ks : List Nat} (h3 : c.2.length ≤ 3) (hk : c.2.length = 0 ∨ 1 ≤ k) (hn : need (k :: ks) ≤ n + 1) : need (List.replicate c.2.length (k - 1) ++ ks) ≤ n := by
  rw [need_rep]
  rw [need_cons] at hn
  have := bnd_pos k
  rcases hk with e | e
  · rw [e]
    omega
  · obtain ⟨j, rfl⟩ : ∃ j, k = j + 1 := ⟨k - 1, by omega⟩
    rw [Nat.add_sub_cancel]
    simp only [bnd] at hn
    have z : c.2.length * bnd j ≤ 3 * bnd j := Nat.mul_le_mul_right _ h3
    omega
theorem need_rest {k n : Nat} {ks : List Nat} (hn : need (k :: ks) ≤ n + 1) : need ks ≤ n := by
  rw [need_cons] at hn
  have := bnd_pos k
  omega
end M

namespace M
open PySem
def vhead : Val → Hd
  | .int i => .int i
  | .str s => .str s
  | .nil => .nil
  | .cons _ => .cons
  | _ => .tup
def vparts : Val → List Val
  | .cons v => [v]
  | .tup vs => vs
  | _ => []
theorem fits_open {p : Pat} (h : p.isOpen = true) (v : Val) : fits p v = true := by
  cases p <;> simp [Pat.isOpen] at h <;> simp [fits]
theorem fits_head {p : Pat} {v : Val} {t : Ty} (hn : p.isOpen = false) (hp : wt p t = true) (hv : vt v t = true) : fits p v = (decide (p.head = vhead v) && fitss p.inner (vparts v)) := by
  cases t <;> cases p <;> simp [Pat.isOpen, wt] at hn hp <;> cases v <;> simp [vt] at hv <;> simp [fits, Pat.head, vhead, Pat.inner, vparts, fitss]
theorem parts_typed {t : Ty} {v : Val} {c : Hd × List Ty} (hv : vt v t = true) (ho : Ok t c) (hc : c.1 = vhead v) : vts (vparts v) c.2 = true := by
  cases t with
  | tup ts =>
    simp only [Ok] at ho
    subst ho
    cases v <;> simp [vt] at hv
    exact hv
  | list t =>
    simp only [Ok] at ho
    rcases ho with rfl | rfl <;> cases v <;> simp [vt, vhead] at hv hc <;> simp [vparts, vts, hv]
  | int =>
    obtain ⟨e, _⟩ := ho
    cases v <;> simp [vt] at hv
    rw [e]; rfl
  | str =>
    obtain ⟨e, _⟩ := ho
    cases v <;> simp [vt] at hv
    rw [e]; rfl
  | op k =>
    obtain ⟨e, _⟩ := ho
    cases v <;> simp [vt] at hv
    rw [e]; rfl
/-! ### heads -/
theorem found_mem : ∀ (col : List Pat) (fs : List Hd) (h : Hd), h ∈ col.foldl foundStep fs ↔ h ∈ fs ∨ ∃ p ∈ col, p.isOpen = false ∧ p.head = h
  | [], fs, h => by simp
  | p :: col, fs, h => by
    rw [List.foldl_cons, found_mem col]
    unfold foundStep
    cases hp : p.isOpen with
    | true => simp [hp]
    | false =>
      by_cases hc : fs.contains p.head = true
      · rw [if_pos (by rw [hc, Bool.or_true])]
        have hc' : p.head ∈ fs := List.contains_iff_mem.mp hc
        constructor
        · rintro (h1 | ⟨q, h1, h2, h3⟩)
          · exact .inl h1
          · exact .inr ⟨q, List.mem_cons_of_mem _ h1, h2, h3⟩
        · rintro (h1 | ⟨q, h1, h2, h3⟩)
          · exact .inl h1
          · rcases List.mem_cons.mp h1 with rfl | h1
            · exact .inl (by rw [← h3]; exact hc')
            · exact .inr ⟨q, h1, h2, h3⟩
      · rw [if_neg (by rw [Bool.false_or]; exact hc)]
        constructor
        · rintro (h1 | ⟨q, h1, h2, h3⟩)
          · rcases List.mem_append.mp h1 with h1 | h1
            · exact .inl h1
            · have e : h = p.head := by simpa using h1
              exact .inr ⟨p, List.mem_cons_self, hp, e.symm⟩
          · exact .inr ⟨q, List.mem_cons_of_mem _ h1, h2, h3⟩
        · rintro (h1 | ⟨q, h1, h2, h3⟩)
          · exact .inl (List.mem_append_left _ h1)
          · rcases List.mem_cons.mp h1 with rfl | h1
            · exact .inl (List.mem_append_right _ (by simp [h3]))
            · exact .inr ⟨q, h1, h2, h3⟩
theorem heads_ok {t : Ty} {col : List Pat} (hw : ∀ p ∈ col, wt p t = true) : ∀ c ∈ (heads t col).1, Ok t c := by
  intro c hc
  cases t with
  | tup ts =>
    simp only [heads, List.mem_singleton] at hc
    exact hc
  | list t =>
    simp only [heads, List.mem_cons, List.not_mem_nil, or_false] at hc
    exact hc
  | int =>
    simp only [heads, List.mem_map] at hc
    obtain ⟨h, hm, rfl⟩ := hc
    rcases (found_mem col [] h).mp hm with z | ⟨p, hp, h1, rfl⟩
    · cases z
    · have h2 := hw p hp
      cases p <;> simp [wt, Pat.isOpen] at h1 h2
      exact ⟨rfl, .inl ⟨_, rfl⟩⟩
  | str =>
    simp only [heads, List.mem_map] at hc
    obtain ⟨h, hm, rfl⟩ := hc
    rcases (found_mem col [] h).mp hm with z | ⟨p, hp, h1, rfl⟩
    · cases z
    · have h2 := hw p hp
      cases p <;> simp [wt, Pat.isOpen] at h1 h2
      exact ⟨rfl, .inr ⟨_, rfl⟩⟩
  | op k =>
    simp only [heads, List.mem_map] at hc
    obtain ⟨h, hm, rfl⟩ := hc
    rcases (found_mem col [] h).mp hm with z | ⟨p, hp, h1, rfl⟩
    · cases z
    · have h2 := hw p hp
      cases p <;> simp [wt, Pat.isOpen] at h1 h2
theorem heads_all {t : Ty} {col : List Pat} {v : Val} (hm : (heads t col).2 = false) (hv : vt v t = true) : ∃ c ∈ (heads t col).1, c.1 = vhead v := by
  cases t with
  | tup ts =>
    cases v <;> simp [vt] at hv
    exact ⟨_, List.mem_cons_self, rfl⟩
  | list t =>
    cases v <;> simp [vt] at hv
    · exact ⟨_, List.mem_cons_self, rfl⟩
    · exact ⟨_, List.mem_cons_of_mem _ List.mem_cons_self, rfl⟩
  | int => simp [heads] at hm
  | str => simp [heads] at hm
  | op k => simp [heads] at hm
theorem heads_find {t : Ty} {p : Pat} (hn : p.isOpen = false) (hp : wt p t = true) : ∃ c, (heads t [p]).1.find? (fun c => decide (c.1 = p.head)) = some c ∧ c ∈ (heads t [p]).1 ∧ c.1 = p.head := by
  have h : ∃ c ∈ (heads t [p]).1, c.1 = p.head := by
    cases t <;> cases p <;> simp [Pat.isOpen, wt] at hn hp <;> simp [heads, Pat.head, found, foundStep, Pat.isOpen]
  obtain ⟨c, h1, h2⟩ := h
  cases e : (heads t [p]).1.find? (fun c => decide (c.1 = p.head)) with
  | none =>
    have := List.find?_eq_none.mp e c h1
    simp [h2] at this
  | some c' => exact ⟨c', rfl, List.mem_of_find?_eq_some e, by simpa using List.find?_some e⟩
theorem told_or {cs : List (Hd × List Ty)} {col : List Pat} {c : Hd × List Ty} (h : c ∈ cs) : c ∈ told cs col ∨ c ∈ others cs col := by
  unfold told others
  by_cases z : (present col).contains c.1 = true
  · exact .inl (List.mem_filter.mpr ⟨h, z⟩)
  · exact .inr (List.mem_filter.mpr ⟨h, by simp at z ⊢; exact z⟩)
theorem mem_rest {rows : List (List Pat)} {r : List Pat} : r ∈ restRows rows ↔ ∃ r0 ∈ rows, (hdP r0).isOpen = true ∧ r0.tail = r := by
  unfold restRows
  simp only [List.mem_map, List.mem_filter]
  constructor
  · rintro ⟨a, ⟨h1, h2⟩, h3⟩
    exact ⟨a, h1, h2, h3⟩
  · rintro ⟨a, h1, h2, h3⟩
    exact ⟨a, ⟨h1, h2⟩, h3⟩
theorem col_wt {t : Ty} {tys : List Ty} {ks : List Nat} {rows : List (List Pat)} (h : Rows (t :: tys) ks rows) : ∀ p ∈ rows.map hdP, wt p t = true := by
  intro p hp
  obtain ⟨r, hr, rfl⟩ := List.mem_map.mp hp
  obtain ⟨p, q, rfl, h1, _⟩ := row_cons (h.wt r hr)
  exact h1
/-- a row of the rest that fits: a row that fits -/
theorem rest_fits {t : Ty} {tys : List Ty} {ks : List Nat} {rows : List (List Pat)} {v : Val} {vs : List Val} (hR : Rows (t :: tys) ks rows) (h : ∃ r ∈ restRows rows, fitss r vs = true) : ∃ r ∈ rows, fitss r (v :: vs) = true := by
  obtain ⟨r, hr, hf⟩ := h
  obtain ⟨r0, h0, ho, rfl⟩ := mem_rest.mp hr
  obtain ⟨p, q, rfl, h1, _⟩ := row_cons (hR.wt r0 h0)
  exact ⟨_, h0, by simp only [fitss, Bool.and_eq_true]; exact ⟨fits_open ho v, hf⟩⟩
theorem spec_fits {t : Ty} {tys : List Ty} {ks : List Nat} {rows : List (List Pat)} {v : Val} {vs : List Val} {c : Hd × List Ty} (hR : Rows (t :: tys) ks rows) (ho : Ok t c) (hv : vt v t = true) (hc : c.1 = vhead v)
    (h : ∃ r ∈ spec rows c.1 c.2.length, fitss r (vparts v ++ vs) = true) : ∃ r ∈ rows, fitss r (v :: vs) = true := by
  obtain ⟨r, hr, hf⟩ := h
  obtain ⟨r0, h0, hs⟩ := List.mem_filterMap.mp hr
  obtain ⟨p, q, rfl, h1, h2⟩ := row_cons (hR.wt r0 h0)
  have hl := vts_len (parts_typed hv ho hc)
  refine ⟨_, h0, ?_⟩
  simp only [fitss, Bool.and_eq_true]
  cases hp : p.isOpen with
  | true =>
    rw [specRow_open hp] at hs
    cases hs
    rw [fitss_app (by rw [List.length_replicate, hl]), Bool.and_eq_true] at hf
    exact ⟨fits_open hp v, hf.2⟩
  | false =>
    by_cases hh : p.head = c.1
    · rw [specRow_same hp hh] at hs
      cases hs
      have hi := wts_len (inner_wt ho h1 hp hh)
      rw [fitss_app (by rw [hi, hl]), Bool.and_eq_true] at hf
      refine ⟨?_, hf.2⟩
      rw [fits_head hp h1 hv, hf.1, Bool.and_true]
      exact decide_eq_true (hh.trans hc)
    · rw [specRow_else hp hh] at hs
      cases hs
theorem val_cons {t : Ty} {tys : List Ty} {vs : List Val} (h : vts vs (t :: tys) = true) : ∃ v r, vs = v :: r ∧ vt v t = true ∧ vts r tys = true := by
  cases vs with
  | nil => simp [vts] at h
  | cons v r =>
    simp only [vts, Bool.and_eq_true] at h
    exact ⟨v, r, rfl, h.1, h.2⟩
theorem ks_cons {t : Ty} {tys : List Ty} {ks : List Nat} {rows : List (List Pat)} (h : Rows (t :: tys) ks rows) : ∃ k ks', ks = k :: ks' := by
  cases ks with
  | nil => have := h.len; simp at this
  | cons k ks => exact ⟨k, ks, rfl⟩
/-- a choice that some pattern has, or a new one: the columns are deep enough -/
theorem deep_enough {t : Ty} {tys : List Ty} {k : Nat} {ks : List Nat} {rows : List (List Pat)} (h : Rows (t :: tys) (k :: ks) rows) (hn : (rows.map hdP).all Pat.isOpen = false) : 1 ≤ k := by
  rw [List.all_eq_false] at hn
  obtain ⟨p, hp, ho⟩ := hn
  obtain ⟨r, hr, rfl⟩ := List.mem_map.mp hp
  have h1 := h.dep r hr
  obtain ⟨p, q, rfl, _, _⟩ := row_cons (h.wt r hr)
  simp only [under, Bool.and_eq_true, decide_eq_true_eq] at h1
  simp only [hdP] at ho
  obtain ⟨j, rfl, _⟩ := dep_inner (p := p) (k := k) (by simpa using ho) h1.1
  omega
theorem slims_cons {t : Ty} {tys : List Ty} (h : slims (t :: tys) = true) : slim t = true ∧ slims tys = true := by
  simpa only [slims, Bool.and_eq_true] using h
theorem leftOut_step {n : Nat} {t : Ty} {tys : List Ty} {rows : List (List Pat)} (hr : rows ≠ []) : leftOut (n + 1) (t :: tys) rows =
    if (rows.map hdP).all Pat.isOpen then (leftOut n tys (restRows rows)).map (Pat.any :: ·)
    else if (heads t (rows.map hdP)).2 then (leftOut n tys (restRows rows)).map (Pat.any :: ·)
    else match (match others (heads t (rows.map hdP)).1 (rows.map hdP) with
        | [] => none
        | c :: _ => (leftOut n tys (restRows rows)).map fun f => shown c.1 (c.2.map fun _ => .any) :: f) with
      | some f => some f
      | none => (told (heads t (rows.map hdP)).1 (rows.map hdP)).findSome? fun c => (leftOut n (c.2 ++ tys) (spec rows c.1 c.2.length)).map (cutFound c.1 c.2.length) := by
  cases rows with
  | nil => exact absurd rfl hr
  | cons r rs => rfl
theorem left_none : ∀ (n : Nat) (tys : List Ty) (ks : List Nat) (rows : List (List Pat)), need ks < n → Rows tys ks rows → slims tys = true → leftOut n tys rows = none → ∀ vs, vts vs tys = true → ∃ r ∈ rows, fitss r vs = true
  | 0, _, _, _, h, _, _, _, _, _ => absurd h (Nat.not_lt_zero _)
  | n + 1, tys, ks, [], _, _, _, h, _, _ => by
    cases tys <;> simp [leftOut] at h
  | n + 1, [], ks, r :: rs, _, hR, _, _, vs, hv => by
    cases vs with
    | cons v r => simp [vts] at hv
    | nil =>
      have h1 := hR.wt r List.mem_cons_self
      cases r with
      | cons p q => simp [wts] at h1
      | nil => exact ⟨[], List.mem_cons_self, rfl⟩
  | n + 1, t :: tys, ks, r0 :: rs, hn, hR, hs, h, vs, hv => by
    obtain ⟨k, ks, rfl⟩ := ks_cons hR
    obtain ⟨v, vs, rfl, hv1, hv2⟩ := val_cons hv
    obtain ⟨hs1, hs2⟩ := slims_cons hs
    have hnr : need ks < n := by rw [need_cons] at hn; have := bnd_pos k; omega
    rw [leftOut_step (by simp)] at h
    generalize hrows : r0 :: rs = rows at *
    have viaRest : leftOut n tys (restRows rows) = none → ∃ r ∈ rows, fitss r (v :: vs) = true := fun e =>
      rest_fits hR (left_none n tys ks _ hnr hR.rest hs2 e vs hv2)
    split at h
    · exact viaRest (by simpa using h)
    · rename_i hcol
      have hk := deep_enough hR (by simpa using hcol)
      split at h
      · exact viaRest (by simpa using h)
      · rename_i hmore
        have hmore : (heads t (rows.map hdP)).2 = false := by simpa using hmore
        obtain ⟨c, hc, hcv⟩ := heads_all hmore hv1
        have ho := heads_ok (col_wt hR) c hc
        rcases told_or (col := rows.map hdP) hc with hc | hc
        · have h2 : (told (heads t (rows.map hdP)).1 (rows.map hdP)).findSome? (fun c => (leftOut n (c.2 ++ tys) (spec rows c.1 c.2.length)).map (cutFound c.1 c.2.length)) = none := by
            split at h
            · cases h
            · exact h
          have h3 := List.findSome?_eq_none_iff.mp h2 c hc
          have h4 : leftOut n (c.2 ++ tys) (spec rows c.1 c.2.length) = none := by simpa using h3
          obtain ⟨z1, z2⟩ := slim_ok ho hs1
          have hn' : need (List.replicate c.2.length (k - 1) ++ ks) < n := by
            have := need_spec (c := c) (k := k) (n := n - 1) (ks := ks) z1 (.inr hk) (by rw [need_cons] at hn ⊢; have := bnd_pos k; omega)
            rw [need_cons] at hn
            have := bnd_pos k
            omega
          exact spec_fits hR ho hv1 hcv (left_none n _ _ _ hn' (hR.spec ho) (slims_app z2 hs2) h4 _ (vts_app (parts_typed hv1 ho hcv) hv2))
        · refine viaRest ?_
          cases e : others (heads t (rows.map hdP)).1 (rows.map hdP) with
          | nil => rw [e] at hc; cases hc
          | cons c' cs =>
            rw [e] at h
            cases e2 : leftOut n tys (restRows rows) with
            | none => rfl
            | some f => rw [e2] at h; simp at h
theorem fits_step {n : Nat} {t : Ty} {tys : List Ty} {rows : List (List Pat)} {p : Pat} {q : List Pat} : fitsMore (n + 1) (t :: tys) rows (p :: q) =
    if (!p.isOpen) = true then
      match (heads t [p]).1.find? fun c => decide (c.1 = p.head) with
      | some c => fitsMore n (c.2 ++ tys) (spec rows p.head p.inner.length) (p.inner ++ q)
      | none => false
    else if (rows.map hdP).all Pat.isOpen = true then fitsMore n tys (restRows rows) q
      else (((heads t (rows.map hdP)).2 || !(others (heads t (rows.map hdP)).1 (rows.map hdP)).isEmpty) && fitsMore n tys (restRows rows) q) ||
        (told (heads t (rows.map hdP)).1 (rows.map hdP)).any fun c => fitsMore n (c.2 ++ tys) (spec rows c.1 c.2.length) (List.replicate c.2.length .any ++ q) := rfl
theorem more_false : ∀ (n : Nat) (tys : List Ty) (ks : List Nat) (rows : List (List Pat)) (row : List Pat), need ks < n → Rows tys ks (row :: rows) → slims tys = true → fitsMore n tys rows row = false →
    ∀ vs, vts vs tys = true → fitss row vs = true → ∃ r ∈ rows, fitss r vs = true
  | 0, _, _, _, _, h, _, _, _, _, _, _ => absurd h (Nat.not_lt_zero _)
  | n + 1, [], ks, rows, row, _, hR, _, h, vs, hv, _ => by
    cases vs with
    | cons v r => simp [vts] at hv
    | nil =>
      cases rows with
      | nil => simp [fitsMore] at h
      | cons r rs =>
        have h1 := hR.wt r (List.mem_cons_of_mem _ List.mem_cons_self)
        cases r with
        | cons p q => simp [wts] at h1
        | nil => exact ⟨[], List.mem_cons_self, rfl⟩
  | n + 1, t :: tys, ks, rows, row, hn, hR, hs, h, vs, hv, hf => by
    obtain ⟨k, ks, rfl⟩ := ks_cons hR
    obtain ⟨v, vs, rfl, hv1, hv2⟩ := val_cons hv
    obtain ⟨hs1, hs2⟩ := slims_cons hs
    obtain ⟨p, q, rfl, hp1, hp2⟩ := row_cons (hR.wt _ List.mem_cons_self)
    have hR' : Rows (t :: tys) (k :: ks) rows := ⟨hR.len, fun r hr => hR.wt r (List.mem_cons_of_mem _ hr), fun r hr => hR.dep r (List.mem_cons_of_mem _ hr)⟩
    have hnr : need ks < n := by rw [need_cons] at hn; have := bnd_pos k; omega
    have hd := hR.dep _ List.mem_cons_self
    simp only [under, Bool.and_eq_true, decide_eq_true_eq] at hd
    simp only [fitss, Bool.and_eq_true] at hf
    -- into a choice
    have into : ∀ (c : Hd × List Ty) (qs : List Pat), Ok t c → 1 ≤ k → wts qs c.2 = true → under qs (List.replicate c.2.length (k - 1)) = true → c.1 = vhead v → fitss qs (vparts v) = true →
        fitsMore n (c.2 ++ tys) (spec rows c.1 c.2.length) (qs ++ q) = false → ∃ r ∈ rows, fitss r (v :: vs) = true := by
      intro c qs ho hk hq1 hq2 hcv hqf hm
      obtain ⟨z1, z2⟩ := slim_ok ho hs1
      have hn' : need (List.replicate c.2.length (k - 1) ++ ks) < n := by
        have := need_spec (c := c) (k := k) (n := n - 1) (ks := ks) z1 (.inr hk) (by rw [need_cons] at hn ⊢; have := bnd_pos k; omega)
        rw [need_cons] at hn
        have := bnd_pos k
        omega
      have hS := hR'.spec ho
      have hl := vts_len (parts_typed hv1 ho hcv)
      refine spec_fits hR' ho hv1 hcv (more_false n _ _ _ (qs ++ q) hn' ⟨hS.len, fun r hr => ?_, fun r hr => ?_⟩ (slims_app z2 hs2) hm _ (vts_app (parts_typed hv1 ho hcv) hv2) ?_)
      · rcases List.mem_cons.mp hr with rfl | hr
        · exact wts_app hq1 hp2
        · exact hS.wt r hr
      · rcases List.mem_cons.mp hr with rfl | hr
        · exact under_app hq2 hd.2
        · exact hS.dep r hr
      · rw [fitss_app (by rw [wts_len hq1, hl]), hqf, hf.2]
        rfl
    have viaRest : fitsMore n tys (restRows rows) q = false → ∃ r ∈ rows, fitss r (v :: vs) = true := fun e => by
      have hS := hR'.rest
      refine rest_fits hR' (more_false n tys ks _ q hnr ⟨hS.len, fun r hr => ?_, fun r hr => ?_⟩ hs2 e vs hv2 hf.2)
      · rcases List.mem_cons.mp hr with rfl | hr
        · exact hp2
        · exact hS.wt r hr
      · rcases List.mem_cons.mp hr with rfl | hr
        · exact hd.2
        · exact hS.dep r hr
    rw [fits_step] at h
    cases hp : p.isOpen with
    | false =>
      simp only [hp, Bool.not_false, if_true] at h
      obtain ⟨c, hc1, hc2, hc3⟩ := heads_find hp hp1
      rw [hc1] at h
      have ho := heads_ok (t := t) (col := [p]) (fun x hx => by have e : x = p := (by simpa using hx); rw [e]; exact hp1) c hc2
      have hw := inner_wt ho hp1 hp hc3.symm
      have hl := wts_len hw
      rw [fits_head hp hp1 hv1, Bool.and_eq_true, decide_eq_true_eq] at hf
      obtain ⟨j, rfl, hj⟩ := dep_inner hp hd.1
      refine into c p.inner ho (by omega) hw ?_ (hc3.trans hf.1.1) hf.1.2 ?_
      · rw [← hl, Nat.add_sub_cancel]
        exact deps_le hj
      · rw [hc3, ← hl]
        exact h
    | true =>
      simp only [hp, Bool.not_true, Bool.false_eq_true, if_false] at h
      split at h
      · exact viaRest h
      · rename_i hcol
        have hk := deep_enough hR' (by simpa using hcol)
        · obtain ⟨hno, h⟩ := Bool.or_eq_false_iff.mp h
          have any_ : ∀ c ∈ told (heads t (rows.map hdP)).1 (rows.map hdP), c.1 = vhead v → ∃ r ∈ rows, fitss r (v :: vs) = true := fun c hc hcv => by
            have hc0 : c ∈ (heads t (rows.map hdP)).1 := (List.mem_filter.mp hc).1
            have ho := heads_ok (col_wt hR') c hc0
            have hl := vts_len (parts_typed hv1 ho hcv)
            have h2 := List.any_eq_false.mp h c hc
            refine into c (List.replicate c.2.length .any) ho hk (wts_any _) (under_any _ _) hcv ?_ (by simpa using h2)
            rw [← hl]
            exact fitss_any _
          by_cases hex : ∃ c ∈ (heads t (rows.map hdP)).1, c.1 = vhead v
          · obtain ⟨c, hc, hcv⟩ := hex
            rcases told_or (col := rows.map hdP) hc with hc | hc
            · exact any_ c hc hcv
            · refine viaRest ?_
              have hne : (others (heads t (rows.map hdP)).1 (rows.map hdP)).isEmpty = false := by
                cases e : others (heads t (rows.map hdP)).1 (rows.map hdP) with
                | nil => rw [e] at hc; cases hc
                | cons a b => rfl
              rw [hne, Bool.not_false, Bool.or_true, Bool.true_and] at hno
              exact hno
          · have hm : (heads t (rows.map hdP)).2 = true := by
              cases e : (heads t (rows.map hdP)).2 with
              | true => rfl
              | false => exact absurd (heads_all e hv1) hex
            refine viaRest ?_
            rw [hm, Bool.true_or, Bool.true_and] at hno
            exact hno
/-- a row that stands there already fits no more -/
theorem more_dup : ∀ (n : Nat) (tys : List Ty) (rows : List (List Pat)) (row : List Pat), row ∈ rows → fitsMore n tys rows row = false
  | 0, _, _, _, _ => rfl
  | n + 1, [], rows, row, h => by
    cases rows with
    | nil => cases h
    | cons r rs => rfl
  | n + 1, t :: tys, rows, row, h => by
    unfold fitsMore
    have inRest : (hdP row).isOpen = true → row.tail ∈ restRows rows := fun e => mem_rest.mpr ⟨row, h, e, rfl⟩
    cases hp : (hdP row).isOpen with
    | false =>
      simp only [Bool.not_false, if_true]
      split
      · refine more_dup n _ _ _ (List.mem_filterMap.mpr ⟨row, h, ?_⟩)
        unfold specRow
        rw [hp]
        simp
      · rfl
    | true =>
      simp only [Bool.not_true, Bool.false_eq_true, if_false]
      split
      · exact more_dup n _ _ _ (inRest hp)
      · rw [more_dup n _ _ _ (inRest hp), Bool.and_false, Bool.false_or]
        refine List.any_eq_false.mpr fun c _ => ?_
        have e := more_dup n (c.2 ++ tys) (spec rows c.1 c.2.length) (List.replicate c.2.length .any ++ row.tail) (List.mem_filterMap.mpr ⟨row, h, by unfold specRow; rw [hp]; rfl⟩)
        rw [e]
        exact Bool.false_ne_true
/-- with a row of names alone nothing is left out -/
theorem left_open : ∀ (n : Nat) (tys : List Ty) (rows : List (List Pat)) (row : List Pat), row ∈ rows → row.all Pat.isOpen = true → leftOut n tys rows = none
  | 0, _, _, _, _, _ => rfl
  | n + 1, _, [], _, h, _ => by cases h
  | n + 1, [], _ :: _, _, _, _ => rfl
  | n + 1, t :: tys, r0 :: rs, row, h, ho => by
    rw [leftOut_step (by simp)]
    generalize r0 :: rs = rows at *
    have h1 : (hdP row).isOpen = true := by
      cases row with
      | nil => rfl
      | cons p q =>
        simp only [List.all_cons, Bool.and_eq_true] at ho
        exact ho.1
    have h2 : row.tail.all Pat.isOpen = true := by
      cases row with
      | nil => rfl
      | cons p q =>
        simp only [List.all_cons, Bool.and_eq_true] at ho
        exact ho.2
    have e := left_open n tys (restRows rows) row.tail (mem_rest.mpr ⟨row, h, h1, rfl⟩) h2
    rw [e]
    have e2 : ∀ c : Hd × List Ty, leftOut n (c.2 ++ tys) (spec rows c.1 c.2.length) = none := fun c => by
      refine left_open n _ _ (List.replicate c.2.length .any ++ row.tail) (List.mem_filterMap.mpr ⟨row, h, ?_⟩) ?_
      · unfold specRow
        rw [h1]
        rfl
      · rw [List.all_append, h2, Bool.and_true, List.all_eq_true]
        intro p hp
        rw [(List.mem_replicate.mp hp).2]
        rfl
    have e3 : (told (heads t (rows.map hdP)).1 (rows.map hdP)).findSome? (fun c => (leftOut n (c.2 ++ tys) (spec rows c.1 c.2.length)).map (cutFound c.1 c.2.length)) = none := by
      refine List.findSome?_eq_none_iff.mpr fun c _ => ?_
      rw [e2 c]
      rfl
    rw [e3]
    split
    · rfl
    · split
      · rfl
      · split
        · rename_i f hf
          split at hf <;> cases hf
        · rfl
end M

namespace M
open PySem
mutual
def dflt : Ty → Val
  | .int => .int 9
  | .str => .str "z"
  | .op _ => .other
  | .list _ => .nil
  | .tup ts => .tup (dflts ts)
def dflts : List Ty → List Val
  | [] => []
  | t :: ts => dflt t :: dflts ts
end
mutual
def canon : Pat → Ty → Val
  | .nil, _ => .nil
  | .cons p, .list t => .cons (canon p (.tup [t, .list t]))
  | .tup ps, .tup ts => .tup (canons ps ts)
  | _, t => dflt t
def canons : List Pat → List Ty → List Val
  | p :: ps, t :: ts => canon p t :: canons ps ts
  | _, _ => []
end
mutual
theorem dflt_vt : ∀ t : Ty, vt (dflt t) t = true
  | .int => rfl
  | .str => rfl
  | .op _ => rfl
  | .list _ => rfl
  | .tup ts => by simp [dflt, vt, dflts_vt ts]
theorem dflts_vt : ∀ ts : List Ty, vts (dflts ts) ts = true
  | [] => rfl
  | t :: ts => by simp [dflts, vts, dflt_vt t, dflts_vt ts]
end
mutual
theorem canon_vt : ∀ (p : Pat) (t : Ty), wt p t = true → vt (canon p t) t = true
  | .any, t, _ => by simp [canon, dflt_vt]
  | .name _, t, _ => by simp [canon, dflt_vt]
  | .pint _, t, _ => by simp [canon, dflt_vt]
  | .pstr _, t, _ => by simp [canon, dflt_vt]
  | .nil, t, h => by cases t <;> simp [wt] at h; simp [canon, vt]
  | .cons p, t, h => by
    cases t <;> simp [wt] at h
    simp [canon, vt, canon_vt p _ h]
  | .tup ps, t, h => by
    cases t <;> simp [wt] at h
    simp [canon, vt, canons_vt ps _ h]
theorem canons_vt : ∀ (ps : List Pat) (ts : List Ty), wts ps ts = true → vts (canons ps ts) ts = true
  | [], [], _ => rfl
  | [], _ :: _, h => by simp [wts] at h
  | _ :: _, [], h => by simp [wts] at h
  | p :: ps, t :: ts, h => by
    simp only [wts, Bool.and_eq_true] at h
    simp [canons, vts, canon_vt p t h.1, canons_vt ps ts h.2]
end
theorem canons_app : ∀ (ps qs : List Pat) (ts us : List Ty), wts ps ts = true → canons (ps ++ qs) (ts ++ us) = canons ps ts ++ canons qs us
  | [], _, [], _, _ => rfl
  | [], _, _ :: _, _, h => by simp [wts] at h
  | _ :: _, _, [], _, h => by simp [wts] at h
  | p :: ps, qs, t :: ts, us, h => by
    simp only [wts, Bool.and_eq_true] at h
    simp [canons, canons_app ps qs ts us h.2]
theorem canons_any : ∀ ts : List Ty, canons (ts.map fun _ => .any) ts = dflts ts
  | [] => rfl
  | t :: ts => by simp [canons, dflts, canon, canons_any ts]
theorem map_any (ts : List Ty) : (ts.map fun _ => Pat.any) = List.replicate ts.length .any := List.map_const' ..
theorem fits_dflt {p : Pat} {t : Ty} (hn : p.isOpen = false) (hw : wt p t = true) (hl : low p = true) (hm : ∀ ts, t ≠ .tup ts) (hm2 : ∀ u, t ≠ .list u) : fits p (dflt t) = false := by
  cases t with
  | tup ts => exact absurd rfl (hm ts)
  | list u => exact absurd rfl (hm2 u)
  | int =>
    cases p <;> simp [Pat.isOpen, wt] at hn hw
    simpa [fits, dflt, low] using hl
  | str =>
    cases p <;> simp [Pat.isOpen, wt] at hn hw
    simpa [fits, dflt, low] using hl
  | op k => cases p <;> simp [Pat.isOpen, wt] at hn hw
theorem shown_wt {t : Ty} {c : Hd × List Ty} {ps : List Pat} (ho : Ok t c) (hm : (∃ ts, t = .tup ts) ∨ ∃ u, t = .list u) (hw : wts ps c.2 = true) : wt (shown c.1 ps) t = true ∧ vhead (canon (shown c.1 ps) t) = c.1 ∧ vparts (canon (shown c.1 ps) t) = canons ps c.2 := by
  rcases hm with ⟨ts, rfl⟩ | ⟨u, rfl⟩
  · simp only [Ok] at ho
    subst ho
    exact ⟨hw, rfl, rfl⟩
  · simp only [Ok] at ho
    rcases ho with rfl | rfl
    · cases ps with
      | nil => exact ⟨rfl, rfl, rfl⟩
      | cons p ps => simp [wts] at hw
    · cases ps with
      | nil => simp [wts] at hw
      | cons p ps =>
        cases ps with
        | cons q qs => simp [wts] at hw
        | nil =>
          simp only [wts, Bool.and_true] at hw
          exact ⟨by simpa [shown, hdP, wt] using hw, rfl, rfl⟩
theorem not_more {t : Ty} {col : List Pat} (h : (heads t col).2 = false) : (∃ ts, t = .tup ts) ∨ ∃ u, t = .list u := by
  cases t <;> simp [heads] at h
  · exact .inr ⟨_, rfl⟩
  · exact .inl ⟨_, rfl⟩
theorem is_more {t : Ty} {col : List Pat} (h : (heads t col).2 = true) : (∀ ts, t ≠ .tup ts) ∧ ∀ u, t ≠ .list u := by
  cases t <;> simp [heads] at h ⊢
mutual
/-- any, constructors and tuples alone -/
def plain : Pat → Bool
  | .any => true
  | .nil => true
  | .cons p => plain p
  | .tup ps => plains ps
  | _ => false
def plains : List Pat → Bool
  | [] => true
  | p :: ps => plain p && plains ps
end
theorem plains_app : ∀ (ps qs : List Pat), plains (ps ++ qs) = (plains ps && plains qs)
  | [], _ => rfl
  | p :: ps, qs => by simp [plains, plains_app ps qs, Bool.and_assoc]
theorem plains_any : ∀ n, plains (List.replicate n .any) = true
  | 0 => rfl
  | n + 1 => by simp [List.replicate_succ, plains, plain, plains_any n]
theorem shown_plain {h : Hd} {ps : List Pat} (hp : plains ps = true) : plain (shown h ps) = true := by
  cases h <;> simp [shown, plain, hp]
  cases ps with
  | nil => rfl
  | cons p ps =>
    simp only [plains, Bool.and_eq_true] at hp
    exact hp.1
theorem wts_split : ∀ {ts us : List Ty} {f : List Pat}, wts f (ts ++ us) = true → wts (f.take ts.length) ts = true ∧ wts (f.drop ts.length) us = true ∧ f = f.take ts.length ++ f.drop ts.length
  | [], us, f, h => ⟨by simp [wts], by simpa using h, by simp⟩
  | t :: ts, us, [], h => by simp [wts] at h
  | t :: ts, us, p :: f, h => by
    simp only [List.cons_append, wts, Bool.and_eq_true] at h
    obtain ⟨h1, h2, h3⟩ := wts_split h.2
    refine ⟨by simp [wts, h.1, h1], by simpa using h2, ?_⟩
    simp
theorem left_some : ∀ (n : Nat) (tys : List Ty) (ks : List Nat) (rows : List (List Pat)) (ps : List Pat), Rows tys ks rows → (∀ r ∈ rows, lows r = true) → leftOut n tys rows = some ps →
    wts ps tys = true ∧ plains ps = true ∧ ∀ r ∈ rows, fitss r (canons ps tys) = false
  | 0, _, _, _, _, _, _, h => by cases h
  | n + 1, tys, ks, [], ps, _, _, h => by
    have e : ps = tys.map fun _ => .any := by
      cases tys <;> simp [leftOut] at h <;> exact h ▸ rfl
    subst e
    rw [map_any]
    exact ⟨wts_any tys, plains_any _, fun r hr => nomatch hr⟩
  | n + 1, [], ks, r :: rs, ps, _, _, h => by cases h
  | n + 1, t :: tys, ks, r0 :: rs, ps, hR, hL, h => by
    obtain ⟨k, ks, rfl⟩ := ks_cons hR
    rw [leftOut_step (by simp)] at h
    generalize hrows : r0 :: rs = rows at *
    have hLr : ∀ r ∈ restRows rows, lows r = true := fun r hr => by
      obtain ⟨r0, h0, _, rfl⟩ := mem_rest.mp hr
      have := hL r0 h0
      cases r0 with
      | nil => rfl
      | cons p q =>
        simp only [lows, Bool.and_eq_true] at this
        exact this.2
    -- open rows, by the rest
    have opn : ∀ {f : List Pat}, (∀ r ∈ restRows rows, fitss r (canons f tys) = false) → ∀ p q, p :: q ∈ rows → p.isOpen = true → ∀ v, fitss (p :: q) (v :: canons f tys) = false := fun {f} hf p q hm ho v => by
      simp only [fitss]
      rw [hf q (mem_rest.mpr ⟨_, hm, ho, rfl⟩), Bool.and_false]
    have anyCase : (leftOut n tys (restRows rows)).map (Pat.any :: ·) = some ps → (∀ p q, p :: q ∈ rows → p.isOpen = false → fits p (dflt t) = false) → wts ps (t :: tys) = true ∧ plains ps = true ∧ ∀ r ∈ rows, fitss r (canons ps (t :: tys)) = false := fun e hno => by
      cases e2 : leftOut n tys (restRows rows) with
      | none => rw [e2] at e; cases e
      | some f =>
        rw [e2] at e
        have e' : ps = Pat.any :: f := (Option.some.inj e).symm
        subst e'
        obtain ⟨h1, h2, h3⟩ := left_some n tys ks _ f hR.rest hLr e2
        refine ⟨by simp [wts, wt, h1], by simp [plains, plain, h2], fun r hr => ?_⟩
        obtain ⟨p, q, rfl, hp, _⟩ := row_cons (hR.wt r hr)
        show fitss (p :: q) (canon .any t :: canons f tys) = false
        cases ho : p.isOpen with
        | true => exact opn h3 p q hr ho _
        | false =>
          simp only [fitss, canon]
          rw [hno p q hr ho, Bool.false_and]
    split at h
    · rename_i hcol
      refine anyCase h fun p q hr ho => ?_
      have := List.all_eq_true.mp hcol p (List.mem_map.mpr ⟨_, hr, rfl⟩)
      rw [ho] at this
      cases this
    · split at h
      · rename_i hmore
        obtain ⟨m1, m2⟩ := is_more hmore
        refine anyCase h fun p q hr ho => ?_
        obtain ⟨p', q', e, hp, _⟩ := row_cons (hR.wt _ hr)
        cases e
        have hl := hL _ hr
        simp only [lows, Bool.and_eq_true] at hl
        exact fits_dflt ho hp hl.1 m1 m2
      · rename_i hmore
        have hmore : (heads t (rows.map hdP)).2 = false := by simpa using hmore
        have hkind := not_more hmore
        have hok := heads_ok (col_wt hR)
        -- a pattern of another head
        have other : ∀ {c : Hd × List Ty} {qs : List Pat} {p : Pat}, Ok t c → wts qs c.2 = true → p.isOpen = false → wt p t = true → p.head ≠ c.1 → fits p (canon (shown c.1 qs) t) = false := fun {c qs p} ho hq hn hp hh => by
          obtain ⟨z1, z2, z3⟩ := shown_wt ho hkind hq
          rw [fits_head hn hp (canon_vt _ _ z1), z2, decide_eq_false hh, Bool.false_and]
        split at h
        · rename_i f hf
          cases h
          split at hf
          · cases hf
          · rename_i c cs hc
            cases e2 : leftOut n tys (restRows rows) with
            | none => rw [e2] at hf; cases hf
            | some g =>
              rw [e2] at hf
              have e' : ps = shown c.1 (c.2.map fun _ => .any) :: g := (Option.some.inj hf).symm
              subst e'
              obtain ⟨h1, h2, h3⟩ := left_some n tys ks _ g hR.rest hLr e2
              have hcm : c ∈ others (heads t (rows.map hdP)).1 (rows.map hdP) := by rw [hc]; exact List.mem_cons_self
              obtain ⟨hc0, hcn⟩ := List.mem_filter.mp hcm
              have hq : wts (c.2.map fun _ => Pat.any) c.2 = true := by rw [map_any]; exact wts_any _
              obtain ⟨z1, z2, z3⟩ := shown_wt (hok c hc0) hkind hq
              refine ⟨by simp [wts, z1, h1], ?_, fun r hr => ?_⟩
              · simp only [plains, Bool.and_eq_true]
                exact ⟨shown_plain (by rw [map_any]; exact plains_any _), h2⟩
              · obtain ⟨p, q, rfl, hp, _⟩ := row_cons (hR.wt r hr)
                show fitss (p :: q) (canon _ t :: canons g tys) = false
                cases ho : p.isOpen with
                | true => exact opn h3 p q hr ho _
                | false =>
                  simp only [fitss]
                  rw [other (hok c hc0) hq ho hp ?_, Bool.false_and]
                  intro e
                  have hin : (present (rows.map hdP)).contains c.1 = true := by
                    rw [List.contains_iff_mem]
                    exact List.mem_map.mpr ⟨p, List.mem_filter.mpr ⟨List.mem_map.mpr ⟨_, hr, rfl⟩, by rw [ho]; rfl⟩, e⟩
                  rw [hin] at hcn
                  cases hcn
        · obtain ⟨c, hc, hcf⟩ := List.exists_of_findSome?_eq_some h
          have hc0 : c ∈ (heads t (rows.map hdP)).1 := (List.mem_filter.mp hc).1
          have ho := hok c hc0
          cases e2 : leftOut n (c.2 ++ tys) (spec rows c.1 c.2.length) with
          | none => rw [e2] at hcf; cases hcf
          | some f =>
            rw [e2] at hcf
            have e' : ps = cutFound c.1 c.2.length f := (Option.some.inj hcf).symm
            subst e'
            have hLs : ∀ r ∈ spec rows c.1 c.2.length, lows r = true := fun r hr => by
              obtain ⟨r0, h0, hs⟩ := List.mem_filterMap.mp hr
              obtain ⟨p, q, rfl, hp, _⟩ := row_cons (hR.wt r0 h0)
              have hl := hL _ h0
              simp only [lows, Bool.and_eq_true] at hl
              cases hpo : p.isOpen with
              | true =>
                rw [specRow_open hpo] at hs
                cases hs
                exact lows_app (lows_any _) hl.2
              | false =>
                by_cases hh : p.head = c.1
                · rw [specRow_same hpo hh] at hs
                  cases hs
                  refine lows_app ?_ hl.2
                  cases p <;> simp [Pat.isOpen] at hpo <;> simp [Pat.inner, lows]
                  · simpa [low] using hl.1
                  · simpa [low] using hl.1
                · rw [specRow_else hpo hh] at hs
                  cases hs
            obtain ⟨h1, h2, h3⟩ := left_some n _ _ _ f (hR.spec ho) hLs e2
            obtain ⟨w1, w2, w3⟩ := wts_split h1
            obtain ⟨z1, z2, z3⟩ := shown_wt ho hkind w1
            have hpl : plains (f.take c.2.length) = true ∧ plains (f.drop c.2.length) = true := by
              rw [w3, plains_app, Bool.and_eq_true] at h2
              exact h2
            have hcs : canons f (c.2 ++ tys) = canons (f.take c.2.length) c.2 ++ canons (f.drop c.2.length) tys := by
              have e := canons_app (f.take c.2.length) (f.drop c.2.length) c.2 tys w1
              rw [← w3] at e
              exact e
            refine ⟨by simp only [cutFound, wts, Bool.and_eq_true]; exact ⟨z1, w2⟩, by simp only [cutFound, plains, Bool.and_eq_true]; exact ⟨shown_plain hpl.1, hpl.2⟩, fun r hr => ?_⟩
            obtain ⟨p, q, rfl, hp, _⟩ := row_cons (hR.wt r hr)
            show fitss (p :: q) (canon (shown c.1 (f.take c.2.length)) t :: canons (f.drop c.2.length) tys) = false
            have hlen : (canons (f.take c.2.length) c.2).length = c.2.length := vts_len (canons_vt _ _ w1)
            cases hpo : p.isOpen with
            | true =>
              have e3 := h3 _ (List.mem_filterMap.mpr ⟨_, hr, specRow_open hpo⟩)
              have e4 := fitss_any (canons (f.take c.2.length) c.2)
              rw [hlen] at e4
              rw [hcs, fitss_app (by rw [List.length_replicate, hlen]), e4, Bool.true_and] at e3
              simp only [fitss]
              rw [e3, Bool.and_false]
            | false =>
              by_cases hh : p.head = c.1
              · have e3 := h3 _ (List.mem_filterMap.mpr ⟨_, hr, specRow_same hpo hh⟩)
                rw [hcs, fitss_app (by rw [wts_len (inner_wt ho hp hpo hh), hlen])] at e3
                simp only [fitss]
                rw [fits_head hpo hp (canon_vt _ _ z1), z2, z3, decide_eq_true hh, Bool.true_and]
                exact e3
              · simp only [fitss]
                rw [other ho w1 hpo hp hh, Bool.false_and]
/-! ### the law's values -/
def rowStep (rows : List (List Val)) (inner : List Val) : List (List Val) := (rows.flatMap fun row => inner.map fun one => row ++ [one]).take 400
mutual
def valsWith (pairs : Ty → List Val) : Ty → List Val
  | .int => [.int 9, .int 0, .int 1]
  | .str => [.str "z", .str "", .str "a"]
  | .op _ => [.other]
  | .list t => (Val.nil :: pairs t).take 60
  | .tup ts => ((colsWith pairs ts).foldl rowStep [[]]).map Val.tup
def colsWith (pairs : Ty → List Val) : List Ty → List (List Val)
  | [] => []
  | t :: ts => valsWith pairs t :: colsWith pairs ts
end
def vals : Nat → Ty → List Val
  | 0 => valsWith fun _ => []
  | n + 1 => valsWith fun t => (vals n (.tup [t, .list t])).map Val.cons
mutual
def stands : Pat → Val → Bool
  | .any, _ => true
  | .nil, .nil => true
  | .cons p, .cons v => stands p v
  | .tup ps, .tup vs => standss ps vs
  | _, _ => false
def standss : List Pat → List Val → Bool
  | [], [] => true
  | p :: ps, v :: vs => stands p v && standss ps vs
  | _, _ => false
end
/-- what P holds of stands at or behind c -/
def Lead {α : Type} (L : List α) (P : α → Prop) (c : α) : Prop := ∀ (i : Nat) (x : α), L[i]? = some x → P x → ∃ j, j ≤ i ∧ L[j]? = some c
theorem Lead.take {α : Type} {L : List α} {P : α → Prop} {c : α} (h : Lead L P c) (n : Nat) : Lead (L.take n) P c := fun i x hx hp => by
  rw [List.getElem?_take] at hx
  split at hx
  · rename_i hi
    obtain ⟨j, hj, e⟩ := h i x hx hp
    exact ⟨j, hj, by rw [List.getElem?_take, if_pos (by omega)]; exact e⟩
  · cases hx
theorem Lead.map {α β : Type} {L : List α} {P : α → Prop} {c : α} {Q : β → Prop} (f : α → β) (h : Lead L P c) (hq : ∀ x, Q (f x) → P x) : Lead (L.map f) Q (f c) := fun i x hx hp => by
  rw [List.getElem?_map] at hx
  cases e : L[i]? with
  | none => rw [e] at hx; cases hx
  | some y =>
    rw [e] at hx
    cases hx
    obtain ⟨j, hj, e2⟩ := h i y e (hq y hp)
    exact ⟨j, hj, by rw [List.getElem?_map, e2]; rfl⟩
theorem Lead.first {α : Type} {L : List α} {P : α → Prop} {c : α} (h : L[0]? = some c) : Lead L P c := fun i _ _ _ => ⟨0, Nat.zero_le i, h⟩
theorem flat_cons {rows : List (List Val)} {r : List Val} {inner : List Val} : ((r :: rows).flatMap fun row => inner.map fun one => row ++ [one]) = (inner.map fun one => r ++ [one]) ++ rows.flatMap fun row => inner.map fun one => row ++ [one] := by
  rw [List.flatMap_cons]
theorem Lead.prod {inner : List Val} {P2 : Val → Prop} {c2 : Val} (h2 : Lead inner P2 c2) {P1 : List Val → Prop} {c1 : List Val} {Q : List Val → Prop} (hq : ∀ r x, Q (r ++ [x]) → P1 r ∧ P2 x) :
    ∀ (rows : List (List Val)), Lead rows P1 c1 → Lead (rows.flatMap fun row => inner.map fun one => row ++ [one]) Q (c1 ++ [c2])
  | [], _ => fun i x hx _ => by simp at hx
  | r :: rows, h1 => fun i x hx hp => by
    rw [flat_cons] at hx ⊢
    -- c1 is the row at hand
    have here : r = c1 → (∃ j, inner[j]? = some c2 ∧ j ≤ i) → ∃ j, j ≤ i ∧ ((inner.map fun one => r ++ [one]) ++ rows.flatMap fun row => inner.map fun one => row ++ [one])[j]? = some (c1 ++ [c2]) := fun er ⟨j, hj, hji⟩ => by
      have hlt := (List.getElem?_eq_some_iff.mp hj).1
      refine ⟨j, hji, ?_⟩
      rw [List.getElem?_append_left (by rw [List.length_map]; exact hlt), List.getElem?_map, hj, er]
      rfl
    by_cases hi : i < inner.length
    · rw [List.getElem?_append_left (by rw [List.length_map]; exact hi), List.getElem?_map, List.getElem?_eq_getElem hi] at hx
      cases hx
      obtain ⟨p1, p2⟩ := hq _ _ hp
      obtain ⟨j, hj, e⟩ := h1 0 r rfl p1
      have er : r = c1 := by
        have hj0 : j = 0 := by omega
        subst hj0
        exact Option.some.inj e
      obtain ⟨j2, hj2, e2⟩ := h2 i _ (List.getElem?_eq_getElem hi) p2
      exact here er ⟨j2, e2, hj2⟩
    · rw [List.getElem?_append_right (by rw [List.length_map]; omega), List.length_map] at hx
      by_cases er : r = c1
      · refine here er ?_
        -- some x stands in inner
        have hxm := List.mem_of_getElem? hx
        obtain ⟨row, hrow, hxr⟩ := List.mem_flatMap.mp hxm
        obtain ⟨one, hone, rfl⟩ := List.mem_map.mp hxr
        obtain ⟨_, p2⟩ := hq _ _ hp
        obtain ⟨k, hk, e⟩ := List.getElem_of_mem hone
        obtain ⟨j2, hj2, e2⟩ := h2 k one (by rw [List.getElem?_eq_getElem hk, e]) p2
        exact ⟨j2, e2, by omega⟩
      · have h1' : Lead rows P1 c1 := fun k y hy py => by
          obtain ⟨j, hj, e⟩ := h1 (k + 1) y (by simpa using hy) py
          cases j with
          | zero => exact absurd (Option.some.inj e) er
          | succ j => exact ⟨j, by omega, by simpa using e⟩
        obtain ⟨j, hj, e⟩ := Lead.prod h2 hq rows h1' (i - inner.length) x hx hp
        refine ⟨j + inner.length, by omega, ?_⟩
        rw [List.getElem?_append_right (by rw [List.length_map]; omega), List.length_map, Nat.add_sub_cancel]
        exact e
theorem standss_snoc : ∀ (ps : List Pat) (p : Pat) (r : List Val) (x : Val), standss (ps ++ [p]) (r ++ [x]) = true → standss ps r = true ∧ stands p x = true
  | [], p, [], x, h => by simpa [standss] using h
  | [], p, v :: r, x, h => by
    cases r <;> simp [standss] at h
  | q :: ps, p, [], x, h => by
    cases ps <;> simp [standss] at h
  | q :: ps, p, v :: r, x, h => by
    simp only [List.cons_append, standss, Bool.and_eq_true] at h ⊢
    obtain ⟨h1, h2⟩ := standss_snoc ps p r x h.2
    exact ⟨⟨h.1, h1⟩, h2⟩
theorem rowStep_lead {rows : List (List Val)} {inner : List Val} {ps : List Pat} {p : Pat} {c1 : List Val} {c2 : Val} (h1 : Lead rows (fun r => standss ps r = true) c1) (h2 : Lead inner (fun v => stands p v = true) c2) : Lead (rowStep rows inner) (fun r => standss (ps ++ [p]) r = true) (c1 ++ [c2]) :=
  (Lead.prod h2 (fun r x h => standss_snoc ps p r x h) rows h1).take 400
theorem first_flat {rows : List (List Val)} {inner : List Val} {r : List Val} {x : Val} (h1 : rows[0]? = some r) (h2 : inner[0]? = some x) : (rowStep rows inner)[0]? = some (r ++ [x]) := by
  cases rows with
  | nil => cases h1
  | cons a rows =>
    cases inner with
    | nil => cases h2
    | cons b inner =>
      cases h1
      cases h2
      rfl
mutual
theorem valsWith_first (pairs : Ty → List Val) : ∀ t : Ty, (valsWith pairs t)[0]? = some (dflt t)
  | .int => rfl
  | .str => rfl
  | .op _ => rfl
  | .list _ => rfl
  | .tup ts => by
    have h := colsWith_first pairs ts [[]] [] rfl
    rw [List.nil_append] at h
    simp [valsWith, dflt, h]
theorem colsWith_first (pairs : Ty → List Val) : ∀ (ts : List Ty) (rows : List (List Val)) (r : List Val), rows[0]? = some r → ((colsWith pairs ts).foldl rowStep rows)[0]? = some (r ++ dflts ts)
  | [], rows, r, h => by simpa [colsWith, dflts] using h
  | t :: ts, rows, r, h => by
    have h1 := first_flat h (valsWith_first pairs t)
    have h2 := colsWith_first pairs ts _ _ h1
    simp only [colsWith, List.foldl_cons, dflts]
    rw [h2, List.append_assoc]
    rfl
end
mutual
theorem vals_lead : ∀ (p : Pat) (t : Ty) (n : Nat), wt p t = true → plain p = true → Lead (vals n t) (fun v => stands p v = true) (canon p t)
  | .any, t, n, _, _ => by
    refine Lead.first ?_
    simp only [canon]
    cases n <;> exact valsWith_first _ t
  | .name _, _, _, _, h => by cases h
  | .pint _, _, _, _, h => by cases h
  | .pstr _, _, _, _, h => by cases h
  | .nil, t, n, h, _ => by
    cases t <;> simp [wt] at h
    refine Lead.first ?_
    cases n <;> rfl
  | .cons p, t, n, h, hp => by
    cases t <;> simp only [wt, Bool.false_eq_true] at h
    rename_i u
    have hp' : plain p = true := hp
    have key : ∀ L : List Val, Lead L (fun v => stands (.cons p) v = true) (canon (.cons p) (.list u)) → Lead (Val.nil :: L) (fun v => stands (.cons p) v = true) (canon (.cons p) (.list u)) := fun L hL i x hx hs => by
      cases i with
      | zero =>
        cases hx
        simp [stands] at hs
      | succ i =>
        obtain ⟨j, hj, e⟩ := hL i x (by simpa using hx) hs
        exact ⟨j + 1, by omega, by simpa using e⟩
    cases n with
    | zero =>
      show Lead ((Val.nil :: []).take 60) _ _
      refine (key [] ?_).take 60
      intro i x hx
      simp at hx
    | succ n =>
      show Lead ((Val.nil :: (vals n (.tup [u, .list u])).map Val.cons).take 60) _ _
      refine (key _ ?_).take 60
      have e : canon (.cons p) (.list u) = .cons (canon p (.tup [u, .list u])) := by simp [canon]
      rw [e]
      exact (vals_lead p (.tup [u, .list u]) n h hp').map Val.cons fun x hx => by simpa [stands] using hx
  | .tup ps, t, n, h, hp => by
    cases t <;> simp only [wt, Bool.false_eq_true] at h
    rename_i ts
    have hp' : plains ps = true := hp
    have e : canon (.tup ps) (.tup ts) = .tup (canons ps ts) := by simp [canon]
    rw [e]
    have base : Lead [([] : List Val)] (fun r => standss [] r = true) [] := Lead.first rfl
    cases n with
    | zero => exact (vals_leads ps ts 0 h hp' _ (fun t => rfl) [[]] [] [] base).map Val.tup fun x hx => by simpa [stands] using hx
    | succ n => exact (vals_leads ps ts (n + 1) h hp' _ (fun t => rfl) [[]] [] [] base).map Val.tup fun x hx => by simpa [stands] using hx
theorem vals_leads : ∀ (ps : List Pat) (ts : List Ty) (n : Nat), wts ps ts = true → plains ps = true → ∀ (pairs : Ty → List Val), (∀ t, valsWith pairs t = vals n t) → ∀ (rows : List (List Val)) (qs : List Pat) (c : List Val), Lead rows (fun r => standss qs r = true) c →
    Lead ((colsWith pairs ts).foldl rowStep rows) (fun r => standss (qs ++ ps) r = true) (c ++ canons ps ts)
  | [], [], n, _, _, pairs, _, rows, qs, c, h => by simpa [colsWith, canons] using h
  | [], _ :: _, _, h, _, _, _, _, _, _, _ => by simp [wts] at h
  | _ :: _, [], _, h, _, _, _, _, _, _, _ => by simp [wts] at h
  | p :: ps, t :: ts, n, h, hp, pairs, hpr, rows, qs, c, hl => by
    simp only [wts, Bool.and_eq_true] at h
    simp only [plains, Bool.and_eq_true] at hp
    have h1 := rowStep_lead hl (vals_lead p t n h.1 hp.1)
    have h2 := vals_leads ps ts n h.2 hp.2 pairs hpr _ _ _ h1
    simp only [colsWith, List.foldl_cons, canons]
    rw [hpr t]
    have e1 : qs ++ p :: ps = (qs ++ [p]) ++ ps := by simp
    have e2 : c ++ canon p t :: canons ps ts = (c ++ [canon p t]) ++ canons ps ts := by simp
    rw [e1, e2]
    exact h2
end
theorem vts_snoc : ∀ {r : List Val} {ts : List Ty} {x : Val} {t : Ty}, vts r ts = true → vt x t = true → vts (r ++ [x]) (ts ++ [t]) = true := fun h1 h2 => vts_app h1 (by simp [vts, h2])
mutual
theorem valsWith_vt (pairs : Ty → List Val) (hp : ∀ t, ∀ v ∈ pairs t, vt v (.list t) = true) : ∀ (t : Ty), ∀ v ∈ valsWith pairs t, vt v t = true
  | .int, v, h => by
    simp only [valsWith, List.mem_cons, List.not_mem_nil, or_false] at h
    rcases h with rfl | rfl | rfl <;> rfl
  | .str, v, h => by
    simp only [valsWith, List.mem_cons, List.not_mem_nil, or_false] at h
    rcases h with rfl | rfl | rfl <;> rfl
  | .op _, v, h => by
    simp only [valsWith, List.mem_cons, List.not_mem_nil, or_false] at h
    subst h
    rfl
  | .list t, v, h => by
    have h := List.mem_of_mem_take h
    rcases List.mem_cons.mp h with rfl | h
    · rfl
    · exact hp t v h
  | .tup ts, v, h => by
    obtain ⟨r, hr, rfl⟩ := List.mem_map.mp h
    have := colsWith_vt pairs hp ts [[]] [] (fun r hr => by have e : r = [] := (by simpa using hr); subst e; rfl) r hr
    rw [List.nil_append] at this
    simpa [vt] using this
theorem colsWith_vt (pairs : Ty → List Val) (hp : ∀ t, ∀ v ∈ pairs t, vt v (.list t) = true) : ∀ (ts : List Ty) (rows : List (List Val)) (us : List Ty), (∀ r ∈ rows, vts r us = true) → ∀ r ∈ (colsWith pairs ts).foldl rowStep rows, vts r (us ++ ts) = true
  | [], rows, us, h, r, hr => by
    rw [List.append_nil]
    exact h r hr
  | t :: ts, rows, us, h, r, hr => by
    simp only [colsWith, List.foldl_cons] at hr
    have := colsWith_vt pairs hp ts (rowStep rows (valsWith pairs t)) (us ++ [t]) (fun r hr => by
      have hr := List.mem_of_mem_take hr
      obtain ⟨row, h1, h2⟩ := List.mem_flatMap.mp hr
      obtain ⟨one, h3, rfl⟩ := List.mem_map.mp h2
      exact vts_snoc (h row h1) (valsWith_vt pairs hp t one h3)) r hr
    rw [List.append_assoc] at this
    exact this
end
theorem vals_vt : ∀ (n : Nat) (t : Ty), ∀ v ∈ vals n t, vt v t = true
  | 0, t => valsWith_vt _ (fun u v h => by simp at h) t
  | n + 1, t => valsWith_vt _ (fun u v h => by
    obtain ⟨w, hw, rfl⟩ := List.mem_map.mp h
    have := vals_vt n _ w hw
    simpa [vt] using this) t
mutual
theorem stands_dflt : ∀ t : Ty, stands .any (dflt t) = true
  | t => by simp [stands]
theorem stands_canon : ∀ (p : Pat) (t : Ty), wt p t = true → plain p = true → stands p (canon p t) = true
  | .any, t, _, _ => by simp [stands]
  | .name _, _, _, h => by cases h
  | .pint _, _, _, h => by cases h
  | .pstr _, _, _, h => by cases h
  | .nil, t, _, _ => by simp [canon, stands]
  | .cons p, t, h, hp => by
    cases t <;> simp only [wt, Bool.false_eq_true] at h
    have hp' : plain p = true := hp
    simp [canon, stands, stands_canon p _ h hp']
  | .tup ps, t, h, hp => by
    cases t <;> simp only [wt, Bool.false_eq_true] at h
    have hp' : plains ps = true := hp
    simp [canon, stands, standss_canon ps _ h hp']
theorem standss_canon : ∀ (ps : List Pat) (ts : List Ty), wts ps ts = true → plains ps = true → standss ps (canons ps ts) = true
  | [], [], _, _ => rfl
  | [], _ :: _, h, _ => by simp [wts] at h
  | _ :: _, [], h, _ => by simp [wts] at h
  | p :: ps, t :: ts, h, hp => by
    simp only [wts, Bool.and_eq_true] at h
    simp only [plains, Bool.and_eq_true] at hp
    simp [canons, standss, stands_canon p t h.1 hp.1, standss_canon ps ts h.2 hp.2]
end
/-- what the law asks of a pattern that is told -/
theorem told_stands {n : Nat} {t : Ty} {p : Pat} (h : wt p t = true) (hp : plain p = true) (hex : ∃ v ∈ vals n t, stands p v = true) : canon p t ∈ vals n t ∧ stands p (canon p t) = true := by
  obtain ⟨v, hv, hs⟩ := hex
  obtain ⟨i, hi, e⟩ := List.getElem_of_mem hv
  obtain ⟨j, _, hj⟩ := vals_lead p t n h hp i v (by rw [List.getElem?_eq_getElem hi, e]) hs
  exact ⟨List.mem_of_getElem? hj, stands_canon p t h hp⟩
/-! ### missing, unused -/
/-- the patterns of a match -/
structure Match (t : Ty) (ps : List Pat) : Prop where
  wt : ∀ p ∈ ps, wt p t = true
  low : ∀ p ∈ ps, low p = true
  dep : ∀ p ∈ ps, M.dep p ≤ 3
  slim : slim t = true
theorem one_rows {t : Ty} {ps : List Pat} (h : Match t ps) : Rows [t] [3] (ps.map fun p => [p]) where
  len := rfl
  wt := fun r hr => by
    obtain ⟨p, hp, rfl⟩ := List.mem_map.mp hr
    simp [wts, h.wt p hp]
  dep := fun r hr => by
    obtain ⟨p, hp, rfl⟩ := List.mem_map.mp hr
    simp [under, h.dep p hp]
def fuel : Nat := 41
theorem fuel_ok : need [3] < fuel := by decide
def missing (t : Ty) (ps : List Pat) : Option Pat := (leftOut fuel [t] (ps.map fun p => [p])).map hdP
theorem missing_none {t : Ty} {ps : List Pat} (h : Match t ps) (e : missing t ps = none) : ∀ v, vt v t = true → ∃ p ∈ ps, fits p v = true := fun v hv => by
  have e' : leftOut fuel [t] (ps.map fun p => [p]) = none := by simpa [missing] using e
  obtain ⟨r, hr, hf⟩ := left_none fuel [t] [3] _ fuel_ok (one_rows h) (by simp [slims, h.slim]) e' [v] (by simp [vts, hv])
  obtain ⟨p, hp, rfl⟩ := List.mem_map.mp hr
  exact ⟨p, hp, by simpa [fitss] using hf⟩
theorem missing_open {t : Ty} {ps : List Pat} (h : ∃ p ∈ ps, p.isOpen = true) : missing t ps = none := by
  obtain ⟨p, hp, ho⟩ := h
  simp [missing, left_open fuel [t] (ps.map fun p => [p]) [p] (List.mem_map.mpr ⟨p, hp, rfl⟩) (by simp [ho])]
theorem missing_some {t : Ty} {ps : List Pat} {p : Pat} (h : Match t ps) (e : missing t ps = some p) : wt p t = true ∧ plain p = true ∧ ∀ q ∈ ps, fits q (canon p t) = false := by
  unfold missing at e
  cases e2 : leftOut fuel [t] (ps.map fun p => [p]) with
  | none => rw [e2] at e; cases e
  | some f =>
    rw [e2] at e
    have e3 : hdP f = p := Option.some.inj e
    obtain ⟨h1, h2, h3⟩ := left_some fuel [t] [3] _ f (one_rows h) (fun r hr => by
      obtain ⟨q, hq, rfl⟩ := List.mem_map.mp hr
      simp [lows, h.low q hq]) e2
    cases f with
    | nil => simp [wts] at h1
    | cons q f =>
      cases f with
      | cons a b => simp [wts] at h1
      | nil =>
        simp only [hdP] at e3
        subst e3
        simp only [wts, Bool.and_true] at h1
        simp only [plains, Bool.and_true] at h2
        refine ⟨h1, h2, fun p hp => ?_⟩
        have := h3 [p] (List.mem_map.mpr ⟨p, hp, rfl⟩)
        simpa [canons, fitss] using this
/-- whether pattern k is not needed -/
def idle (t : Ty) (ps : List Pat) (k : Nat) : Bool := !fitsMore fuel [t] ((ps.take k).map fun p => [p]) [ps.getD k .any]
theorem idle_true {t : Ty} {ps : List Pat} {k : Nat} (h : Match t ps) (hk : k < ps.length) (e : idle t ps k = true) : ∀ v, vt v t = true → fits ps[k] v = true → ∃ p ∈ ps.take k, fits p v = true := fun v hv hf => by
  have e' : fitsMore fuel [t] ((ps.take k).map fun p => [p]) [ps[k]] = false := by
    unfold idle at e
    rw [List.getD_eq_getElem?_getD, List.getElem?_eq_getElem hk] at e
    simpa using e
  have hM : Match t (ps[k] :: ps.take k) := ⟨fun p hp => h.wt p (by rcases List.mem_cons.mp hp with rfl | hp; exact List.getElem_mem hk; exact List.mem_of_mem_take hp), fun p hp => h.low p (by rcases List.mem_cons.mp hp with rfl | hp; exact List.getElem_mem hk; exact List.mem_of_mem_take hp),
    fun p hp => h.dep p (by rcases List.mem_cons.mp hp with rfl | hp; exact List.getElem_mem hk; exact List.mem_of_mem_take hp), h.slim⟩
  obtain ⟨r, hr, hf2⟩ := more_false fuel [t] [3] _ _ fuel_ok (one_rows hM) (by simp [slims, h.slim]) e' [v] (by simp [vts, hv]) (by simp [fitss, hf])
  obtain ⟨p, hp, rfl⟩ := List.mem_map.mp hr
  exact ⟨p, hp, by simpa [fitss] using hf2⟩
theorem idle_dup {t : Ty} {ps : List Pat} {k : Nat} (hk : k < ps.length) (hd : ps[k] ∈ ps.take k) : idle t ps k = true := by
  unfold idle
  rw [List.getD_eq_getElem?_getD, List.getElem?_eq_getElem hk, Option.getD_some, more_dup fuel [t] _ _ (List.mem_map.mpr ⟨_, hd, rfl⟩)]
  rfl
def unused (t : Ty) (ps : List Pat) : Option Nat := (List.range ps.length).find? (idle t ps)
end M

namespace G
open PySem L2 Evl
/-! ### the text -/
def topS (i : Nat) : Stmt := PySem.Challenge.pw_guanaco_k85_covers_of_other_types.main.body.getD i (.Pass ⟨0, 0, 0, 0⟩)
/-- a def as its callers know it -/
structure Dfn (P : Program) (w : World) (K : PySem.W.Frag) (mg : Str → Option Value) (base : Heap) (x : Str) (k : Nat) (ps : List Str) (sp : Sp) : Prop where
  ex : ∃ f fd, FnOk P w K mg base CX0 k f fd ps sp ∧ PySem.W.keepIn K (.ref f) = true ∧ mg x = some (.ref f) ∧ Binds K fd ps []
theorem pe_def {X : Cx} {x : Str} {k : Nat} {ps : List Str} {sp : Sp} {e : Expr} {es : List Expr} {t : TA} {p pos : Pos} (d : Dfn X.prog X.w X.K X.mg X.base x k ps sp) (hr : Room k X.A) (hg : Gl X x) (ha : PA X (e :: es) t)
    (hdb : (x == ("__debug__" : Str)) = false := by decide) (he : starEach (e :: es) X.env = (false, eval e X.env) :: starEach es X.env := by rfl) (hpl : (backTo pos (starEach es X.env)).any (·.1) = false := by rfl) : PE X (.Call (.Name x p) (e :: es) [] pos) (tCall sp [] E0 t) := by
  obtain ⟨f, fd, F, kf, mf, bf⟩ := d.ex
  exact pe_call F hr hg mf kf bf .nil pass0 ha hdb he hpl
/-! the rules with K told (within a comprehension's block too) -/
section
variable {X : Cx} (K : PySem.W.Frag)
theorem ixK (h : X.K = K := by rfl) : IxR X (rIxA K) := by
  subst h
  exact ix_any
theorem slK (h : X.K = K := by rfl) : SlR X (rSlL K) := by
  subst h
  exact sl_list
theorem slTK (h : X.K = K := by rfl) : SlR X (rSlA K) := by
  subst h
  exact sl_tupA
theorem eqK (hu : X.A.units + 65 < cLine) (h : X.K = K := by rfl) : OpR X (compareOp .Eq) (rEqD K) := by
  subst h
  exact op_eqD (by omega)
theorem neK (hu : X.A.units + 65 < cLine) (h : X.K = K := by rfl) : OpR X (compareOp .NotEq) (rNeD K) := by
  subst h
  exact op_neD (by omega)
theorem inK (hu : X.A.units + 65 < cLine) (h : X.K = K := by rfl) : OpR X (compareOp .In) (rInD K) := by
  subst h
  exact op_inD hu
theorem notInK (hu : X.A.units + 65 < cLine) (h : X.K = K := by rfl) : OpR X (compareOp .NotIn) (rNotInD K) := by
  subst h
  exact op_notInD hu
theorem lenK (h : X.K = K := by rfl) : CallR X (.builtin "len") (rLenS K) := by
  subst h
  exact call_len_seq
theorem listK (h : X.K = K := by rfl) : CallR X (.type "list") (rListS K) := by
  subst h
  exact call_list_of
theorem tupK (h : X.K = K := by rfl) : CallR X (.type "tuple") (rTupS K) := by
  subst h
  exact call_tuple_of
theorem piK {tg l : Expr} {tl : TE} (hl : PE X l tl) (h : X.K = K := by rfl) : PI X tg l (iList K tl) := by
  subst h
  exact pi_list hl
theorem pgTup {es : List Expr} {k n : Nat} {t : TGs} {pos : Pos} (hc : X.calm = true) (hp : PGs X es t) (h : X.K = K := by rfl) (hn : (assignEach es X.env).length = n := by rfl) (hst : (assignEach es X.env).findIdx? (·.1) = none := by rfl) : PG X (.Tuple es k pos) (gTup K n t) := by
  subst h
  exact pg_tup hc hp hn hst
theorem ptTru {a : Expr} {ta : TE} (ha : PE X a ta) (h : X.K = K := by rfl) (he : ∀ whole, isTrue a X.env whole = (do let v ← whole; standAt a.pos; holding [v] (truthy v)) := by intro _; rfl) : PT X a (tTru K ta) := by
  subst h
  exact pt_truth ha he
end
/-- the promise of a def that changes nothing: its arguments are those of a, its answer is the datum of a -/
def Pu {α : Type} (enc : α → List PyData) (pre : α → Prop) (res : α → PyData) : Sp := fun vs H Q _ => ∃ G a, Ex G H ∧ Dats G vs (enc a) ∧ pre a ∧ ∀ v G' H', Go G H G' H' → Dat G' v (res a) → Q v H'
section
variable {K : PySem.W.Frag} {σ : L2.St} {G H : Hp} {d : PyData}
theorem ev_def {α : Type} {enc : α → List PyData} {pre : α → Prop} {res : α → PyData} {E : XK} {ta : TA} (a : α) (h : Eva ta σ G H ((enc a).map .dat)) (hp : pre a) : EvD (tCall (Pu enc pre res) [] E ta) σ G H (res a) := fun G1 H1 x Q q =>
  h G1 H1 x _ fun vs G2 H2 b hv => ⟨G2, a, b.gh, by rw [List.append_nil]; exact hv.dats, hp, fun v G3 H3 c hv => q v G3 H3 (b.trans c) hv⟩
theorem ev_slT {te : TE} {tl th : TO} {ds : List PyData} {lo hi : Option Int} (h : EvD te σ G H (.tuple ds)) (h1 : Evo tl σ G H lo) (h2 : Evo th σ G H hi) : EvD (tSl (rSlA K) te tl th) σ G H (.tuple (cutD ds lo hi)) := fun G1 H1 a Q q =>
  h G1 H1 a _ fun x G2 H2 b hx => h1 G2 H2 (a.trans b) _ fun G3 H3 c => h2 G3 H3 ((a.trans b).trans c) _ fun G4 H4 f => by
    have hx2 : Dat G4 x (.tuple ds) := Dat.m hx (c.trans f).g
    cases hx2 with
    | tup e1 e2 =>
      refine ⟨_, _, rfl, st_of (f.gh _ _ e1), fun hw => ?_, fun _ p hp => q _ _ _ (((b.trans c).trans f).trans (Go.imm f.gh hp)) (dat_tup f.gh (cut_dat e2 lo hi) hp)⟩
      refine q _ _ _ ((b.trans c).trans f) ?_
      have e : cutD ds lo hi = ds := by
        rw [e2.len] at hw
        unfold cutD
        rw [hw.1, hw.2]
        simp
      rw [e]
      exact .tup e1 e2
theorem len1 {α : Type} {enc : α → List PyData} {pre : α → Prop} {res : α → PyData} {vs : List V} {H : Hp} {Q : VK} {E : XK} {n : Nat} (hn : ∀ a, (enc a).length = n) (h : Pu enc pre res vs H Q E) : vs.length = n := by
  obtain ⟨G, a, _, hv, _⟩ := h
  rw [hv.len, hn]
theorem hu_in {A : Around} {k : Nat} (hr : Room k A) : A.units + 65 < cLine := by have := hr.un; omega
end
section
variable {P : Program} {w : World} {K : PySem.W.Frag} {mg : Str → Option Value} {base : Heap} {f : Addr} {fd : FuncData}
open M
/-! ### is_open -/
abbrev s_is_open : Stmt := topS 7
theorem sc_is_open : FnScope ["pattern"] ["pattern"] (defScope s_is_open) := ⟨rfl, rfl, rfl, by decide +kernel, rfl, by decide +kernel, by decide +kernel⟩
abbrev spIsOpen : Sp := Pu (fun p : Pat => [p.d]) (fun _ => True) fun p => .bool p.isOpen
theorem ev_open {σ : L2.St} {G H : Hp} {ta tb : TE} {p : Pat} (h : EvD ta σ G H p.d) : EvD (tOrV (tOp rEq (tOp (rIxA K) ta (tC (.int 0))) (tC (.str "any"))) (tOp rEq (tOp (rIxA K) ta (tC (.int 0))) (tC (.str "name")))) σ G H (.bool p.isOpen) := by
  cases p <;> exact ev_is (ev_orV (ev_eqF (ev_it h ev_int rfl) ev_str rfl rfl) fun _ => ev_eqF (ev_it h ev_int rfl) ev_str rfl rfl) rfl
theorem ok_is_open (F : Fun K "is_open" "is_open" s_is_open f fd) : FnOk P w K mg base CX0 1 f fd ["pattern"] spIsOpen := by
  refine F.ok sc_is_open (fun vs H Q E h => len1 (fun _ => rfl) h) (fun cdv A outer s H vs Q E hr h => ?_)
  obtain ⟨G, p, e, hv, _, q⟩ := h
  cases hv with
  | cons h1 h2 =>
    cases h2
    refine ⟨_, (pss_one (ps_ret (pe_or (pe_cmpR op_eq (pe_ix (ixK K) (pv 0) pe_int (fun _ _ => rfl)) pe_str (nomark _)) (pe_one (pe_cmpR op_eq (pe_ix (ixK K) (pv 0) pe_int (fun _ _ => rfl)) pe_str (nomark _)))))), ?_⟩
    exact s_ret e (ev_open (tb := tC .non) (ev_var rfl h1)) fun v G1 H1 a hd => q v G1 H1 a hd
end
end G

namespace G
open PySem L2 Evl
open M
def rowD (r : List Pat) : PyData := .list (Pat.ds r)
def rowsD (rows : List (List Pat)) : PyData := .list (rows.map rowD)
mutual
def pok : Pat → Bool
  | .name s => PyData.strOk s
  | .pstr s => PyData.strOk s
  | .cons p => pok p
  | .tup ps => poks ps
  | _ => true
def poks : List Pat → Bool
  | [] => true
  | p :: ps => pok p && poks ps
end
def hok : Hd → Bool
  | .str s => PyData.strOk s
  | _ => true
theorem hok_head {p : Pat} (h : pok p = true) : hok p.head = true := by
  cases p <;> first | rfl | exact h
theorem hd_shaped {h : Hd} (hh : hok h = true) : SeqAt.shaped h.d = true := by
  cases h with
  | str s =>
    have hh : PyData.strOk s = true := hh
    simp [SeqAt.shaped, Hd.d, PyData.canLay0, PyData.canLayAll0, hh, PyData.depth, PyData.depthAll]
    decide +kernel
  | int i => simp [SeqAt.shaped, Hd.d, PyData.canLay0, PyData.canLayAll0, PyData.depth, PyData.depthAll]; decide +kernel
  | nil => decide +kernel
  | cons => decide +kernel
  | tup => decide +kernel
theorem hd_eqv (h h' : Hd) : PyData.eqv h.d h'.d = decide (h = h') := by
  cases h <;> cases h' <;> simp [Hd.d, PyData.eqv, PyData.eqvAll] <;> first | rfl | decide | (rw [Bool.eq_iff_iff]; simp)
theorem cut1 (d : PyData) (ds : List PyData) : cutD (d :: ds) (some 1) none = ds := by
  unfold cutD
  rw [show HT.sIx (d :: ds).length 0 (some 1) = min 1 (d :: ds).length from HT.sIx_nat (d :: ds).length 0 1, HT.sIx_none]
  rw [show min 1 (d :: ds).length = 1 by
    rw [List.length_cons]
    omega]
  simp
section
variable {P : Program} {w : World} {K : PySem.W.Frag} {mg : Str → Option Value} {base : Heap} {f : Addr} {fd : FuncData} {σ : L2.St} {G H : Hp} {ta tb te : TE}
theorem at0 {α : Type} {d : α} {ds : List α} : atI (d :: ds) 0 = some d := atI_nat (j := 0) rfl
theorem at1 {α : Type} {c d : α} {ds : List α} : atI (c :: d :: ds) 1 = some d := atI_nat (j := 1) rfl
theorem ev_isNb {d : PyData} {b : Bool} (h : EvD ta σ G H d) (e : isNo d = b) : EvD (tIsN ta) σ G H (.bool b) := ev_is (ev_isN h) (by rw [e])
theorem ev_notNb {d : PyData} {b : Bool} (h : EvD ta σ G H d) (e : isNo d = b) : EvD (tNotN ta) σ G H (.bool (!b)) := ev_is (ev_notN h) (by rw [e])
theorem no_pat (p : Pat) : isNo p.d = false := by cases p <;> rfl
/-- x[0] == 'k' -/
theorem ev_key {s k : Str} {r : List PyData} (h : EvD ta σ G H (.tuple (.str s :: r))) {b : Bool} (e : (s == k) = b) : EvD (tOp rEq (tOp (rIxA K) ta (tC (.int 0))) (tC (.str k))) σ G H (.bool b) :=
  ev_is (ev_eqF (d := .str s) (ev_it (ds := .str s :: r) h ev_int at0) ev_str rfl rfl) (by rw [← e]; simp [PyData.eqv])
theorem eb_key {s k : Str} {r : List PyData} (h : EvD ta σ G H (.tuple (.str s :: r))) {b : Bool} (e : (s == k) = b) : EvB (tTest (tOp rEq (tOp (rIxA K) ta (tC (.int 0))) (tC (.str k)))) σ G H b := eb_test (ev_key h e)
/-! ### head_of -/
abbrev s_head_of : Stmt := topS 8
theorem sc_head_of : FnScope ["pattern"] ["pattern"] (defScope s_head_of) := ⟨rfl, rfl, rfl, by decide +kernel, rfl, by decide +kernel, by decide +kernel⟩
abbrev spHeadOf : Sp := Pu (fun p : Pat => [p.d]) (fun p => p.isOpen = false) fun p => p.head.d
theorem ok_head_of (F : Fun K "head_of" "head_of" s_head_of f fd) : FnOk P w K mg base CX0 1 f fd ["pattern"] spHeadOf := by
  refine F.ok sc_head_of (fun vs H Q E h => len1 (fun _ => rfl) h) (fun cdv A outer s H vs Q E hr h => ?_)
  obtain ⟨G, p, e, hv, ho, q⟩ := h
  cases hv with
  | cons h1 h2 =>
    cases h2
    refine ⟨_, (pss_cons (ps_if (pt_cmpR op_eq (pe_ix (ixK K) (pv 0) pe_int (fun _ _ => rfl)) pe_str (nomark _)) (pss_one (ps_ret (pe_ix (ixK K) (pe_ix (ixK K) (pv 0) pe_int (fun _ _ => rfl)) (pe_un un_neg pe_int) (fun _ _ => rfl)))) pss_nil)
      (pss_cons (ps_if (pt_cmpR op_eq (pe_ix (ixK K) (pv 0) pe_int (fun _ _ => rfl)) pe_str (nomark _)) (pss_one (ps_ret (pe_tup pa_nil))) pss_nil)
      (pss_one (ps_ret (pe_slice (slTK K) (pv 0) po_none (po_some pe_int)))))), ?_⟩
    cases p with
    | any => cases ho
    | name s => cases ho
    | nil =>
      refine q_when (b := true) e (eb_key (ev_var rfl h1) rfl) (fun _ G1 H1 a => ?_) (fun z => nomatch z)
      exact s_ret a.gh (ev_it (ds := [.str "Nil"]) (ev_it (ev_var rfl (Dat.m h1 a.g)) ev_int rfl) (ev_neg ev_int) rfl) fun v G2 H2 b hd => q v G2 H2 (a.trans b) hd
    | cons p =>
      refine q_when (b := true) e (eb_key (ev_var rfl h1) rfl) (fun _ G1 H1 a => ?_) (fun z => nomatch z)
      exact s_ret a.gh (ev_it (ds := [.str "Cons"]) (ev_it (ev_var rfl (Dat.m h1 a.g)) ev_int rfl) (ev_neg ev_int) rfl) fun v G2 H2 b hd => q v G2 H2 (a.trans b) hd
    | tup ps =>
      refine q_when (b := false) e (eb_key (ev_var rfl h1) rfl) (fun z => nomatch z) (fun _ G1 H1 a => ?_)
      refine q_when (b := true) a.gh (eb_key (ev_var rfl (Dat.m h1 a.g)) rfl) (fun _ G2 H2 b => ?_) (fun z => nomatch z)
      exact s_ret b.gh (ev_tup (ds := []) ea_nil (by decide)) fun v G3 H3 c hd => q v G3 H3 ((a.trans b).trans c) hd
    | pint i =>
      refine q_when (b := false) e (eb_key (ev_var rfl h1) rfl) (fun z => nomatch z) (fun _ G1 H1 a => ?_)
      refine q_when (b := false) a.gh (eb_key (ev_var rfl (Dat.m h1 a.g)) rfl) (fun z => nomatch z) (fun _ G2 H2 b => ?_)
      exact s_ret b.gh (ev_slT (ev_var rfl (Dat.m h1 (a.trans b).g)) eo_none (eo_some ev_int)) fun v G3 H3 c hd => q v G3 H3 ((a.trans b).trans c) hd
    | pstr i =>
      refine q_when (b := false) e (eb_key (ev_var rfl h1) rfl) (fun z => nomatch z) (fun _ G1 H1 a => ?_)
      refine q_when (b := false) a.gh (eb_key (ev_var rfl (Dat.m h1 a.g)) rfl) (fun z => nomatch z) (fun _ G2 H2 b => ?_)
      exact s_ret b.gh (ev_slT (ev_var rfl (Dat.m h1 (a.trans b).g)) eo_none (eo_some ev_int)) fun v G3 H3 c hd => q v G3 H3 ((a.trans b).trans c) hd
/-! ### inner_of -/
abbrev s_inner_of : Stmt := topS 9
theorem sc_inner_of : FnScope ["pattern"] ["pattern"] (defScope s_inner_of) := ⟨rfl, rfl, rfl, by decide +kernel, rfl, by decide +kernel, by decide +kernel⟩
abbrev spInnerOf : Sp := Pu (fun p : Pat => [p.d]) (fun _ => True) fun p => rowD p.inner
theorem ok_inner_of (F : Fun K "inner_of" "inner_of" s_inner_of f fd) (m_list : mg "list" = none) : FnOk P w K mg base CX0 1 f fd ["pattern"] spInnerOf := by
  refine F.ok sc_inner_of (fun vs H Q E h => len1 (fun _ => rfl) h) (fun cdv A outer s H vs Q E hr h => ?_)
  obtain ⟨G, p, e, hv, _, q⟩ := h
  cases hv with
  | cons h1 h2 =>
    cases h2
    refine ⟨_, (pss_cons (ps_if (pt_cmpR op_eq (pe_ix (ixK K) (pv 0) pe_int (fun _ _ => rfl)) pe_str (nomark _)) (pss_one (ps_ret (pe_ifExp (pt_cmp (pc_isN (pe_ix (ixK K) (pv 0) pe_int (fun _ _ => rfl)))) (pe_lst pa_nil) (pe_lst (pa_cons (pe_ix (ixK K) (pv 0) pe_int (fun _ _ => rfl)) pa_nil))))) pss_nil)
      (pss_cons (ps_if (pt_cmpR op_eq (pe_ix (ixK K) (pv 0) pe_int (fun _ _ => rfl)) pe_str (nomark _)) (pss_one (ps_ret (pe_callTy (listK K) (by rfl) m_list (by decide +kernel) (pa_cons (pe_ix (ixK K) (pv 0) pe_int (fun _ _ => rfl)) pa_nil)))) pss_nil)
      (pss_one (ps_ret (pe_lst pa_nil))))), ?_⟩
    cases p
    case any | name | pint | pstr =>
      refine q_when (b := false) e (eb_key (ev_var rfl h1) rfl) (fun z => nomatch z) (fun _ G1 H1 a => ?_)
      refine q_when (b := false) a.gh (eb_key (ev_var rfl (Dat.m h1 a.g)) rfl) (fun z => nomatch z) (fun _ G2 H2 b => ?_)
      exact s_ret b.gh (ev_lst (ds := []) ea_nil (by decide)) fun v G3 H3 c hd => q v G3 H3 ((a.trans b).trans c) hd
    case nil =>
      refine q_when (b := true) e (eb_key (ev_var rfl h1) rfl) (fun _ G1 H1 a => ?_) (fun z => nomatch z)
      exact s_ret a.gh (ev_if (b := true) (eb_B (ev_isNb (d := .none) (ev_it (ev_var rfl (Dat.m h1 a.g)) ev_int rfl) rfl)) (fun _ => ev_lst (ds := []) ea_nil (by decide)) (fun z => nomatch z)) fun v G2 H2 b hd => q v G2 H2 (a.trans b) hd
    case cons p =>
      refine q_when (b := true) e (eb_key (ev_var rfl h1) rfl) (fun _ G1 H1 a => ?_) (fun z => nomatch z)
      exact s_ret a.gh (ev_if (b := false) (eb_B (ev_isNb (d := p.d) (ev_it (ev_var rfl (Dat.m h1 a.g)) ev_int rfl) (no_pat p))) (fun z => nomatch z) (fun _ => ev_lst (ds := [p.d]) (ea_cons (ev_it (ev_var rfl (Dat.m h1 a.g)) ev_int rfl) ea_nil) (by simp))) fun v G2 H2 b hd => q v G2 H2 (a.trans b) hd
    case tup ps =>
      refine q_when (b := false) e (eb_key (ev_var rfl h1) rfl) (fun z => nomatch z) (fun _ G1 H1 a => ?_)
      refine q_when (b := true) a.gh (eb_key (ev_var rfl (Dat.m h1 a.g)) rfl) (fun _ G2 H2 b => ?_) (fun z => nomatch z)
      exact s_ret b.gh (ev_listT (ev_it (ev_var rfl (Dat.m h1 (a.trans b).g)) ev_int rfl)) fun v G3 H3 c hd => q v G3 H3 ((a.trans b).trans c) hd
/-! ### rest_rows -/
abbrev s_rest_rows : Stmt := topS 12
theorem sc_rest_rows : FnScope ["rows", "row"] ["rows"] (defScope s_rest_rows) := ⟨rfl, rfl, rfl, by decide +kernel, rfl, by decide +kernel, by decide +kernel⟩
abbrev spRestRows : Sp := Pu (fun rows : List (List Pat) => [rowsD rows]) (fun rows => (∀ r ∈ rows, r ≠ []) ∧ rows.length ≤ 1000) fun rows => rowsD (restRows rows)
theorem ok_rest_rows (F : Fun K "rest_rows" "rest_rows" s_rest_rows f fd) (d_is_open : Dfn P w K mg base "is_open" 1 ["pattern"] spIsOpen) : FnOk P w K mg base CX0 2 f fd ["rows"] spRestRows := by
  refine F.ok sc_rest_rows (fun vs H Q E h => len1 (fun _ => rfl) h) (fun cdv A outer s H vs Q E hr h => ?_)
  obtain ⟨G, rows, e, hv, ⟨hne, hlen⟩, q⟩ := h
  cases hv with
  | cons h1 h2 =>
    cases h2
    refine ⟨_, (pss_one (ps_ret (pe_lc (own := [("row", 1)]) (by rfl) sc_rest_rows.nd (piK K (pv 0)) (blkOk_by (N := ["rows", "row"]) (sc := defScope s_rest_rows) (by decide +kernel)) (fun _ _ _ _ _ => (pg_name (i := 1) sc_rest_rows.nd rfl (.inl rfl))) (fun _ _ _ _ _ => (pts_one (pt_val (pe_def d_is_open (hr.mono (by omega)) (by rfl) (pa_cons (pe_ix (ixK K) (pv 1) pe_int (fun _ _ => rfl)) pa_nil))))) (fun _ _ _ _ _ => (pe_slice (slK K) (pv 1) (po_some pe_int) po_none))))), ?_⟩
    refine s_ret e (ev_lc (enc := rowD) (as := rows) (fun r => (hdP r).isOpen) (fun r => rowD r.tail) (ev_var rfl h1) (by omega) fun r hr x G1 H1 a hx => ⟨_, fun R z => z, rfl, ?_, fun _ => ?_⟩) fun v G1 H1 a hd => q v G1 H1 a ?_
    · cases r with
      | nil => exact absurd rfl (hne _ hr)
      | cons p r => exact eb_B (ev_def p (ea_cons (ev_il (ds := Pat.ds (p :: r)) (ev_var rfl hx) ev_int at0) ea_nil) trivial)
    · cases r with
      | nil => exact absurd rfl (hne _ hr)
      | cons p r => exact ev_is (ev_slL (ev_var rfl hx) (eo_some ev_int) eo_none) (by show PyData.list (cutD (p.d :: Pat.ds r) (some 1) none) = _; rw [cut1]; rfl)
    · show Dat G1 v (.list ((restRows rows).map rowD))
      unfold restRows
      rw [List.map_map]
      exact hd
end
end G

namespace G
open PySem L2 Evl
open M
def tysD (ts : List Ty) : PyData := .list (Ty.ds ts)
def chD (c : Hd × List Ty) : PyData := .tuple [c.1.d, tysD c.2]
def chsD (cs : List (Hd × List Ty)) : PyData := .list (cs.map chD)
section
variable {P : Program} {w : World} {K : PySem.W.Frag} {mg : Str → Option Value} {base : Heap} {f : Addr} {fd : FuncData} {σ : L2.St} {G H : Hp} {ta tb te : TE}
/-! ### shown -/
abbrev s_shown : Stmt := topS 13
theorem sc_shown : FnScope ["head", "parts"] ["head", "parts"] (defScope s_shown) := ⟨rfl, rfl, rfl, by decide +kernel, rfl, by decide +kernel, by decide +kernel⟩
abbrev spShown : Sp := Pu (fun a : Hd × List Pat => [a.1.d, rowD a.2]) (fun a => (a.1 = .tup ∧ a.2.length ≤ 1000) ∨ (a.1 = .nil ∧ a.2 = []) ∨ (a.1 = .cons ∧ a.2 ≠ [])) fun a => (shown a.1 a.2).d
theorem ok_shown (F : Fun K "shown" "shown" s_shown f fd) (m_tuple : mg "tuple" = none) : FnOk P w K mg base CX0 1 f fd ["head", "parts"] spShown := by
  refine F.ok sc_shown (fun vs H Q E h => len1 (fun _ => rfl) h) (fun cdv A outer s H vs Q E hr h => ?_)
  obtain ⟨G, ⟨hd, ps⟩, e, hv, hp, q⟩ := h
  have hu := hu_in hr
  cases hv with
  | cons h1 h2 =>
    cases h2 with
    | cons h2 h3 =>
    cases h3
    refine ⟨_, (pss_cons (ps_if (pt_cmpR (eqK K hu) (pv 0) (pe_tup pa_nil) (nomark _)) (pss_one (ps_ret (pe_tup (pa_cons pe_str (pa_cons (pe_callTy (tupK K) (by rfl) m_tuple (by decide +kernel) (pa_cons (pv 1) pa_nil)) pa_nil))))) pss_nil)
      (pss_one (ps_ret (pe_tup (pa_cons pe_str (pa_cons (pe_tup (pa_cons (pv 0) pa_nil)) (pa_cons (pe_ifExp (ptTru K (pv 1)) (pe_ix (ixK K) (pv 1) pe_int (fun _ _ => rfl)) pe_non) pa_nil))))))), ?_⟩
    have sh : SeqAt.shaped (PyData.tuple []) = true := by decide +kernel
    rcases hp with ⟨e1, hl⟩ | ⟨e1, e2⟩ | ⟨e1, e2⟩
    · cases e1
      refine q_when (b := true) e (eb_is (eb_test (ev_eqD (ev_var rfl h1) (ev_tup (ds := []) ea_nil (by decide)) sh sh)) rfl) (fun _ G1 H1 a => ?_) (fun z => nomatch z)
      exact s_ret a.gh (ev_tup (ds := [.str "ptuple", .tuple (Pat.ds ps)]) (ea_cons ev_str (ea_cons (ev_tupL (ev_var rfl (Dat.m h2 a.g))) ea_nil)) (by simp)) fun v G2 H2 b hd => q v G2 H2 (a.trans b) hd
    · cases e1
      cases e2
      refine q_when (b := false) e (eb_is (eb_test (ev_eqD (ev_var rfl h1) (ev_tup (ds := []) ea_nil (by decide)) (hd_shaped (h := .nil) rfl) sh)) rfl) (fun z => nomatch z) (fun _ G1 H1 a => ?_)
      exact s_ret a.gh (ev_tup (ds := [.str "pcon", .tuple [.str "Nil"], .none]) (ea_cons ev_str (ea_cons (ev_tup (ds := [.str "Nil"]) (ea_cons (ev_var rfl (Dat.m h1 a.g)) ea_nil) (by simp)) (ea_cons (ev_if (b := false) (eb_tru (ev_var rfl (Dat.m h2 a.g)) rfl) (fun z => nomatch z) (fun _ => ev_non)) ea_nil))) (by simp)) fun v G2 H2 b hd => q v G2 H2 (a.trans b) hd
    · cases e1
      cases ps with
      | nil => exact absurd rfl e2
      | cons p ps =>
      refine q_when (b := false) e (eb_is (eb_test (ev_eqD (ev_var rfl h1) (ev_tup (ds := []) ea_nil (by decide)) (hd_shaped (h := .cons) rfl) sh)) rfl) (fun z => nomatch z) (fun _ G1 H1 a => ?_)
      exact s_ret a.gh (ev_tup (ds := [.str "pcon", .tuple [.str "Cons"], p.d]) (ea_cons ev_str (ea_cons (ev_tup (ds := [.str "Cons"]) (ea_cons (ev_var rfl (Dat.m h1 a.g)) ea_nil) (by simp)) (ea_cons (ev_if (b := true) (eb_tru (ev_var rfl (Dat.m h2 a.g)) rfl) (fun _ => ev_il (ds := Pat.ds (p :: ps)) (ev_var rfl (Dat.m h2 a.g)) ev_int at0) (fun z => nomatch z)) ea_nil))) (by simp)) fun v G2 H2 b hd => q v G2 H2 (a.trans b) hd
/-! ### divided -/
abbrev s_divided : Stmt := topS 15
theorem sc_divided : FnScope ["choices", "column", "present", "pattern", "told", "choice"] ["choices", "column"] (defScope s_divided) := ⟨rfl, rfl, rfl, by decide +kernel, rfl, by decide +kernel, by decide +kernel⟩
abbrev spDivided : Sp := Pu (fun a : List (Hd × List Ty) × List Pat => [chsD a.1, rowD a.2]) (fun a => a.1.length ≤ 1000 ∧ a.2.length ≤ 1000 ∧ (∀ c ∈ a.1, hok c.1 = true) ∧ ∀ p ∈ a.2, pok p = true) fun a => .tuple [chsD (told a.1 a.2), chsD (others a.1 a.2)]
theorem any_eqv (hs : List Hd) (h : Hd) : ((hs.map Hd.d).any fun z => PyData.eqv z h.d) = hs.contains h := by
  rw [Bool.eq_iff_iff, List.any_eq_true, List.contains_iff_mem]
  constructor
  · rintro ⟨z, hz, e⟩
    obtain ⟨h', hm, rfl⟩ := List.mem_map.mp hz
    rw [hd_eqv] at e
    exact of_decide_eq_true e ▸ hm
  · intro hm
    exact ⟨_, List.mem_map.mpr ⟨h, hm, rfl⟩, by rw [hd_eqv]; exact decide_eq_true rfl⟩
theorem lay_all {α : Type} {enc : α → PyData} : ∀ {as : List α}, (∀ a ∈ as, SeqAt.shaped (enc a) = true) → PyData.canLayAll0 (as.map enc) = true
  | [], _ => rfl
  | a :: as, h => by
    have h1 := h a List.mem_cons_self
    have h2 := lay_all (as := as) fun b hb => h b (List.mem_cons_of_mem _ hb)
    simp only [SeqAt.shaped, Bool.and_eq_true] at h1
    simp [PyData.canLayAll0, h1.1, h2]
theorem depth_all {α : Type} {enc : α → PyData} {n : Nat} : ∀ {as : List α}, (∀ a ∈ as, (enc a).depth ≤ n) → PyData.depthAll (as.map enc) ≤ n
  | [], _ => by simp [PyData.depthAll]
  | a :: as, h => by
    have h1 := h a List.mem_cons_self
    have h2 := depth_all (as := as) fun b hb => h b (List.mem_cons_of_mem _ hb)
    simp only [List.map_cons, PyData.depthAll]
    omega
theorem list_shaped {α : Type} {enc : α → PyData} {as : List α} (h : ∀ a ∈ as, SeqAt.shaped (enc a) = true) (hd : ∀ a ∈ as, (enc a).depth ≤ 63) : SeqAt.shaped (.list (as.map enc)) = true := by
  have h1 := lay_all h
  have h2 := depth_all hd
  have h3 : PyData.depth (.list (as.map enc)) ≤ 64 := by
    simp only [PyData.depth]
    omega
  show (PyData.canLay0 (.list (as.map enc)) && decide (PyData.depth (.list (as.map enc)) ≤ 64)) = true
  rw [decide_eq_true h3, Bool.and_true]
  simp only [PyData.canLay0]
  exact h1
theorem hd_depth (h : Hd) : h.d.depth ≤ 63 := by cases h <;> simp [Hd.d, PyData.depth, PyData.depthAll]
theorem hds_shaped {hs : List Hd} (h : ∀ x ∈ hs, hok x = true) : SeqAt.shaped (.list (hs.map Hd.d)) = true := list_shaped (fun x hx => hd_shaped (h x hx)) fun x _ => hd_depth x
theorem ok_divided (F : Fun K "divided" "divided" s_divided f fd) (d_is_open : Dfn P w K mg base "is_open" 1 ["pattern"] spIsOpen) (d_head_of : Dfn P w K mg base "head_of" 1 ["pattern"] spHeadOf) : FnOk P w K mg base CX0 2 f fd ["choices", "column"] spDivided := by
  refine F.ok sc_divided (fun vs H Q E h => len1 (fun _ => rfl) h) (fun cdv A outer s H vs Q E hr h => ?_)
  obtain ⟨G, ⟨cs, col⟩, e, hv, ⟨hl1, hl2, hc, hcol⟩, q⟩ := h
  have hu := hu_in hr
  simp only at hl1 hl2 hc hcol
  cases hv with
  | cons h1 h2 =>
    cases h2 with
    | cons h2 h3 =>
    cases h3
    refine ⟨_, (pss_cons (ps_set (i := 2) sc_divided.nd rfl (.inr rfl) (pe_lc (own := [("pattern", 3)]) (by rfl) sc_divided.nd (piK K (pv 1)) (blkOk_by (N := ["choices", "column", "present", "pattern", "told", "choice"]) (sc := defScope s_divided) (by decide +kernel)) (fun _ _ _ _ _ => (pg_name (i := 3) sc_divided.nd rfl (.inl rfl))) (fun _ _ _ _ _ => (pts_one (pt_not (pt_val (pe_def d_is_open (hr.mono (by omega)) (by rfl) (pa_cons (pv 3) pa_nil)))))) (fun _ _ _ _ _ => (pe_def d_head_of (hr.mono (by omega)) (by rfl) (pa_cons (pv 3) pa_nil)))))
      (pss_cons (ps_setLc (i := 4) (own := [("choice", 5)]) (by rfl) sc_divided.nd rfl rfl (sw_true rfl rfl rfl (by decide +kernel)) (piK K (pv 0)) (blkOk_by (N := ["choices", "column", "present", "pattern", "told", "choice"]) (sc := defScope s_divided) (by decide +kernel)) (fun _ _ _ _ _ => (pg_name (i := 5) sc_divided.nd rfl (.inl rfl))) (fun _ _ _ _ _ => (pts_one (pt_cmpR (inK K hu) (pe_ix (ixK K) (pv 5) pe_int (fun _ _ => rfl)) (pv 2) (by rfl)))) (fun _ _ _ _ _ => (pv 5)))
      (pss_one (ps_ret (pe_tup (pa_cons (pv 4) (pa_cons (pe_lc (own := [("choice", 5)]) (by rfl) sc_divided.nd (piK K (pv 0)) (blkOk_by (N := ["choices", "column", "present", "pattern", "told", "choice"]) (sc := defScope s_divided) (by decide +kernel)) (fun _ _ _ _ _ => (pg_name (i := 5) sc_divided.nd rfl (.inl rfl))) (fun _ _ _ _ _ => (pts_one (pt_cmpR (notInK K hu) (pe_ix (ixK K) (pv 5) pe_int (fun _ _ => rfl)) (pv 2) (by rfl)))) (fun _ _ _ _ _ => (pv 5))) pa_nil))))))), ?_⟩
    have h2' := h2
    simp only [rowD, Pat.ds_map] at h2'
    have hpres : ∀ x ∈ present col, hok x = true := fun x hx => by
      obtain ⟨p, hp, rfl⟩ := List.mem_map.mp hx
      exact hok_head (hcol p (List.mem_filter.mp hp).1)
    refine q_asg e (s := .dat (.list ((present col).map Hd.d))) (ev_is (ev_lc (enc := Pat.d) (as := col) (fun p => !p.isOpen) (fun p => p.head.d) (ev_var rfl h2') (by omega) fun p hp x G1 H1 a hx => ⟨_, fun R z => z, rfl, eb_not (eb_B (ev_def p (ea_cons (ev_var rfl hx) ea_nil) trivial)), fun ho => ev_def p (ea_cons (ev_var rfl hx) ea_nil) (by simpa using ho)⟩) (by unfold present; rw [List.map_map]; rfl)) fun v1 G1 H1 a hd1 => ?_
    refine q_asg a.gh (s := .dat (chsD (told cs col))) (ev_lc (enc := chD) (as := cs) (fun c => (present col).contains c.1) chD (ev_var rfl (Dat.m h1 a.g)) (by omega) fun c hcm x G2 H2 b hx => ⟨_, fun R z => z, rfl, eb_test (ev_is (ev_inD (ev_it (ev_var rfl hx) ev_int rfl) (ev_var rfl (hd1.m b.g)) (hd_shaped (hc c hcm)) (hds_shaped hpres)) (by rw [any_eqv])), fun _ => ev_var rfl hx⟩) fun v2 G2 H2 b hd2 => ?_
    refine s_ret b.gh (ev_tup (ds := [chsD (told cs col), chsD (others cs col)]) (ea_cons (ev_var rfl hd2) (ea_cons (ev_lc (enc := chD) (as := cs) (fun c => !(present col).contains c.1) chD (ev_var rfl (Dat.m h1 (a.trans b).g)) (by omega) fun c hcm x G3 H3 z hx => ⟨_, fun R z => z, rfl, eb_test (ev_is (ev_ninD (ev_it (ev_var rfl hx) ev_int rfl) (ev_var rfl (hd1.m (b.trans z).g)) (hd_shaped (hc c hcm)) (hds_shaped hpres)) (by rw [any_eqv])), fun _ => ev_var rfl hx⟩) ea_nil)) (by simp)) fun v G3 H3 c hd => q v G3 H3 ((a.trans b).trans c) hd
end
end G

namespace G
open PySem L2 Evl
open M
/-- a list at p that is one's own: it has grown to ds -/
structure Grow (G0 H0 : Hp) (p : Addr) (acc : List V) (ds : List PyData) (G H : Hp) : Prop where
  new : H0 p = none
  go : Go G0 H0 G H
  out : G p = none
  at_ : H p = some (.lst acc)
  dats : Dats G acc ds
theorem Grow.born {G0 H0 G H : Hp} {p : Addr} (a : Go G0 H0 G H) (h : H p = none) : Grow G0 H0 p [] [] G (upd H p (.lst [])) :=
  ⟨a.back h, a.trans (Go.born a.gh h), gnone a.gh h, upd_same, .nil⟩
theorem Grow.step {G0 H0 G H G1 H1 : Hp} {p : Addr} {acc : List V} {ds : List PyData} (h : Grow G0 H0 p acc ds G H) (a : Go G H G1 H1) : Grow G0 H0 p acc ds G1 H1 :=
  ⟨h.new, h.go.trans a, a.out h.out h.at_, a.lst h.at_, h.dats.m a.g⟩
theorem Grow.app {G0 H0 G H : Hp} {p : Addr} {acc : List V} {ds : List PyData} {v : V} {d : PyData} (h : Grow G0 H0 p acc ds G H) (hv : Dat G v d) : Grow G0 H0 p (acc ++ [v]) (ds ++ [d]) G (upd H p (.lst (acc ++ [v]))) :=
  ⟨h.new, h.go.mut h.new h.out, h.out, upd_same, h.dats.snoc hv⟩
theorem Grow.done {G0 H0 G H : Hp} {p : Addr} {acc : List V} {ds : List PyData} (h : Grow G0 H0 p acc ds G H) : Go G0 H0 (upd G p (.lst acc)) H ∧ Dat (upd G p (.lst acc)) (.ref p) (.list ds) :=
  ⟨h.go.freeze h.new h.out h.at_, .lst upd_same (h.dats.m fun b u z => by
    rw [upd_ne (ne_of_none z h.out)]
    exact z)⟩
theorem Grow.len {G0 H0 G H : Hp} {p : Addr} {acc : List V} {ds : List PyData} (h : Grow G0 H0 p acc ds G H) : acc.length = ds.length := h.dats.len
section
variable {P : Program} {w : World} {K : PySem.W.Frag} {mg : Str → Option Value} {base : Heap} {f : Addr} {fd : FuncData} {σ : L2.St} {G H : Hp} {ta tb te : TE}
theorem ev_rep {d : PyData} {n : Nat} (h1 : EvD ta σ G H (.list [d])) (h2 : EvD tb σ G H (.int (n : Int))) (hn : n ≤ 1000000) : EvD (tOp rRep ta tb) σ G H (.list (List.replicate n d)) := ev_op h1 h2 fun x y G1 H1 a hx hy Q q => by
  cases hx with
  | lst e1 e2 =>
    cases hy
    cases e2 with
    | cons e3 e4 =>
    cases e4
    refine ⟨_, (n : Int), _, rfl, rfl, a.gh _ _ e1, by omega, by omega, ?_, fun p hp => ?_⟩
    · rw [Int.toNat_natCast, List.length_singleton, Nat.one_mul]
      exact Nat.le_trans hn (by decide)
    · have e5 : ∀ (v : V) (m : Nat), (List.replicate m [v]).flatten = List.replicate m v := fun v m => by
        induction m with
        | zero => rfl
        | succ m ih => rw [List.replicate_succ, List.flatten_cons, ih]; rfl
      rw [Int.toNat_natCast, e5]
      exact q _ _ _ (Go.imm a.gh hp) (dat_lst a.gh (Dats.rep e3 n) hp)
theorem ds_app (a b : List Pat) : Pat.ds (a ++ b) = Pat.ds a ++ Pat.ds b := by simp [Pat.ds_map]
theorem ds_rep (n : Nat) : Pat.ds (List.replicate n .any) = List.replicate n (.tuple [.str "any"]) := by simp [Pat.ds_map, Pat.d]
theorem ds_len (a : List Pat) : (Pat.ds a).length = a.length := by simp [Pat.ds_map]
/-! ### specialized -/
abbrev s_specialized : Stmt := topS 11
theorem sc_specialized : FnScope ["rows", "head", "count", "found", "row"] ["rows", "head", "count"] (defScope s_specialized) := ⟨rfl, rfl, rfl, by decide +kernel, rfl, by decide +kernel, by decide +kernel⟩
abbrev spSpecialized : Sp := Pu (fun a : List (List Pat) × Hd × Nat => [rowsD a.1, a.2.1.d, .int (a.2.2 : Int)]) (fun a => (∀ r ∈ a.1, r ≠ [] ∧ r.length ≤ 1000 ∧ poks r = true ∧ (hdP r).inner.length ≤ 1000) ∧ a.1.length ≤ 1000 ∧ hok a.2.1 = true ∧ a.2.2 ≤ 1000) fun a => rowsD (spec a.1 a.2.1 a.2.2)
theorem ok_specialized (F : Fun K "specialized" "specialized" s_specialized f fd) (d_is_open : Dfn P w K mg base "is_open" 1 ["pattern"] spIsOpen) (d_head_of : Dfn P w K mg base "head_of" 1 ["pattern"] spHeadOf)
    (d_inner_of : Dfn P w K mg base "inner_of" 1 ["pattern"] spInnerOf) : FnOk P w K mg base CX0 2 f fd ["rows", "head", "count"] spSpecialized := by
  refine F.ok sc_specialized (fun vs H Q E h => len1 (fun _ => rfl) h) (fun cdv A outer s H vs Q E hr h => ?_)
  obtain ⟨G, ⟨rows, h, n⟩, e, hv, ⟨hrows, hlen, hh, hn⟩, q⟩ := h
  have hu := hu_in hr
  simp only at hrows hlen hh hn
  cases hv with
  | cons h1 h2 =>
    cases h2 with
    | cons h2 h3 =>
    cases h3 with
    | cons h3 h4 =>
    cases h4
    rename_i v1 v2 v3
    refine ⟨_, (pss_cons (ps_set (i := 3) sc_specialized.nd rfl (.inl rfl) (pe_lst pa_nil))
      (pss_cons (ps_for PassesOwn.never rfl (pi_list (pv 0)) (pg_name (i := 4) sc_specialized.nd rfl (.inl rfl)) (pss_one (ps_if (pt_val (pe_def d_is_open (hr.mono (by omega)) (by rfl) (pa_cons (pe_ix (ixK K) (pv 4) pe_int (fun _ _ => rfl)) pa_nil))) (pss_one (ps_expr (pe_bm PySem.F.plainAttrs_list PySem.F.slot_list_append PySem.F.type_list_append mt_append (pv 3) (pa_cons (pe_op op_cat (pe_op op_rep (pe_lst (pa_cons (pe_tup (pa_cons pe_str pa_nil)) pa_nil)) (pv 2)) (pe_slice (slK K) (pv 4) (po_some pe_int) po_none)) pa_nil)))) (pss_one (ps_if (pt_cmpR (eqK K hu) (pe_def d_head_of (hr.mono (by omega)) (by rfl) (pa_cons (pe_ix (ixK K) (pv 4) pe_int (fun _ _ => rfl)) pa_nil)) (pv 1) (nomark _)) (pss_one (ps_expr (pe_bm PySem.F.plainAttrs_list PySem.F.slot_list_append PySem.F.type_list_append mt_append (pv 3) (pa_cons (pe_op op_cat (pe_def d_inner_of (hr.mono (by omega)) (by rfl) (pa_cons (pe_ix (ixK K) (pv 4) pe_int (fun _ _ => rfl)) pa_nil)) (pe_slice (slK K) (pv 4) (po_some pe_int) po_none)) pa_nil)))) pss_nil)))))
      (pss_one (ps_ret (pv 3))))), ?_⟩
    refine q_new e fun p hp a => ?_
    have g0 := Grow.born (Go.refl e) hp
    refine q_for (enc := rowD) (as := rows) a.gh (ev_var rfl (Dat.m h1 a.g)) fun G1 H1 b => ?_
    refine ⟨fun i σ' G' H' => ∃ x acc, σ' = [some v1, some v2, some v3, some (.ref p), x] ∧ Grow G H p acc ((spec (rows.take i) h n).map rowD) G' H' ∧ Ex G1 G', ⟨none, [], rfl, g0.step b, Ex.refl G1⟩, fun i σ' G' H' ⟨x, acc, _, g, ex⟩ => ⟨ex, g.go.gh⟩, fun i r y σ' G' H' hi ⟨x, acc, hσ, g, ex⟩ hy => ?_, fun σ' G' H' ⟨x, acc, hσ, g, ex⟩ => ?_⟩
    · subst hσ
      have hm := List.mem_of_getElem? hi
      obtain ⟨r0, r1, r2, r3⟩ := hrows r hm
      have tk : rows.take (i + 1) = rows.take i ++ [r] := by rw [List.take_add_one, hi]; rfl
      have bound : acc.length < 1000000 := by
        rw [g.len, List.length_map]
        have z := List.length_filterMap_le (specRow h n) (rows.take i)
        rw [List.length_take] at z
        have := Nat.min_le_right i rows.length
        unfold spec
        omega
      cases r with
      | nil => exact absurd rfl r0
      | cons pt r =>
      simp only [poks, Bool.and_eq_true] at r2
      refine s_if g.go.gh (eb_B (ev_def pt (ea_cons (ev_il (ds := Pat.ds (pt :: r)) (ev_var rfl hy) ev_int at0) ea_nil) trivial)) (fun ho G2 H2 c => ?_) (fun ho G2 H2 c => ?_)
      · have g2 := g.step c
        refine s_app (s := .dat (rowD (List.replicate n .any ++ r))) c.gh g2.at_ g2.out (ev_var rfl rfl) (ev_is (ev_cat (ev_rep (n := n) (ev_lst (ds := [.tuple [.str "any"]]) (ea_cons (ev_tup (ds := [.str "any"]) (ea_cons ev_str ea_nil) (by simp)) ea_nil) (by simp)) (ev_var rfl (Dat.m (h3.m g.go.g) c.g)) (by omega)) (ev_slL (ev_var rfl (Dat.m hy c.g)) (eo_some ev_int) eo_none) ?_) ?_) bound fun v G3 H3 c3 o3 hv => ⟨G3, some y, acc ++ [v], rfl, ?_, ex.trans (c.trans c3).g⟩
        · show (List.replicate n _).length + (cutD (pt.d :: Pat.ds r) (some 1) none).length ≤ 1000000
          rw [cut1, List.length_replicate, ds_len]
          simp at r1
          omega
        · show PyData.list (List.replicate n _ ++ cutD (pt.d :: Pat.ds r) (some 1) none) = _
          rw [cut1, rowD, ds_app, ds_rep]
        · have z := (g2.step c3).app hv
          have e1 : spec (rows.take (i + 1)) h n = spec (rows.take i) h n ++ [List.replicate n .any ++ r] := by
            rw [tk]
            unfold spec
            rw [List.filterMap_append, List.filterMap_cons, specRow_open ho]
            rfl
          rw [e1, List.map_append]
          exact z
      · have g2 := g.step c
        refine s_when c.gh (eb_test (ev_is (ev_eqD (ev_def pt (ea_cons (ev_il (ds := Pat.ds (pt :: r)) (ev_var rfl (Dat.m hy c.g)) ev_int at0) ea_nil) ho) (ev_var rfl (Dat.m (h2.m g.go.g) c.g)) (hd_shaped (hok_head r2.1)) (hd_shaped hh)) (by rw [hd_eqv]))) (fun hb G3 H3 c3 => ?_) (fun hb G3 H3 c3 => ?_)
        · have g3 := g2.step c3
          have cc := c.trans c3
          refine s_app (s := .dat (rowD (pt.inner ++ r))) c3.gh g3.at_ g3.out (ev_var rfl rfl) (ev_is (ev_cat (ev_def (res := fun p => rowD p.inner) pt (ea_cons (ev_il (ds := Pat.ds (pt :: r)) (ev_var rfl (Dat.m hy cc.g)) ev_int at0) ea_nil) trivial) (ev_slL (ev_var rfl (Dat.m hy cc.g)) (eo_some ev_int) eo_none) ?_) ?_) bound fun v G4 H4 c4 o4 hv => ⟨G4, some y, acc ++ [v], rfl, ?_, ex.trans (cc.trans c4).g⟩
          · show (Pat.ds pt.inner).length + (cutD (pt.d :: Pat.ds r) (some 1) none).length ≤ 1000000
            rw [cut1, ds_len, ds_len]
            simp at r1
            simp only [hdP] at r3
            omega
          · show PyData.list (Pat.ds pt.inner ++ cutD (pt.d :: Pat.ds r) (some 1) none) = _
            rw [cut1, rowD, ds_app]
          · have z := (g3.step c4).app hv
            have e1 : spec (rows.take (i + 1)) h n = spec (rows.take i) h n ++ [pt.inner ++ r] := by
              rw [tk]
              unfold spec
              rw [List.filterMap_append, List.filterMap_cons, specRow_same ho (of_decide_eq_true hb)]
              rfl
            rw [e1, List.map_append]
            exact z
        · have g3 := g2.step c3
          refine ⟨G3, some y, acc, rfl, ?_, ex.trans (c.trans c3).g⟩
          have e1 : spec (rows.take (i + 1)) h n = spec (rows.take i) h n := by
            rw [tk]
            unfold spec
            rw [List.filterMap_append, List.filterMap_cons, specRow_else ho (of_decide_eq_false hb)]
            simp
          rw [e1]
          exact g3
    · subst hσ
      rw [List.take_length] at g
      obtain ⟨z1, z2⟩ := g.done
      exact s_ret (s := .dat _) z1.gh (ev_var rfl z2) fun v G2 H2 c hd => q v G2 H2 (z1.trans c) hd
end
end G

/-! t[::-1] of a tuple; enumerate of a tuple. -/
namespace G
open PySem PySem.Spec PyProof.Rows L2 HT
section
variable {prog : Program} {w : World} {A : Around} {E : Value → Shared → Prop} {s : Shared}
theorem adj_back (n : Nat) : Builtin.Slice.sliceAdjust none none (-1) (n : Int) = ((n : Int) - 1, -1) := by
  unfold Builtin.Slice.sliceAdjust
  rfl
theorem places_back (n : Nat) : Builtin.Slice.slicePlaces ((n : Int) - 1) (-1) (-1) = n := by
  unfold Builtin.Slice.slicePlaces
  have h1 : ¬ ((-1 : Int) > 0) := by omega
  rw [if_neg h1]
  by_cases hn : n = 0
  · subst hn
    rfl
  · rw [if_pos (by omega)]
    have e : -(-1 : Int) = 1 := rfl
    rw [e, Int.ediv_one]
    omega
theorem applied_back {sl : Addr} {n : Nat} {t : Tok} {Q : Int × Int × Nat → Shared → Prop} (hs : s.heap.IsSliceOf sl .none .none (.int (-1) t)) (h : Q ((n : Int) - 1, -1, n) s) : wpAny (model prog w) A (Builtin.Slice.sliceApplied (.ref sl) (pure (n : Int))) Q E s := by
  obtain ⟨os, hos, hcs, hds⟩ := id hs
  unfold Builtin.Slice.sliceApplied Builtin.Slice.sliceFields
  refine wpAny_bind (wpAny_bind (wpAny_field hos hds (x := .none) rfl (wpAny_bind (wpAny_field hos hds (x := .none) rfl (wpAny_bind (wpAny_field hos hds (x := .int (-1) t) rfl (wpAny_pure ?_)))))))
  refine wpAny_bind (slicePart_int ?_)
  show wpAny _ _ (if ((-1 : Int) == 0) = true then _ else _) _ _ s
  rw [if_neg (by decide)]
  refine wpAny_bind (slicePart_none (wpAny_bind (slicePart_none (wpAny_bind (wpAny_pure ?_)))))
  show wpAny _ _ (match Builtin.Slice.sliceAdjust none none (-1) (n : Int) with | (lo, hi) => pure (lo, (-1 : Int), Builtin.Slice.slicePlaces lo hi (-1))) _ _ s
  rw [adj_back n]
  show wpAny _ _ (pure ((n : Int) - 1, (-1 : Int), Builtin.Slice.slicePlaces ((n : Int) - 1) (-1) (-1))) _ _ s
  rw [places_back]
  exact wpAny_pure h
theorem pick_back (xs : List Value) : ((List.range xs.toArray.size).filterMap fun (m : Nat) => xs.toArray[(((xs.toArray.size : Nat) : Int) - 1 + (m : Int) * (-1)).toNat]?) = xs.reverse := by
  have h0 : xs.toArray.size = xs.length := List.size_toArray
  rw [h0]
  have e : ∀ m, m < xs.length → xs.toArray[(((xs.length : Nat) : Int) - 1 + (m : Int) * (-1)).toNat]? = xs.reverse[m]? := fun m hm => by
    have : (((xs.length : Nat) : Int) - 1 + (m : Int) * (-1)).toNat = xs.length - 1 - m := by omega
    rw [this, List.getElem?_toArray, List.getElem?_reverse hm]
  have e2 : (List.range xs.length).filterMap (fun (m : Nat) => xs.toArray[(((xs.length : Nat) : Int) - 1 + (m : Int) * (-1)).toNat]?) = (List.range xs.length).filterMap fun m => xs.reverse[m]? := by
    have cg : ∀ l : List Nat, (∀ m ∈ l, m < xs.length) → l.filterMap (fun (m : Nat) => xs.toArray[(((xs.length : Nat) : Int) - 1 + (m : Int) * (-1)).toNat]?) = l.filterMap fun m => xs.reverse[m]? := fun l => by
      induction l with
      | nil => intro _; rfl
      | cons m l ih =>
        intro hl
        rw [List.filterMap_cons, List.filterMap_cons, e m (hl m List.mem_cons_self), ih fun k hk => hl k (List.mem_cons_of_mem _ hk)]
    exact cg _ fun m hm => List.mem_range.mp hm
  rw [e2]
  have key : ∀ ys : List Value, (List.range ys.length).filterMap (fun m => ys[m]?) = ys := fun ys => by
    refine List.ext_getElem? fun i => ?_
    induction ys generalizing i with
    | nil => rfl
    | cons y ys ih =>
      rw [List.length_cons, List.range_succ_eq_map, List.filterMap_cons]
      simp only [List.getElem?_cons_zero]
      rw [List.filterMap_map]
      cases i with
      | zero => rfl
      | succ i =>
        rw [List.getElem?_cons_succ, List.getElem?_cons_succ, ← ih i]
        congr 1
  have := key xs.reverse
  rw [List.length_reverse] at this
  exact this
theorem tuple_back {t sl : Addr} {xs : List Value} {u : Tok} {Q : Value → Shared → Prop} (ht : IsTup s.heap t xs.toArray) (hs : s.heap.IsSliceOf sl .none .none (.int (-1) u))
    (h : Q (.ref s.heap.objs.size) { s with heap := s.heap.push { cls := .type "tuple", data := .seq xs.reverse.toArray } }) (hsz : xs.length ≤ sizeLine) : wpAny (model prog w) A (getItem (.ref t) (.ref sl)) Q E s := by
  have ok : sizeOk (.seq xs.reverse.toArray) := by
    show xs.reverse.toArray.size ≤ sizeLine
    rw [List.size_toArray, List.length_reverse]
    exact hsz
  obtain ⟨os, hos, hcs, hds⟩ := id hs
  have hTs : s.TypeIs (.ref sl) "slice" := ⟨os, hos, hcs⟩
  unfold getItem
  try with_reducible refine wpAny_holding ?_
  first | refine wpAny_bind (wpAny_pure ?_) | skip
  refine wpAny_bind (wpAny_sequenceKey ht.typeIs (by decide) ?_)
  refine wpAny_bind (wpAny_callSpecial?_slot (name := Str.ofString "__getitem__") ht.typeIs PyProof.Rows.slot_tuple_getitem (wpAny_call_entry PyProof.Rows.slot_tuple_getitem ht.typeIs entry_tuple_getitem ?_ (args_tuple_getitem _ _)))
  show wpAny _ _ (Builtin.Tuple.tupleItemsOf (.ref t) >>= _) _ _ s
  refine wpAny_bind (tupleItemsOf_ ht (wpAny_bind (wpAny_typeOf hTs ?_)))
  rw [if_pos (by decide)]
  refine wpAny_bind (applied_back hs ?_)
  have hno : ¬ (((((xs.toArray.size : Nat) : Int) - 1) == 0 && (-1 : Int) == 1 && xs.toArray.size == xs.toArray.size) = true) := by
    intro q
    rw [Bool.and_eq_true, Bool.and_eq_true] at q
    exact absurd q.1.2 (by decide)
  show wpAny _ _ (if ((((xs.toArray.size : Nat) : Int) - 1) == 0 && (-1 : Int) == 1 && xs.toArray.size == xs.toArray.size) = true then _ else _) _ _ s
  rw [if_neg hno, pick_back]
  first
    | exact wpAny_bind (m := Builtin.Tuple.tupleExact _) (wpAny_newObj_type (wpAny_pure ⟨_, rfl, wpAny_pure h⟩) ok)
    | exact wpAny_bind (m := Builtin.Tuple.tupleExact _) (wpAny_newObj_type (wpAny_bind (wpAny_pure (wpAny_pure ⟨_, rfl, wpAny_pure h⟩))) ok)
    | exact wpAny_bind (wpAny_bind (m := Builtin.Tuple.tupleExact _) (wpAny_newObj_type (wpAny_pure (wpAny_pure ⟨_, rfl, wpAny_pure h⟩)) ok))
    | exact wpAny_bind (wpAny_bind (m := Builtin.Tuple.tupleExact _) (wpAny_newObj_type (wpAny_pure ⟨_, rfl, wpAny_pure h⟩) ok))
end
def tBack (K : PySem.W.Frag) (te : TE) : TE := fun σ H Q => te σ H fun x H1 => ∃ a xs, x = .ref a ∧ SqT K H1 a xs ∧ ∀ p, H1 p = none → Q (.ref p) (upd H1 p (.tup xs.reverse))
theorem pe_revT {X : Cx} {e : Expr} {te : TE} {k : Nat} {p1 p2 p3 pos : Pos} (he : PE X e te) : PE X (.Subscript e (.Slice none none (some (.UnaryOp .USub (.Constant (.int 1) k p1) p2)) p3) pos) (tBack X.K te) := by
  refine ⟨fun pins s σ H Q I h => Subscript_ (thn (he.run pins s σ H _ I h) fun v s1 ⟨x, H1, I1, r1, a, xs, ex, hx, q⟩ => ?_)⟩
  subst ex
  cases r1
  have step : PO X (some (.UnaryOp .USub (.Constant (.int 1) k p1) p2)) (tPart (tUn (rU fun i => .int (-i)) (tC (.int 1)))) := po_some (pe_un un_neg pe_int)
  refine wpAny_Slice (thn (po_none.run pins s1 σ H1 (fun o H2 => o = none ∧ H2 = H1) I1 ⟨rfl, rfl⟩) fun vl s2 ⟨l, H2, I2, pl, el, e2⟩ => ?_)
  subst el e2
  refine thn (po_none.run pins s2 σ H2 (fun o H3 => o = none ∧ H3 = H2) I2 ⟨rfl, rfl⟩) fun vu s3 ⟨u, H3, I3, pu, eu, e3⟩ => ?_
  subst eu e3
  refine thn (step.run pins s3 σ H3 (fun o H4 => o = some (-1) ∧ H4 = H3) I3 ⟨1, rfl, -1, rfl, rfl, rfl⟩) fun vs s4 ⟨o, H4, I4, ps, eo, e4⟩ => ?_
  subst eo e4
  cases pl
  cases pu
  cases ps with
  | int i tk =>
  have I5 : L2.Inv X pins σ H4 { s4 with heap := s4.heap.push { cls := .type "slice", data := .fields #[.none, .none, .int (-1) tk] } } := I4.kept (t' := s4.toks) fun b ob z => Heap.get?_push_of_some _ z
  obtain ⟨its, r, ht, hz⟩ := I5.tuple hx
  have hlen := r.length
  show wpAny (model X.prog X.w) X.A (subscriptTail e (.Slice none none (some (.UnaryOp .USub (.Constant (.int 1) k p1) p2)) p3) (.ref a) (.ref s4.heap.objs.size)) (EP X pins σ Q) X.xe { s4 with heap := s4.heap.push { cls := .type "slice", data := .fields #[.none, .none, .int (-1) tk] } }
  refine tail_any (ops := [.ref a, .ref s4.heap.objs.size]) ht.typeIs (PyProof.Rows.slot_tuple_getitem.lookup) ?_ (by with_unfolding_all rfl)
  refine tuple_back ht (Heap.IsSliceOf.new _ .none .none _) ?_ (by omega)
  refine ⟨.ref _, _, I5.laid (t' := s4.toks) (o := .tup xs.reverse) (fun b ob z => Heap.get?_push_of_some _ z) (Nat.le_refl _) ?_, rfl, q _ (I5.hok.fresh (Nat.le_refl _))⟩
  exact ⟨by rw [List.length_reverse]; exact hz, _, r.reverse, ⟨_, Heap.get?_push_size _ rfl, rfl, _, rfl⟩⟩
theorem ev_back {K : PySem.W.Frag} {σ : L2.St} {G H : Hp} {te : TE} {ds : List PyData} (h : EvD te σ G H (.tuple ds)) : EvD (tBack K te) σ G H (.tuple ds.reverse) := fun G1 H1 a Q q => h G1 H1 a _ fun x G2 H2 b hx => by
  cases hx with
  | tup e1 e2 => exact ⟨_, _, rfl, Evl.st_of (b.gh _ _ e1), fun p hp => q _ _ _ (b.trans (Go.imm b.gh hp)) (dat_tup b.gh e2.rev hp)⟩
/-! ### enumerate of a tuple -/
set_option maxHeartbeats 1000000 in
theorem meets_enum_tup (a : Addr) (items : Array Value) :
    Meets (Builtin.«enumerate.__new__» ⟨[.type "enumerate", .ref a], []⟩) (fun _ R s => s.heap.IsTuple a items ∧
      R (.ok (.ret (.ref (s.heap.push { cls := .type "tuple_iterator", data := .fields #[.ref a, .int 0 0] }).objs.size)))
        { s with heap := (s.heap.push { cls := .type "tuple_iterator", data := .fields #[.ref a, .int 0 0] }).push { cls := .type "enumerate", data := .fields #[.none, .bool false, .ref s.heap.objs.size, rawInt 0, .none, .none] } }) := .of_wp fun prog w A R s h => by
    obtain ⟨hp, g, d, tk, os⟩ := s
    obtain ⟨h1, h⟩ := h
    have hsub := sub_enumerate
    have q1 : ∀ {A' : Around} {E Q : Value → Shared → Prop}, Q (.ref hp.objs.size) ⟨hp.push { cls := .type "tuple_iterator", data := .fields #[.ref a, .int 0 0] }, g, d, tk, os⟩ → wpAny (model prog w) A' (pyIter (.ref a)) Q E ⟨hp, g, d, tk, os⟩ :=
      fun q => (begins_tuple a items).iter prog w _ _ ⟨hp, g, d, tk, os⟩ _ h1 q
    wp_walk using q1
    refine wpAny_stack_any fun st => wpAny_pure ?_
    split
    · rename_i c _ _ _ _ _
      cases (c == Value.type "enumerate") <;> (wp_walk using q1; exact ⟨_, rfl, h⟩)
    · wp_walk using q1
      exact ⟨_, rfl, h⟩
theorem call_enum_tup {prog : Program} {w : World} {A : Around} {E Q : Value → Shared → Prop} {s : Shared} {a : Addr} {items : Array Value} (ht : s.heap.IsTuple a items)
    (h : ∀ h', IsEnum h' (s.heap.objs.size + 1) s.heap.objs.size 0 .none → h'.IsTupleIter s.heap.objs.size a 0 → h'.objs.size = s.heap.objs.size + 2 → (∀ b o, s.heap.get? b = some o → h'.get? b = some o) → Q (.ref (s.heap.objs.size + 1)) { s with heap := h' }) :
    wpAny (model prog w) A (call (.type "enumerate") [.ref a]) Q E s := by
  refine callType_new F.called_enumerate (by decide) (F.typeCall_enumerate_1 _) (F.newCall_enumerate_1 _) (fun obj => F.args_object_init_2 obj _) F.entry_enumerate_new (meets_enum_tup a items) ⟨ht, ?_⟩
  generalize ho : ({ cls := .type "tuple_iterator", data := .fields #[.ref a, .int 0 0] } : Obj) = o
  have hf : o.isFreed = false := by rw [← ho]; rfl
  have hz : (s.heap.push o).objs.size = s.heap.objs.size + 1 := Heap.size_push ..
  show _ ∧ _
  rw [hz]
  have hn := Heap.get?_push_size (s.heap.push o) (o := { cls := .type "enumerate", data := .fields #[.none, .bool false, .ref s.heap.objs.size, rawInt 0, .none, .none] }) rfl
  rw [hz] at hn
  refine ⟨⟨_, hn, rfl⟩, h _ hn ⟨o, Heap.get?_push_of_some _ (Heap.get?_push_size _ hf), by rw [← ho], by rw [← ho]; rfl⟩ (by rw [Heap.size_push, hz]) fun b o' x => Heap.get?_push_of_some _ (Heap.get?_push_of_some _ x)⟩
theorem enum_end_tup {prog : Program} {w : World} {A : Around} {E : Value → Shared → Prop} {s : Shared} {e it a : Addr} {i : Nat} {items : Array Value} {old : Value} {Q : Option Value → Shared → Prop} (hh : A.handled = none)
    (he : IsEnum s.heap e it i old) (hit : s.heap.IsTupleIter it a i) (ht : s.heap.IsTuple a items) (hx : items[i]? = none) (hQ : ∀ h', Heap.ExtBut it s.heap h' → Q none { s with heap := h' }) : wpAny (model prog w) A (pyNext (.ref e)) Q E s := by
  have hT : s.TypeIs (.ref e) "enumerate" := ⟨_, he, rfl⟩
  unfold pyNext
  refine wpAny_bind (wpAny_attempt (wpAny_callSpecial?_slot (name := Str.ofString "__next__") hT F.slot_enumerate_next (wpAny_call_entry F.slot_enumerate_next hT F.entry_enumerate_next ?_ (F.args_enumerate_next_1 _))))
  show wpAny _ _ (field (.ref e) 2 >>= _) _ _ s
  exact wpAny_bind (wpAny_field he rfl (x := .ref it) rfl (wpAny_bind (wpAny_nextOf_tuple_end hh hit ht hx fun h' x he' hx' => let ⟨o, ho, hc⟩ := hx'; wpAny_bind (wpAny_isInstance (T := "StopIteration") (b := true) ⟨o, ho, hc⟩ isSubtype_stop (wpAny_pure (hQ _ he'))))))
/-- the tuple at a, each item in a new pair -/
def IteT (K : PySem.W.Frag) (a : Addr) : It :=
  ⟨fun i H => ∃ (xs : List V) (x : V), SqT K H a xs ∧ xs[i]? = some x, fun i H v H' => ∃ T x, v = .ref T ∧ H T = none ∧ H' = upd H T (.tup [.int (i : Nat), x]) ∧ ∀ xs, SqT K H a xs → xs[i]? = some x, fun i H => ∃ xs : List V, SqT K H a xs ∧ xs.length ≤ i⟩
theorem turn_enumT {P : Program} {w : World} {K : PySem.W.Frag} {elts : List Expr} {kk : Nat} {tpos : Pos} (a e it : Addr) :
    Turn P w K (.Tuple elts kk tpos) (IteT K a) [e, it] e (fun i h => (∃ old, IsEnum h e it ((i : Nat) : Int) old) ∧ h.IsTupleIter it a i ∧ e ≠ it ∧ it ≠ a ∧ e ≠ a) where
  mem := by simp
  obj := fun i h st b hb => by
    obtain ⟨⟨old, he⟩, ⟨o, ho, hc, hd⟩, _⟩ := st
    have e' : b = e ∨ b = it := by simpa using hb
    rcases e' with z | z
    · exact z ▸ ⟨_, he, fun v q => nomatch q⟩
    · exact z ▸ ⟨o, ho, fun v q => by rw [hd] at q; cases q⟩
  keep := fun i h h' st k => let ⟨⟨old, he⟩, hi, hne⟩ := st; ⟨⟨old, k e (by simp) _ he⟩, hi.at fun o q => k it (by simp) o q, hne⟩
  item := by
    intro X hP hw hK hc i pins s σ H E I hf st hg
    subst hP hw hK
    obtain ⟨⟨old, he⟩, hit, hne, hia, hea⟩ := st
    obtain ⟨xs, x, hq, hx⟩ := hg
    obtain ⟨its, rv, p, hz⟩ := I.tuple hq
    obtain ⟨u, hu, ru⟩ := rv.get hx
    have hel : e < s.heap.objs.size := Heap.lt_size he
    have hil : it < s.heap.objs.size := by obtain ⟨_, q, _⟩ := hit; exact Heap.lt_size q
    have hui : its.toArray[i]? = some u := by simpa using hu
    have hlt : i < its.toArray.size := by
      have := (List.getElem?_eq_some_iff.mp hu).1
      simpa using this
    refine wpAny_pyNext_enum_itemD (Draws.tuple (A := X.A.in1) (I.ok.hd hc) it a (Ne.symm hia) its.toArray) he ⟨hit, show s.heap.IsTuple a its.toArray from p⟩ hlt hne (by simp [hne, hea]) fun y h' tk hy ho hst' hT hsz hk => ?_
    have hy2 : y = u := Option.some.inj (hy.symm.trans hui)
    subst hy2
    refine ⟨_, rfl, wpAny_letOwnedTupleGo_enum (s := { s with heap := h', toks := tk + 1 }) ho fun h'' he' sb => ?_⟩
    have hT2 : h''.get? s.heap.objs.size = some { cls := .type "tuple", data := .seq #[.int i tk, y] } := (sb.2 _ (Nat.ne_of_gt hel)).trans hT
    have new : ObjOk X.prog X.w (upd H s.heap.objs.size (.tup [.int (i : Nat), x])) h'' s.heap.objs.size (.tup [.int (i : Nat), x]) := ⟨by show 2 ≤ sizeLine; decide, [.int i tk, y], .cons ⟨_, rfl⟩ (.cons ru .nil), ⟨_, hT2, rfl, _, rfl⟩⟩
    have I1 : L2.Inv X pins σ (upd H s.heap.objs.size (.tup [.int (i : Nat), x])) { s with heap := h'', toks := tk + 1 } :=
      Inv.turnedNew (ch := [e, it]) I (fun b ob hb q => (sb.2 b (fun z => hb (by simp [z]))).trans (hk b ob (fun z => hb (by simp [z])) (fun z => hb (by simp [z])) q)) hf (Nat.le_refl _) new
    refine ⟨.ref s.heap.objs.size, _, I1, rfl, ⟨_, x, rfl, I.hok.fresh (Nat.le_refl _), rfl, fun ys hy => by rw [I.tuple_inj hy hq]; exact hx⟩, ⟨⟨y, ?_⟩, hst'.1.at fun o q => (sb.2 it (Ne.symm hne)).trans q, hne, hia, hea⟩, fun b hb => ?_⟩
    · have e1 : ((i + 1 : Nat) : Int) = (i : Int) + 1 := by omega
      rw [e1]; exact he'
    · have e' : b = e ∨ b = it := by simpa using hb
      have hb' : b < s.heap.objs.size := by rcases e' with z | z <;> rw [z] <;> assumption
      rw [upd_ne (Nat.ne_of_lt hb')]
      exact (hf b hb).1
  done := by
    intro X hP hw hK hc i pins s σ H E I hf st hg
    subst hP hw hK
    obtain ⟨⟨old, he⟩, hit, hne, hia, hea⟩ := st
    obtain ⟨xs, hq, hx⟩ := hg
    obtain ⟨its, rv, p, hz⟩ := I.tuple hq
    obtain ⟨f0, f1, f2, f3, f4, f5⟩ := hf it (by simp)
    have hl := rv.length
    refine enum_end_tup (I.ok.hd hc) he hit (show s.heap.IsTuple a its.toArray from p) (by simp; omega) fun h' eb => ⟨rfl, Inv.turned (t' := s.toks) I (fun b o hb q => eb b o hb q) f0 f1 f3 f4 f5⟩
  self := fun A i s Q E st h => let ⟨⟨_, he⟩, _⟩ := st; wpAny_pyIter_enum he h
def iEnumT (K : PySem.W.Frag) (ta : TA) : TI := fun σ H R => ta σ H fun vs H1 => ∃ a xs, vs = [.ref a] ∧ SqT K H1 a xs ∧ R (IteT K a) H1
theorem pi_enumT {X : Cx} {e : Expr} {ta : TA} {p pos tpos : Pos} {elts : List Expr} {kk : Nat} (hg : Gl X "enumerate") (hm : X.mg "enumerate" = none) (ha : PA X [e] ta) (hs : starEach [e] X.env = [(false, eval e X.env)] := by rfl) : PI X (.Tuple elts kk tpos) (.Call (.Name "enumerate" p) [e] [] pos) (iEnumT X.K ta) := by
  refine ⟨fun pins s σ H R I h => Call_ (ld_blt I hg hm boot_enumerate (PyProof.Rows.callWith_type1 (thn (ha.run pos pins s σ H _ I h) fun us s1 ⟨vs, H1, I1, r1, a, xs, ex, hq, q⟩ => ?_) hs rfl))⟩
  subst ex
  cases r1 with
  | cons r rr =>
    cases rr
    cases r
    obtain ⟨its, rv, p', hz⟩ := I1.tuple hq
    have hal : a < s1.heap.objs.size := p'.lt
    refine call_enum_tup (show s1.heap.IsTuple a its.toArray from p') fun h' he hit hsz hk => wpAny_pyIter_enum he ?_
    have I2 : L2.Inv X pins σ H1 { s1 with heap := h' } := I1.kept (t' := s1.toks) hk
    refine ⟨s1.heap.objs.size + 1, [s1.heap.objs.size + 1, s1.heap.objs.size], _, _, H1, rfl, I2, turn_enumT a (s1.heap.objs.size + 1) s1.heap.objs.size, ⟨⟨.none, he⟩, hit, Nat.succ_ne_self _, Nat.ne_of_gt hal, Nat.ne_of_gt (Nat.lt_succ_of_lt hal)⟩, fun b hb => ?_, q⟩
    have e' : b = s1.heap.objs.size + 1 ∨ b = s1.heap.objs.size := by simpa using hb
    have hle : s1.heap.objs.size ≤ b := by rcases e' with z | z <;> rw [z] <;> simp
    exact I1.fpOk hle (I1.hok.fresh hle)
end G

/-! all(is_open(p) for p in xs): the call of is_open in a generator's frame. -/
namespace G
open PySem PySem.Spec PyProof.Rows L2
section
variable {P : Program} {w : World} {A : Around} {E : Value → Shared → Prop} {s : Shared}
theorem keeps_refl (s : Shared) : Keeps s s := ⟨s.heap, s.toks, by cases s; rfl, fun _ _ e => e⟩
theorem keeps_tok {s s' : Shared} (h : Keeps s s') (t : Nat) : Keeps s { s' with toks := t } := by
  obtain ⟨h', tk, e, k⟩ := h
  subst e
  exact ⟨h', t, rfl, k⟩
/-- t[0] == 'k' of the name x -/
theorem raw_key {env : Env} {m : Str → Option Value} {x k key : Str} {t : Addr} {tk : Tok} {r : List Value} {px p0 p1 p2 p3 : Pos} {j j2 : Nat} {Q : Value → Shared → Prop} (hk : env.scope.kind = .function) (hx : env.kindOf x = some .local) (hd : (x == ("__debug__" : Str)) = false)
    (hn : s.heap.Ns env.locals m) (hm : m x = some (.ref t)) (ht : IsTup s.heap t (Value.str k tk :: r).toArray) (hl : r.length < 1000000) (h : ∀ n, Q (.bool (k.cps.toList == key.cps.toList)) { s with toks := n }) :
    wpAny (model P w) A (eval (.Compare (.Subscript (.Name x px) (.Constant (.int 0) j p0) p1) [.Eq] [.Constant (.str key) j2 p2] p3) env) Q E s := by
  refine wpAny_Compare1 (Subscript_ (wpAny_Name (wpAny_loadName_local hk hx hn hm (wpAny_Constant_int ?_)) hd))
  refine subscriptTail_builtinR (x := .str k tk) ht.typeIs slot_tuple_getitem.lookup (getItem_tuple (j := 0) (s := { s with toks := s.toks + 1 }) ht (by omega) (by omega) ?_ rfl ⟨rfl, ?_⟩) rfl
  · rw [List.size_toArray, List.length_cons]
    unfold seqIndex?
    simp
  · refine Calls.Constant_str (PySem.P.eq_str ?_)
    exact h _
theorem raw_open {f t : Addr} {oc : Value} {od : Option Addr} {osl : Array (Option Value)} {kV doc pm cdv ct : Value} {an : Option Addr} {k : Str} {tk : Tok} {r : List Value} {Q : Value → Shared → Prop} (hdp : A.depth < recursionLimit) (lim : s.heap.NoLimit)
    (ho : s.heap.get? f = some ⟨oc, od, .func (PySem.W.fnOf "is_open" "is_open" (defArgs s_is_open) (defBody s_is_open) (defScope s_is_open) .none kV doc pm an cdv ct), osl⟩) (hcd : s.heap.CodeRec cdv "is_open")
    (ht : IsTup s.heap t (Value.str k tk :: r).toArray) (hl : r.length < 1000000) (h : ∀ s', Keeps s s' → Q (.bool (k.cps.toList == ("any" : Str).cps.toList || k.cps.toList == ("name" : Str).cps.toList)) s') : wpAny (model P w) A (call (.ref f) [.ref t]) Q E s := by
  refine wpAny_call (codeAny_call_function hdp ho rfl rfl rfl rfl hcd ?_)
  refine (BindsTo.of_eq (binds := [("pattern", .ref t)]) rfl) _ _ _ _ ?_
  refine wpAny_newFunctionEnv_cells rfl (fun y hy => ?_) fun env he s1 x => ?_
  · have e : y = (("pattern" : Str), Value.ref t) := by simpa using hy
    subst e
    exact .inl rfl
  · subst he
    refine ⟨lim.keeps x.toInCall.keep, codeAny_func ?_⟩
    obtain ⟨h1, tk1, rfl, hk⟩ := x.done
    have hn := x.toInCall.ns
    have ht1 : IsTup h1 t (Value.str k tk :: r).toArray := by
      obtain ⟨o, e1, e2⟩ := ht
      exact ⟨o, hk _ _ e1, e2⟩
    have kp : ∀ n, Keeps s { s with heap := h1, toks := n } := fun n => ⟨h1, n, rfl, hk⟩
    refine wpAny_execs_cons (wpAny_Return_some (BoolOp_or (raw_key rfl rfl rfl hn rfl ht1 hl fun n => wpAny_truthy_bool ?_)))
    cases hb : (k.cps.toList == ("any" : Str).cps.toList) with
    | true =>
      rw [hb] at h
      exact h _ (kp n)
    | false =>
      rw [hb] at h
      refine BoolOp_one (raw_key rfl rfl rfl hn rfl ht1 hl fun n2 => ?_)
      exact h _ (kp n2)
end
end G

namespace G
open PySem PySem.Spec PyProof.Rows L2 Evl
/-- the values xs are tuples that begin with texts; which of them is_open takes -/
def Opens (H : Hp) (x : V) (b : Bool) : Prop := ∃ (t : Addr) (k : Str) (ys : List V), x = .ref t ∧ H t = some (.tup (.str k :: ys)) ∧ ys.length < 1000000 ∧ b = (k.cps.toList == ("any" : Str).cps.toList || k.cps.toList == ("name" : Str).cps.toList)
/-- is_open as it stands -/
structure OpenAt (K : PySem.W.Frag) (mg : Str → Option Value) : Prop where
  ex : ∃ (f : Addr) (oc : Value) (od : Option Addr) (osl : Array (Option Value)) (kV doc pm cdv ct : Value) (an : Option Addr),
    K.lookup f = some ⟨oc, od, .func (PySem.W.fnOf "is_open" "is_open" (defArgs s_is_open) (defBody s_is_open) (defScope s_is_open) .none kV doc pm an cdv ct), osl⟩ ∧ PySem.W.codeIn K cdv "is_open" = true ∧ PySem.W.keepIn K (.ref f) = true ∧ mg "is_open" = some (.ref f)
def Heap2 (N : Nat) (J : Addr) (h h' : Heap) : Prop := ∀ b o, b < N → b ≠ J → h.get? b = some o → h'.get? b = some o
/-- the element's call -/
theorem elt_open {P : Program} {w : World} {K : PySem.W.Frag} {mg : Str → Option Value} {A : Around} {E : Value → Shared → Prop} {s : Shared} {env : Env} {m : Str → Option Value} {x : Str} {t : Addr} {k : Str} {tk : Tok} {r : List Value} {p p2 pos : Pos}
    (M : OpenAt K mg) (KX : K.In s.heap) (hgl : s.heap.Ns mainGlobals mg) (hdp : A.depth < recursionLimit) (lim : s.heap.NoLimit) (hk : env.scope.kind = .function) (hx : env.kindOf x = some .local) (hf : env.kindOf "is_open" = some .globalImplicit) (hG : env.globals = mainGlobals)
    (hd : (x == ("__debug__" : Str)) = false) (hn : s.heap.Ns env.locals m) (hm : m x = some (.ref t)) (ht : IsTup s.heap t (Value.str k tk :: r).toArray) (hl : r.length < 1000000)
    (he : starEach [.Name x p2] env = (false, eval (.Name x p2) env) :: starEach [] env) :
    wpAny (model P w) A (eval (.Call (.Name "is_open" p) [.Name x p2] [] pos) env) (fun y s₃ => y = .bool (k.cps.toList == ("any" : Str).cps.toList || k.cps.toList == ("name" : Str).cps.toList) ∧ Keeps s s₃) E s := by
  obtain ⟨f, oc, od, osl, kV, doc, pm, cdv, ct, an, lk, cd, kp, mf⟩ := M.ex
  refine wpAny_Call_Name_kw (Calls.Name_function_global hk hf (Calls.loadGlobal_global (by rw [hG]; exact hgl) mf ?_) rfl)
  refine PySem.W.callWith_K (h₀ := s.heap) KX kp ?_ he rfl
  rw [he]
  show wpAny _ _ (spliced ((false, eval (.Name x p2) env) :: backTo pos (starEach [] env))) _ _ s
  refine Calls.spliced_cons (wpAny_Name (wpAny_loadName_local hk hx hn hm (Calls.spliced_nil ⟨KX, ?_⟩)) hd)
  exact raw_open hdp lim (KX _ _ lk) (PySem.W.codeRec_of KX cd) ht hl fun s' hs => ⟨rfl, hs⟩
def trB (bs : List Bool) (j : Nat) : Bool := bs.getD j false
theorem all_trB (bs : List Bool) : (List.range bs.length).all (trB bs) = bs.all id := by
  rw [Bool.eq_iff_iff, List.all_eq_true, List.all_eq_true]
  constructor
  · intro h b hb
    obtain ⟨j, hj, e⟩ := List.getElem_of_mem hb
    have q := h j (List.mem_range.mpr hj)
    unfold trB at q
    rw [List.getD_eq_getElem?_getD, List.getElem?_eq_getElem hj, Option.getD_some, e] at q
    exact q
  · intro h j hj
    have hj' := List.mem_range.mp hj
    unfold trB
    rw [List.getD_eq_getElem?_getD, List.getElem?_eq_getElem hj', Option.getD_some]
    exact h _ (List.getElem_mem hj')
section
variable {X : Cx} {pins : List (Addr × Obj)} {σ : L2.St} {H : Hp} {s : Shared}
/-- the generator g over the list a, ready -/
def Rdy (X : Cx) (pins : List (Addr × Obj)) (σ : L2.St) (H1 : Hp) (P : Addr) (bs : List Bool) (g : Addr) (s5 : Shared) : Prop :=
  ∃ (fp wr : List Addr) (G : Array GenState → Array GenState → Prop) (F : Nat → Value → Prop) (St : Nat → Shared → Prop),
    WalksS X.prog X.w X.A.in1 g fp wr G bs.length F St ∧ St 0 s5 ∧ TruthOf X.prog X.w X.A.in1 F (trB bs) ∧ ∀ s', Moved wr G s5 s' → ∃ H2, GxR.Tabbed P H1 H2 ∧ L2.Inv X pins σ H2 s'
theorem gen_opens {c P : Addr} {iter : Expr} {x : Str} {px p p2 pos gpos : Pos} {scope : Scope} {te : TE} {k : Nat} {Q' : Value → Shared → Prop} {R : Addr → List Bool → Hp → Prop}
    (hr : Room k X.A) (TB : GxR.TabB X.base X.mg c P) (hcode : X.env.code = .ref c) (S : GxR.GenS X.env scope x) (hop : scope.names.lookup ("is_open" : Str) = some NameKind.globalImplicit) (hdx : (x == ("__debug__" : Str)) = false) (M : OpenAt X.K X.mg) (hi : PE X iter te) (hs : ∀ v, genFold iter X.env v = pure v)
    (he : ∀ env : Env, starEach [.Name x p2] env = (false, eval (.Name x p2) env) :: starEach [] env) (I : L2.Inv X pins σ H s)
    (h : te σ H fun v H1 => ∃ (a : Addr) (xs : List V) (bs : List Bool), v = .ref a ∧ H1 a = some (.lst xs) ∧ Paired (Opens H1) xs bs ∧ GxR.TabG H1 P ∧ R a bs H1) (hQ : ∀ a bs H1 g s5, R a bs H1 → Rdy X pins σ H1 P bs g s5 → Q' (.ref g) s5) :
    wpAny (model X.prog X.w) X.A (eval (.GeneratorExp (.Call (.Name "is_open" p) [.Name x p2] [] pos) [⟨.Name x px, iter, [], 0⟩] scope gpos) X.env) Q' X.xe s := by
  refine wpAny_GeneratorExp_walksQD hr.hd S.co (closure_ok S.free) S.cell S.dot S.loc S.kind (by have := hr.dp; omega) ?_ hs
  refine thn (hi.run pins s σ H _ I h) fun xv s1 ⟨v, H1, I1, r1, a, xs, bs, ev, ha, hbs, ⟨ps, hP, htr⟩, q1⟩ => ?_
  subst ev
  cases r1
  obtain ⟨its, rv, pl, hz⟩ := I1.list (SqL.of ha)
  refine wpAny_pyIter_list pl.isList ?_
  generalize hob : ({ cls := .type "list_iterator", data := .fields #[.ref a, .int 0 0] } : Obj) = ob
  have hPs : s1.heap.get? P = some { cls := .none, data := .fields ps } := I1.hok P _ hP
  have hPlt : P < s1.heap.objs.size := Heap.lt_size hPs
  have hP2 : (s1.heap.push ob).get? P = some { cls := .none, data := .fields ps } := Heap.get?_push_of_some _ hPs
  have cd : PySem.W.CodeHd (s1.heap.push ob) c P := TB.code.keeps fun b u e => Heap.get?_push_of_some _ (I1.bk b u e)
  have lim2 : (s1.heap.push ob).NoLimit := I1.nolimit.push ob
  have hil : (s1.heap.push ob).get? s1.heap.objs.size = some ob := Heap.get?_push_size _ (by rw [← hob]; rfl)
  have hlen : its.length = bs.length := by rw [← rv.length]; exact Paired.length hbs
  have haP : a ≠ P := fun e => by rw [e, hP] at ha; cases ha
  have cont : ∀ (code : Value) (h3 : Heap) (tk : Nat) (ps' : Array Value), Heap.ExtBut P (s1.heap.push ob) h3 → (s1.heap.push ob).objs.size ≤ h3.objs.size → h3.get? P = some { cls := .none, data := .fields ps' } → (∃ more, ps' = ps ++ more) → TriplesOk ps'.toList →
      wpAny (model X.prog X.w) X.A (builtinsFor X.env.globals X.env.builtins) (fun bi s₄ =>
        ∃ Ia fp wr n₀ Pf St₀ pz F, Value.ref s1.heap.objs.size = .ref Ia ∧ (∀ A' : Around, A'.handled = none → Walks X.prog X.w A' Ia fp wr n₀ Pf St₀) ∧ St₀ 0 s₄.heap ∧ (∀ b ∈ fp, b < s₄.heap.objs.size) ∧ s₄.heap.NoLimit ∧ cStatics ∉ wr ∧
          (∀ href : Heap, (∀ b o, s₄.heap.get? b = some o → href.get? b = some o) →
            QuietGenD X.prog X.w (genEnv scope (cloFrom X.env.cells scope.names []) s₄.heap.objs.size code bi X.env) x [] (.Call (.Name "is_open" p) [.Name x p2] [] pos) (List.range s₄.heap.objs.size) wr Pf pz F href (X.A.depth + 1) (X.A.units + 8)) ∧
          (∀ a h₅ tk gs, gs.bare = true → s₄.heap.objs.size < a → h₅.objs.size = a + 1 → (∀ b o, s₄.heap.get? b = some o → h₅.get? b = some o) →
            WalksS X.prog X.w X.A.in4 a (a :: s₄.heap.objs.size :: List.range s₄.heap.objs.size) (s₄.heap.objs.size :: wr) (GenOnlyQ s₄.gens.size) (passing pz n₀ 0).length
              (fun j y => ∃ i, (passing pz n₀ 0)[j]? = some i ∧ F i y) (GenAt X.prog X.w X.A.in4 a s₄.gens.size s₄.heap.objs.size (List.range s₄.heap.objs.size) wr pz n₀ F) →
            GenAt X.prog X.w X.A.in4 a s₄.gens.size s₄.heap.objs.size (List.range s₄.heap.objs.size) wr pz n₀ F 0 { s₄ with gens := s₄.gens.push gs, toks := tk, heap := h₅ } →
            Q' (.ref a) { s₄ with gens := s₄.gens.push gs, toks := tk, heap := h₅ })) X.xe { s1 with heap := h3, toks := tk } := by
    intro code h3 tk ps' hx hsz hP3 hmore ht3
    obtain ⟨bm, obm, e1, e2, e3, e4, e5, e6, e7, e8⟩ := TB.bm
    have hns1 : ∃ oS eS pS, s1.heap.get? cStatics = some oS ∧ oS.data = .dict eS pS := by
      obtain ⟨_, o', es, ep, ho, hd, _⟩ := I1.nolimit.choose_spec.1 |> fun z => (⟨0, z⟩ : ∃ _ : Nat, _)
      exact ⟨o', es, ep, ho, hd⟩
    obtain ⟨oS, eS, pS, hoS, hdS⟩ := hns1
    have hcP : cStatics ≠ P := fun e => by
      rw [e, hPs] at hoS
      cases hoS
      cases hdS
    have hcl : cStatics < s1.heap.objs.size := Heap.lt_size hoS
    have sz2 : (s1.heap.push ob).objs.size = s1.heap.objs.size + 1 := Heap.size_push ..
    have keep3 : ∀ b u, b ≠ P → s1.heap.get? b = some u → h3.get? b = some u := fun b u hb e => hx b u hb (Heap.get?_push_of_some _ e)
    have glob1 : s1.heap.Ns mainGlobals X.mg := I1.mod.glob.keeps I1.bk
    refine wpAny_builtinsFor (m := X.mg) (by rw [I1.ok.glob]; exact (glob1.push ob).extBut hx TB.gP) e1 e2 (keep3 _ _ e4 (I1.bk _ _ e5)) e6 e7 e8 ?_
    refine ⟨s1.heap.objs.size, [s1.heap.objs.size, a], [s1.heap.objs.size], its.toArray.size, (fun i v => its.toArray[i]? = some v), (fun i h => h.IsListIter s1.heap.objs.size a i ∧ h.IsList a its.toArray), (fun _ => true), (fun i y => ∃ b, bs[i]? = some b ∧ y = .bool b), rfl,
      fun A' hA => Walks.list hA s1.heap.objs.size a (Nat.ne_of_lt (Heap.lt_size pl.isList.choose_spec.1)) its.toArray, ?_, ?_, lim2.extBut hx hcP, ?_, ?_, ?_⟩
    · refine ⟨⟨ob, hx _ _ (Nat.ne_of_gt hPlt) hil, by rw [← hob], by rw [← hob]; rfl⟩, ?_⟩
      obtain ⟨o, e, r⟩ := pl.isList
      exact ⟨o, keep3 _ _ haP e, r⟩
    · intro b hb
      have hal : a < s1.heap.objs.size := Heap.lt_size pl.isList.choose_spec.1
      have hsz' : s1.heap.objs.size + 1 ≤ h3.objs.size := by rw [← sz2]; exact hsz
      rcases List.mem_cons.mp hb with z | z
      · rw [z]
        exact hsz'
      · have z2 : b = a := by simpa using z
        rw [z2]
        exact Nat.lt_of_lt_of_le (Nat.lt_succ_of_lt hal) hsz'
    · intro z
      have z : cStatics = s1.heap.objs.size := by simpa using z
      exact Nat.ne_of_lt hcl z
    · intro href hhref
      refine ⟨fun A' E' i v s₂ m₂ hA hD hU hPv hn hm hk => ?_, fun A' E' i v s₂ m₂ hA hD hU hPv hp hn hm hk => ?_⟩
      · simp only [List.forIn_nil]
        exact wpAny_pure ⟨rfl, keeps_refl _⟩
      · -- what stood ahead stands
        have keep2 : ∀ b u, b ≠ P → s1.heap.get? b = some u → s₂.heap.get? b = some u := fun b u hb e => by
          have hlt := Heap.lt_size e
          refine hk b (List.mem_range.mpr (Nat.lt_of_lt_of_le hlt (Nat.le_trans (by rw [sz2]; exact Nat.le_succ _) hsz))) (fun z => ?_) u (hhref b u (keep3 b u hb e))
          have z : b = s1.heap.objs.size := by simpa using z
          exact Nat.ne_of_lt hlt z
        have baseP : ∀ b u, X.base.get? b = some u → b ≠ P := fun b u e z => by
          have := (I1.bs b u e).2
          rw [z, hP] at this
          cases this
        have kb : ∀ b u, X.base.get? b = some u → s₂.heap.get? b = some u := fun b u e => keep2 b u (baseP b u e) (I1.bk b u e)
        have hix : ∃ xv, xs[i]? = some xv ∧ RelV xv v := by
          have hv : its[i]? = some v := by simpa using hPv
          have hil2 : i < xs.length := by
            have := (List.getElem?_eq_some_iff.mp hv).1
            rw [rv.length]
            exact this
          obtain ⟨u, e1, e2⟩ := rv.get (List.getElem?_eq_getElem hil2)
          rw [hv] at e1
          cases e1
          exact ⟨_, List.getElem?_eq_getElem hil2, e2⟩
        obtain ⟨xv, hxv, rxv⟩ := hix
        have hop2 : ∃ b, bs[i]? = some b ∧ Opens H1 xv b := by
          have key : ∀ (ys : List V) (cs : List Bool) (j : Nat) (y : V), Paired (Opens H1) ys cs → ys[j]? = some y → ∃ b, cs[j]? = some b ∧ Opens H1 y b := fun ys cs j y hp => by
            induction hp generalizing j with
            | nil => intro e; simp at e
            | cons r t ih =>
              intro e
              cases j with
              | zero =>
                simp at e
                subst e
                exact ⟨_, rfl, r⟩
              | succ j => simpa using ih j (by simpa using e)
          exact key xs bs i xv hbs hxv
        obtain ⟨b, hb, t, kk, ys, ext, htup, hys, eb⟩ := hop2
        subst ext
        cases rxv
        obtain ⟨its2, r2, ⟨o2, g1, g2, g3⟩, _⟩ := I1.tuple (SqT.of htup)
        have htP : t ≠ P := fun z => by
          rw [z, hP] at htup
          cases htup
        cases r2 with
        | cons r2 r3 =>
          obtain ⟨tk2, rfl⟩ := r2
          refine wpAny_mono (elt_open M (I1.ok.mod.kin.keeps kb) (I1.mod.glob.keeps kb) (by have := hr.dp; omega) (I1.ok.mod.nolimit.keeps kb) S.kind (show List.lookup x scope.names = some .local from S.loc) hop (show X.env.globals = mainGlobals from I1.ok.glob) hdx hn hm ⟨o2, keep2 _ _ htP g1, g2, g3⟩ (by rw [← r3.length]; exact hys) (he _)) (fun y s3 q => ⟨⟨b, hb, ?_⟩, q.2⟩) fun _ _ e => e
          rw [q.1, eb]
    · intro g h5 tk5 gs hgb hag hsz5 hk5 W5 hat
      simp only [GxR.passing_true, List.length_range] at W5
      have hbl : its.toArray.size = bs.length := by rw [List.size_toArray]; exact hlen
      rw [hbl] at W5 hat
      refine hQ a bs H1 g _ q1 ⟨_, _, _, _, _, W5.in4_1, hat, ?_, fun s' hm => ?_⟩
      · intro j y sj Qj Ej hy hQj
        obtain ⟨i, hij, b, hb, rfl⟩ := hy
        obtain ⟨hj, ej⟩ := List.getElem?_eq_some_iff.mp hij
        rw [List.getElem_range] at ej
        subst ej
        have hQ2 : Qj (trB bs j) sj := hQj
        unfold trB at hQ2
        rw [List.getD_eq_getElem?_getD, hb, Option.getD_some] at hQ2
        exact wpAny_truthy_bool hQ2
      · obtain ⟨more, em⟩ := hmore
        have nwr : ∀ b u, s1.heap.get? b = some u → b ∉ h3.objs.size :: [s1.heap.objs.size] := fun b u e hb => by
          have hl := Heap.lt_size e
          have hsz' : s1.heap.objs.size + 1 ≤ h3.objs.size := by rw [← sz2]; exact hsz
          rcases List.mem_cons.mp hb with z | z
          · rw [z] at hl
            have h9 : (h3.objs.size : Nat) < s1.heap.objs.size := hl
            omega
          · have z : b = s1.heap.objs.size := by simpa using z
            exact Nat.ne_of_lt hl z
        have J := GxR.inv_tab (more := more) (h' := s'.heap) (g' := s'.gens) (d' := s'.drawn) (t' := s'.toks) I1 hP (fun b u hb e => hm.heap b u (nwr b u e) (hk5 b u (keep3 b u hb e)))
          (by rw [← em]; exact hm.heap P _ (nwr P _ hPs) (hk5 P _ hP3)) (AllBare.movedS (I1.bare.push hgb) hm)
        rw [GxR.sh_eta s1 s' hm.os] at J
        exact ⟨upd H1 P (.tbl (ps ++ more)), ⟨⟨ps ++ more, upd_same, by rw [← em]; exact ht3⟩, fun b hb => upd_ne hb⟩, J⟩
  refine ⟨lim2, ?_⟩
  cases hf : codeAmong gpos ps.toList with
  | none =>
    refine wpAny_genexprCodeX hcode (cd.code hP2 htr) (cd.tab hP2) hf fun c' h' tk hx hge hlt hco' _ htab' _ => ?_
    obtain ⟨o1, vs, f1, tf, fl, tg, inF, tx, tt, op, _, _, _, _, _, _, _, _, _, htr2, _⟩ := hco'
    exact cont _ h' tk _ hx (Nat.le_trans hge (Nat.le_of_lt hlt)) htab'.2 ⟨_, rfl⟩ htr2
  | some cv =>
    refine wpAny_genexprCode_hit hcode (cd.code hP2 htr) hf ?_
    exact (cont cv (s1.heap.push ob) s1.toks ps (Heap.ExtBut.refl _ _) (Nat.le_refl _) hP2 ⟨#[], by simp⟩ htr)
end
/-- all(is_open(p) for p in e): behind it the def's table may have grown -/
def tAllO (P : Addr) (te : TE) : TE := fun σ H Q => te σ H fun v H1 => ∃ (a : Addr) (xs : List V) (bs : List Bool), v = .ref a ∧ H1 a = some (.lst xs) ∧ Paired (Opens H1) xs bs ∧ GxR.TabG H1 P ∧ ∀ H2, GxR.Tabbed P H1 H2 → Q (.bl (bs.all id)) H2
theorem pe_allO {X : Cx} {c P : Addr} {iter : Expr} {x : Str} {px p p2 p3 pos pos2 gpos : Pos} {scope : Scope} {te : TE} {k : Nat} (hr : Room k X.A) (hg : Gl X "all") (hm : X.mg "all" = none) (TB : GxR.TabB X.base X.mg c P) (hcode : X.env.code = .ref c) (M : OpenAt X.K X.mg) (S : GxR.GenS X.env scope x) (hop : scope.names.lookup ("is_open" : Str) = some NameKind.globalImplicit)
    (hdx : (x == ("__debug__" : Str)) = false) (hi : PE X iter te) (hs : ∀ v, genFold iter X.env v = pure v) (he2 : ∀ env : Env, starEach [.Name x p2] env = (false, eval (.Name x p2) env) :: starEach [] env)
    (he : starEach [.GeneratorExp (.Call (.Name "is_open" p) [.Name x p2] [] pos) [⟨.Name x px, iter, [], 0⟩] scope gpos] X.env = (false, eval (.GeneratorExp (.Call (.Name "is_open" p) [.Name x p2] [] pos) [⟨.Name x px, iter, [], 0⟩] scope gpos) X.env) :: starEach [] X.env := by rfl) :
    PE X (.Call (.Name "all" p3) [.GeneratorExp (.Call (.Name "is_open" p) [.Name x p2] [] pos) [⟨.Name x px, iter, [], 0⟩] scope gpos] [] pos2) (tAllO P te) := by
  refine ⟨fun pins s σ H Q I h => wpAny_Call_Name_kw (ld_blt I hg hm (by decide +kernel : bootBuiltins "all" = some (.builtin "all")) (PyProof.Rows.callWith_builtin1 ?_ he (by rfl)))⟩
  rw [he]
  show wpAny _ _ (spliced ((false, eval (.GeneratorExp (.Call (.Name "is_open" p) [.Name x p2] [] pos) [⟨.Name x px, iter, [], 0⟩] scope gpos) X.env) :: backTo pos2 (starEach [] X.env))) _ _ s
  refine Calls.spliced_cons (gen_opens (R := fun a bs H1 => ∀ H2, GxR.Tabbed P H1 H2 → Q (.bl (bs.all id)) H2) hr TB hcode S hop hdx M hi hs he2 I h fun a bs H1 g s5 hR hG => Calls.spliced_nil ?_)
  obtain ⟨fp, wr, G, F, St, W, hst, htr, hI⟩ := hG
  refine call_all_walkS (W.self 0 _ _ _ hst ⟨g, fp, wr, G, _, F, St, _, rfl, W, hst, htr, fun s' hmv => ?_⟩)
  obtain ⟨H2, hT, J⟩ := hI s' hmv
  refine ⟨.bl _, H2, J, rfl, ?_⟩
  rw [all_trB]
  exact hR H2 hT
/-! over data -/
open M
theorem opens_pat {G H : Hp} (e : Ex G H) {v : V} {p : Pat} (h : Dat G v p.d) : Opens H v p.isOpen := by
  cases p with
  | any => cases h with
    | tup h1 h2 => cases h2 with
      | cons h3 h4 => cases h3; exact ⟨_, _, _, rfl, e _ _ h1, by rw [h4.len]; decide, rfl⟩
  | name x => cases h with
    | tup h1 h2 => cases h2 with
      | cons h3 h4 => cases h3; exact ⟨_, _, _, rfl, e _ _ h1, by rw [h4.len]; simp, rfl⟩
  | pint x => cases h with
    | tup h1 h2 => cases h2 with
      | cons h3 h4 => cases h3; exact ⟨_, _, _, rfl, e _ _ h1, by rw [h4.len]; simp, rfl⟩
  | pstr x => cases h with
    | tup h1 h2 => cases h2 with
      | cons h3 h4 => cases h3; exact ⟨_, _, _, rfl, e _ _ h1, by rw [h4.len]; simp, rfl⟩
  | nil => cases h with
    | tup h1 h2 => cases h2 with
      | cons h3 h4 => cases h3; exact ⟨_, _, _, rfl, e _ _ h1, by rw [h4.len]; simp, rfl⟩
  | cons x => cases h with
    | tup h1 h2 => cases h2 with
      | cons h3 h4 => cases h3; exact ⟨_, _, _, rfl, e _ _ h1, by rw [h4.len]; simp, rfl⟩
  | tup x => cases h with
    | tup h1 h2 => cases h2 with
      | cons h3 h4 => cases h3; exact ⟨_, _, _, rfl, e _ _ h1, by rw [h4.len]; simp, rfl⟩
theorem opens_all {G H : Hp} (e : Ex G H) : ∀ {vs : List V} {ps : List Pat}, Dats G vs (Pat.ds ps) → Paired (Opens H) vs (ps.map Pat.isOpen)
  | [], [], _ => .nil
  | [], _ :: _, h => by cases h
  | _ :: _, [], h => by cases h
  | v :: vs, p :: ps, h => by
    cases h with
    | cons h1 h2 => exact .cons (opens_pat e h1) (opens_all e h2)
/-- the table at P: no datum, tracked -/
def Tab (G H : Hp) (P : Addr) : Prop := G P = none ∧ GxR.TabG H P
theorem Tab.m {G H G' H' : Hp} {P : Addr} (t : Tab G H P) (a : Go G H G' H') : Tab G' H' P := by
  obtain ⟨n, ps, hp, tr⟩ := t
  obtain ⟨ps', hp', tr'⟩ := a.t P ps hp
  exact ⟨a.n P n (by rw [hp]; exact fun z => nomatch z), ps', hp', tr' tr⟩
theorem go_tabbed {G H H2 : Hp} {P : Addr} (e : Ex G H) (t : Tab G H P) (b : GxR.Tabbed P H H2) : Go G H G H2 := by
  obtain ⟨n, ps, hp, tr⟩ := t
  obtain ⟨⟨ps2, hp2, tr2⟩, same⟩ := b
  refine ⟨Ex.refl G, fun a o h => ?_, fun a o h q => ?_, fun a qs h => ?_, fun _ h _ => h⟩
  · rw [same a (fun z => by rw [z, n] at h; cases h)]
    exact e a o h
  · rw [same a (fun z => by rw [z, hp] at h; cases h; exact q _ rfl)]
    exact h
  · by_cases z : a = P
    · subst z
      exact ⟨ps2, hp2, fun _ => tr2⟩
    · exact ⟨qs, by rw [same a z]; exact h, id⟩
theorem eb_allO {σ : L2.St} {G H : Hp} {P : Addr} {te : TE} {ps : List Pat} (h : EvD te σ G H (rowD ps)) (t : Tab G H P) : EvB (tB (tAllO P te)) σ G H (ps.all Pat.isOpen) := fun G1 H1 a Q q => h G1 H1 a _ fun x G2 H2 b hx => by
  cases hx with
  | lst e1 e2 =>
    have t2 := (t.m a).m b
    refine ⟨_, _, ps.map Pat.isOpen, rfl, b.gh _ _ e1, opens_all b.gh e2, t2.2, fun H3 hT => ⟨_, rfl, ?_⟩⟩
    have e : (ps.map Pat.isOpen).all id = ps.all Pat.isOpen := by rw [List.all_map]; rfl
    rw [e]
    exact q G2 H3 (b.trans (go_tabbed b.gh t2 hT))
end G

namespace G
open PySem L2 Evl
open M
section
variable {K : PySem.W.Frag} {σ : L2.St} {G H : Hp} {ta tb te tc : TE} {D : Ends} {tu tz : TS} {g : TG}
/-! ### lists of one's own, pairs, dicts -/
theorem eb_truM {p : Addr} {xs : List V} (h : Evs ta σ G H (.val (.ref p))) (hp : H p = some (.lst xs)) : EvB (tTru K ta) σ G H (!xs.isEmpty) := fun G1 H1 a Q q => h G1 H1 a _ fun x G2 H2 c hx => by
  cases hx
  exact ⟨_, .inl ⟨_, sq_of ((a.trans c).lst hp), rfl⟩, q G2 H2 c⟩
theorem ev_lenM {p : Addr} {xs : List V} (h : Evs ta σ G H (.val (.ref p))) (hp : H p = some (.lst xs)) : EvD (tCB (rLenS K) (tCons ta tNil)) σ G H (.int (xs.length : Int)) := fun G1 H1 a Q q => ea_cons (h.m a) ea_nil G1 H1 (Go.refl a.gh) _ fun vs G2 H2 b hv => by
  cases hv with
  | cons h1 h2 =>
    cases h2
    cases h1
    exact ⟨_, _, rfl, .inl (sq_of ((a.trans b).lst hp)), q _ G2 H2 b (.int _)⟩
theorem ev_ilM {p : Addr} {xs : List V} {ds : List PyData} {d : PyData} {i : Int} (h : Evs ta σ G H (.val (.ref p))) (hp : H p = some (.lst xs)) (hd : Dats G xs ds) (h2 : EvD tb σ G H (.int i)) (ha : atI ds i = some d) : EvD (tOp (rIxA K) ta tb) σ G H d := ev_op h h2 fun x y G1 H1 a hx hy Q q => by
  cases hx
  cases hy
  obtain ⟨v, e3, e4⟩ := atI_dat (hd.m a.g) ha
  exact .inl ⟨_, _, _, v, rfl, rfl, sq_of (a.lst hp), e3, q v G1 H1 (Go.refl a.gh) e4⟩
theorem ev_slM {p : Addr} {xs : List V} {ds : List PyData} {tl th : TO} {lo hi : Option Int} (h : Evs ta σ G H (.val (.ref p))) (hp : H p = some (.lst xs)) (hd : Dats G xs ds) (h1 : Evo tl σ G H lo) (h2 : Evo th σ G H hi) : EvD (tSl (rSlL K) ta tl th) σ G H (.list (cutD ds lo hi)) := fun G1 H1 a Q q =>
  h G1 H1 a _ fun x G2 H2 b hx => h1 G2 H2 (a.trans b) _ fun G3 H3 c => h2 G3 H3 ((a.trans b).trans c) _ fun G4 H4 f => by
    cases hx
    have z := ((a.trans b).trans c).trans f
    exact ⟨_, _, rfl, sq_of (z.lst hp), fun p hp => q _ _ _ (((b.trans c).trans f).trans (Go.imm f.gh hp)) (dat_lst f.gh (cut_dat (hd.m z.g) lo hi) hp)⟩
/-- x = l[lo:hi], one's own -/
theorem q_cutM {p : Addr} {xs : List V} {ds : List PyData} {tl th : TO} {lo hi : Option Int} {i : Nat} (e : Ex G H) (h : Evs ta σ G H (.val (.ref p))) (hp : H p = some (.lst xs)) (hd : Dats G xs ds) (h1 : Evo tl σ G H lo) (h2 : Evo th σ G H hi)
    (k : ∀ r ys G1 H1, Go G H G1 H1 → H1 r = none → Dats G1 ys (cutD ds lo hi) → tz D (σ.set i (some (.ref r))) (upd H1 r (.lst ys))) : tSeq (tAsg (tSl (rSlL K) ta tl th) (gName i)) tz D σ H :=
  h G H (Go.refl e) _ fun x G2 H2 b hx => h1 G2 H2 b _ fun G3 H3 c => h2 G3 H3 (b.trans c) _ fun G4 H4 f => by
    cases hx
    have z := (b.trans c).trans f
    exact ⟨_, _, rfl, sq_of (z.lst hp), fun r hr => k r _ G4 H4 z hr (cut_dat (hd.m z.g) lo hi)⟩
theorem pair_of {x : V} {d1 d2 : PyData} (h : Dat G x (.tuple [d1, d2])) : ∃ p v1 v2, x = .ref p ∧ G p = some (.tup [v1, v2]) ∧ Dat G v1 d1 ∧ Dat G v2 d2 := by
  cases h with
  | tup e1 e2 =>
    cases e2 with
    | cons a b =>
      cases b with
      | cons b c =>
        cases c
        exact ⟨_, _, _, rfl, e1, a, b⟩
theorem g2 {x : V} {d1 d2 : PyData} {i j : Nat} {R : L2.St → Hp → Prop} (e : Ex G H) (h : Dat G x (.tuple [d1, d2])) (k : ∀ v1 v2, Dat G v1 d1 → Dat G v2 d2 → R ((σ.set i (some v1)).set j (some v2)) H) : gTup K 2 (gCons (gName i) (gCons (gName j) gNil)) x σ H R := by
  obtain ⟨p, v1, v2, rfl, hp, h1, h2⟩ := pair_of h
  exact ⟨p, _, rfl, st_of (e _ _ hp), rfl, _, _, rfl, _, _, rfl, rfl, k v1 v2 h1 h2⟩
theorem g3 {x : V} {d1 d2 d3 : PyData} {i j l : Nat} {R : L2.St → Hp → Prop} (e : Ex G H) (h : Dat G x (.tuple [d1, d2, d3])) (k : ∀ v1 v2 v3, Dat G v1 d1 → Dat G v2 d2 → Dat G v3 d3 → R (((σ.set i (some v1)).set j (some v2)).set l (some v3)) H) : gTup K 3 (gCons (gName i) (gCons (gName j) (gCons (gName l) gNil))) x σ H R := by
  cases h with
  | tup e1 e2 =>
    cases e2 with
    | cons a b =>
      cases b with
      | cons b c =>
        cases c with
        | cons c d =>
          cases d
          exact ⟨_, _, rfl, st_of (e _ _ e1), rfl, _, _, rfl, _, _, rfl, _, _, rfl, rfl, k _ _ _ a b c⟩
/-- a, b = e -/
theorem q_pair {d1 d2 : PyData} {i j : Nat} (e : Ex G H) (h : EvD te σ G H (.tuple [d1, d2])) (k : ∀ v1 v2 G1 H1, Go G H G1 H1 → Dat G1 v1 d1 → Dat G1 v2 d2 → tz D ((σ.set i (some v1)).set j (some v2)) H1) : tSeq (tAsg te (gTup K 2 (gCons (gName i) (gCons (gName j) gNil)))) tz D σ H :=
  h G H (Go.refl e) _ fun x G1 H1 a hx => g2 a.gh hx fun v1 v2 h1 h2 => k v1 v2 G1 H1 a h1 h2
theorem q_pop {p : Addr} {xs : List V} {v : V} {d1 d2 : PyData} {i j : Nat} (e : Ex G H) (ha : Evs ta σ G H (.val (.ref p))) (hp : H p = some (.lst (xs ++ [v]))) (hg : G p = none) (hv : Dat G v (.tuple [d1, d2]))
    (k : ∀ v1 v2 G1 H1, Go G H G1 H1 → Dat G1 v1 d1 → Dat G1 v2 d2 → tz D ((σ.set i (some v1)).set j (some v2)) (upd H1 p (.lst xs))) : tSeq (tAsg (tBM0 K "list" rPop ta) (gTup K 2 (gCons (gName i) (gCons (gName j) gNil)))) tz D σ H :=
  ha G H (Go.refl e) _ fun x G1 H1 a hx => by
    cases hx
    have hl := a.lst hp
    refine ⟨.inl ⟨rfl, _, sq_of hl⟩, p, _, v, rfl, rfl, hl, by simp, ?_⟩
    rw [List.dropLast_concat]
    have hv1 := Dat.m hv a.g
    exact g2 (G := G1) (fun b u q => by rw [upd_ne (ne_of_none q (a.out hg hp))]; exact a.gh b u q) hv1 fun v1 v2 h1 h2 => k v1 v2 G1 H1 a h1 h2
theorem ev_get {t : Addr} {kvs : List (L2.Key × V)} {x : Str} {y : V} {d : PyData} (h : Evs ta σ G H (.val (.ref t))) (ht : H t = some (.dK kvs)) (h1 : EvD tb σ G H (.str x)) {s : Sv} (h2 : Evs tc σ G H s) (hv : valV kvs (.inr x) = some y) (hy : Dat G y d) : EvD (tDGet2 ta tb tc) σ G H d := fun G1 H1 a Q q =>
  h G1 H1 a _ fun v G2 H2 b hv1 => by
    cases hv1
    have nt : ∀ ps, HO.dK kvs ≠ HO.tbl ps := fun _ z => nomatch z
    refine ⟨t, rfl, .inl ⟨kvs, .inl ((a.trans b).h _ _ ht nt)⟩, h1 G2 H2 (a.trans b) _ fun v2 G3 H3 c hv2 => ?_⟩
    cases hv2
    refine h2 G3 H3 ((a.trans b).trans c) _ fun v3 G4 H4 f hv3 => ⟨some y, ?_, q y G4 H4 ((b.trans c).trans f) (Dat.m hy (((a.trans b).trans c).trans f).g)⟩
    have z := DGet.k (k := .inr x) ((((a.trans b).trans c).trans f).h _ _ ht nt)
    rw [hv] at z
    exact z
/-- a loop over a tuple of data -/
theorem s_forT {α : Type} {enc : α → PyData} {as : List α} {tl : TE} (e : Ex G H) (h : EvD tl σ G H (.tuple (as.map enc)))
    (k : ∀ G1 H1, Go G H G1 H1 → ∃ P : Nat → L2.St → Hp → Hp → Prop, P 0 σ G1 H1 ∧ (∀ i σ' G' H', P i σ' G' H' → Ex G1 G' ∧ Ex G' H') ∧
      (∀ i a x σ' G' H', as[i]? = some a → P i σ' G' H' → Dat G' x (enc a) → g x σ' H' fun σ2 H2 => tu { D with nx := fun s h => ∃ G, P (i + 1) s G h, ct := fun s h => ∃ G, P (i + 1) s G h, bk := D.nx } σ2 H2) ∧ ∀ σ' G' H', P as.length σ' G' H' → D.nx σ' H') :
    tFor (iTup K tl) g tu D σ H := h G H (Go.refl e) _ fun x G1 H1 a hx => by
  cases hx with
  | tup e1 e2 =>
    rename_i l xs
    obtain ⟨P, p0, pm, ps, pd⟩ := k G1 H1 a
    have hl : xs.length = as.length := by rw [e2.len, List.length_map]
    refine ⟨l, rfl, ⟨xs, st_of (a.gh _ _ e1)⟩, ?_⟩
    refine for_tup (xs := xs) (fun i s h => ∃ G, P i s G h) ⟨G1, p0⟩ (fun i s h _ ⟨G2, p⟩ => ?_) (fun i x s h hx ⟨G2, p⟩ => ?_) fun s h ⟨G2, p⟩ => ?_
    · obtain ⟨a1, a2⟩ := pm i s G2 h p
      exact st_of (a2 _ _ (a1 _ _ e1))
    · obtain ⟨a1, a2⟩ := pm i s G2 h p
      obtain ⟨d, hd, hv⟩ := e2.getM hx
      exact ps i d x s G2 h hd p (hv.m a1)
    · rw [hl] at p
      exact pd s G2 h p
theorem q_forT {α : Type} {enc : α → PyData} {as : List α} {tl : TE} (e : Ex G H) (h : EvD tl σ G H (.tuple (as.map enc)))
    (k : ∀ G1 H1, Go G H G1 H1 → ∃ P : Nat → L2.St → Hp → Hp → Prop, P 0 σ G1 H1 ∧ (∀ i σ' G' H', P i σ' G' H' → Ex G1 G' ∧ Ex G' H') ∧
      (∀ i a x σ' G' H', as[i]? = some a → P i σ' G' H' → Dat G' x (enc a) → g x σ' H' fun σ2 H2 => tu { D with nx := fun s h => ∃ G, P (i + 1) s G h, ct := fun s h => ∃ G, P (i + 1) s G h, bk := tz D } σ2 H2) ∧ ∀ σ' G' H', P as.length σ' G' H' → tz D σ' H') :
    tSeq (tFor (iTup K tl) g tu) tz D σ H := s_forT (D := { D with nx := tz D }) e h k
theorem Dats.snoc_inv {G : Hp} {d : PyData} : ∀ {ds : List PyData} {vs : List V}, Dats G vs (ds ++ [d]) → ∃ ws v, vs = ws ++ [v] ∧ Dats G ws ds ∧ Dat G v d
  | [], _, h => by
    cases h with
    | cons a b =>
      cases b
      exact ⟨[], _, rfl, .nil, a⟩
  | _ :: ds, _, h => by
    cases h with
    | cons a b =>
      obtain ⟨ws, v, rfl, h1, h2⟩ := Dats.snoc_inv (ds := ds) b
      exact ⟨_ :: ws, v, rfl, .cons a h1, h2⟩
theorem Grow.other {G0 H0 G H : Hp} {p q : Addr} {acc : List V} {ds : List PyData} {o : HO} (h : Grow G0 H0 p acc ds G H) (hn : p ≠ q) (h0 : H0 q = none) (hg : G q = none) : Grow G0 H0 p acc ds G (upd H q o) :=
  ⟨h.new, h.go.mut h0 hg, h.out, by rw [upd_ne hn]; exact h.at_, h.dats⟩
theorem Grow.set {G0 H0 G H : Hp} {p : Addr} {acc acc' : List V} {ds ds' : List PyData} (h : Grow G0 H0 p acc ds G H) (hv : Dats G acc' ds') : Grow G0 H0 p acc' ds' G (upd H p (.lst acc')) :=
  ⟨h.new, h.go.mut h.new h.out, h.out, upd_same, hv⟩
theorem Grow.make {G0 H0 G H : Hp} {p : Addr} {acc : List V} {ds : List PyData} (a : Go G0 H0 G H) (h : H p = none) (hv : Dats G acc ds) : Grow G0 H0 p acc ds G (upd H p (.lst acc)) :=
  ⟨a.back h, a.trans (Go.born a.gh h), gnone a.gh h, upd_same, hv⟩
end
/-! ### ty_parts, rebuilt, replaced, instance: of the one scheme -/
inductive Sub where
  | va | ls | pr
  deriving DecidableEq
def vaD : PyData := .tuple [.str "var", .str "a"]
def lsD : PyData := .tuple [.str "con", .str "list", .tuple [vaD]]
def prD : PyData := .tuple [.str "tuple", .tuple [vaD, lsD]]
def Sub.d : Sub → PyData
  | .va => vaD
  | .ls => lsD
  | .pr => prD
def Sub.parts : Sub → List Sub
  | .va => []
  | .ls => [.va]
  | .pr => [.va, .ls]
def reb : Sub → List PyData → PyData
  | .va, _ => .none
  | .ls, I => .tuple [.str "con", .str "list", .tuple I]
  | .pr, I => .tuple [.str "tuple", .tuple I]
def lisD (u : PyData) : PyData := .tuple [.str "con", .str "list", .tuple [u]]
def grown (u : PyData) : PyData := .tuple [.str "tuple", .tuple [u, lisD u]]
section
variable {P : Program} {w : World} {K : PySem.W.Frag} {mg : Str → Option Value} {base : Heap} {f : Addr} {fd : FuncData} {σ : L2.St} {G H : Hp} {ta tb te : TE}
abbrev s_ty_parts : Stmt := topS 1
theorem sc_ty_parts : FnScope ["ty"] ["ty"] (defScope s_ty_parts) := ⟨rfl, rfl, rfl, by decide +kernel, rfl, by decide +kernel, by decide +kernel⟩
abbrev spTyParts : Sp := Pu (fun s : Sub => [s.d]) (fun _ => True) fun s => .tuple (s.parts.map Sub.d)
theorem ok_ty_parts (F : Fun K "ty_parts" "ty_parts" s_ty_parts f fd) : FnOk P w K mg base CX0 1 f fd ["ty"] spTyParts := by
  refine F.ok sc_ty_parts (fun vs H Q E h => len1 (fun _ => rfl) h) (fun cdv A outer s H vs Q E hr h => ?_)
  obtain ⟨G, p, e, hv, _, q⟩ := h
  cases hv with
  | cons h1 h2 =>
    cases h2
    refine ⟨_, (pss_cons (ps_if (pt_cmpR op_eq (pe_ix (ixK K) (pv 0) pe_int (fun _ _ => rfl)) pe_str (nomark _)) (pss_one (ps_ret (pe_tup (pa_cons (pe_ix (ixK K) (pv 0) pe_int (fun _ _ => rfl)) (pa_cons (pe_ix (ixK K) (pv 0) pe_int (fun _ _ => rfl)) pa_nil))))) pss_nil)
      (pss_cons (ps_if (pt_cmpR op_eq (pe_ix (ixK K) (pv 0) pe_int (fun _ _ => rfl)) pe_str (nomark _)) (pss_one (ps_ret (pe_ix (ixK K) (pv 0) pe_int (fun _ _ => rfl)))) pss_nil)
      (pss_cons (ps_if (pt_cmpR op_eq (pe_ix (ixK K) (pv 0) pe_int (fun _ _ => rfl)) pe_str (nomark _)) (pss_one (ps_ret (pe_ix (ixK K) (pv 0) pe_int (fun _ _ => rfl)))) pss_nil)
      (pss_one (ps_ret (pe_tup pa_nil)))))), ?_⟩
    cases p with
    | va =>
      refine q_when (b := false) e (eb_key (ev_var rfl h1) rfl) (fun z => nomatch z) (fun _ G1 H1 a => ?_)
      refine q_when (b := false) a.gh (eb_key (ev_var rfl (Dat.m h1 a.g)) rfl) (fun z => nomatch z) (fun _ G2 H2 b => ?_)
      refine q_when (b := false) b.gh (eb_key (ev_var rfl (Dat.m h1 (a.trans b).g)) rfl) (fun z => nomatch z) (fun _ G3 H3 c => ?_)
      exact s_ret c.gh (ev_tup (ds := []) ea_nil (by decide)) fun v G4 H4 c2 hd => q v G4 H4 (((a.trans b).trans c).trans c2) hd
    | ls =>
      refine q_when (b := false) e (eb_key (ev_var rfl h1) rfl) (fun z => nomatch z) (fun _ G1 H1 a => ?_)
      refine q_when (b := false) a.gh (eb_key (ev_var rfl (Dat.m h1 a.g)) rfl) (fun z => nomatch z) (fun _ G2 H2 b => ?_)
      refine q_when (b := true) b.gh (eb_key (ev_var rfl (Dat.m h1 (a.trans b).g)) rfl) (fun _ G3 H3 c => ?_) (fun z => nomatch z)
      exact s_ret c.gh (ev_it (ev_var rfl (Dat.m h1 ((a.trans b).trans c).g)) ev_int rfl) fun v G4 H4 c2 hd => q v G4 H4 (((a.trans b).trans c).trans c2) hd
    | pr =>
      refine q_when (b := false) e (eb_key (ev_var rfl h1) rfl) (fun z => nomatch z) (fun _ G1 H1 a => ?_)
      refine q_when (b := true) a.gh (eb_key (ev_var rfl (Dat.m h1 a.g)) rfl) (fun _ G2 H2 b => ?_) (fun z => nomatch z)
      exact s_ret b.gh (ev_it (ev_var rfl (Dat.m h1 (a.trans b).g)) ev_int rfl) fun v G3 H3 c hd => q v G3 H3 ((a.trans b).trans c) hd
abbrev s_rebuilt : Stmt := topS 2
theorem sc_rebuilt : FnScope ["ty", "inner"] ["ty", "inner"] (defScope s_rebuilt) := ⟨rfl, rfl, rfl, by decide +kernel, rfl, by decide +kernel, by decide +kernel⟩
abbrev spRebuilt : Sp := Pu (fun a : Sub × List PyData => [a.1.d, .list a.2]) (fun a => a.1 ≠ .va) fun a => reb a.1 a.2
theorem ok_rebuilt (F : Fun K "rebuilt" "rebuilt" s_rebuilt f fd) (m_tuple : mg "tuple" = none) : FnOk P w K mg base CX0 1 f fd ["ty", "inner"] spRebuilt := by
  refine F.ok sc_rebuilt (fun vs H Q E h => len1 (fun _ => rfl) h) (fun cdv A outer s H vs Q E hr h => ?_)
  obtain ⟨G, ⟨p, ds⟩, e, hv, hp, q⟩ := h
  cases hv with
  | cons h1 h2 =>
    cases h2 with
    | cons h2 h3 =>
    cases h3
    refine ⟨_, (pss_cons (ps_if (pt_cmpR op_eq (pe_ix (ixK K) (pv 0) pe_int (fun _ _ => rfl)) pe_str (nomark _)) (pss_one (ps_ret (pe_tup (pa_cons pe_str (pa_cons (pe_ix (ixK K) (pv 1) pe_int (fun _ _ => rfl)) (pa_cons (pe_ix (ixK K) (pv 1) pe_int (fun _ _ => rfl)) pa_nil)))))) pss_nil)
      (pss_cons (ps_if (pt_cmpR op_eq (pe_ix (ixK K) (pv 0) pe_int (fun _ _ => rfl)) pe_str (nomark _)) (pss_one (ps_ret (pe_tup (pa_cons pe_str (pa_cons (pe_callTy (tupK K) (by rfl) m_tuple (by decide +kernel) (pa_cons (pv 1) pa_nil)) pa_nil))))) pss_nil)
      (pss_cons (ps_if (pt_cmpR op_eq (pe_ix (ixK K) (pv 0) pe_int (fun _ _ => rfl)) pe_str (nomark _)) (pss_one (ps_ret (pe_tup (pa_cons pe_str (pa_cons (pe_ix (ixK K) (pv 0) pe_int (fun _ _ => rfl)) (pa_cons (pe_callTy (tupK K) (by rfl) m_tuple (by decide +kernel) (pa_cons (pv 1) pa_nil)) pa_nil)))))) pss_nil)
      (pss_one (ps_ret (pv 0)))))), ?_⟩
    cases p with
    | va => exact absurd rfl hp
    | ls =>
      refine q_when (b := false) e (eb_key (ev_var rfl h1) rfl) (fun z => nomatch z) (fun _ G1 H1 a => ?_)
      refine q_when (b := false) a.gh (eb_key (ev_var rfl (Dat.m h1 a.g)) rfl) (fun z => nomatch z) (fun _ G2 H2 b => ?_)
      refine q_when (b := true) b.gh (eb_key (ev_var rfl (Dat.m h1 (a.trans b).g)) rfl) (fun _ G3 H3 c => ?_) (fun z => nomatch z)
      exact s_ret c.gh (ev_tup (ds := [.str "con", .str "list", .tuple ds]) (ea_cons ev_str (ea_cons (ev_it (ev_var rfl (Dat.m h1 ((a.trans b).trans c).g)) ev_int rfl) (ea_cons (ev_tupL (ev_var rfl (Dat.m h2 ((a.trans b).trans c).g))) ea_nil))) (by simp)) fun v G4 H4 c2 hd => q v G4 H4 (((a.trans b).trans c).trans c2) hd
    | pr =>
      refine q_when (b := false) e (eb_key (ev_var rfl h1) rfl) (fun z => nomatch z) (fun _ G1 H1 a => ?_)
      refine q_when (b := true) a.gh (eb_key (ev_var rfl (Dat.m h1 a.g)) rfl) (fun _ G2 H2 b => ?_) (fun z => nomatch z)
      exact s_ret b.gh (ev_tup (ds := [.str "tuple", .tuple ds]) (ea_cons ev_str (ea_cons (ev_tupL (ev_var rfl (Dat.m h2 (a.trans b).g))) ea_nil)) (by simp)) fun v G3 H3 c hd => q v G3 H3 ((a.trans b).trans c) hd
/-! the loop of replaced -/
inductive Run (u r : PyData) : Nat → List PyData → List (Bool × Sub) → Prop
  | done : Run u r 0 [r] []
  | var {m : Nat} {R : List PyData} {S : List (Bool × Sub)} : Run u r m (R ++ [u]) S → Run u r (m + 1) R (S ++ [(false, .va)])
  | opn {m : Nat} {R : List PyData} {S : List (Bool × Sub)} {s : Sub} : s ≠ .va → Run u r m R (S ++ [(true, s)] ++ s.parts.reverse.map fun x => (false, x)) → Run u r (m + 1) R (S ++ [(false, s)])
  | shut {m : Nat} {R I : List PyData} {S : List (Bool × Sub)} {s : Sub} : s ≠ .va → I.length = s.parts.length → Run u r m (R ++ [reb s I]) S → Run u r (m + 1) (R ++ I) (S ++ [(true, s)])
theorem run_all (u : PyData) : Run u (grown u) 6 [] [(false, .pr)] := by
  refine Run.opn (S := []) (s := .pr) (by decide) ?_
  refine Run.var (S := [(true, .pr), (false, .ls)]) ?_
  refine Run.opn (S := [(true, .pr)]) (s := .ls) (by decide) ?_
  refine Run.var (S := [(true, .pr), (true, .ls)]) ?_
  refine Run.shut (R := [u]) (I := [u]) (S := [(true, .pr)]) (s := .ls) (by decide) rfl ?_
  refine Run.shut (R := []) (I := [u, lisD u]) (S := []) (s := .pr) (by decide) rfl ?_
  exact Run.done
def stD (x : Bool × Sub) : PyData := .tuple [.bool x.1, x.2.d]
abbrev s_replaced : Stmt := topS 3
theorem sc_replaced : FnScope ["table", "ty", "results", "steps", "ready", "one", "count", "inner", "part"] ["table", "ty"] (defScope s_replaced) := ⟨rfl, rfl, rfl, by decide +kernel, rfl, by decide +kernel, by decide +kernel⟩
abbrev spReplaced : Sp := fun vs H Q _ => ∃ G t x v u, Ex G H ∧ vs = [.ref t, x] ∧ Dat G x prD ∧ H t = some (.dK [(.inr "a", v)]) ∧ Dat G v u ∧ ∀ v' G' H', Go G H G' H' → Dat G' v' (grown u) → Q v' H'
theorem cut_hi {R I : List PyData} : cutD (R ++ I) (some (((R ++ I).length : Int) - (I.length : Int))) none = I := by
  unfold cutD
  have e : ((R ++ I).length : Int) - (I.length : Int) = ((R.length : Nat) : Int) := by rw [List.length_append]; omega
  rw [e, show HT.sIx (R ++ I).length 0 (some ((R.length : Nat) : Int)) = min R.length (R ++ I).length from HT.sIx_nat _ 0 _, HT.sIx_none]
  have e2 : min R.length (R ++ I).length = R.length := by rw [List.length_append]; omega
  rw [e2]
  simp
theorem cut_lo {R I : List PyData} : cutD (R ++ I) none (some (((R ++ I).length : Int) - (I.length : Int))) = R := by
  unfold cutD
  have e : ((R ++ I).length : Int) - (I.length : Int) = ((R.length : Nat) : Int) := by rw [List.length_append]; omega
  rw [e, show HT.sIx (R ++ I).length (R ++ I).length (some ((R.length : Nat) : Int)) = min R.length (R ++ I).length from HT.sIx_nat _ _ _, HT.sIx_none]
  have e2 : min R.length (R ++ I).length = R.length := by rw [List.length_append]; omega
  rw [e2]
  simp
end
end G

namespace G
open PySem L2 Evl
open M
section
variable {P : Program} {w : World} {K : PySem.W.Frag} {mg : Str → Option Value} {base : Heap} {f : Addr} {fd : FuncData} {σ : L2.St} {G H : Hp} {ta tb te : TE}
theorem q_newL {ta : TA} {ds : List PyData} {i : Nat} {D : Ends} {tz : TS} (e : Ex G H) (h : Eva ta σ G H (ds.map .dat)) (hl : ds.length ≤ 100000) (k : ∀ p xs G1 H1, Go G H G1 H1 → H1 p = none → Dats G1 xs ds → tz D (σ.set i (some (.ref p))) (upd H1 p (.lst xs))) : tSeq (tAsg (tLst ta) (gName i)) tz D σ H :=
  h G H (Go.refl e) _ fun vs G1 H1 a hv => ⟨sz_of (by rw [hv.dats.len]; exact hl), fun p hp => k p vs G1 H1 a hp hv.dats⟩
theorem parts_len (s : Sub) : s.parts.length ≤ 2 := by cases s <;> decide
theorem ok_replaced (F : Fun K "replaced" "replaced" s_replaced f fd) (m_len : mg "len" = none) (d_ty_parts : Dfn P w K mg base "ty_parts" 1 ["ty"] spTyParts) (d_rebuilt : Dfn P w K mg base "rebuilt" 1 ["ty", "inner"] spRebuilt) : FnOk P w K mg base CX0 2 f fd ["table", "ty"] spReplaced := by
  refine F.ok sc_replaced (fun vs H Q E ⟨G, t, x, v, u, _, h, _⟩ => by rw [h]; rfl) (fun cdv A outer s H vs Q E hr h => ?_)
  obtain ⟨G, t, x, v, u, e, rfl, hx, ht, hu, q⟩ := h
  have hu1 := Nat.lt_of_le_of_lt (Nat.add_le_add_left (by decide : 1 ≤ 65) _) (hu_in hr)
  refine ⟨_, (pss_cons (ps_set (i := 2) sc_replaced.nd rfl (.inl rfl) (pe_lst pa_nil))
      (pss_cons (ps_set (i := 3) sc_replaced.nd rfl (.inl rfl) (pe_lst (pa_cons (pe_tup (pa_cons pe_bl (pa_cons (pv 1) pa_nil))) pa_nil)))
      (pss_cons (ps_while PassesOwn.never (ptTru K (pv 3)) (pss_cons (ps_asg (pe_bm0 PySem.F.plainAttrs_list PySem.F.slot_list_pop PySem.F.type_list_pop mt_pop (pv 3)) (pg_tup rfl (pgs_cons (pg_name (i := 4) sc_replaced.nd rfl (.inl rfl)) (pgs_cons (pg_name (i := 5) sc_replaced.nd rfl (.inl rfl)) pgs_nil))))
      (pss_one (ps_if (ptTru K (pv 4)) (pss_cons (ps_set (i := 6) sc_replaced.nd rfl (.inl rfl) (pe_callB (lenK K) (by rfl) m_len PySem.boot_len (pa_cons (pe_def d_ty_parts (hr.mono (by omega)) (by rfl) (pa_cons (pv 5) pa_nil)) pa_nil)))
      (pss_cons (ps_set (i := 7) sc_replaced.nd rfl (.inl rfl) (pe_slice (slK K) (pv 2) (po_some (pe_op op_sub (pe_callB (lenK K) (by rfl) m_len PySem.boot_len (pa_cons (pv 2) pa_nil)) (pv 6))) po_none))
      (pss_cons (ps_set (i := 2) sc_replaced.nd rfl (.inl rfl) (pe_slice (slK K) (pv 2) po_none (po_some (pe_op op_sub (pe_callB (lenK K) (by rfl) m_len PySem.boot_len (pa_cons (pv 2) pa_nil)) (pv 6)))))
      (pss_one (ps_expr (pe_bm PySem.F.plainAttrs_list PySem.F.slot_list_append PySem.F.type_list_append mt_append (pv 2) (pa_cons (pe_def d_rebuilt (hr.mono (by omega)) (by rfl) (pa_cons (pv 5) (pa_cons (pv 7) pa_nil))) pa_nil))))))) (pss_one (ps_if (pt_cmpR op_eq (pe_ix (ixK K) (pv 5) pe_int (fun _ _ => rfl)) pe_str (nomark _)) (pss_one (ps_expr (pe_bm PySem.F.plainAttrs_list PySem.F.slot_list_append PySem.F.type_list_append mt_append (pv 2) (pa_cons (pe_dget2 hu1 (pv 0) (pe_ix (ixK K) (pv 5) pe_int (fun _ _ => rfl)) (pv 5) ⟨by rfl, by rfl, by rfl, by rfl⟩) pa_nil)))) (pss_cons (ps_expr (pe_bm PySem.F.plainAttrs_list PySem.F.slot_list_append PySem.F.type_list_append mt_append (pv 3) (pa_cons (pe_tup (pa_cons pe_bl (pa_cons (pv 5) pa_nil))) pa_nil)))
      (pss_one (ps_for PassesOwn.never rfl (pi_tup (pe_revT (pe_def d_ty_parts (hr.mono (by omega)) (by rfl) (pa_cons (pv 5) pa_nil)))) (pg_name (i := 8) sc_replaced.nd rfl (.inl rfl)) (pss_one (ps_expr (pe_bm PySem.F.plainAttrs_list PySem.F.slot_list_append PySem.F.type_list_append mt_append (pv 3) (pa_cons (pe_tup (pa_cons pe_bl (pa_cons (pv 8) pa_nil))) pa_nil)))))))))))))
      (pss_one (ps_ret (pe_ix (ixK K) (pv 2) pe_int (fun _ _ => rfl))))))), ?_⟩
  refine q_new e fun pR hR a => ?_
  have gR := Grow.born (Go.refl e) hR
  have hx1 := Dat.m hx a.g
  have nt : ∀ ps, HO.dK [((.inr "a" : L2.Key), v)] ≠ HO.tbl ps := fun _ z => nomatch z
  -- steps
  refine q_newL (ds := [stD (false, .pr)]) a.gh (ea_cons (ev_tup (ds := [.bool false, prD]) (ea_cons ev_bl (ea_cons (ev_var rfl hx1) ea_nil)) (by simp)) ea_nil) (by decide) fun pS vs1 G1 H1 b hS hv1d => ?_
  have gR1 := gR.step b
  have gS := Grow.make gR1.go hS hv1d
  have ne0 : pR ≠ pS := fun z => by
    rw [← z, gR1.at_] at hS
    cases hS
  have gR2 := gR1.other (o := .lst vs1) ne0 gS.new gS.out
  refine ⟨fun m σ' H' => ∃ G' pR pS accR accS R S y4 y5 y6 y7 y8, σ' = [some (.ref t), some x, some (.ref pR), some (.ref pS), y4, y5, y6, y7, y8] ∧ Grow G H pR accR R G' H' ∧ Grow G H pS accS (S.map stD) G' H' ∧ pR ≠ pS ∧ Run u (grown u) m R S ∧ R.length + 10 * m ≤ 100 ∧ S.length + 10 * m ≤ 100, ⟨6, G1, pR, pS, [], vs1, [], [(false, .pr)], none, none, none, none, none, rfl, gR2, gS, ne0, run_all u, by decide, by decide⟩, fun m σ' H' ⟨G', pR, pS, accR, accS, R, S, y4, y5, y6, y7, y8, hσ, g1, g2, hne, hrun, b1, b2⟩ => ?_⟩
  subst hσ
  have hS2 : accS.length = S.length := by rw [g2.len, List.length_map]
  refine eb_truM (ev_var rfl rfl) g2.at_ G' H' (Go.refl g1.go.gh) _ fun G2 H2 c => ?_
  have g1 := g1.step c
  have g2 := g2.step c
  cases hrun with
  | done =>
    have e0 : accS = [] := List.length_eq_zero_iff.mp hS2
    rw [e0]
    exact s_ret (s := .dat (grown u)) g1.go.gh (ev_ilM (ev_var rfl rfl) g1.at_ g1.dats ev_int at0) fun v G3 H3 c hd => q v G3 H3 (g1.go.trans c) hd
  | @var m' _ S0 hrun =>
    have hne0 : accS.isEmpty = false := by cases accS with
      | nil => simp at hS2
      | cons _ _ => rfl
    rw [hne0]
    refine ⟨fun σ2 H2 => ∃ m2, m2 < m' + 1 ∧ ∃ G' pR pS accR accS R S y4 y5 y6 y7 y8, σ2 = [some (.ref t), some x, some (.ref pR), some (.ref pS), y4, y5, y6, y7, y8] ∧ Grow G H pR accR R G' H2 ∧ Grow G H pS accS (S.map stD) G' H2 ∧ pR ≠ pS ∧ Run u (grown u) m2 R S ∧ R.length + 10 * m2 ≤ 100 ∧ S.length + 10 * m2 ≤ 100, fun _ _ h => h, ?_⟩
    have d2 := g2.dats
    rw [List.map_append] at d2
    obtain ⟨ws, vS, rfl, hws, hvS⟩ := d2.snoc_inv
    refine q_pop g1.go.gh (ev_var rfl rfl) g2.at_ g2.out hvS fun v1 v2 G3 H3 c3 h1 h2 => ?_
    cases h1
    have k2 := (g2.step c3).set (hws.m c3.g)
    have k1 := (g1.step c3).other (o := .lst ws) hne g2.new k2.out
    refine s_if k1.go.gh (eb_tru (ev_var rfl (.bl false)) rfl) (fun z => nomatch z) fun _ G4 H4 c4 => ?_
    have k1 := k1.step c4
    have k2 := k2.step c4
    have h2 := Dat.m h2 c4.g
    refine s_if (b := true) k1.go.gh (eb_key (ev_var rfl h2) rfl) (fun _ G5 H5 c5 => ?_) (fun z => nomatch z)
    have k1 := k1.step c5
    have k2 := k2.step c5
    have h2 := Dat.m h2 c5.g
    refine s_app (s := .dat u) k1.go.gh k1.at_ k1.out (ev_var rfl rfl) (ev_get (y := v) (ev_var rfl rfl) (k1.go.h _ _ ht nt) (ev_it (ds := [.str "var", .str "a"]) (ev_var rfl h2) ev_int at1) (s := .dat vaD) (ev_var rfl h2) rfl (Dat.m hu k1.go.g)) (by rw [k1.len]; omega) fun v3 G6 H6 c6 _ hv3 => ?_
    exact ⟨m', Nat.lt_succ_self _, G6, pR, pS, _, _, R ++ [u], S0, _, _, _, _, _, rfl, (k1.step c6).app hv3, (k2.step c6).other (Ne.symm hne) k1.new (k1.step c6).out, hne, hrun, by simp; omega, by simp at b2; omega⟩
  | @opn m' _ S0 sb hsv hrun =>
    have hne0 : accS.isEmpty = false := by cases accS with
      | nil => simp at hS2
      | cons _ _ => rfl
    rw [hne0]
    refine ⟨fun σ2 H2 => ∃ m2, m2 < m' + 1 ∧ ∃ G' pR pS accR accS R S y4 y5 y6 y7 y8, σ2 = [some (.ref t), some x, some (.ref pR), some (.ref pS), y4, y5, y6, y7, y8] ∧ Grow G H pR accR R G' H2 ∧ Grow G H pS accS (S.map stD) G' H2 ∧ pR ≠ pS ∧ Run u (grown u) m2 R S ∧ R.length + 10 * m2 ≤ 100 ∧ S.length + 10 * m2 ≤ 100, fun _ _ h => h, ?_⟩
    have d2 := g2.dats
    rw [List.map_append] at d2
    obtain ⟨ws, vS, rfl, hws, hvS⟩ := d2.snoc_inv
    refine q_pop g1.go.gh (ev_var rfl rfl) g2.at_ g2.out hvS fun v1 v2 G3 H3 c3 h1 h2 => ?_
    cases h1
    have k2 := (g2.step c3).set (hws.m c3.g)
    have k1 := (g1.step c3).other (o := .lst ws) hne g2.new k2.out
    have hpl := parts_len sb
    refine s_if k1.go.gh (eb_tru (ev_var rfl (.bl false)) rfl) (fun z => nomatch z) fun _ G4 H4 c4 => ?_
    have k1 := k1.step c4
    have k2 := k2.step c4
    have h2 := Dat.m h2 c4.g
    have hkey : EvB (tTest (tOp rEq (tOp (rIxA K) (tVar 5) (tC (.int 0))) (tC (.str "var")))) [some (.ref t), some x, some (.ref pR), some (.ref pS), some (.bl false), some v2, y6, y7, y8] G4 H4 false := by
      cases sb with
      | va => exact absurd rfl hsv
      | ls => exact eb_key (ev_var rfl h2) rfl
      | pr => exact eb_key (ev_var rfl h2) rfl
    refine s_if (b := false) k1.go.gh hkey (fun z => nomatch z) fun _ G5 H5 c5 => ?_
    have k1 := k1.step c5
    have k2 := k2.step c5
    have h2 := Dat.m h2 c5.g
    have lws : ws.length = S0.length := by rw [hws.len, List.length_map]
    simp at b2
    refine q_app (s := .dat (stD (true, sb))) k2.go.gh k2.at_ k2.out (ev_var rfl rfl) (ev_tup (ds := [.bool true, sb.d]) (ea_cons ev_bl (ea_cons (ev_var rfl h2) ea_nil)) (by simp)) (by omega) fun v3 G6 H6 c6 _ hv3 => ?_
    have l2 := (k2.step c6).app hv3
    have l1 := (k1.step c6).other (o := .lst (ws ++ [v3])) hne k2.new l2.out
    have h2 := Dat.m h2 c6.g
    refine s_forT (enc := Sub.d) (as := sb.parts.reverse) l1.go.gh (ev_is (ev_back (ev_def sb (ea_cons (ev_var rfl h2) ea_nil) trivial)) (by rw [List.map_reverse])) fun G7 H7 c7 => ?_
    have l1 := l1.step c7
    have l2 := l2.step c7
    refine ⟨fun i σ' G' H' => ∃ acc y8, σ' = [some (.ref t), some x, some (.ref pR), some (.ref pS), some (.bl false), some v2, y6, y7, y8] ∧ Grow G H pR accR R G' H' ∧ Grow G H pS acc ((S0 ++ [(true, sb)] ++ (sb.parts.reverse.take i).map fun x => (false, x)).map stD) G' H' ∧ Ex G7 G', ⟨_, y8, rfl, l1, by simpa [stD] using l2, Ex.refl G7⟩, fun i σ' G' H' ⟨acc, y8, _, g1, g2, ex⟩ => ⟨ex, g1.go.gh⟩, fun i sp y σ' G' H' hi ⟨acc, y8, hσ, g1, g2, ex⟩ hy => ?_, fun σ' G' H' ⟨acc, y8, hσ, g1, g2, ex⟩ => ?_⟩
    · subst hσ
      have tk : sb.parts.reverse.take (i + 1) = sb.parts.reverse.take i ++ [sp] := by rw [List.take_add_one, hi]; rfl
      have lg := g2.len
      have hmin := Nat.min_le_right i sb.parts.length
      simp at lg
      refine s_app (s := .dat (stD (false, sp))) g1.go.gh g2.at_ g2.out (ev_var rfl rfl) (ev_tup (ds := [.bool false, sp.d]) (ea_cons ev_bl (ea_cons (ev_var rfl hy) ea_nil)) (by simp)) (by omega) fun v3 G8 H8 c8 _ hv3 => ⟨G8, acc ++ [v3], some y, rfl, (g1.step c8).other hne g2.new (g2.step c8).out, ?_, ex.trans c8.g⟩
      have z := (g2.step c8).app hv3
      have e2 : (S0 ++ [(true, sb)] ++ (sb.parts.reverse.take (i + 1)).map fun x => (false, x)).map stD = (S0 ++ [(true, sb)] ++ (sb.parts.reverse.take i).map fun x => (false, x)).map stD ++ [stD (false, sp)] := by
        rw [tk]
        simp only [List.map_append, List.map_cons, List.map_nil, List.append_assoc]
      rw [e2]
      exact z
    · subst hσ
      rw [List.take_length] at g2
      exact ⟨m', Nat.lt_succ_self _, G', pR, pS, _, _, R, _, _, _, _, _, _, rfl, g1, g2, hne, hrun, by omega, by simp; omega⟩
  | @shut m' R0 I S0 sb hsv hI hrun =>
    have hne0 : accS.isEmpty = false := by cases accS with
      | nil => simp at hS2
      | cons _ _ => rfl
    rw [hne0]
    refine ⟨fun σ2 H2 => ∃ m2, m2 < m' + 1 ∧ ∃ G' pR pS accR accS R S y4 y5 y6 y7 y8, σ2 = [some (.ref t), some x, some (.ref pR), some (.ref pS), y4, y5, y6, y7, y8] ∧ Grow G H pR accR R G' H2 ∧ Grow G H pS accS (S.map stD) G' H2 ∧ pR ≠ pS ∧ Run u (grown u) m2 R S ∧ R.length + 10 * m2 ≤ 100 ∧ S.length + 10 * m2 ≤ 100, fun _ _ h => h, ?_⟩
    have d2 := g2.dats
    rw [List.map_append] at d2
    obtain ⟨ws, vS, rfl, hws, hvS⟩ := d2.snoc_inv
    refine q_pop g1.go.gh (ev_var rfl rfl) g2.at_ g2.out hvS fun v1 v2 G3 H3 c3 h1 h2 => ?_
    cases h1
    have k2 := (g2.step c3).set (hws.m c3.g)
    have k1 := (g1.step c3).other (o := .lst ws) hne g2.new k2.out
    have hpl := parts_len sb
    simp at b1 b2
    refine s_if k1.go.gh (eb_tru (ev_var rfl (.bl true)) rfl) (fun _ G4 H4 c4 => ?_) (fun z => nomatch z)
    have k1 := k1.step c4
    have k2 := k2.step c4
    have h2 := Dat.m h2 c4.g
    refine q_asg k1.go.gh (s := .dat (.int (I.length : Int))) (ev_is (ev_lenT (ev_def sb (ea_cons (ev_var rfl h2) ea_nil) trivial)) (by rw [List.length_map, hI])) fun v6 G5 H5 c5 hv6 => ?_
    have k1 := k1.step c5
    have k2 := k2.step c5
    have h2 := Dat.m h2 c5.g
    cases hv6
    have lR : accR.length = (R0 ++ I).length := k1.len
    refine q_asg k1.go.gh (s := .dat (.list I)) (ev_is (ev_slM (ds := R0 ++ I) (hi := none) (ev_var rfl rfl) k1.at_ k1.dats (eo_some (ev_sub (ev_lenM (ev_var rfl rfl) k1.at_) (ev_var rfl (.int _)))) eo_none) (by rw [lR, cut_hi])) fun v7 G6 H6 c6 hv7 => ?_
    have k1 := k1.step c6
    have k2 := k2.step c6
    have h2 := Dat.m h2 c6.g
    refine q_cutM k1.go.gh (ev_var rfl rfl) k1.at_ k1.dats (lo := none) eo_none (eo_some (ev_sub (ev_lenM (ev_var rfl rfl) k1.at_) (ev_var rfl (.int _)))) fun r ys G7 H7 c7 hr7 hys => ?_
    rw [lR, cut_lo] at hys
    have k2 := k2.step c7
    have h2 := Dat.m h2 c7.g
    have hv7 := Dat.m hv7 c7.g
    have m1 := Grow.make k2.go hr7 hys
    have ne2 : r ≠ pS := fun z => by
      rw [z, k2.at_] at hr7
      cases hr7
    have m2 := k2.other (o := .lst ys) (Ne.symm ne2) m1.new m1.out
    refine s_app (s := .dat (reb sb I)) m1.go.gh m1.at_ m1.out (ev_var rfl rfl) (ev_def (res := fun a : Sub × List PyData => reb a.1 a.2) (sb, I) (ea_cons (ev_var rfl h2) (ea_cons (ev_var rfl hv7) ea_nil)) hsv) (by rw [m1.len]; omega) fun v3 G8 H8 c8 _ hv3 => ?_
    exact ⟨m', Nat.lt_succ_self _, G8, r, pS, _, _, R0 ++ [reb sb I], S0, _, _, _, _, _, rfl, (m1.step c8).app hv3, (m2.step c8).other (Ne.symm ne2) m1.new (m1.step c8).out, ne2, hrun, by simp; omega, by omega⟩
/-! ### instance -/
abbrev s_instance : Stmt := topS 4
theorem sc_instance : FnScope ["scheme", "types", "letters", "ty", "k", "letter"] ["scheme", "types"] (defScope s_instance) := ⟨rfl, rfl, rfl, by decide +kernel, rfl, by decide +kernel, by decide +kernel⟩
abbrev spInstance : Sp := Pu (fun u : PyData => [.tuple [.tuple [.str "a"], prD], .tuple [u]]) (fun _ => True) grown
theorem ok_instance (F : Fun K "instance" "instance" s_instance f fd) (m_enumerate : mg "enumerate" = none) (d_replaced : Dfn P w K mg base "replaced" 2 ["table", "ty"] spReplaced) : FnOk P w K mg base CX0 3 f fd ["scheme", "types"] spInstance := by
  refine F.ok sc_instance (fun vs H Q E h => len1 (fun _ => rfl) h) (fun cdv A outer s H vs Q E hr h => ?_)
  obtain ⟨G, u, e, hv, _, q⟩ := h
  cases hv with
  | cons h1 h2 =>
    cases h2 with
    | cons h2 h3 =>
    cases h3
    refine ⟨_, (pss_cons (ps_asg (pv 0) (pg_tup rfl (pgs_cons (pg_name (i := 2) sc_instance.nd rfl (.inl rfl)) (pgs_cons (pg_name (i := 3) sc_instance.nd rfl (.inl rfl)) pgs_nil))))
      (pss_one (ps_ret (pe_def d_replaced (hr.mono (by omega)) (by rfl) (pa_cons (pe_dc (own := [("k", 4), ("letter", 5)]) (by rfl) sc_instance.nd (pi_enumT (by rfl) m_enumerate (pa_cons (pv 2) pa_nil)) (blkOk_by (N := ["scheme", "types", "letters", "ty", "k", "letter"]) (sc := defScope s_instance) (by decide +kernel)) (fun _ _ _ _ _ => (pgTup (n := 2) K rfl (pgs_cons (pg_name (i := 4) sc_instance.nd rfl (.inl rfl)) (pgs_cons (pg_name (i := 5) sc_instance.nd rfl (.inl rfl)) pgs_nil)))) (fun _ _ _ _ _ => pts_nil) (fun _ _ _ _ _ => (pv 5)) (fun _ _ _ _ _ => (pe_ix (ixK K) (pv 1) (pv 4) (fun _ _ => rfl)))) (pa_cons (pv 3) pa_nil)))))), ?_⟩
    refine q_pair (d1 := .tuple [.str "a"]) (d2 := prD) e (ev_var rfl h1) fun v1 v2 G1 H1 a hl ht => ?_
    have h2 := Dat.m h2 a.g
    cases hl with
    | tup e1 e2 =>
    cases e2 with
    | cons e2 e3 =>
    cases e3
    cases e2
    rename_i la
    have eT : SqT K H1 la [.str "a"] := st_of (a.gh _ _ e1)
    refine ⟨_, rfl, la, _, rfl, eT, fun Dd hD => ?_⟩
    refine ⟨fun i m H' => (i = 0 ∧ m = 1 ∧ ∃ G', Go G1 H1 G' H' ∧ G' Dd = none ∧ H' Dd = some (.dK [])) ∨ (i = 1 ∧ m = 0 ∧ ∃ G' v, Go G1 H1 G' H' ∧ G' Dd = none ∧ H' Dd = some (.dK [(.inr "a", v)]) ∧ Dat G' v u), ⟨1, .inl ⟨rfl, rfl, G1, Go.born a.gh hD, gnone a.gh hD, upd_same⟩⟩, fun i m H' hw => ?_⟩
    rcases hw with ⟨rfl, rfl, G', g', n', d'⟩ | ⟨rfl, rfl, G', v, g', n', d', hv⟩
    · refine .inr ⟨⟨_, _, st_of (g'.gh _ _ (g'.g _ _ e1)), rfl⟩, fun H2 => ∃ G' v, Go G1 H1 G' H2 ∧ G' Dd = none ∧ H2 Dd = some (.dK [(.inr "a", v)]) ∧ Dat G' v u, fun H2 hz => ⟨0, by omega, .inr ⟨rfl, rfl, hz⟩⟩, fun x H2 hy => ?_⟩
      obtain ⟨T, xx, rfl, hT, rfl, hxx⟩ := hy
      have hxe : xx = .str "a" := by
        have := hxx _ (st_of (g'.gh _ _ (g'.g _ _ e1)))
        simpa using this.symm
      subst hxe
      have b := Go.imm (o := .tup [.int ((0 : Nat) : Int), .str "a"]) g'.gh hT
      refine ⟨T, _, rfl, st_of upd_same, rfl, _, _, rfl, _, _, rfl, rfl, rfl, ?_⟩
      refine Exists.intro _ (And.intro rfl ?_)
      refine ev_it (ds := [u]) (d := u) (G := upd G' T (.tup [.int ((0 : Nat) : Int), .str "a"])) (ev_var rfl (Dat.m h2 (g'.trans b).g)) (ev_var rfl (.int 0)) at0 _ _ (Go.refl b.gh) _ fun v3 G3 H3 c hv3 => ?_
      have z := b.trans c
      have hne : Dd ≠ T := ne_of_none d' hT
      have nt : ∀ ps, HO.dK ([] : List (L2.Key × V)) ≠ HO.tbl ps := fun _ z => nomatch z
      have at3 := z.h _ _ d' nt
      have n3 := z.out n' d'
      exact ⟨[], .inr "a", rfl, at3, by decide, G3, v3, (g'.trans z).mut hD n3, n3, upd_same, hv3⟩
    · refine .inl ⟨⟨_, st_of (g'.gh _ _ (g'.g _ _ e1)), by simp⟩, ?_⟩
      refine ⟨_, rfl, ?_⟩
      exact ⟨G', Dd, v2, v, u, g'.gh, rfl, Dat.m ht g'.g, d', hv, fun v' G2 H2 c hv' => q v' G2 H2 ((a.trans g').trans c) hv'⟩
end
end G

namespace G
open PySem L2 Evl
open M
section
variable {K : PySem.W.Frag} {σ : L2.St} {G H : Hp} {ta tb te tc : TE} {D : Ends} {tu tz : TS} {g : TG} {t : TT}
/-- a comprehension over a list of one's own -/
theorem ev_lcM {α : Type} {enc : α → PyData} {as : List α} {tl : TE} {vs : List Nat} {l : Addr} {xs : List V} (f : α → PyData) (h : Evs tl σ G H (.val (.ref l))) (hx : H l = some (.lst xs)) (hd : Dats G xs (as.map enc)) (hl : as.length ≤ 1000000)
    (k : ∀ a ∈ as, ∀ x G1 H1, Go G H G1 H1 → Dat G1 x (enc a) → ∃ σ2, (∀ R : L2.St → Hp → Prop, R σ2 H1 → g x (wipe σ vs) H1 R) ∧ wipe σ2 vs = wipe σ vs ∧ EvD te σ2 G1 H1 (f a)) :
    EvD (tLc (iList K tl) g tYes te vs) σ G H (.list (as.map f)) := fun G0 H0 a0 Q q => h G0 H0 a0 _ fun x G1 H1 a hv => by
  cases hv
  have hx1 := (a0.trans a).lst hx
  have hd1 := hd.m (a0.trans a).g
  refine ⟨l, rfl, ⟨xs, sq_of hx1⟩, fun Dl hD => ?_⟩
  have gl : xs.length = as.length := by rw [hd.len, List.length_map]
  have nl : l ≠ Dl := ne_of_none hx1 hD
  refine lc_list (xs := xs) (fun i h => ∃ G2, Go G1 H1 G2 h ∧ G2 Dl = none ∧ ∃ acc, h Dl = some (.lst acc) ∧ Dats G2 acc ((as.take i).map f)) ⟨G1, Go.born a.gh hD, gnone a.gh hD, [], upd_same, .nil⟩
    (fun i h _ ⟨G2, p, _⟩ => sq_of (p.lst hx1)) (fun i x h hx2 ⟨G2, p, n2, acc, ha, hda⟩ => ?_) fun h ⟨G2, p, n2, acc, ha, hda⟩ => ?_
  · obtain ⟨d, hd2, hv⟩ := hd1.getM hx2
    have hi := (List.getElem?_eq_some_iff.mp hd2).1
    obtain ⟨σ2, hg, hw, he⟩ := k d (List.mem_of_getElem? hd2) x G2 h ((a0.trans a).trans p) (hv.m p.g)
    have tk : as.take (i + 1) = as.take i ++ [d] := by rw [List.take_add_one, hd2]; rfl
    refine hg _ ⟨hw, eb_yes G2 h (Go.refl p.gh) _ fun G3 H3 b => ?_⟩
    rw [if_pos rfl]
    refine he G3 H3 b _ fun y G4 H4 b2 hy => ?_
    have bb := b.trans b2
    refine ⟨acc, bb.lst ha, ?_, G4, (p.trans bb).mut hD (bb.out n2 ha), bb.out n2 ha, _, upd_same, ?_⟩
    · rw [hda.len, List.length_map, List.length_take]
      have : min i as.length ≤ as.length := Nat.min_le_right _ _
      exact Nat.lt_of_le_of_lt (by omega) (show 1000000 < sizeLine by decide)
    · rw [tk, List.map_append]
      exact (hda.m bb.g).snoc hy
  · rw [gl, List.take_length] at hda
    refine q _ _ _ (a.trans (p.freeze hD n2 ha)) (Dat.lst upd_same (hda.m ?_))
    intro b u z
    rw [upd_ne (ne_of_none z n2)]
    exact z
/-- a comprehension over nothing -/
theorem ev_lc0 {tl : TE} {vs : List Nat} {tt : TT} (h : EvD tl σ G H (.list [])) : EvD (tLc (iList K tl) g tt te vs) σ G H (.list []) := fun G0 H0 a0 Q q => h G0 H0 a0 _ fun x G1 H1 a hv => by
  cases hv with
  | lst e1 e2 =>
  cases e2
  rename_i l
  refine ⟨l, rfl, ⟨[], sq_of (a.gh _ _ e1)⟩, fun Dl hD => ?_⟩
  refine lc_list (xs := []) (fun i h => ∃ G2, Go G1 H1 G2 h ∧ G2 Dl = none ∧ h Dl = some (.lst [])) ⟨G1, Go.born a.gh hD, gnone a.gh hD, upd_same⟩
    (fun i h _ ⟨G2, p, _⟩ => sq_of (p.gh _ _ (p.g _ _ e1))) (fun i x h hx2 _ => by simp at hx2) fun h ⟨G2, p, n2, ha⟩ => ?_
  exact q _ _ _ (a.trans (p.freeze hD n2 ha)) (Dat.lst upd_same .nil)
/-- for a, b in [..] within a comprehension -/
theorem turn2 {x : V} {d1 d2 : PyData} {i j : Nat} {vs : List Nat} (e : Ex G H) (h : Dat G x (.tuple [d1, d2])) : ∃ v1 v2, Dat G v1 d1 ∧ Dat G v2 d2 ∧ ∀ R : L2.St → Hp → Prop, R (((wipe σ vs).set i (some v1)).set j (some v2)) H → gTup K 2 (gCons (gName i) (gCons (gName j) gNil)) x (wipe σ vs) H R := by
  obtain ⟨p, v1, v2, rfl, hp, h1, h2⟩ := pair_of h
  exact ⟨v1, v2, h1, h2, fun R r => ⟨p, _, rfl, st_of (e _ _ hp), rfl, _, _, rfl, _, _, rfl, rfl, r⟩⟩
end
section
variable {P : Program} {w : World} {K : PySem.W.Frag} {mg : Str → Option Value} {base : Heap} {f : Addr} {fd : FuncData} {σ : L2.St} {G H : Hp} {ta tb te : TE}
/-! ### constructors -/
def boolD : PyData := .tuple [.str "bool", .tuple [], .tuple [.tuple [.str "False", .none], .tuple [.str "True", .none]]]
def consD : List (Str × PyData) := [("Nil", .none), ("Cons", prD)]
def coD (c : Str × PyData) : PyData := .tuple [.str c.1, c.2]
def dataD : PyData := .tuple [boolD, .tuple [.str "list", .tuple [.str "a"], .tuple (consD.map coD)]]
def conOf : Ty → PyData
  | .list t => .list [.tuple [.str "Nil", .none], .tuple [.str "Cons", (Ty.tup [t, .list t]).d]]
  | _ => .none
theorem ty_cases (t : Ty) (hn : ∀ ts, t ≠ .tup ts) : (∃ s r, t.d = .tuple (.str s :: r) ∧ (s == "con") = false ∧ conOf t = .none) ∨
    ∃ nm as b, t.d = .tuple [.str "con", .str nm, .tuple as] ∧ (("bool" : Str) == nm) = false ∧ (("list" : Str) == nm) = b ∧ (b = false → conOf t = .none) ∧ (b = true → ∃ u : PyData, as = [u] ∧ conOf t = .list [.tuple [.str "Nil", .none], .tuple [.str "Cons", grown u]]) := by
  cases t with
  | int => exact .inr ⟨"int", [], false, rfl, by decide, by decide, fun _ => rfl, fun z => nomatch z⟩
  | str => exact .inr ⟨"string", [], false, rfl, by decide, by decide, fun _ => rfl, fun z => nomatch z⟩
  | list t => exact .inr ⟨"list", [t.d], true, rfl, by decide, by decide, fun z => (nomatch z), fun _ => ⟨t.d, rfl, rfl⟩⟩
  | tup ts => exact absurd rfl (hn ts)
  | op k =>
    match k with
    | 0 => exact .inl ⟨"fun", _, rfl, by decide, rfl⟩
    | 1 => exact .inr ⟨"ref", _, false, rfl, by decide, by decide, fun _ => rfl, fun z => nomatch z⟩
    | 2 => exact .inl ⟨"var", _, rfl, by decide, rfl⟩
    | _ + 3 => exact .inl ⟨"var", _, rfl, by decide, rfl⟩
theorem ev_nkey {s k : Str} {r : List PyData} (h : EvD ta σ G H (.tuple (.str s :: r))) {b : Bool} (e : (s == k) = b) : EvD (tOp rNe (tOp (rIxA K) ta (tC (.int 0))) (tC (.str k))) σ G H (.bool (!b)) :=
  ev_is (ev_neF (d := .str s) (ev_it (ds := .str s :: r) h ev_int at0) ev_str rfl rfl) (by rw [← e]; simp [PyData.eqv])
abbrev s_constructors : Stmt := topS 6
theorem sc_constructors : FnScope ["data", "ty", "name", "letters", "cons", "found", "constructor", "argument"] ["data", "ty"] (defScope s_constructors) := ⟨rfl, rfl, rfl, by decide +kernel, rfl, by decide +kernel, by decide +kernel⟩
abbrev spConstructors : Sp := Pu (fun t : Ty => [dataD, t.d]) (fun t => ∀ ts, t ≠ .tup ts) conOf
theorem ok_constructors (F : Fun K "constructors" "constructors" s_constructors f fd) (d_instance : Dfn P w K mg base "instance" 3 ["scheme", "types"] spInstance) : FnOk P w K mg base CX0 4 f fd ["data", "ty"] spConstructors := by
  refine F.ok sc_constructors (fun vs H Q E h => len1 (fun _ => rfl) h) (fun cdv A outer s H vs Q E hr h => ?_)
  obtain ⟨G, t, e, hv, hn, q⟩ := h
  cases hv with
  | cons h1 h2 =>
    cases h2 with
    | cons h2 h3 =>
    cases h3
    rename_i v1 v2
    refine ⟨_, (pss_cons (ps_if (pt_cmpR op_ne (pe_ix (ixK K) (pv 1) pe_int (fun _ _ => rfl)) pe_str (nomark _)) (pss_one (ps_ret pe_non)) pss_nil)
      (pss_cons (ps_for PassesOwn.never rfl (pi_tup (pv 0)) (pg_tup rfl (pgs_cons (pg_name (i := 2) sc_constructors.nd rfl (.inl rfl)) (pgs_cons (pg_name (i := 3) sc_constructors.nd rfl (.inl rfl)) (pgs_cons (pg_name (i := 4) sc_constructors.nd rfl (.inl rfl)) pgs_nil)))) (pss_one (ps_if (pt_cmpR op_eq (pv 2) (pe_ix (ixK K) (pv 1) pe_int (fun _ _ => rfl)) (nomark _)) (pss_cons (ps_set (i := 5) sc_constructors.nd rfl (.inl rfl) (pe_lst pa_nil))
      (pss_cons (ps_for PassesOwn.never rfl (pi_tup (pv 4)) (pg_tup rfl (pgs_cons (pg_name (i := 6) sc_constructors.nd rfl (.inl rfl)) (pgs_cons (pg_name (i := 7) sc_constructors.nd rfl (.inl rfl)) pgs_nil))) (pss_cons (ps_if (pt_cmp (pc_notN (pv 7))) (pss_one (ps_set (i := 7) sc_constructors.nd rfl (.inl rfl) (pe_def d_instance (hr.mono (by omega)) (by rfl) (pa_cons (pe_tup (pa_cons (pv 3) (pa_cons (pv 7) pa_nil))) (pa_cons (pe_ix (ixK K) (pv 1) pe_int (fun _ _ => rfl)) pa_nil))))) pss_nil)
      (pss_one (ps_expr (pe_bm PySem.F.plainAttrs_list PySem.F.slot_list_append PySem.F.type_list_append mt_append (pv 5) (pa_cons (pe_tup (pa_cons (pv 6) (pa_cons (pv 7) pa_nil))) pa_nil))))))
      (pss_one (ps_ret (pe_orT (pv 5) (pe_one pe_non)))))) pss_nil)))
      (pss_one (ps_ret pe_non)))), ?_⟩
    rcases ty_cases t hn with ⟨sy, r, ed, es, ec⟩ | ⟨nm, as, b, ed, eb1, eb2, ef, et⟩
    · rw [ed] at h2
      refine q_when (b := true) e (eb_test (ev_nkey (ev_var rfl h2) es)) (fun _ G1 H1 a => ?_) (fun z => nomatch z)
      exact s_ret a.gh ev_non fun v G2 H2 b hd => q v G2 H2 (a.trans b) (by rw [ec]; exact hd)
    · rw [ed] at h2
      refine q_when (b := false) e (eb_test (ev_nkey (ev_var rfl h2) (b := true) rfl)) (fun z => nomatch z) (fun _ G1 H1 a => ?_)
      refine q_forT (enc := id) (as := [boolD, .tuple [.str "list", .tuple [.str "a"], .tuple (consD.map coD)]]) a.gh (ev_var rfl (Dat.m h1 a.g)) fun G2 H2 a2 => ?_
      refine ⟨fun i σ' G' H' => ∃ y2 y3 y4 y5 y6 y7, σ' = [some v1, some v2, y2, y3, y4, y5, y6, y7] ∧ Go G H G' H' ∧ Ex G2 G' ∧ (i = 2 → b = false), ⟨none, none, none, none, none, none, rfl, a.trans a2, Ex.refl _, fun z => nomatch z⟩, fun i σ' G' H' ⟨_, _, _, _, _, _, _, g, ex, _⟩ => ⟨ex, g.gh⟩, fun i ad x σ' G' H' hi ⟨y2, y3, y4, y5, y6, y7, hσ, g, ex, _⟩ hx => ?_, fun σ' G' H' ⟨y2, y3, y4, y5, y6, y7, hσ, g, ex, hb⟩ => ?_⟩
      · subst hσ
        match i with
        | 0 =>
          cases hi
          refine g3 (d1 := .str "bool") (d2 := .tuple []) g.gh hx fun w1 w2 w3 hw1 hw2 hw3 => ?_
          refine s_when (b := false) g.gh (eb_test (ev_is (ev_eqF (d := .str "bool") (e := .str nm) (ev_var rfl hw1) (ev_it (ds := [.str "con", .str nm, .tuple as]) (ev_var rfl (Dat.m h2 g.g)) ev_int at1) rfl rfl) (by rw [← eb1]; simp [PyData.eqv]))) (fun z => nomatch z) (fun _ G3 H3 c => ?_)
          exact ⟨G3, _, _, _, _, _, _, rfl, g.trans c, ex.trans c.g, fun z => nomatch z⟩
        | 1 =>
          cases hi
          refine g3 (d1 := .str "list") (d2 := .tuple [.str "a"]) (d3 := .tuple (consD.map coD)) g.gh hx fun w1 w2 w3 hw1 hw2 hw3 => ?_
          refine s_when (b := b) g.gh (eb_test (ev_is (ev_eqF (d := .str "list") (e := .str nm) (ev_var rfl hw1) (ev_it (ds := [.str "con", .str nm, .tuple as]) (ev_var rfl (Dat.m h2 g.g)) ev_int at1) rfl rfl) (by rw [← eb2]; simp [PyData.eqv]))) (fun hb G3 H3 c => ?_) (fun hb G3 H3 c => ?_)
          · obtain ⟨u, rfl, ec⟩ := et hb
            refine q_new c.gh fun p hp a3 => ?_
            have g0 := Grow.born (g.trans c) hp
            refine q_forT (enc := coD) (as := consD) g0.go.gh (ev_var rfl (Dat.m hw3 (c.trans a3).g)) fun G4 H4 a4 => ?_
            refine ⟨fun i σ' G' H' => ∃ y6 y7 acc, σ' = [some v1, some v2, some w1, some w2, some w3, some (.ref p), y6, y7] ∧ Grow G H p acc ([coD ("Nil", .none), coD ("Cons", grown u)].take i) G' H' ∧ Ex G4 G', ⟨_, _, [], rfl, g0.step a4, Ex.refl _⟩, fun i σ' G' H' ⟨_, _, _, _, g, ex⟩ => ⟨ex, g.go.gh⟩, fun i ad x σ' G' H' hi ⟨y6, y7, acc, hσ, g4, ex4⟩ hx => ?_, fun σ' G' H' ⟨y6, y7, acc, hσ, g4, ex4⟩ => ?_⟩
            · subst hσ
              have hex : Ex G' G' := Ex.refl _
              have hw2' := Dat.m hw2 ((c.trans (a3.trans a4)).g.trans ex4)
              have l4 := g4.len
              match i with
              | 0 =>
                cases hi
                refine g2 (d1 := .str "Nil") (d2 := .none) g4.go.gh hx fun z1 z2 hz1 hz2 => ?_
                refine q_when (b := false) g4.go.gh (eb_B (ev_notNb (ev_var rfl hz2) rfl)) (fun z => nomatch z) (fun _ G5 H5 c5 => ?_)
                have g5 := g4.step c5
                refine s_app (s := .dat (coD ("Nil", .none))) c5.gh g5.at_ g5.out (ev_var rfl rfl) (ev_tup (ds := [.str "Nil", .none]) (ea_cons (ev_var rfl (Dat.m hz1 c5.g)) (ea_cons (ev_var rfl (Dat.m hz2 c5.g)) ea_nil)) (by simp)) (by rw [l4]; simp) fun v G6 H6 c6 _ hv => ?_
                exact ⟨G6, _, _, _, rfl, (g5.step c6).app hv, ex4.trans (c5.trans c6).g⟩
              | 1 =>
                cases hi
                refine g2 (d1 := .str "Cons") (d2 := prD) g4.go.gh hx fun z1 z2 hz1 hz2 => ?_
                refine q_when (b := true) g4.go.gh (eb_B (ev_notNb (ev_var rfl hz2) (b := false) rfl)) (fun _ G5 H5 c5 => ?_) (fun z => nomatch z)
                have g5 := g4.step c5
                refine s_asg (s := .dat (grown u)) c5.gh (ev_def (res := grown) u (ea_cons (ev_tup (ds := [.tuple [.str "a"], prD]) (ea_cons (ev_var rfl (Dat.m hw2' c5.g)) (ea_cons (ev_var rfl (Dat.m hz2 c5.g)) ea_nil)) (by simp)) (ea_cons (ev_it (ds := [.str "con", .str nm, .tuple [u]]) (ev_var rfl (Dat.m h2 g5.go.g)) ev_int rfl) ea_nil)) trivial) fun v5 G6 H6 c6 hv5 => ?_
                have g6 := g5.step c6
                refine s_app (s := .dat (coD ("Cons", grown u))) c6.gh g6.at_ g6.out (ev_var rfl rfl) (ev_tup (ds := [.str "Cons", grown u]) (ea_cons (ev_var rfl (Dat.m hz1 (c5.trans c6).g)) (ea_cons (ev_var rfl hv5) ea_nil)) (by simp)) (by rw [l4]; simp) fun v G7 H7 c7 _ hv => ?_
                exact ⟨G7, _, _, _, rfl, (g6.step c7).app hv, ex4.trans ((c5.trans c6).trans c7).g⟩
              | _ + 2 => cases hi
            · subst hσ
              obtain ⟨z1, z2⟩ := g4.done
              exact s_ret (s := .dat (.list [coD ("Nil", .none), coD ("Cons", grown u)])) z1.gh (ev_orT (b := true) (ev_var rfl z2) rfl (fun _ => rfl) (fun z => nomatch z)) fun v G2 H2 c hd => q v G2 H2 (z1.trans c) (by rw [ec]; exact hd)
          · exact ⟨G3, _, _, _, _, _, _, rfl, g.trans c, ex.trans c.g, fun _ => hb⟩
        | _ + 2 => cases hi
      · subst hσ
        exact s_ret g.gh ev_non fun v G2 H2 b hd => q v G2 H2 (g.trans b) (by rw [ef (hb rfl)]; exact hd)
end
end G

namespace G
open PySem L2 Evl
open M
section
variable {P : Program} {w : World} {K : PySem.W.Frag} {mg : Str → Option Value} {base : Heap} {f : Addr} {fd : FuncData} {σ : L2.St} {G H : Hp} {ta tb te : TE}
theorem foundStep_len (fs : List Hd) (p : Pat) : (foundStep fs p).length ≤ fs.length + 1 := by
  unfold foundStep
  split <;> simp
theorem found_len : ∀ (col : List Pat) (fs : List Hd), (col.foldl foundStep fs).length ≤ fs.length + col.length
  | [], fs => by simp
  | p :: col, fs => by
    have h1 := found_len col (foundStep fs p)
    have h2 := foundStep_len fs p
    simp only [List.foldl_cons, List.length_cons]
    omega
theorem found_hok : ∀ (col : List Pat) (fs : List Hd), (∀ p ∈ col, pok p = true) → (∀ h ∈ fs, hok h = true) → ∀ h ∈ col.foldl foundStep fs, hok h = true
  | [], fs, _, hf => hf
  | p :: col, fs, hc, hf => by
    refine found_hok col (foundStep fs p) (fun q hq => hc q (List.mem_cons_of_mem _ hq)) fun h hh => ?_
    unfold foundStep at hh
    split at hh
    · exact hf h hh
    · rcases List.mem_append.mp hh with z | z
      · exact hf h z
      · rw [List.mem_singleton.mp z]
        exact hok_head (hc p List.mem_cons_self)
def noTys (h : Hd) : PyData := .tuple [h.d, .list []]
theorem noTys_ch (fs : List Hd) : fs.map noTys = (fs.map fun h => ((h, []) : Hd × List Ty)).map chD := by
  rw [List.map_map]
  rfl
abbrev s_heads : Stmt := topS 10
theorem sc_heads : FnScope ["data", "ty", "column", "cons", "choices", "name", "argument", "found", "pattern", "head", "inner", "tys"] ["data", "ty", "column"] (defScope s_heads) := ⟨rfl, rfl, rfl, by decide +kernel, rfl, by decide +kernel, by decide +kernel⟩
abbrev spHeads : Sp := Pu (fun a : Ty × List Pat => [dataD, a.1.d, rowD a.2]) (fun a => (∀ k, a.1 ≠ .op k) ∧ a.2.length ≤ 1000 ∧ ∀ p ∈ a.2, pok p = true) fun a => .tuple [chsD (heads a.1 a.2).1, .bool (heads a.1 a.2).2]
theorem ok_heads (F : Fun K "heads" "heads" s_heads f fd) (m_list : mg "list" = none) (d_constructors : Dfn P w K mg base "constructors" 4 ["data", "ty"] spConstructors) (d_is_open : Dfn P w K mg base "is_open" 1 ["pattern"] spIsOpen) (d_head_of : Dfn P w K mg base "head_of" 1 ["pattern"] spHeadOf) : FnOk P w K mg base CX0 5 f fd ["data", "ty", "column"] spHeads := by
  refine F.ok sc_heads (fun vs H Q E h => len1 (fun _ => rfl) h) (fun cdv A outer s H vs Q E hr h => ?_)
  obtain ⟨G, ⟨t, col⟩, e, hv, ⟨hn, hcl, hcol⟩, q⟩ := h
  have hu := hu_in hr
  simp only at hn hcl hcol
  cases hv with
  | cons h1 h2 =>
    cases h2 with
    | cons h2 h3 =>
    cases h3 with
    | cons h3 h4 =>
    cases h4
    rename_i v1 v2 v3
    refine ⟨_, (pss_cons (ps_if (pt_cmpR op_eq (pe_ix (ixK K) (pv 1) pe_int (fun _ _ => rfl)) pe_str (nomark _)) (pss_one (ps_ret (pe_tup (pa_cons (pe_lst (pa_cons (pe_tup (pa_cons (pe_tup pa_nil) (pa_cons (pe_callTy (listK K) (by rfl) m_list (by decide +kernel) (pa_cons (pe_ix (ixK K) (pv 1) pe_int (fun _ _ => rfl)) pa_nil)) pa_nil))) pa_nil)) (pa_cons pe_bl pa_nil))))) pss_nil)
      (pss_cons (ps_set (i := 3) sc_heads.nd rfl (.inl rfl) (pe_def d_constructors (hr.mono (by omega)) (by rfl) (pa_cons (pv 0) (pa_cons (pv 1) pa_nil))))
      (pss_cons (ps_set (i := 4) sc_heads.nd rfl (.inl rfl) (pe_lst pa_nil))
      (pss_cons (ps_if (pt_cmp (pc_notN (pv 3))) (pss_cons (ps_setLc (i := 4) (own := [("name", 5), ("argument", 6)]) (by rfl) sc_heads.nd rfl rfl (sw_true rfl rfl rfl (by decide +kernel)) (pi_list (pv 3)) (blkOk_by (N := ["data", "ty", "column", "cons", "choices", "name", "argument", "found", "pattern", "head", "inner", "tys"]) (sc := defScope s_heads) (by decide +kernel)) (fun _ _ _ _ _ => (pgTup (n := 2) K rfl (pgs_cons (pg_name (i := 5) sc_heads.nd rfl (.inl rfl)) (pgs_cons (pg_name (i := 6) sc_heads.nd rfl (.inl rfl)) pgs_nil)))) (fun _ _ _ _ _ => pts_nil) (fun _ _ _ _ _ => (pe_tup (pa_cons (pv 5) (pa_cons (pe_ifExp (pt_cmp (pc_isN (pv 6))) (pe_lst pa_nil) (pe_lst (pa_cons (pv 6) pa_nil))) pa_nil)))))
      (pss_one (ps_if (pt_cmpR op_ne (pe_ix (ixK K) (pv 1) pe_int (fun _ _ => rfl)) pe_str (nomark _)) (pss_one (ps_ret (pe_tup (pa_cons (pv 4) (pa_cons pe_bl pa_nil))))) pss_nil))) pss_nil)
      (pss_cons (ps_set (i := 7) sc_heads.nd rfl (.inl rfl) (pe_lst pa_nil))
      (pss_cons (ps_for PassesOwn.never rfl (pi_list (pv 2)) (pg_name (i := 8) sc_heads.nd rfl (.inr rfl)) (pss_cons (ps_if (PW.pt (pw_or (pt_val (pe_def d_is_open (hr.mono (by omega)) (by rfl) (pa_cons (pv 8) pa_nil))) (pw_or1 (pt_cmpR (inK K hu) (pe_def d_head_of (hr.mono (by omega)) (by rfl) (pa_cons (pv 8) pa_nil)) (pe_lc (own := [("head", 9), ("inner", 10)]) (by rfl) sc_heads.nd (pi_list (pv 7)) (blkOk_by (N := ["data", "ty", "column", "cons", "choices", "name", "argument", "found", "pattern", "head", "inner", "tys"]) (sc := defScope s_heads) (by decide +kernel)) (fun _ _ _ _ _ => (pgTup (n := 2) K rfl (pgs_cons (pg_name (i := 9) sc_heads.nd rfl (.inl rfl)) (pgs_cons (pg_name (i := 10) sc_heads.nd rfl (.inl rfl)) pgs_nil)))) (fun _ _ _ _ _ => pts_nil) (fun _ _ _ _ _ => (pv 9))) (by rfl))))) (pss_one ps_continue) pss_nil)
      (pss_cons (ps_setLc (i := 10) (own := [("head", 9), ("tys", 11)]) (by rfl) sc_heads.nd rfl rfl (sw_true rfl rfl rfl (by decide +kernel)) (pi_list (pv 4)) (blkOk_by (N := ["data", "ty", "column", "cons", "choices", "name", "argument", "found", "pattern", "head", "inner", "tys"]) (sc := defScope s_heads) (by decide +kernel)) (fun _ _ _ _ _ => (pgTup (n := 2) K rfl (pgs_cons (pg_name (i := 9) sc_heads.nd rfl (.inl rfl)) (pgs_cons (pg_name (i := 11) sc_heads.nd rfl (.inl rfl)) pgs_nil)))) (fun _ _ _ _ _ => (pts_one (pt_cmpR op_eq (pv 9) (pe_def d_head_of (hr.mono (by omega)) (by rfl) (pa_cons (pv 8) pa_nil)) (nomark _)))) (fun _ _ _ _ _ => (pv 11)))
      (pss_one (ps_expr (pe_bm PySem.F.plainAttrs_list PySem.F.slot_list_append PySem.F.type_list_append mt_append (pv 7) (pa_cons (pe_tup (pa_cons (pe_def d_head_of (hr.mono (by omega)) (by rfl) (pa_cons (pv 8) pa_nil)) (pa_cons (pe_ifExp (ptTru K (pv 10)) (pe_ix (ixK K) (pv 10) pe_int (fun _ _ => rfl)) (pe_lst pa_nil)) pa_nil))) pa_nil)))))))
      (pss_one (ps_ret (pe_tup (pa_cons (pv 7) (pa_cons pe_bl pa_nil))))))))))), ?_⟩
    have hcase : (∃ ts, t = .tup ts) ∨ (∃ u, t = .list u) ∨ ((∀ ts, t ≠ .tup ts) ∧ (∃ s r, t.d = .tuple (.str s :: r) ∧ (s == "tuple") = false) ∧ conOf t = .none ∧ heads t col = ((found col).map fun h => (h, []), true)) := by
      cases t with
      | op k => exact absurd rfl (hn k)
      | tup ts => exact .inl ⟨ts, rfl⟩
      | list u => exact .inr (.inl ⟨u, rfl⟩)
      | int => exact .inr (.inr ⟨fun ts z => (nomatch z), ⟨_, _, rfl, by decide⟩, rfl, rfl⟩)
      | str => exact .inr (.inr ⟨fun ts z => (nomatch z), ⟨_, _, rfl, by decide⟩, rfl, rfl⟩)
    rcases hcase with ⟨ts, rfl⟩ | ⟨t, rfl⟩ | ⟨hnt, ⟨sy, r, ed, es⟩, ec, eh⟩
    · refine q_when (b := true) e (eb_key (ev_var rfl h2) rfl) (fun _ G1 H1 a => ?_) (fun z => nomatch z)
      refine s_ret a.gh (ev_tup (ds := [.list [.tuple [.tuple [], .list (Ty.ds ts)]], .bool false]) (ea_cons (ev_lst (ds := [.tuple [.tuple [], .list (Ty.ds ts)]]) (ea_cons (ev_tup (ds := [.tuple [], .list (Ty.ds ts)]) (ea_cons (ev_tup (ds := []) ea_nil (by decide)) (ea_cons (ev_listT (ev_it (ds := [.str "tuple", .tuple (Ty.ds ts)]) (ev_var rfl (Dat.m h2 a.g)) ev_int at1)) ea_nil)) (by simp)) ea_nil) (by simp)) (ea_cons ev_bl ea_nil)) (by simp)) fun v G2 H2 b hd => q v G2 H2 (a.trans b) hd
    · refine q_when (b := false) e (eb_key (ev_var rfl h2) rfl) (fun z => nomatch z) (fun _ G1 H1 a => ?_)
      refine q_asg a.gh (s := .dat (conOf (.list t))) (ev_def (res := conOf) (Ty.list t) (ea_cons (ev_var rfl (Dat.m h1 a.g)) (ea_cons (ev_var rfl (Dat.m h2 a.g)) ea_nil)) (fun ts z => nomatch z)) fun vc G2 H2 b hc => ?_
      refine q_asg b.gh (s := .dat (.list [])) (ev_lst (ds := []) ea_nil (by decide)) fun vz G3 H3 c hz => ?_
      have hc := Is.m hc c.g
      refine q_when (b := true) c.gh (eb_B (ev_notNb (ev_var rfl hc) (b := false) rfl)) (fun _ G4 H4 c4 => ?_) (fun z => nomatch z)
      refine q_asg c4.gh (s := .dat (chsD (heads (.list t) col).1)) (ev_lcA (enc := coD) (as := [("Nil", .none), ("Cons", (Ty.tup [t, .list t]).d)]) (fun a => .tuple [.str a.1, if isNo a.2 then .list [] else .list [a.2]]) (ev_var rfl (hc.m c4.g)) (by simp) fun ad hm x G5 H5 c5 hx => ?_) fun vch G5 H5 c5 hch => ?_
      · obtain ⟨w1, w2, k1, k2, hg⟩ := turn2 (d1 := .str ad.1) (d2 := ad.2) c5.gh hx
        refine ⟨_, hg, rfl, ev_tup (ds := [.str ad.1, if isNo ad.2 then .list [] else .list [ad.2]]) (ea_cons (ev_var rfl k1) (ea_cons (ev_if (b := isNo ad.2) (eb_B (ev_isNb (ev_var rfl k2) rfl)) (fun z => by rw [if_pos z]; exact ev_lst (ds := []) ea_nil (by decide)) (fun z => by rw [z]; exact ev_lst (ds := [ad.2]) (ea_cons (ev_var rfl k2) ea_nil) (by simp))) ea_nil)) (by simp)⟩
      · have all := ((a.trans b).trans c).trans (c4.trans c5)
        refine s_if (b := true) c5.gh (eb_test (ev_is (ev_neF (d := .str "list") (e := .str "exn") (ev_it (ds := [.str "con", .str "list", .tuple [t.d]]) (ev_var rfl (Dat.m h2 all.g)) ev_int at1) ev_str rfl rfl) rfl)) (fun _ G6 H6 c6 => ?_) (fun z => nomatch z)
        exact s_ret c6.gh (ev_tup (ds := [chsD (heads (.list t) col).1, .bool false]) (ea_cons (ev_var rfl (hch.m c6.g)) (ea_cons ev_bl ea_nil)) (by simp)) fun v G7 H7 c7 hd => q v G7 H7 ((all.trans c6).trans c7) hd
    · have h2k := h2
      simp only [ed] at h2k
      refine q_when (b := false) e (eb_key (ev_var rfl h2k) es) (fun z => nomatch z) (fun _ G1 H1 a => ?_)
      refine q_asg a.gh (s := .dat .none) (ev_is (ev_def (res := conOf) t (ea_cons (ev_var rfl (Dat.m h1 a.g)) (ea_cons (ev_var rfl (Dat.m h2 a.g)) ea_nil)) hnt) ec) fun vc G2 H2 b hc => ?_
      refine q_asg b.gh (s := .dat (.list [])) (ev_lst (ds := []) ea_nil (by decide)) fun vz G3 H3 c hz => ?_
      have hc := Is.m hc c.g
      refine q_when (b := false) c.gh (eb_B (ev_notNb (ev_var rfl hc) (b := true) rfl)) (fun z => nomatch z) (fun _ G4 H4 c4 => ?_)
      refine q_new c4.gh fun p hp a4 => ?_
      have all := ((a.trans b).trans c).trans c4
      have g0 := Grow.born all hp
      have h3' := h3
      simp only [rowD, Pat.ds_map] at h3'
      refine q_for (enc := Pat.d) (as := col) g0.go.gh (ev_var rfl (Dat.m h3' g0.go.g)) fun G5 H5 a5 => ?_
      have hz := hz.m ((c4.trans a4).trans a5).g
      refine ⟨fun i σ' G' H' => ∃ y5 y6 y8 y9 y10 y11 acc, σ' = [some v1, some v2, some v3, some vc, some vz, y5, y6, some (.ref p), y8, y9, y10, y11] ∧ Grow G H p acc ((found (col.take i)).map noTys) G' H' ∧ Ex G5 G', ⟨_, _, _, _, _, _, [], rfl, g0.step a5, Ex.refl _⟩, fun i σ' G' H' ⟨_, _, _, _, _, _, _, _, g, ex⟩ => ⟨ex, g.go.gh⟩, fun i ad x σ' G' H' hi ⟨y5, y6, y8, y9, y10, y11, acc, hσ, g5, ex⟩ hx => ?_, fun σ' G' H' ⟨y5, y6, y8, y9, y10, y11, acc, hσ, g5, ex⟩ => ?_⟩
      · subst hσ
        have hm := List.mem_of_getElem? hi
        have tk : found (col.take (i + 1)) = foundStep (found (col.take i)) ad := by
          rw [List.take_add_one, hi]
          unfold found
          rw [Option.toList_some, List.foldl_append]
          rfl
        have fl : (found (col.take i)).length ≤ 1000 := by
          have z := found_len (col.take i) []
          rw [List.length_take] at z
          have := Nat.min_le_right i col.length
          unfold found
          simp at z
          omega
        have fh : ∀ h ∈ found (col.take i), hok h = true := found_hok _ [] (fun p hp => hcol p (List.mem_of_mem_take hp)) (by simp)
        have hz := hz.m ex
        refine q_when (b := (ad.isOpen || (found (col.take i)).contains ad.head)) g5.go.gh (eb_or (eb_B (ev_def ad (ea_cons (ev_var rfl hx) ea_nil) trivial)) fun ho => eb_test (ev_is (ev_inD (ev_def ad (ea_cons (ev_var rfl hx) ea_nil) ho) (ev_lcM (enc := noTys) (as := found (col.take i)) Hd.d (ev_var rfl rfl) g5.at_ g5.dats (by omega) fun hd _ x2 G6 H6 c6 hx2 => ?_) (hd_shaped (hok_head (hcol ad hm))) (hds_shaped fh)) (by rw [any_eqv]))) (fun hb G6 H6 c6 => ?_) (fun hb G6 H6 c6 => ?_)
        · obtain ⟨w1, w2, k1, k2, hg⟩ := turn2 (d1 := hd.d) (d2 := .list []) c6.gh hx2
          exact ⟨_, hg, rfl, ev_var rfl k1⟩
        · refine ⟨G6, y5, y6, _, y9, y10, y11, acc, rfl, ?_, ex.trans c6.g⟩
          rw [tk]
          unfold foundStep
          rw [if_pos hb]
          exact g5.step c6
        · have ho : ad.isOpen = false := by
            cases z : ad.isOpen with
            | false => rfl
            | true => rw [z] at hb; cases hb
          have g6 := g5.step c6
          have hx6 := Dat.m hx c6.g
          refine q_asg c6.gh (s := .dat (.list [])) (ev_lc0 (ev_var rfl (hz.m c6.g))) fun vi G7 H7 c7 hvi => ?_
          have g7 := g6.step c7
          have hx7 := Dat.m hx6 c7.g
          refine s_app (s := .dat (noTys ad.head)) c7.gh g7.at_ g7.out (ev_var rfl rfl) (ev_tup (ds := [ad.head.d, .list []]) (ea_cons (ev_is (ev_def ad (ea_cons (ev_var rfl hx7) ea_nil) ho) rfl) (ea_cons (ev_if (b := false) (eb_tru (ev_var rfl hvi) rfl) (fun z => nomatch z) (fun _ => ev_lst (ds := []) ea_nil (by decide))) ea_nil)) (by simp)) (by rw [g7.len, List.length_map]; omega) fun v G8 H8 c8 _ hv => ?_
          refine ⟨G8, y5, y6, _, y9, _, y11, acc ++ [v], rfl, ?_, ex.trans ((c6.trans c7).trans c8).g⟩
          rw [tk]
          unfold foundStep
          rw [hb, if_neg Bool.false_ne_true, List.map_append]
          exact (g7.step c8).app hv
      · subst hσ
        rw [List.take_length] at g5
        obtain ⟨z1, z2⟩ := g5.done
        rw [noTys_ch] at z2
        exact s_ret (s := .dat (.tuple [chsD ((found col).map fun h => (h, [])), .bool true])) z1.gh (ev_tup (ds := [chsD ((found col).map fun h => (h, [])), .bool true]) (ea_cons (ev_var rfl z2) (ea_cons ev_bl ea_nil)) (by simp)) fun v G2 H2 c hd => q v G2 H2 (z1.trans c) (by show Dat G2 v (.tuple [chsD (heads t col).1, .bool (heads t col).2]); rw [eh]; exact hd)
end
end G

namespace G
open PySem L2 Evl
open M
section
variable {K : PySem.W.Frag} {σ : L2.St} {G H : Hp} {ta tb te tc : TE} {D : Ends} {tu tz : TS} {g : TG} {t : TT}
theorem genS_of {env : Env} {scope : Scope} {x : Str} (h1 : scope.kind = .function) (h2 : scope.isCoroutine = false) (h3 : (scope.names.all fun y => match y.2 with | .free => false | .cell => false | _ => true) = true)
    (h4 : scope.names.lookup (".0" : Str) = some NameKind.local) (h5 : scope.names.lookup x = some .local) : GxR.GenS env scope x where
  kind := h1
  co := h2
  cell := fun y hy z => by
    have q := List.all_eq_true.mp h3 y hy
    rw [z] at q
    cases q
  dot := h4
  loc := h5
  free := fun y hy z => by
    have q := List.all_eq_true.mp h3 y hy
    rw [z] at q
    cases q
/-- an if whose two ways meet again -/
theorem q_meet {b : Bool} (cond : L2.St → Hp → Prop) (e : Ex G H) (h : EvB t σ G H b) (rest : ∀ σ' H', cond σ' H' → tz D σ' H') (h1 : b = true → (∀ σ' H', cond σ' H' → tz D σ' H') → ∀ G1 H1, Go G H G1 H1 → tu { D with nx := tz D } σ H1)
    (h2 : b = false → ∀ G1 H1, Go G H G1 H1 → cond σ H1) : tSeq (tIfS t tu tNext) tz D σ H := q_when e h (fun z => h1 z rest) fun z G1 H1 a => rest _ _ (h2 z G1 H1 a)
end
/-! ### what the two searches are called with -/
structure Fit (n : Nat) (tys : List Ty) (rows : List (List Pat)) : Prop where
  ex : ∃ ks, need ks < n ∧ Rows tys ks rows
  slim : slims tys = true
  pk : ∀ r ∈ rows, poks r = true
  few : rows.length ≤ 1000
  low : n ≤ 1000
theorem poks_app : ∀ {ps qs : List Pat}, poks ps = true → poks qs = true → poks (ps ++ qs) = true
  | [], _, _, h => h
  | p :: ps, qs, h, h2 => by
    simp only [poks, Bool.and_eq_true, List.cons_append] at h ⊢
    exact ⟨h.1, poks_app h.2 h2⟩
theorem poks_any : ∀ n : Nat, poks (List.replicate n .any) = true
  | 0 => rfl
  | n + 1 => by simp [List.replicate_succ, poks, pok, poks_any n]
theorem pok_inner {p : Pat} (h : pok p = true) : poks p.inner = true := by
  cases p <;> simp only [pok] at h <;> simp [Pat.inner, poks, h]
theorem need_len : ∀ ks : List Nat, ks.length ≤ need ks
  | [] => by simp [need]
  | k :: ks => by
    have h1 := need_len ks
    have h2 := bnd_pos k
    rw [need_cons]
    simp only [List.length_cons]
    omega
theorem Fit.len {n : Nat} {tys : List Ty} {rows : List (List Pat)} (h : Fit n tys rows) : tys.length < n := by
  obtain ⟨ks, hn, hR⟩ := h.ex
  have h1 := need_len ks
  rw [← hR.len]
  omega
theorem Fit.row {n : Nat} {tys : List Ty} {rows : List (List Pat)} (h : Fit n tys rows) {r : List Pat} (hr : r ∈ rows) : wts r tys = true := by
  obtain ⟨ks, hn, hR⟩ := h.ex
  exact hR.wt r hr
theorem Fit.rest {n : Nat} {t : Ty} {tys : List Ty} {rows : List (List Pat)} (h : Fit (n + 1) (t :: tys) rows) : Fit n tys (restRows rows) := by
  obtain ⟨ks, hn, hR⟩ := h.ex
  obtain ⟨k, ks, rfl⟩ := ks_cons hR
  refine ⟨⟨ks, ?_, hR.rest⟩, (slims_cons h.slim).2, fun r hr => ?_, ?_, by have := h.low; omega⟩
  · rw [need_cons] at hn
    have := bnd_pos k
    omega
  · obtain ⟨r0, h0, _, rfl⟩ := mem_rest.mp hr
    have h1 := h.pk r0 h0
    cases r0 with
    | nil => rfl
    | cons p q =>
      simp only [poks, Bool.and_eq_true] at h1
      exact h1.2
  · unfold restRows
    rw [List.length_map]
    exact Nat.le_trans (List.length_filter_le _ _) h.few
theorem need_spec2 {c : Hd × List Ty} {k n : Nat} {ks : List Nat} (h3 : c.2.length ≤ 3) (hk : c.2.length = 0 ∨ 1 ≤ k) (hn : need (k :: ks) < n + 1) : need (List.replicate c.2.length (k - 1) ++ ks) < n := by
  cases n with
  | zero =>
    rw [need_cons] at hn
    have := bnd_pos k
    omega
  | succ n =>
    have := need_spec (c := c) (k := k) (ks := ks) (n := n) h3 hk (by omega)
    omega
theorem spec_few (rows : List (List Pat)) (h : Hd) (n : Nat) : (spec rows h n).length ≤ rows.length := List.length_filterMap_le _ _
theorem spec_pok {rows : List (List Pat)} {h : Hd} {n : Nat} (hp : ∀ r ∈ rows, poks r = true) : ∀ r ∈ spec rows h n, poks r = true := fun r hr => by
  obtain ⟨r0, h0, hs⟩ := List.mem_filterMap.mp hr
  have h1 := hp r0 h0
  cases r0 with
  | nil =>
    simp [specRow, hdP, Pat.isOpen] at hs
    subst hs
    exact poks_any _
  | cons p q =>
    simp only [poks, Bool.and_eq_true] at h1
    cases ho : p.isOpen with
    | true =>
      rw [specRow_open ho] at hs
      cases hs
      exact poks_app (poks_any _) h1.2
    | false =>
      by_cases hh : p.head = h
      · rw [specRow_same ho hh] at hs
        cases hs
        exact poks_app (pok_inner h1.1) h1.2
      · rw [specRow_else ho hh] at hs
        cases hs
theorem Fit.spec {n : Nat} {t : Ty} {tys : List Ty} {rows : List (List Pat)} {c : Hd × List Ty} (h : Fit (n + 1) (t :: tys) rows) (hc : (rows.map hdP).all Pat.isOpen = false) (ho : Ok t c) : Fit n (c.2 ++ tys) (M.spec rows c.1 c.2.length) := by
  obtain ⟨ks, hn, hR⟩ := h.ex
  obtain ⟨k, ks, rfl⟩ := ks_cons hR
  obtain ⟨s1, s2⟩ := slim_ok ho (slims_cons h.slim).1
  exact ⟨⟨_, need_spec2 s1 (.inr (deep_enough hR hc)) hn, hR.spec ho⟩, slims_app s2 (slims_cons h.slim).2, spec_pok h.pk, Nat.le_trans (spec_few _ _ _) h.few, by have := h.low; omega⟩
theorem Fit.hd {n : Nat} {t : Ty} {tys : List Ty} {rows : List (List Pat)} (h : Fit n (t :: tys) rows) : ∀ p ∈ rows.map hdP, wt p t = true := by
  obtain ⟨ks, hn, hR⟩ := h.ex
  exact col_wt hR
theorem Fit.cons {n : Nat} {t : Ty} {tys : List Ty} {rows : List (List Pat)} (h : Fit n (t :: tys) rows) {r : List Pat} (hr : r ∈ rows) : ∃ p q, r = p :: q ∧ wt p t = true ∧ wts q tys = true := row_cons (h.row hr)
theorem Fit.colok {n : Nat} {t : Ty} {tys : List Ty} {rows : List (List Pat)} (h : Fit n (t :: tys) rows) : ∀ p ∈ rows.map hdP, pok p = true := fun p hp => by
  obtain ⟨r, hr, rfl⟩ := List.mem_map.mp hp
  have h1 := h.pk r hr
  cases r with
  | nil => rfl
  | cons p q =>
    simp only [poks, Bool.and_eq_true] at h1
    exact h1.1
theorem not_op {t : Ty} {col : List Pat} (hw : ∀ p ∈ col, wt p t = true) (hc : col.all Pat.isOpen = false) : ∀ k, t ≠ .op k := fun k e => by
  subst e
  rw [List.all_eq_false] at hc
  obtain ⟨p, hp, ho⟩ := hc
  have := hw p hp
  cases p <;> simp [wt, Pat.isOpen] at this ho
theorem inner_few {p : Pat} {t : Ty} (hw : wt p t = true) (hs : slim t = true) : p.inner.length ≤ 3 := by
  cases p <;> simp [Pat.inner]
  rename_i ps
  cases t <;> simp [wt] at hw
  rename_i ts
  simp only [slim, Bool.and_eq_true, decide_eq_true_eq] at hs
  rw [wts_len hw]
  exact hs.1
theorem heads_hok {t : Ty} {col : List Pat} (h : ∀ p ∈ col, pok p = true) : ∀ c ∈ (heads t col).1, hok c.1 = true := fun c hc => by
  have fd : ∀ c ∈ (found col).map (fun h => ((h, []) : Hd × List Ty)), hok c.1 = true := fun c hc => by
    obtain ⟨x, hx, rfl⟩ := List.mem_map.mp hc
    exact found_hok col [] h (by simp) x hx
  cases t with
  | tup ts =>
    have hc : c ∈ [(Hd.tup, ts)] := hc
    rw [List.mem_singleton.mp hc]
    rfl
  | list u =>
    have hc : c ∈ [(Hd.nil, []), (Hd.cons, [Ty.tup [u, .list u]])] := hc
    simp at hc
    rcases hc with rfl | rfl <;> rfl
  | int => exact fd c hc
  | str => exact fd c hc
  | op k => exact fd c hc
theorem heads_few (t : Ty) (col : List Pat) (h : col.length ≤ 1000) : (heads t col).1.length ≤ 1000 := by
  have fd : ((found col).map (fun h => ((h, []) : Hd × List Ty))).length ≤ 1000 := by
    rw [List.length_map]
    have z := found_len col []
    simp at z
    unfold found
    omega
  cases t with
  | tup ts => simp [heads]
  | list u => simp [heads]
  | int => exact fd
  | str => exact fd
  | op k => exact fd
theorem leftOut_len : ∀ (n : Nat) (tys : List Ty) (rows : List (List Pat)) (f : List Pat), leftOut n tys rows = some f → f.length = tys.length
  | 0, _, _, _, h => by simp [leftOut] at h
  | n + 1, tys, [], f, h => by
    simp [leftOut] at h
    rw [← h]
    simp
  | n + 1, [], _ :: _, f, h => by simp [leftOut] at h
  | n + 1, t :: tys, r0 :: rs, f, h => by
    rw [leftOut_step (by simp)] at h
    split at h
    · obtain ⟨x, hx, rfl⟩ := Option.map_eq_some_iff.mp h
      simp [leftOut_len n _ _ _ hx]
    · split at h
      · obtain ⟨x, hx, rfl⟩ := Option.map_eq_some_iff.mp h
        simp [leftOut_len n _ _ _ hx]
      · split at h
        · rename_i x hx
          cases h
          split at hx
          · cases hx
          · obtain ⟨y, hy, rfl⟩ := Option.map_eq_some_iff.mp hx
            simp [leftOut_len n _ _ _ hy]
        · obtain ⟨c, hc, e⟩ := List.exists_of_findSome?_eq_some h
          obtain ⟨y, hy, rfl⟩ := Option.map_eq_some_iff.mp e
          have := leftOut_len n _ _ _ hy
          simp [cutFound, this]
theorem first_of {α β : Type} {f : α → Option β} : ∀ {l : List α} {i : Nat} {c : α} {r : β}, (l.take i).findSome? f = none → l[i]? = some c → f c = some r → l.findSome? f = some r
  | [], _, _, _, _, h, _ => by simp at h
  | x :: l, 0, c, r, _, h, e => by
    simp at h
    subst h
    simp [List.findSome?_cons, e]
  | x :: l, i + 1, c, r, h0, h, e => by
    rw [List.take_succ_cons, List.findSome?_cons] at h0
    rw [List.findSome?_cons]
    cases hx : f x with
    | some y =>
      rw [hx] at h0
      cases h0
    | none =>
      rw [hx] at h0
      simp at h
      exact first_of h0 h e
theorem take_none {α β : Type} {f : α → Option β} {l : List α} {i : Nat} {c : α} (h0 : (l.take i).findSome? f = none) (h : l[i]? = some c) (e : f c = none) : (l.take (i + 1)).findSome? f = none := by
  rw [List.take_add_one, h, List.findSome?_append, h0]
  simp [e]
theorem cut_take (f : List Pat) (n : Nat) : cutD (Pat.ds f) none (some (n : Int)) = Pat.ds (f.take n) := by
  unfold cutD
  rw [HT.sIx_none, show HT.sIx (Pat.ds f).length (Pat.ds f).length (some (n : Int)) = min n (Pat.ds f).length from HT.sIx_nat _ _ _]
  simp [Pat.ds_map, List.map_take, List.take_eq_take_iff]
theorem cut_drop (f : List Pat) (n : Nat) : cutD (Pat.ds f) (some (n : Int)) none = Pat.ds (f.drop n) := by
  unfold cutD
  rw [HT.sIx_none, show HT.sIx (Pat.ds f).length 0 (some (n : Int)) = min n (Pat.ds f).length from HT.sIx_nat _ _ _]
  simp [Pat.ds_map, List.map_drop]
  by_cases h : n ≤ f.length
  · rw [Nat.min_eq_left h, List.take_of_length_le (by simp)]
  · have h' : f.length ≤ n := by omega
    rw [Nat.min_eq_right h', List.drop_of_length_le (by simp), List.drop_of_length_le (by simp; exact h')]
    simp
def resD : Option (List Pat) → PyData
  | none => .none
  | some f => rowD f
theorem no_res (o : Option (List Pat)) : isNo (resD o) = o.isNone := by cases o <;> rfl
end G

namespace G
open PySem L2 Evl
open M
/-- a def whose code object is at c -/
structure FunC (K : PySem.W.Frag) (x qual : Str) (st : Stmt) (f : Addr) (fd : FuncData) (c : Addr) : Prop where
  ex : ∃ (oc : Value) (od : Option Addr) (kV doc pm : Value) (an : Option Addr) (ct : Value) (osl : Array (Option Value)),
    fd = PySem.W.fnOf x qual (defArgs st) (defBody st) (defScope st) .none kV doc pm an (.ref c) ct ∧ K.lookup f = some ⟨oc, od, .func fd, osl⟩ ∧ PySem.W.codeIn K (.ref c) qual = true
section
variable {P : Program} {w : World} {K : PySem.W.Frag} {mg : Str → Option Value} {base : Heap} {f : Addr} {fd : FuncData} {σ : L2.St} {G H : Hp} {ta tb te : TE}
theorem FunC.ok {x qual : Str} {st : Stmt} {c : Addr} {N ps : List Str} {k : Nat} {sp : Sp} (F : FunC K x qual st f fd c) (S : FnScope N ps (defScope st)) (len : ∀ vs H Q E, sp vs H Q E → vs.length = ps.length)
    (hbody : ∀ (A : Around) (outer : List Env) (s : Shared) (H : Hp) (vs : List V) (Q : VK) (E : XK), Room k (A.deeper (PyProof.Rows.envOfC qual (defScope st) s.heap.objs.size f (.ref c))) → sp vs H Q E →
      ∃ t, PSs (cxOf CX0 P w K mg base N qual (defScope st) f (.ref c) A outer s H E).nox (defBody st) t ∧ t { nx := fun _ H' => Q .non H', rt := Q } (start N vs) H) : FnOk P w K mg base CX0 (k + 1) f fd ps sp := by
  obtain ⟨oc, od, kV, doc, pm, an, ct, osl, rfl, lk, hcd⟩ := F.ex
  refine fn_of lk hcd S len fun A outer s H vs Q E hr hsp => ?_
  obtain ⟨t, h, q⟩ := hbody A outer s H vs Q E hr hsp
  exact ⟨t, h.nox, q⟩
/-! ### left_out -/
def spLeft (T : Addr) (n : Nat) : Sp := fun vs H Q _ => ∃ G tys rows, Ex G H ∧ Tab G H T ∧ Dats G vs [dataD, tysD tys, rowsD rows] ∧ Fit n tys rows ∧ ∀ v G' H', Go G H G' H' → Dat G' v (resD (leftOut n tys rows)) → Q v H'
theorem ev_left {T : Addr} {n : Nat} {tys : List Ty} {rows : List (List Pat)} {E : XK} {ta : TA} (h : Eva ta σ G H ([dataD, tysD tys, rowsD rows].map .dat)) (t : Tab G H T) (hf : Fit n tys rows) : EvD (tCall (spLeft T n) [] E ta) σ G H (resD (leftOut n tys rows)) := fun G1 H1 x Q q =>
  h G1 H1 x _ fun vs G2 H2 b hv => ⟨G2, tys, rows, b.gh, (t.m x).m b, by rw [List.append_nil]; exact hv.dats, hf, fun v G3 H3 c hv => q v G3 H3 (b.trans c) hv⟩
/-- None if found is None else [('any',)] + found -/
theorem ev_anyCons {i : Nat} {o : Option (List Pat)} {v : V} (h : σ[i]? = some (some v)) (hv : Dat G v (resD o)) (hl : ∀ f, o = some f → f.length ≤ 10000) :
    EvD (tIf (tB (tIsN (tVar i))) (tC .non) (tOp rCat (tLst (tCons (tTup (tCons (tC (.str "any")) tNil)) tNil)) (tVar i))) σ G H (resD (o.map (Pat.any :: ·))) := by
  refine ev_if (b := o.isNone) (eb_B (ev_isNb (ev_var h hv) (no_res o))) (fun z => ?_) (fun z => ?_)
  · cases o with
    | none => exact ev_non
    | some f => cases z
  · cases o with
    | none => cases z
    | some f =>
      have := hl f rfl
      exact ev_cat (ds := [.tuple [.str "any"]]) (es := Pat.ds f) (ev_lst (ds := [.tuple [.str "any"]]) (ea_cons (ev_tup (ds := [.str "any"]) (ea_cons ev_str ea_nil) (by simp)) ea_nil) (by simp)) (ev_var h hv) (by rw [ds_len]; simp; omega)
def others0 (us : List (Hd × List Ty)) (o : Option (List Pat)) : Option (List Pat) := match us with
  | [] => none
  | c :: _ => o.map fun f => shown c.1 (c.2.map fun _ => .any) :: f
def orSome (a b : Option (List Pat)) : Option (List Pat) := match a with
  | some f => some f
  | none => b
theorem leftOut_step2 {n : Nat} {t : Ty} {tys : List Ty} {rows : List (List Pat)} (hr : rows ≠ []) : leftOut (n + 1) (t :: tys) rows =
    if (rows.map hdP).all Pat.isOpen then (leftOut n tys (restRows rows)).map (Pat.any :: ·)
    else if (heads t (rows.map hdP)).2 then (leftOut n tys (restRows rows)).map (Pat.any :: ·)
    else orSome (others0 (others (heads t (rows.map hdP)).1 (rows.map hdP)) (leftOut n tys (restRows rows))) ((told (heads t (rows.map hdP)).1 (rows.map hdP)).findSome? fun c => (leftOut n (c.2 ++ tys) (spec rows c.1 c.2.length)).map (cutFound c.1 c.2.length)) := by
  rw [leftOut_step hr]
  generalize others (heads t (rows.map hdP)).1 (rows.map hdP) = us
  cases us with
  | nil => rfl
  | cons c us =>
    cases leftOut n tys (restRows rows) <;> rfl
theorem tys_app (a b : List Ty) : Ty.ds (a ++ b) = Ty.ds a ++ Ty.ds b := by simp [Ty.ds_map]
theorem tys_len (a : List Ty) : (Ty.ds a).length = a.length := by simp [Ty.ds_map]
theorem chs_tru (cs : List (Hd × List Ty)) : truD (chsD cs) = some (!cs.isEmpty) := by cases cs <;> rfl
theorem col_d (rows : List (List Pat)) : (rows.map fun r => (hdP r).d) = Pat.ds (rows.map hdP) := by rw [Pat.ds_map, List.map_map]; rfl
theorem any_d (ts : List Ty) : (ts.map fun _ => PyData.tuple [.str "any"]) = Pat.ds (ts.map fun _ => Pat.any) := by rw [Pat.ds_map, List.map_map]; rfl
theorem fit_pos {n : Nat} {tys : List Ty} {rows : List (List Pat)} (h : Fit n tys rows) : ∃ m, n = m + 1 := by
  have := h.len
  exact ⟨n - 1, by omega⟩
theorem fit_rows {n : Nat} {t : Ty} {tys : List Ty} {rows : List (List Pat)} (h : Fit n (t :: tys) rows) : (∀ r ∈ rows, r ≠ []) ∧ rows.length ≤ 1000 := by
  refine ⟨fun r hr z => ?_, h.few⟩
  obtain ⟨p, q, e, _⟩ := h.cons hr
  rw [z] at e
  cases e
theorem fit_spec {n : Nat} {t : Ty} {tys : List Ty} {rows : List (List Pat)} {c : Hd × List Ty} (h : Fit n (t :: tys) rows) (hh : hok c.1 = true) (hs : c.2.length ≤ 3) :
    (∀ r ∈ rows, r ≠ [] ∧ r.length ≤ 1000 ∧ poks r = true ∧ (hdP r).inner.length ≤ 1000) ∧ rows.length ≤ 1000 ∧ hok c.1 = true ∧ c.2.length ≤ 1000 := by
  refine ⟨fun r hr => ?_, h.few, hh, by omega⟩
  obtain ⟨p, q, rfl, h1, h2⟩ := h.cons hr
  have h3 := inner_few h1 (slims_cons h.slim).1
  have h4 := wts_len h2
  have h5 := h.len
  have h6 := h.low
  simp only [List.length_cons] at h5
  refine ⟨fun z => (nomatch z), ?_, h.pk _ hr, ?_⟩
  · simp only [List.length_cons]
    omega
  · exact Nat.le_trans h3 (by decide)
/-- what shown is asked -/
theorem shown_pre {t : Ty} {col : List Pat} {c : Hd × List Ty} {ps : List Pat} (hm : (heads t col).2 = false) (hc : c ∈ (heads t col).1) (hl : ps.length = c.2.length) (h3 : c.2.length ≤ 3) : (c.1 = .tup ∧ ps.length ≤ 1000) ∨ (c.1 = .nil ∧ ps = []) ∨ (c.1 = .cons ∧ ps ≠ []) := by
  cases t with
  | tup ts =>
    have hc : c ∈ [(Hd.tup, ts)] := hc
    rw [List.mem_singleton.mp hc] at hl h3 ⊢
    exact .inl ⟨rfl, by omega⟩
  | list u =>
    have hc : c ∈ [(Hd.nil, []), (Hd.cons, [Ty.tup [u, .list u]])] := hc
    simp at hc
    rcases hc with rfl | rfl
    · exact .inr (.inl ⟨rfl, List.length_eq_zero_iff.mp hl⟩)
    · refine .inr (.inr ⟨rfl, fun z => ?_⟩)
      rw [z] at hl
      cases hl
  | int => cases hm
  | str => cases hm
  | op k => cases hm
abbrev s_left_out : Stmt := topS 14
theorem sc_left_out : FnScope ["data", "tys", "rows", "ty", "column", "row", "found", "choices", "more", "told", "others", "head", "inner"] ["data", "tys", "rows"] (defScope s_left_out) := ⟨rfl, rfl, rfl, by decide +kernel, rfl, by decide +kernel, by decide +kernel⟩
theorem ok_left_out {c T : Addr} (F : FunC K "left_out" "left_out" s_left_out f fd c) (TB : GxR.TabB base mg c T) (MO : OpenAt K mg) (m_all : mg "all" = none) (m_len : mg "len" = none) (d_heads : Dfn P w K mg base "heads" 5 ["data", "ty", "column"] spHeads) (d_divided : Dfn P w K mg base "divided" 2 ["choices", "column"] spDivided)
    (d_rest_rows : Dfn P w K mg base "rest_rows" 2 ["rows"] spRestRows) (d_specialized : Dfn P w K mg base "specialized" 2 ["rows", "head", "count"] spSpecialized) (d_shown : Dfn P w K mg base "shown" 1 ["head", "parts"] spShown)
    (kp : PySem.W.keepIn K (.ref f) = true) (mf : mg "left_out" = some (.ref f)) (bd : Binds K fd ["data", "tys", "rows"] []) : ∀ n, FnOk P w K mg base CX0 (n + 6) f fd ["data", "tys", "rows"] (spLeft T n)
  | 0 => F.ok sc_left_out (fun vs H Q E ⟨G, tys, rows, _, _, hv, _⟩ => hv.len) fun A outer s H vs Q E hr ⟨G, tys, rows, _, _, _, hf, _⟩ => absurd hf.len (by omega)
  | n + 1 => by
    have d_left_out : Dfn P w K mg base "left_out" (n + 6) ["data", "tys", "rows"] (spLeft T n) := ⟨⟨f, fd, ok_left_out F TB MO m_all m_len d_heads d_divided d_rest_rows d_specialized d_shown kp mf bd n, kp, mf, bd⟩⟩
    refine F.ok sc_left_out (fun vs H Q E ⟨G, tys, rows, _, _, hv, _⟩ => hv.len) (fun A outer s H vs Q E hr h => ?_)
    obtain ⟨G, tys, rows, e, tab, hv, hf, q⟩ := h
    have hu := hu_in hr
    cases hv with
    | cons h1 h2 =>
    cases h2 with
    | cons h2 h3 =>
    cases h3 with
    | cons h3 h4 =>
    cases h4
    rename_i v1 v2 v3
    have htl := hf.len
    have hlow := hf.low
    refine ⟨_, (pss_cons (ps_if (pt_not (ptTru K (pv 2))) (pss_one (ps_ret (pe_lc (own := [("ty", 3)]) (by rfl) sc_left_out.nd (pi_list (pv 1)) (blkOk_by (N := ["data", "tys", "rows", "ty", "column", "row", "found", "choices", "more", "told", "others", "head", "inner"]) (sc := defScope s_left_out) (by decide +kernel)) (fun _ _ _ _ _ => (pg_name (i := 3) sc_left_out.nd rfl (.inl rfl))) (fun _ _ _ _ _ => pts_nil) (fun _ _ _ _ _ => (pe_tup (pa_cons pe_str pa_nil)))))) pss_nil)
      (pss_cons (ps_if (pt_not (ptTru K (pv 1))) (pss_one (ps_ret pe_non)) pss_nil)
      (pss_cons (ps_setLc (i := 4) (own := [("row", 5)]) (by rfl) sc_left_out.nd rfl rfl (sw_true rfl rfl rfl (by decide +kernel)) (pi_list (pv 2)) (blkOk_by (N := ["data", "tys", "rows", "ty", "column", "row", "found", "choices", "more", "told", "others", "head", "inner"]) (sc := defScope s_left_out) (by decide +kernel)) (fun _ _ _ _ _ => (pg_name (i := 5) sc_left_out.nd rfl (.inl rfl))) (fun _ _ _ _ _ => pts_nil) (fun _ _ _ _ _ => (pe_ix (ixK K) (pv 5) pe_int (fun _ _ => rfl))))
      (pss_cons (ps_if (pt_val (pe_allO hr (by rfl) m_all TB (by rfl) MO (genS_of rfl rfl rfl rfl rfl) (by rfl) (by rfl) (pv 4) (fun _ => by rfl) (fun _ => by rfl))) (pss_cons (ps_set (i := 6) sc_left_out.nd rfl (.inl rfl) (pe_def d_left_out (hr.mono (by omega)) (by rfl) (pa_cons (pv 0) (pa_cons (pe_slice (slK K) (pv 1) (po_some pe_int) po_none) (pa_cons (pe_def d_rest_rows (hr.mono (by omega)) (by rfl) (pa_cons (pv 2) pa_nil)) pa_nil)))))
      (pss_one (ps_ret (pe_ifExp (pt_cmp (pc_isN (pv 6))) pe_non (pe_op op_cat (pe_lst (pa_cons (pe_tup (pa_cons pe_str pa_nil)) pa_nil)) (pv 6)))))) pss_nil)
      (pss_cons (ps_asg (pe_def d_heads (hr.mono (by omega)) (by rfl) (pa_cons (pv 0) (pa_cons (pe_ix (ixK K) (pv 1) pe_int (fun _ _ => rfl)) (pa_cons (pv 4) pa_nil)))) (pg_tup rfl (pgs_cons (pg_name (i := 7) sc_left_out.nd rfl (.inl rfl)) (pgs_cons (pg_name (i := 8) sc_left_out.nd rfl (.inl rfl)) pgs_nil))))
      (pss_cons (ps_if (ptTru K (pv 8)) (pss_cons (ps_set (i := 6) sc_left_out.nd rfl (.inl rfl) (pe_def d_left_out (hr.mono (by omega)) (by rfl) (pa_cons (pv 0) (pa_cons (pe_slice (slK K) (pv 1) (po_some pe_int) po_none) (pa_cons (pe_def d_rest_rows (hr.mono (by omega)) (by rfl) (pa_cons (pv 2) pa_nil)) pa_nil)))))
      (pss_one (ps_ret (pe_ifExp (pt_cmp (pc_isN (pv 6))) pe_non (pe_op op_cat (pe_lst (pa_cons (pe_tup (pa_cons pe_str pa_nil)) pa_nil)) (pv 6)))))) pss_nil)
      (pss_cons (ps_asg (pe_def d_divided (hr.mono (by omega)) (by rfl) (pa_cons (pv 7) (pa_cons (pv 4) pa_nil))) (pg_tup rfl (pgs_cons (pg_name (i := 9) sc_left_out.nd rfl (.inl rfl)) (pgs_cons (pg_name (i := 10) sc_left_out.nd rfl (.inl rfl)) pgs_nil))))
      (pss_cons (ps_if (ptTru K (pv 10)) (pss_cons (ps_set (i := 6) sc_left_out.nd rfl (.inl rfl) (pe_def d_left_out (hr.mono (by omega)) (by rfl) (pa_cons (pv 0) (pa_cons (pe_slice (slK K) (pv 1) (po_some pe_int) po_none) (pa_cons (pe_def d_rest_rows (hr.mono (by omega)) (by rfl) (pa_cons (pv 2) pa_nil)) pa_nil)))))
      (pss_one (ps_if (pt_cmp (pc_notN (pv 6))) (pss_cons (ps_asg (pe_ix (ixK K) (pv 10) pe_int (fun _ _ => rfl)) (pg_tup rfl (pgs_cons (pg_name (i := 11) sc_left_out.nd rfl (.inl rfl)) (pgs_cons (pg_name (i := 12) sc_left_out.nd rfl (.inl rfl)) pgs_nil))))
      (pss_one (ps_ret (pe_op op_cat (pe_lst (pa_cons (pe_def d_shown (hr.mono (by omega)) (by rfl) (pa_cons (pv 11) (pa_cons (pe_lc (own := [("ty", 3)]) (by rfl) sc_left_out.nd (pi_list (pv 12)) (blkOk_by (N := ["data", "tys", "rows", "ty", "column", "row", "found", "choices", "more", "told", "others", "head", "inner"]) (sc := defScope s_left_out) (by decide +kernel)) (fun _ _ _ _ _ => (pg_name (i := 3) sc_left_out.nd rfl (.inl rfl))) (fun _ _ _ _ _ => pts_nil) (fun _ _ _ _ _ => (pe_tup (pa_cons pe_str pa_nil)))) pa_nil))) pa_nil)) (pv 6))))) pss_nil))) pss_nil)
      (pss_cons (ps_for PassesOwn.never rfl (pi_list (pv 9)) (pg_tup rfl (pgs_cons (pg_name (i := 11) sc_left_out.nd rfl (.inl rfl)) (pgs_cons (pg_name (i := 12) sc_left_out.nd rfl (.inl rfl)) pgs_nil))) (pss_cons (ps_set (i := 6) sc_left_out.nd rfl (.inl rfl) (pe_def d_left_out (hr.mono (by omega)) (by rfl) (pa_cons (pv 0) (pa_cons (pe_op op_cat (pv 12) (pe_slice (slK K) (pv 1) (po_some pe_int) po_none)) (pa_cons (pe_def d_specialized (hr.mono (by omega)) (by rfl) (pa_cons (pv 2) (pa_cons (pv 11) (pa_cons (pe_callB (lenK K) (by rfl) m_len PySem.boot_len (pa_cons (pv 12) pa_nil)) pa_nil)))) pa_nil)))))
      (pss_one (ps_if (pt_cmp (pc_notN (pv 6))) (pss_one (ps_ret (pe_op op_cat (pe_lst (pa_cons (pe_def d_shown (hr.mono (by omega)) (by rfl) (pa_cons (pv 11) (pa_cons (pe_slice (slK K) (pv 6) po_none (po_some (pe_callB (lenK K) (by rfl) m_len PySem.boot_len (pa_cons (pv 12) pa_nil)))) pa_nil))) pa_nil)) (pe_slice (slK K) (pv 6) (po_some (pe_callB (lenK K) (by rfl) m_len PySem.boot_len (pa_cons (pv 12) pa_nil))) po_none)))) pss_nil))))
      (pss_one (ps_ret pe_non))))))))))), ?_⟩
    cases rows with
    | nil =>
      refine q_when (b := true) e (eb_not (eb_tru (b := false) (ev_var rfl h3) rfl)) (fun _ G1 H1 a => ?_) (fun z => nomatch z)
      have h2' := Dat.m h2 a.g
      simp only [tysD, Ty.ds_map] at h2'
      exact s_ret a.gh (ev_lcA (enc := Ty.d) (as := tys) (fun _ => .tuple [.str "any"]) (ev_var rfl h2') (by omega) fun t _ x G2 H2 b hx => ⟨_, fun R z => z, rfl, ev_tup (ds := [.str "any"]) (ea_cons ev_str ea_nil) (by simp)⟩) fun v G2 H2 b hd => q v G2 H2 (a.trans b) (by
        show Dat G2 v (.list (Pat.ds (tys.map fun _ => Pat.any)))
        rw [← any_d]
        exact hd)
    | cons r0 rs =>
    refine q_when (b := false) e (eb_not (eb_tru (b := true) (ev_var rfl h3) rfl)) (fun z => nomatch z) (fun _ G1 H1 a1 => ?_)
    cases tys with
    | nil =>
      refine q_when (b := true) a1.gh (eb_not (eb_tru (b := false) (ev_var rfl (Dat.m h2 a1.g)) rfl)) (fun _ G2 H2 b => ?_) (fun z => nomatch z)
      exact s_ret b.gh ev_non fun v G3 H3 c hd => q v G3 H3 ((a1.trans b).trans c) hd
    | cons t tys =>
    refine q_when (b := false) a1.gh (eb_not (eb_tru (b := true) (ev_var rfl (Dat.m h2 a1.g)) rfl)) (fun z => nomatch z) (fun _ G2 H2 a2 => ?_)
    have hne : r0 :: rs ≠ [] := fun z => nomatch z
    obtain ⟨rows, hrows⟩ : ∃ rows, rows = r0 :: rs := ⟨_, rfl⟩
    rw [← hrows] at hf h3 q hne
    rw [leftOut_step2 hne] at q
    have hcl : (rows.map hdP).length ≤ 1000 := by rw [List.length_map]; exact hf.few
    have A := a1.trans a2
    refine q_asg A.gh (s := .dat (rowD (rows.map hdP))) (ev_is (ev_lcA (enc := rowD) (as := rows) (fun r => (hdP r).d) (ev_var rfl (Dat.m h3 A.g)) (by have := hf.few; omega) fun r hr x G3 H3 b hx => ⟨_, fun R z => z, rfl, by
      obtain ⟨p, q, rfl, _⟩ := hf.cons hr
      exact ev_il (ds := Pat.ds (p :: q)) (ev_var rfl hx) ev_int at0⟩) (by rw [col_d]; rfl)) fun vc G3 H3 a3 hc => ?_
    have A := A.trans a3
    have htys : ∀ {G' H' : Hp} {s' : L2.St}, Go G H G' H' → s'[1]? = some (some v2) → EvD (tSl (rSlL K) (tVar 1) (tPart (tC (.int 1))) tNoPart) s' G' H' (tysD tys) := fun {G' H' s'} g hs => ev_is (ev_slL (ds := Ty.ds (t :: tys)) (ev_var hs (Dat.m h2 g.g)) (eo_some ev_int) eo_none) (by rw [show Ty.ds (t :: tys) = t.d :: Ty.ds tys from rfl, cut1]; rfl)
    have hrec : ∀ {G' H' : Hp} {s' : L2.St}, Go G H G' H' → s'[0]? = some (some v1) → s'[1]? = some (some v2) → s'[2]? = some (some v3) → EvD (tCall (spLeft T n) [] E0 (tCons (tVar 0) (tCons (tSl (rSlL K) (tVar 1) (tPart (tC (.int 1))) tNoPart) (tCons (tCall spRestRows [] E0 (tCons (tVar 2) tNil)) tNil)))) s' G' H' (resD (leftOut n tys (restRows rows))) := fun {G' H' s'} g e0 e1 e2 =>
      ev_left (ea_cons (ev_var e0 (Dat.m h1 g.g)) (ea_cons (htys g e1) (ea_cons (ev_def (res := fun rows => rowsD (restRows rows)) rows (ea_cons (ev_var e2 (Dat.m h3 g.g)) ea_nil) (fit_rows hf)) ea_nil))) (tab.m g) hf.rest
    have hll : ∀ f, leftOut n tys (restRows rows) = some f → f.length ≤ 10000 := fun f hf' => by
      rw [leftOut_len _ _ _ _ hf']
      simp only [List.length_cons] at htl
      omega
    refine q_when (b := (rows.map hdP).all Pat.isOpen) A.gh (eb_allO (ev_var rfl hc) (tab.m A)) (fun hall G4 H4 a4 => ?_) (fun hall G4 H4 a4 => ?_)
    · have A := A.trans a4
      rw [if_pos hall] at q
      refine q_asg A.gh (hrec A rfl rfl rfl) fun vf G5 H5 a5 hvf => ?_
      exact s_ret a5.gh (ev_anyCons rfl hvf hll) fun v G6 H6 a6 hd => q v G6 H6 ((A.trans a5).trans a6) hd
    rw [hall, if_neg Bool.false_ne_true] at q
    have A := A.trans a4
    have hc := hc.m a4.g
    refine q_pair (d1 := chsD (heads t (rows.map hdP)).1) (d2 := .bool (heads t (rows.map hdP)).2) A.gh ?_ fun vch vmo G5 H5 a5 hch hmo => ?_
    · exact ev_is (ev_def (t, rows.map hdP) (ea_cons (ev_var rfl (Dat.m h1 A.g)) (ea_cons (ev_il (ds := Ty.ds (t :: tys)) (ev_var rfl (Dat.m h2 A.g)) ev_int at0) (ea_cons (ev_var rfl hc) ea_nil))) ⟨not_op hf.hd hall, hcl, hf.colok⟩) rfl
    have A := A.trans a5
    have hc := hc.m a5.g
    refine q_when (b := (heads t (rows.map hdP)).2) A.gh (eb_tru (ev_var rfl hmo) rfl) (fun hm G6 H6 a6 => ?_) (fun hm G6 H6 a6 => ?_)
    · have A := A.trans a6
      rw [if_pos hm] at q
      refine q_asg A.gh (hrec A rfl rfl rfl) fun vf G7 H7 a7 hvf => ?_
      exact s_ret a7.gh (ev_anyCons rfl hvf hll) fun v G8 H8 a8 hd => q v G8 H8 ((A.trans a7).trans a8) hd
    rw [hm, if_neg Bool.false_ne_true] at q
    have A := A.trans a6
    have hc := hc.m a6.g
    have hch := Dat.m hch a6.g
    have hcs : ∀ c ∈ (heads t (rows.map hdP)).1, Ok t c ∧ hok c.1 = true ∧ c.2.length ≤ 3 := fun c hc => by
      have ho := heads_ok hf.hd c hc
      exact ⟨ho, heads_hok hf.colok c hc, (slim_ok ho (slims_cons hf.slim).1).1⟩
    refine q_pair (d1 := chsD (told (heads t (rows.map hdP)).1 (rows.map hdP))) (d2 := chsD (others (heads t (rows.map hdP)).1 (rows.map hdP))) A.gh ?_ fun vto vot G7 H7 a7 hto hot => ?_
    · exact ev_is (ev_def ((heads t (rows.map hdP)).1, rows.map hdP) (ea_cons (ev_var rfl hch) (ea_cons (ev_var rfl hc) ea_nil)) ⟨heads_few t _ hcl, hcl, fun c hc => (hcs c hc).2.1, hf.colok⟩) rfl
    have A := A.trans a7
    generalize hus : others (heads t (rows.map hdP)).1 (rows.map hdP) = us at q hot
    generalize hts : told (heads t (rows.map hdP)).1 (rows.map hdP) = ts at q hto
    have hts2 : ∀ c ∈ ts, c ∈ (heads t (rows.map hdP)).1 := fun c hc => by
      rw [← hts] at hc
      exact (List.mem_filter.mp hc).1
    have hus2 : ∀ c ∈ us, c ∈ (heads t (rows.map hdP)).1 := fun c hc => by
      rw [← hus] at hc
      exact (List.mem_filter.mp hc).1
    generalize hrest : others0 us (leftOut n tys (restRows rows)) = ro at q
    refine q_meet (b := !us.isEmpty) (fun σ' H' => ∃ y6 y11 y12 G', σ' = [some v1, some v2, some v3, none, some vc, none, y6, some vch, some vmo, some vto, some vot, y11, y12] ∧ Go G7 H7 G' H' ∧ ro = none) A.gh (eb_tru (ev_var rfl hot) (chs_tru us)) (fun σ' H' ⟨y6, y11, y12, G', hσ, g, hro⟩ => ?_) (fun hb rest G8 H8 a8 => ?_) (fun hb G8 H8 a8 => ?_)
    · -- the loop
      subst hσ
      rw [hro] at q
      have A := A.trans g
      refine q_for (enc := chD) (as := ts) A.gh (ev_var rfl (Dat.m hto g.g)) fun G8 H8 a8 => ?_
      refine ⟨fun i σ' G' H' => ∃ y6 y11 y12, σ' = [some v1, some v2, some v3, none, some vc, none, y6, some vch, some vmo, some vto, some vot, y11, y12] ∧ Go G8 H8 G' H' ∧ (ts.take i).findSome? (fun c => (leftOut n (c.2 ++ tys) (spec rows c.1 c.2.length)).map (cutFound c.1 c.2.length)) = none, ⟨y6, y11, y12, rfl, Go.refl a8.gh, by simp⟩, fun i σ' G' H' ⟨_, _, _, _, g, _⟩ => ⟨g.g, g.gh⟩, fun i c x σ' G' H' hi ⟨y6, y11, y12, hσ, g8, hno⟩ hx => ?_, fun σ' G' H' ⟨y6, y11, y12, hσ, g8, hno⟩ => ?_⟩
      · subst hσ
        have A := (A.trans a8).trans g8
        obtain ⟨ho, hh, h3c⟩ := hcs c (hts2 c (List.mem_of_getElem? hi))
        refine g2 (d1 := c.1.d) (d2 := tysD c.2) A.gh hx fun w1 w2 hw1 hw2 => ?_
        refine q_asg A.gh (s := .dat (resD (leftOut n (c.2 ++ tys) (spec rows c.1 c.2.length)))) ?_ fun vf G9 H9 a9 hvf => ?_
        · refine ev_left (ea_cons (ev_var rfl (Dat.m h1 A.g)) (ea_cons (ev_is (ev_cat (ds := Ty.ds c.2) (es := Ty.ds tys) (ev_var rfl hw2) (htys A rfl) ?_) ?_) (ea_cons (ev_def (res := fun a : List (List Pat) × Hd × Nat => rowsD (spec a.1 a.2.1 a.2.2)) (rows, c.1, c.2.length) (ea_cons (ev_var rfl (Dat.m h3 A.g)) (ea_cons (ev_var rfl hw1) (ea_cons (ev_is (ev_len (ds := Ty.ds c.2) (ev_var rfl hw2)) ?_) ea_nil))) (fit_spec hf hh h3c)) ea_nil))) (tab.m A) (hf.spec hall ho)
          · rw [tys_len, tys_len]
            simp only [List.length_cons] at htl
            omega
          · show PyData.list (Ty.ds c.2 ++ Ty.ds tys) = tysD (c.2 ++ tys)
            rw [← tys_app]
            rfl
          · rw [tys_len]
        have B := A.trans a9
        cases ho2 : leftOut n (c.2 ++ tys) (spec rows c.1 c.2.length) with
        | none =>
          rw [ho2] at hvf
          refine s_when (b := false) a9.gh (eb_B (ev_notNb (ev_var rfl hvf) (b := true) rfl)) (fun z => nomatch z) (fun _ G10 H10 a10 => ?_)
          exact ⟨G10, _, _, _, rfl, (g8.trans a9).trans a10, take_none hno hi (by rw [ho2]; rfl)⟩
        | some f =>
          rw [ho2] at hvf
          have hfl := leftOut_len _ _ _ _ ho2
          rw [List.length_append] at hfl
          have hres := first_of (f := fun c => (leftOut n (c.2 ++ tys) (spec rows c.1 c.2.length)).map (cutFound c.1 c.2.length)) hno hi (by rw [ho2]; rfl)
          rw [hres] at q
          refine s_when (b := true) a9.gh (eb_B (ev_notNb (ev_var rfl hvf) (b := false) rfl)) (fun _ G10 H10 a10 => ?_) (fun z => nomatch z)
          have hvf := hvf.m a10.g
          have hw1 := Dat.m hw1 (a9.trans a10).g
          have hw2 := Dat.m hw2 (a9.trans a10).g
          have hlen : EvD (tCB (rLenS K) (tCons (tVar 12) tNil)) [some v1, some v2, some v3, none, some vc, none, some vf, some vch, some vmo, some vto, some vot, some w1, some w2] G10 H10 (.int (c.2.length : Int)) := ev_is (ev_len (ds := Ty.ds c.2) (ev_var rfl hw2)) (by rw [tys_len])
          have hpre := shown_pre (ps := f.take c.2.length) hm (hts2 c (List.mem_of_getElem? hi)) (by rw [List.length_take]; omega) h3c
          refine s_ret (s := .dat (rowD (cutFound c.1 c.2.length f))) a10.gh (ev_is (ev_cat (ds := [(shown c.1 (f.take c.2.length)).d]) (es := Pat.ds (f.drop c.2.length)) (ev_lst (ds := [(shown c.1 (f.take c.2.length)).d]) (ea_cons (ev_def (res := fun a : Hd × List Pat => (shown a.1 a.2).d) (c.1, f.take c.2.length) (ea_cons (ev_var rfl hw1) (ea_cons (ev_is (ev_slL (ds := Pat.ds f) (ev_var rfl hvf) eo_none (eo_some hlen)) (by rw [cut_take]; rfl)) ea_nil)) hpre) ea_nil) (by simp)) (ev_is (ev_slL (ds := Pat.ds f) (ev_var rfl hvf) (eo_some hlen) eo_none) (by rw [cut_drop])) (by
            rw [ds_len, List.length_drop]
            simp only [List.length_cons, List.length_nil] at htl ⊢
            omega)) rfl) fun v G11 H11 a11 hd => q v G11 H11 ((B.trans a10).trans a11) hd
      · subst hσ
        rw [List.take_length] at hno
        rw [hno] at q
        have A := (A.trans a8).trans g8
        exact s_ret A.gh ev_non fun v G9 H9 a9 hd => q v G9 H9 (A.trans a9) hd
    · -- others
      have A := A.trans a8
      cases us with
      | nil => cases hb
      | cons c us =>
      simp only [others0] at hrest
      have hot := Dat.m hot a8.g
      obtain ⟨ho, hh, h3c⟩ := hcs c (hus2 c List.mem_cons_self)
      refine q_asg A.gh (hrec A rfl rfl rfl) fun vf G9 H9 a9 hvf => ?_
      have B := A.trans a9
      cases ho2 : leftOut n tys (restRows rows) with
      | none =>
        rw [ho2] at hvf
        refine s_when (b := false) a9.gh (eb_B (ev_notNb (ev_var rfl hvf) (b := true) rfl)) (fun z => nomatch z) (fun _ G10 H10 a10 => rest _ _ ⟨_, _, _, G10, rfl, (a8.trans a9).trans a10, ?_⟩)
        rw [← hrest, ho2]
        rfl
      | some f =>
        rw [ho2] at hvf hrest
        rw [← hrest] at q
        have hfl := hll f ho2
        refine s_when (b := true) a9.gh (eb_B (ev_notNb (ev_var rfl hvf) (b := false) rfl)) (fun _ G10 H10 a10 => ?_) (fun z => nomatch z)
        refine q_pair (d1 := c.1.d) (d2 := tysD c.2) a10.gh (ev_il (ds := (c :: us).map chD) (ev_var rfl (Dat.m hot (a9.trans a10).g)) ev_int at0) fun w1 w2 G11 H11 a11 hw1 hw2 => ?_
        have hvf := hvf.m (a10.trans a11).g
        have hw2' := hw2
        simp only [tysD, Ty.ds_map] at hw2'
        have hpre := shown_pre (ps := c.2.map fun _ => Pat.any) hm (hus2 c List.mem_cons_self) (by simp) h3c
        refine s_ret (s := .dat (rowD (shown c.1 (c.2.map fun _ => .any) :: f))) a11.gh (ev_is (ev_cat (ds := [(shown c.1 (c.2.map fun _ => .any)).d]) (es := Pat.ds f) (ev_lst (ds := [(shown c.1 (c.2.map fun _ => .any)).d]) (ea_cons (ev_def (res := fun a : Hd × List Pat => (shown a.1 a.2).d) (c.1, c.2.map fun _ => .any) (ea_cons (ev_var rfl hw1) (ea_cons (ev_is (ev_lcA (enc := Ty.d) (as := c.2) (fun _ => .tuple [.str "any"]) (ev_var rfl hw2') (by omega) fun t _ x G2 H2 b hx => ⟨_, fun R z => z, rfl, ev_tup (ds := [.str "any"]) (ea_cons ev_str ea_nil) (by simp)⟩) (by rw [any_d]; rfl)) ea_nil)) hpre) ea_nil) (by simp)) (ev_var rfl hvf) (by
          rw [ds_len]
          simp only [List.length_cons, List.length_nil]
          omega)) rfl) fun v G12 H12 a12 hd => q v G12 H12 (((B.trans a10).trans a11).trans a12) hd
    · refine ⟨_, _, _, G8, rfl, a8, ?_⟩
      cases us with
      | nil => exact hrest.symm
      | cons c us => cases hb
end
end G

namespace G
open PySem L2 Evl
open M
theorem rest_open {p : Pat} {q : List Pat} {rows : List (List Pat)} (h : p.isOpen = true) : restRows ((p :: q) :: rows) = q :: restRows rows := by
  unfold restRows
  rw [List.filter_cons, show (hdP (p :: q)).isOpen = true from h, if_pos rfl]
  rfl
theorem spec_open {p : Pat} {q : List Pat} {rows : List (List Pat)} {c : Hd} {n : Nat} (h : p.isOpen = true) : spec ((p :: q) :: rows) c n = (List.replicate n .any ++ q) :: spec rows c n := by
  unfold spec
  rw [List.filterMap_cons, specRow_open h]
theorem spec_same {p : Pat} {q : List Pat} {rows : List (List Pat)} {c : Hd} {n : Nat} (h : p.isOpen = false) (e : p.head = c) : spec ((p :: q) :: rows) c n = (p.inner ++ q) :: spec rows c n := by
  unfold spec
  rw [List.filterMap_cons, specRow_same h e]
theorem find_of {α : Type} {f : α → Bool} : ∀ {l : List α} {i : Nat} {c : α}, (l.take i).find? f = none → l[i]? = some c → f c = true → l.find? f = some c
  | [], _, _, _, h, _ => by simp at h
  | x :: l, 0, c, _, h, e => by
    simp at h
    subst h
    rw [List.find?_cons, e]
  | x :: l, i + 1, c, h0, h, e => by
    rw [List.take_succ_cons, List.find?_cons] at h0
    rw [List.find?_cons]
    cases hx : f x with
    | true =>
      rw [hx] at h0
      cases h0
    | false =>
      rw [hx] at h0
      simp at h
      exact find_of h0 h e
theorem find_none {α : Type} {f : α → Bool} {l : List α} {i : Nat} {c : α} (h0 : (l.take i).find? f = none) (h : l[i]? = some c) (e : f c = false) : (l.take (i + 1)).find? f = none := by
  rw [List.take_add_one, h, List.find?_append, h0]
  simp [e]
theorem any_of {α : Type} {f : α → Bool} {l : List α} {i : Nat} {c : α} (h : l[i]? = some c) (e : f c = true) : l.any f = true := List.any_eq_true.mpr ⟨c, List.mem_of_getElem? h, e⟩
theorem any_none {α : Type} {f : α → Bool} {l : List α} {i : Nat} {c : α} (h0 : (l.take i).any f = false) (h : l[i]? = some c) (e : f c = false) : (l.take (i + 1)).any f = false := by
  rw [List.take_add_one, h, List.any_append, h0]
  simp [e]
theorem Fit.of_tail {n : Nat} {tys : List Ty} {rows : List (List Pat)} {row : List Pat} (h : Fit n tys (row :: rows)) : Fit n tys rows := by
  obtain ⟨ks, hn, hR⟩ := h.ex
  exact ⟨⟨ks, hn, ⟨hR.len, fun r hr => hR.wt r (List.mem_cons_of_mem _ hr), fun r hr => hR.dep r (List.mem_cons_of_mem _ hr)⟩⟩, h.slim, fun r hr => h.pk r (List.mem_cons_of_mem _ hr), by have := h.few; simp at this; omega, h.low⟩
section
variable {P : Program} {w : World} {K : PySem.W.Frag} {mg : Str → Option Value} {base : Heap} {f : Addr} {fd : FuncData} {σ : L2.St} {G H : Hp} {ta tb te : TE}
def spMore (T : Addr) (n : Nat) : Sp := fun vs H Q _ => ∃ G tys rows row, Ex G H ∧ Tab G H T ∧ Dats G vs [dataD, tysD tys, rowsD rows, rowD row] ∧ Fit n tys (row :: rows) ∧ ∀ v G' H', Go G H G' H' → Dat G' v (.bool (fitsMore n tys rows row)) → Q v H'
theorem ev_more {T : Addr} {n : Nat} {tys : List Ty} {rows : List (List Pat)} {row : List Pat} {E : XK} {ta : TA} (h : Eva ta σ G H ([dataD, tysD tys, rowsD rows, rowD row].map .dat)) (t : Tab G H T) (hf : Fit n tys (row :: rows)) : EvD (tCall (spMore T n) [] E ta) σ G H (.bool (fitsMore n tys rows row)) := fun G1 H1 x Q q =>
  h G1 H1 x _ fun vs G2 H2 b hv => ⟨G2, tys, rows, row, b.gh, (t.m x).m b, by rw [List.append_nil]; exact hv.dats, hf, fun v G3 H3 c hv => q v G3 H3 (b.trans c) hv⟩
abbrev s_fits_more : Stmt := topS 17
theorem sc_fits_more : FnScope ["data", "tys", "rows", "row", "head", "inner", "choices", "one", "part_tys", "column", "more", "told", "others", "wide"] ["data", "tys", "rows", "row"] (defScope s_fits_more) := ⟨rfl, rfl, rfl, by decide +kernel, rfl, by decide +kernel, by decide +kernel⟩
theorem ok_fits_more {c T : Addr} (F : FunC K "fits_more" "fits_more" s_fits_more f fd c) (TB : GxR.TabB base mg c T) (MO : OpenAt K mg) (m_all : mg "all" = none) (m_len : mg "len" = none) (d_heads : Dfn P w K mg base "heads" 5 ["data", "ty", "column"] spHeads) (d_divided : Dfn P w K mg base "divided" 2 ["choices", "column"] spDivided)
    (d_rest_rows : Dfn P w K mg base "rest_rows" 2 ["rows"] spRestRows) (d_specialized : Dfn P w K mg base "specialized" 2 ["rows", "head", "count"] spSpecialized) (d_is_open : Dfn P w K mg base "is_open" 1 ["pattern"] spIsOpen) (d_head_of : Dfn P w K mg base "head_of" 1 ["pattern"] spHeadOf)
    (d_inner_of : Dfn P w K mg base "inner_of" 1 ["pattern"] spInnerOf)
    (kp : PySem.W.keepIn K (.ref f) = true) (mf : mg "fits_more" = some (.ref f)) (bd : Binds K fd ["data", "tys", "rows", "row"] []) : ∀ n, FnOk P w K mg base CX0 (n + 6) f fd ["data", "tys", "rows", "row"] (spMore T n)
  | 0 => F.ok sc_fits_more (fun vs H Q E ⟨G, tys, rows, row, _, _, hv, _⟩ => hv.len) fun A outer s H vs Q E hr ⟨G, tys, rows, row, _, _, _, hf, _⟩ => absurd hf.len (by omega)
  | n + 1 => by
    have d_fits_more : Dfn P w K mg base "fits_more" (n + 6) ["data", "tys", "rows", "row"] (spMore T n) := ⟨⟨f, fd, ok_fits_more F TB MO m_all m_len d_heads d_divided d_rest_rows d_specialized d_is_open d_head_of d_inner_of kp mf bd n, kp, mf, bd⟩⟩
    refine F.ok sc_fits_more (fun vs H Q E ⟨G, tys, rows, row, _, _, hv, _⟩ => hv.len) (fun A outer s H vs Q E hr h => ?_)
    obtain ⟨G, tys, rows, row, e, tab, hv, hfr, q⟩ := h
    have hu := hu_in hr
    have hf := hfr.of_tail
    cases hv with
    | cons h1 h2 =>
    cases h2 with
    | cons h2 h3 =>
    cases h3 with
    | cons h3 h4 =>
    cases h4 with
    | cons h4 h5 =>
    cases h5
    rename_i v1 v2 v3 v4
    have htl := hf.len
    have hlow := hf.low
    refine ⟨_, (pss_cons (ps_if (pt_not (ptTru K (pv 1))) (pss_one (ps_ret (pe_notT (pv 2)))) pss_nil)
      (pss_cons (ps_if (pt_not (pt_val (pe_def d_is_open (hr.mono (by omega)) (by rfl) (pa_cons (pe_ix (ixK K) (pv 3) pe_int (fun _ _ => rfl)) pa_nil)))) (pss_cons (ps_set (i := 4) sc_fits_more.nd rfl (.inl rfl) (pe_def d_head_of (hr.mono (by omega)) (by rfl) (pa_cons (pe_ix (ixK K) (pv 3) pe_int (fun _ _ => rfl)) pa_nil)))
      (pss_cons (ps_set (i := 5) sc_fits_more.nd rfl (.inl rfl) (pe_def d_inner_of (hr.mono (by omega)) (by rfl) (pa_cons (pe_ix (ixK K) (pv 3) pe_int (fun _ _ => rfl)) pa_nil)))
      (pss_cons (ps_set (i := 6) sc_fits_more.nd rfl (.inl rfl) (pe_ix (ixK K) (pe_def d_heads (hr.mono (by omega)) (by rfl) (pa_cons (pv 0) (pa_cons (pe_ix (ixK K) (pv 1) pe_int (fun _ _ => rfl)) (pa_cons (pe_lst (pa_cons (pe_ix (ixK K) (pv 3) pe_int (fun _ _ => rfl)) pa_nil)) pa_nil)))) pe_int (fun _ _ => rfl)))
      (pss_cons (ps_for PassesOwn.never rfl (pi_list (pv 6)) (pg_tup rfl (pgs_cons (pg_name (i := 7) sc_fits_more.nd rfl (.inl rfl)) (pgs_cons (pg_name (i := 8) sc_fits_more.nd rfl (.inl rfl)) pgs_nil))) (pss_one (ps_if (pt_cmpR (eqK K hu) (pv 7) (pv 4) (nomark _)) (pss_one (ps_ret (pe_def d_fits_more (hr.mono (by omega)) (by rfl) (pa_cons (pv 0) (pa_cons (pe_op op_cat (pv 8) (pe_slice (slK K) (pv 1) (po_some pe_int) po_none)) (pa_cons (pe_def d_specialized (hr.mono (by omega)) (by rfl) (pa_cons (pv 2) (pa_cons (pv 4) (pa_cons (pe_callB (lenK K) (by rfl) m_len PySem.boot_len (pa_cons (pv 5) pa_nil)) pa_nil)))) (pa_cons (pe_op op_cat (pv 5) (pe_slice (slK K) (pv 3) (po_some pe_int) po_none)) pa_nil))))))) pss_nil)))
      (pss_one (ps_ret pe_bl)))))) pss_nil)
      (pss_cons (ps_setLc (i := 9) (own := [("one", 7)]) (by rfl) sc_fits_more.nd rfl rfl (sw_true rfl rfl rfl (by decide +kernel)) (pi_list (pv 2)) (blkOk_by (N := ["data", "tys", "rows", "row", "head", "inner", "choices", "one", "part_tys", "column", "more", "told", "others", "wide"]) (sc := defScope s_fits_more) (by decide +kernel)) (fun _ _ _ _ _ => (pg_name (i := 7) sc_fits_more.nd rfl (.inl rfl))) (fun _ _ _ _ _ => pts_nil) (fun _ _ _ _ _ => (pe_ix (ixK K) (pv 7) pe_int (fun _ _ => rfl))))
      (pss_cons (ps_if (pt_val (pe_allO hr (by rfl) m_all TB (by rfl) MO (genS_of rfl rfl rfl rfl rfl) (by rfl) (by rfl) (pv 9) (fun _ => by rfl) (fun _ => by rfl))) (pss_one (ps_ret (pe_def d_fits_more (hr.mono (by omega)) (by rfl) (pa_cons (pv 0) (pa_cons (pe_slice (slK K) (pv 1) (po_some pe_int) po_none) (pa_cons (pe_def d_rest_rows (hr.mono (by omega)) (by rfl) (pa_cons (pv 2) pa_nil)) (pa_cons (pe_slice (slK K) (pv 3) (po_some pe_int) po_none) pa_nil))))))) pss_nil)
      (pss_cons (ps_asg (pe_def d_heads (hr.mono (by omega)) (by rfl) (pa_cons (pv 0) (pa_cons (pe_ix (ixK K) (pv 1) pe_int (fun _ _ => rfl)) (pa_cons (pv 9) pa_nil)))) (pg_tup rfl (pgs_cons (pg_name (i := 6) sc_fits_more.nd rfl (.inl rfl)) (pgs_cons (pg_name (i := 10) sc_fits_more.nd rfl (.inl rfl)) pgs_nil))))
      (pss_cons (ps_asg (pe_def d_divided (hr.mono (by omega)) (by rfl) (pa_cons (pv 6) (pa_cons (pv 9) pa_nil))) (pg_tup rfl (pgs_cons (pg_name (i := 11) sc_fits_more.nd rfl (.inl rfl)) (pgs_cons (pg_name (i := 12) sc_fits_more.nd rfl (.inl rfl)) pgs_nil))))
      (pss_cons (ps_if (PW.pt (pw_and (PW.pt (pw_or (ptTru K (pv 10)) (pw_or1 (ptTru K (pv 12))))) (pw_and1 (pt_val (pe_def d_fits_more (hr.mono (by omega)) (by rfl) (pa_cons (pv 0) (pa_cons (pe_slice (slK K) (pv 1) (po_some pe_int) po_none) (pa_cons (pe_def d_rest_rows (hr.mono (by omega)) (by rfl) (pa_cons (pv 2) pa_nil)) (pa_cons (pe_slice (slK K) (pv 3) (po_some pe_int) po_none) pa_nil))))))))) (pss_one (ps_ret pe_bl)) pss_nil)
      (pss_cons (ps_for PassesOwn.never rfl (pi_list (pv 11)) (pg_tup rfl (pgs_cons (pg_name (i := 4) sc_fits_more.nd rfl (.inl rfl)) (pgs_cons (pg_name (i := 5) sc_fits_more.nd rfl (.inl rfl)) pgs_nil))) (pss_cons (ps_set (i := 13) sc_fits_more.nd rfl (.inl rfl) (pe_op op_cat (pe_op op_rep (pe_lst (pa_cons (pe_tup (pa_cons pe_str pa_nil)) pa_nil)) (pe_callB (lenK K) (by rfl) m_len PySem.boot_len (pa_cons (pv 5) pa_nil))) (pe_slice (slK K) (pv 3) (po_some pe_int) po_none)))
      (pss_one (ps_if (pt_val (pe_def d_fits_more (hr.mono (by omega)) (by rfl) (pa_cons (pv 0) (pa_cons (pe_op op_cat (pv 5) (pe_slice (slK K) (pv 1) (po_some pe_int) po_none)) (pa_cons (pe_def d_specialized (hr.mono (by omega)) (by rfl) (pa_cons (pv 2) (pa_cons (pv 4) (pa_cons (pe_callB (lenK K) (by rfl) m_len PySem.boot_len (pa_cons (pv 5) pa_nil)) pa_nil)))) (pa_cons (pv 13) pa_nil)))))) (pss_one (ps_ret pe_bl)) pss_nil))))
      (pss_one (ps_ret pe_bl)))))))))), ?_⟩
    cases tys with
    | nil =>
      refine q_when (b := true) e (eb_not (eb_tru (b := false) (ev_var rfl h2) rfl)) (fun _ G2 H2 b => ?_) (fun z => nomatch z)
      exact s_ret b.gh (ev_notT (b := !rows.isEmpty) (ev_var rfl (Dat.m h3 b.g)) (by cases rows <;> rfl)) fun v G3 H3 c hd => q v G3 H3 (b.trans c) (by
        rw [Bool.not_not] at hd
        exact hd)
    | cons t tys =>
    refine q_when (b := false) e (eb_not (eb_tru (b := true) (ev_var rfl h2) rfl)) (fun z => nomatch z) (fun _ G1 H1 A => ?_)
    obtain ⟨p, r, erow, hwp, hwr⟩ := hfr.cons List.mem_cons_self
    subst erow
    rw [fits_step] at q
    have hpk : pok p = true ∧ poks r = true := by
      have := hfr.pk _ List.mem_cons_self
      simpa only [poks, Bool.and_eq_true] using this
    have hrow0 : ∀ {G' H' : Hp} {s' : L2.St}, Go G H G' H' → s'[3]? = some (some v4) → EvD (tOp (rIxA K) (tVar 3) (tC (.int 0))) s' G' H' p.d := fun {G' H' s'} g hs => ev_il (ds := Pat.ds (p :: r)) (ev_var hs (Dat.m h4 g.g)) ev_int at0
    have hrow1 : ∀ {G' H' : Hp} {s' : L2.St}, Go G H G' H' → s'[3]? = some (some v4) → EvD (tSl (rSlL K) (tVar 3) (tPart (tC (.int 1))) tNoPart) s' G' H' (rowD r) := fun {G' H' s'} g hs => ev_is (ev_slL (ds := Pat.ds (p :: r)) (ev_var hs (Dat.m h4 g.g)) (eo_some ev_int) eo_none) (by rw [show Pat.ds (p :: r) = p.d :: Pat.ds r from rfl, cut1]; rfl)
    have htys : ∀ {G' H' : Hp} {s' : L2.St}, Go G H G' H' → s'[1]? = some (some v2) → EvD (tSl (rSlL K) (tVar 1) (tPart (tC (.int 1))) tNoPart) s' G' H' (tysD tys) := fun {G' H' s'} g hs => ev_is (ev_slL (ds := Ty.ds (t :: tys)) (ev_var hs (Dat.m h2 g.g)) (eo_some ev_int) eo_none) (by rw [show Ty.ds (t :: tys) = t.d :: Ty.ds tys from rfl, cut1]; rfl)
    have hty0 : ∀ {G' H' : Hp} {s' : L2.St}, Go G H G' H' → s'[1]? = some (some v2) → EvD (tOp (rIxA K) (tVar 1) (tC (.int 0))) s' G' H' t.d := fun {G' H' s'} g hs => ev_il (ds := Ty.ds (t :: tys)) (ev_var hs (Dat.m h2 g.g)) ev_int at0
    have hin3 := inner_few hwp (slims_cons hf.slim).1
    have hrl : r.length ≤ 1000 := by
      rw [wts_len hwr]
      simp only [List.length_cons] at htl
      omega
    refine q_when (b := !p.isOpen) A.gh (eb_not (eb_B (ev_def p (ea_cons (hrow0 A rfl) ea_nil) trivial))) (fun hb G2 H2 a2 => ?_) (fun hb G2 H2 a2 => ?_)
    · -- the row begins with a head
      have A := A.trans a2
      have ho : p.isOpen = false := by simpa using hb
      rw [if_pos hb] at q
      refine q_asg A.gh (s := .dat p.head.d) (ev_is (ev_def p (ea_cons (hrow0 A rfl) ea_nil) ho) rfl) fun vh G3 H3 a3 hvh => ?_
      have A := A.trans a3
      refine q_asg A.gh (s := .dat (rowD p.inner)) (ev_is (ev_def p (ea_cons (hrow0 A rfl) ea_nil) trivial) rfl) fun vi G4 H4 a4 hvi => ?_
      have A := A.trans a4
      have hop : ∀ k, t ≠ .op k := not_op (col := [p]) (fun x hx => by rw [List.mem_singleton.mp hx]; exact hwp) (by simp [ho])
      refine q_asg A.gh (s := .dat (chsD (heads t [p]).1)) (ev_it (ds := [chsD (heads t [p]).1, .bool (heads t [p]).2]) (ev_is (ev_def (t, [p]) (ea_cons (ev_var rfl (Dat.m h1 A.g)) (ea_cons (hty0 A rfl) (ea_cons (ev_lst (ds := [p.d]) (ea_cons (hrow0 A rfl) ea_nil) (by simp)) ea_nil))) ⟨hop, by simp, fun x hx => by rw [List.mem_singleton.mp hx]; exact hpk.1⟩) rfl) ev_int at0) fun vch G5 H5 a5 hch => ?_
      have A := A.trans a5
      have hvh := hvh.m (a4.trans a5).g
      have hvi := hvi.m a5.g
      refine q_for (enc := chD) (as := (heads t [p]).1) A.gh (ev_var rfl hch) fun G6 H6 a6 => ?_
      refine ⟨fun i σ' G' H' => ∃ y7 y8, σ' = [some v1, some v2, some v3, some v4, some vh, some vi, some vch, y7, y8, none, none, none, none, none] ∧ Go G6 H6 G' H' ∧ (((heads t [p]).1.take i).find? fun c => decide (c.1 = p.head)) = none, ⟨none, none, rfl, Go.refl a6.gh, by simp⟩, fun i σ' G' H' ⟨_, _, _, g, _⟩ => ⟨g.g, g.gh⟩, fun i c x σ' G' H' hi ⟨y7, y8, hσ, g, hno⟩ hx => ?_, fun σ' G' H' ⟨y7, y8, hσ, g, hno⟩ => ?_⟩
      · subst hσ
        have B := (A.trans a6).trans g
        have hcm := List.mem_of_getElem? hi
        have hcol1 : ∀ x ∈ [p], wt x t = true := fun x hx => by rw [List.mem_singleton.mp hx]; exact hwp
        have hok1 : Ok t c := heads_ok hcol1 c hcm
        have hh : hok c.1 = true := heads_hok (col := [p]) (fun x hx => by rw [List.mem_singleton.mp hx]; exact hpk.1) c hcm
        have hvh := hvh.m (a6.trans g).g
        have hvi := hvi.m (a6.trans g).g
        refine g2 (d1 := c.1.d) (d2 := tysD c.2) B.gh hx fun w1 w2 hw1 hw2 => ?_
        refine s_when (b := decide (c.1 = p.head)) B.gh (eb_test (ev_is (ev_eqD (ev_var rfl hw1) (ev_var rfl hvh) (hd_shaped hh) (hd_shaped (hok_head hpk.1))) (by rw [hd_eqv]))) (fun hb2 G7 H7 a7 => ?_) (fun hb2 G7 H7 a7 => ?_)
        · have hce := of_decide_eq_true hb2
          have hfi := find_of hno hi hb2
          rw [hfi] at q
          have C := B.trans a7
          have hvh := hvh.m a7.g
          have hvi := hvi.m a7.g
          have hw2 := Dat.m hw2 a7.g
          have hlen := wts_len (inner_wt hok1 hwp ho hce.symm)
          have hfs := hfr.spec (c := c) (by simp [hdP, ho]) hok1
          rw [spec_same ho hce.symm] at hfs
          refine s_ret (s := .dat (.bool (fitsMore n (c.2 ++ tys) (spec rows p.head p.inner.length) (p.inner ++ r)))) a7.gh (ev_more (ea_cons (ev_var rfl (Dat.m h1 C.g)) (ea_cons (ev_is (ev_cat (ds := Ty.ds c.2) (es := Ty.ds tys) (ev_var rfl hw2) (htys C rfl) ?_) ?_) (ea_cons (ev_def (res := fun a : List (List Pat) × Hd × Nat => rowsD (spec a.1 a.2.1 a.2.2)) (rows, p.head, p.inner.length) (ea_cons (ev_var rfl (Dat.m h3 C.g)) (ea_cons (ev_var rfl hvh) (ea_cons (ev_is (ev_len (ds := Pat.ds p.inner) (ev_var rfl hvi)) ?_) ea_nil))) ?_) (ea_cons (ev_is (ev_cat (ds := Pat.ds p.inner) (es := Pat.ds r) (ev_var rfl hvi) (hrow1 C rfl) ?_) ?_) ea_nil)))) (tab.m C) ?_) fun v G8 H8 a8 hd => q v G8 H8 (C.trans a8) hd
          · rw [tys_len, tys_len]
            have := (slim_ok hok1 (slims_cons hf.slim).1).1
            simp only [List.length_cons] at htl
            omega
          · show PyData.list (Ty.ds c.2 ++ Ty.ds tys) = tysD (c.2 ++ tys)
            rw [← tys_app]
            rfl
          · rw [ds_len]
          · have z := fit_spec (c := (p.head, c.2)) hf (hok_head hpk.1) (by have := (slim_ok hok1 (slims_cons hf.slim).1).1; exact this)
            rw [hlen]
            exact z
          · rw [ds_len, ds_len]
            omega
          · show PyData.list (Pat.ds p.inner ++ Pat.ds r) = rowD (p.inner ++ r)
            rw [← ds_app]
            rfl
          · rw [← hce, hlen]
            exact hfs
        · exact ⟨G7, _, _, rfl, g.trans a7, find_none hno hi hb2⟩
      · subst hσ
        rw [List.take_length] at hno
        rw [hno] at q
        have B := (A.trans a6).trans g
        exact s_ret B.gh ev_bl fun v G7 H7 a7 hd => q v G7 H7 (B.trans a7) hd
    -- the row begins open
    have ho : p.isOpen = true := by simpa using hb
    rw [if_neg (by rw [hb]; exact Bool.false_ne_true)] at q
    have A := A.trans a2
    have hcl : (rows.map hdP).length ≤ 1000 := by rw [List.length_map]; exact hf.few
    have hfrest : Fit n tys (r :: restRows rows) := by
      have z := hfr.rest
      rw [rest_open ho] at z
      exact z
    refine q_asg A.gh (s := .dat (rowD (rows.map hdP))) (ev_is (ev_lcA (enc := rowD) (as := rows) (fun r => (hdP r).d) (ev_var rfl (Dat.m h3 A.g)) (by have := hf.few; omega) fun r hr x G3 H3 b hx => ⟨_, fun R z => z, rfl, by
      obtain ⟨p, q, rfl, _⟩ := hf.cons hr
      exact ev_il (ds := Pat.ds (p :: q)) (ev_var rfl hx) ev_int at0⟩) (by rw [col_d]; rfl)) fun vc G3 H3 a3 hc => ?_
    have A := A.trans a3
    have hrec : ∀ {G' H' : Hp} {s' : L2.St}, Go G H G' H' → s'[0]? = some (some v1) → s'[1]? = some (some v2) → s'[2]? = some (some v3) → s'[3]? = some (some v4) → EvD (tCall (spMore T n) [] E0 (tCons (tVar 0) (tCons (tSl (rSlL K) (tVar 1) (tPart (tC (.int 1))) tNoPart) (tCons (tCall spRestRows [] E0 (tCons (tVar 2) tNil)) (tCons (tSl (rSlL K) (tVar 3) (tPart (tC (.int 1))) tNoPart) tNil))))) s' G' H' (.bool (fitsMore n tys (restRows rows) r)) := fun {G' H' s'} g e0 e1 e2 e3 =>
      ev_more (ea_cons (ev_var e0 (Dat.m h1 g.g)) (ea_cons (htys g e1) (ea_cons (ev_def (res := fun rows => rowsD (restRows rows)) rows (ea_cons (ev_var e2 (Dat.m h3 g.g)) ea_nil) (fit_rows hf)) (ea_cons (hrow1 g e3) ea_nil)))) (tab.m g) hfrest
    refine q_when (b := (rows.map hdP).all Pat.isOpen) A.gh (eb_allO (ev_var rfl hc) (tab.m A)) (fun hall G4 H4 a4 => ?_) (fun hall G4 H4 a4 => ?_)
    · have A := A.trans a4
      rw [if_pos hall] at q
      exact s_ret A.gh (hrec A rfl rfl rfl rfl) fun v G5 H5 a5 hd => q v G5 H5 (A.trans a5) hd
    rw [hall, if_neg Bool.false_ne_true] at q
    have A := A.trans a4
    have hc := hc.m a4.g
    refine q_pair (d1 := chsD (heads t (rows.map hdP)).1) (d2 := .bool (heads t (rows.map hdP)).2) A.gh ?_ fun vch vmo G5 H5 a5 hch hmo => ?_
    · exact ev_is (ev_def (t, rows.map hdP) (ea_cons (ev_var rfl (Dat.m h1 A.g)) (ea_cons (hty0 A rfl) (ea_cons (ev_var rfl hc) ea_nil))) ⟨not_op hf.hd hall, hcl, hf.colok⟩) rfl
    have A := A.trans a5
    have hc := hc.m a5.g
    have hcs : ∀ c ∈ (heads t (rows.map hdP)).1, Ok t c ∧ hok c.1 = true ∧ c.2.length ≤ 3 := fun c hc => by
      have ho := heads_ok hf.hd c hc
      exact ⟨ho, heads_hok hf.colok c hc, (slim_ok ho (slims_cons hf.slim).1).1⟩
    refine q_pair (d1 := chsD (told (heads t (rows.map hdP)).1 (rows.map hdP))) (d2 := chsD (others (heads t (rows.map hdP)).1 (rows.map hdP))) A.gh ?_ fun vto vot G7 H7 a7 hto hot => ?_
    · exact ev_is (ev_def ((heads t (rows.map hdP)).1, rows.map hdP) (ea_cons (ev_var rfl hch) (ea_cons (ev_var rfl hc) ea_nil)) ⟨heads_few t _ hcl, hcl, fun c hc => (hcs c hc).2.1, hf.colok⟩) rfl
    have A := A.trans a7
    have hmo := Dat.m hmo a7.g
    generalize hus : others (heads t (rows.map hdP)).1 (rows.map hdP) = us at q hot
    generalize hts : told (heads t (rows.map hdP)).1 (rows.map hdP) = ts at q hto
    have hts2 : ∀ c ∈ ts, c ∈ (heads t (rows.map hdP)).1 := fun c hc => by
      rw [← hts] at hc
      exact (List.mem_filter.mp hc).1
    refine q_when (b := ((heads t (rows.map hdP)).2 || !us.isEmpty) && fitsMore n tys (restRows rows) r) A.gh (eb_and (eb_or (eb_tru (ev_var rfl hmo) rfl) fun _ => eb_tru (ev_var rfl hot) (chs_tru us)) fun _ => eb_B (hrec A rfl rfl rfl rfl)) (fun hb2 G8 H8 a8 => ?_) (fun hb2 G8 H8 a8 => ?_)
    · have A := A.trans a8
      rw [hb2] at q
      exact s_ret A.gh ev_bl fun v G9 H9 a9 hd => q v G9 H9 (A.trans a9) hd
    rw [hb2, Bool.false_or] at q
    have A := A.trans a8
    refine q_for (enc := chD) (as := ts) A.gh (ev_var rfl (Dat.m hto a8.g)) fun G9 H9 a9 => ?_
    refine ⟨fun i σ' G' H' => ∃ y4 y5 y13, σ' = [some v1, some v2, some v3, some v4, y4, y5, some vch, none, none, some vc, some vmo, some vto, some vot, y13] ∧ Go G9 H9 G' H' ∧ (ts.take i).any (fun c => fitsMore n (c.2 ++ tys) (spec rows c.1 c.2.length) (List.replicate c.2.length .any ++ r)) = false, ⟨none, none, none, rfl, Go.refl a9.gh, by simp⟩, fun i σ' G' H' ⟨_, _, _, _, g, _⟩ => ⟨g.g, g.gh⟩, fun i c x σ' G' H' hi ⟨y4, y5, y13, hσ, g, hno⟩ hx => ?_, fun σ' G' H' ⟨y4, y5, y13, hσ, g, hno⟩ => ?_⟩
    · subst hσ
      have B := (A.trans a9).trans g
      obtain ⟨hok1, hh, h3c⟩ := hcs c (hts2 c (List.mem_of_getElem? hi))
      refine g2 (d1 := c.1.d) (d2 := tysD c.2) B.gh hx fun w1 w2 hw1 hw2 => ?_
      refine q_asg B.gh (s := .dat (rowD (List.replicate c.2.length .any ++ r))) (ev_is (ev_cat (ev_rep (d := .tuple [.str "any"]) (n := c.2.length) (ev_lst (ds := [.tuple [.str "any"]]) (ea_cons (ev_tup (ds := [.str "any"]) (ea_cons ev_str ea_nil) (by simp)) ea_nil) (by simp)) (ev_is (ev_len (ds := Ty.ds c.2) (ev_var rfl hw2)) (by rw [tys_len])) (by omega)) (hrow1 B rfl) (by
        rw [List.length_replicate, ds_len]
        omega)) (by
        show PyData.list (List.replicate c.2.length _ ++ Pat.ds r) = _
        rw [rowD, ds_app, ds_rep])) fun vw G10 H10 a10 hvw => ?_
      have C := B.trans a10
      have hw1 := Dat.m hw1 a10.g
      have hw2 := Dat.m hw2 a10.g
      have hfs := hfr.spec (c := c) (by rw [List.map_cons, List.all_cons, hall, Bool.and_false]) hok1
      rw [spec_open ho] at hfs
      have hev : EvD (tCall (spMore T n) [] E0 (tCons (tVar 0) (tCons (tOp rCat (tVar 5) (tSl (rSlL K) (tVar 1) (tPart (tC (.int 1))) tNoPart)) (tCons (tCall spSpecialized [] E0 (tCons (tVar 2) (tCons (tVar 4) (tCons (tCB (rLenS K) (tCons (tVar 5) tNil)) tNil)))) (tCons (tVar 13) tNil))))) [some v1, some v2, some v3, some v4, some w1, some w2, some vch, none, none, some vc, some vmo, some vto, some vot, some vw] G10 H10 (.bool (fitsMore n (c.2 ++ tys) (spec rows c.1 c.2.length) (List.replicate c.2.length .any ++ r))) := by
        refine ev_more (ea_cons (ev_var rfl (Dat.m h1 C.g)) (ea_cons (ev_is (ev_cat (ds := Ty.ds c.2) (es := Ty.ds tys) (ev_var rfl hw2) (htys C rfl) ?_) ?_) (ea_cons (ev_def (res := fun a : List (List Pat) × Hd × Nat => rowsD (spec a.1 a.2.1 a.2.2)) (rows, c.1, c.2.length) (ea_cons (ev_var rfl (Dat.m h3 C.g)) (ea_cons (ev_var rfl hw1) (ea_cons (ev_is (ev_len (ds := Ty.ds c.2) (ev_var rfl hw2)) ?_) ea_nil))) (fit_spec hf hh h3c)) (ea_cons (ev_var rfl hvw) ea_nil)))) (tab.m C) hfs
        · rw [tys_len, tys_len]
          simp only [List.length_cons] at htl
          omega
        · show PyData.list (Ty.ds c.2 ++ Ty.ds tys) = tysD (c.2 ++ tys)
          rw [← tys_app]
          rfl
        · rw [tys_len]
      refine s_when a10.gh (eb_B hev) (fun hb3 G11 H11 a11 => ?_) (fun hb3 G11 H11 a11 => ?_)
      · have C := C.trans a11
        have hany := any_of (f := fun c => fitsMore n (c.2 ++ tys) (spec rows c.1 c.2.length) (List.replicate c.2.length .any ++ r)) hi hb3
        rw [hany] at q
        exact s_ret C.gh ev_bl fun v G12 H12 a12 hd => q v G12 H12 (C.trans a12) hd
      · exact ⟨G11, _, _, _, rfl, (g.trans a10).trans a11, any_none hno hi hb3⟩
    · subst hσ
      rw [List.take_length] at hno
      rw [hno] at q
      have B := (A.trans a9).trans g
      exact s_ret B.gh ev_bl fun v G10 H10 a10 hd => q v G10 H10 (B.trans a10) hd
end
end G

namespace G
open PySem L2 Evl
open M
section
variable {K : PySem.W.Frag} {σ : L2.St} {G H : Hp} {ta tb te tc : TE} {D : Ends} {tu tz : TS} {g : TG} {t : TT}
/-- a loop over enumerate(a list of data) -/
theorem s_forE {α : Type} {enc : α → PyData} {as : List α} (e : Ex G H) (h : EvD ta σ G H (.list (as.map enc)))
    (k : ∀ G1 H1, Go G H G1 H1 → ∃ P : Nat → L2.St → Hp → Hp → Prop, P 0 σ G1 H1 ∧ (∀ i σ' G' H', P i σ' G' H' → Ex G1 G' ∧ Ex G' H') ∧
      (∀ i a x σ' G' H' G2 H2, as[i]? = some a → P i σ' G' H' → Go G' H' G2 H2 → Dat G2 x (.tuple [.int (i : Int), enc a]) → g x σ' H2 fun σ2 H2 => tu { D with nx := fun s h => ∃ G, P (i + 1) s G h, ct := fun s h => ∃ G, P (i + 1) s G h, bk := D.nx } σ2 H2) ∧ ∀ σ' G' H', P as.length σ' G' H' → D.nx σ' H') :
    tFor (iEnum K (tCons ta tNil)) g tu D σ H := h G H (Go.refl e) _ fun x G1 H1 a hx => by
  cases hx with
  | lst e1 e2 =>
    rename_i l xs
    obtain ⟨P, p0, pm, ps, pd⟩ := k G1 H1 a
    have hl : xs.length = as.length := by rw [e2.len, List.length_map]
    refine ⟨l, xs, rfl, sq_of (a.gh _ _ e1), ?_⟩
    have sq : ∀ i s G2 h, P i s G2 h → SqL K h l xs := fun i s G2 h p => by
      obtain ⟨a1, a2⟩ := pm i s G2 h p
      exact sq_of (a2 _ _ (a1 _ _ e1))
    refine ⟨fun i m σ H => m = xs.length - i ∧ i ≤ xs.length ∧ ∃ G2, P i σ G2 H, ⟨xs.length, by simp, Nat.zero_le _, G1, p0⟩, ?_⟩
    rintro i m σ H ⟨rfl, hi, G2, p⟩
    have q := sq i σ G2 H p
    obtain ⟨a1, a2⟩ := pm i σ G2 H p
    by_cases hlt : i < xs.length
    · refine .inr ⟨⟨xs, xs[i], q, by simp [hlt]⟩, fun σ' H' => ∃ G3, P (i + 1) σ' G3 H', fun σ' H' p' => ⟨xs.length - (i + 1), by omega, rfl, hlt, p'⟩, fun x H' y => ?_⟩
      obtain ⟨T, y2, rfl, hT, rfl, hy⟩ := y
      obtain ⟨d, hd, hv⟩ := e2.getM (hy xs q)
      have b := Go.imm (o := .tup [.int ((i : Nat) : Int), y2]) a2 hT
      exact ps i d _ σ G2 H _ _ hd p b (.tup upd_same (.cons (.int _) (.cons (Dat.m hv (a1.trans b.g)) .nil)))
    · have e3 : i = xs.length := by omega
      subst e3
      refine .inl ⟨⟨xs, q, Nat.le_refl _⟩, ?_⟩
      rw [hl] at p
      exact pd σ G2 H p
theorem q_forE {α : Type} {enc : α → PyData} {as : List α} (e : Ex G H) (h : EvD ta σ G H (.list (as.map enc)))
    (k : ∀ G1 H1, Go G H G1 H1 → ∃ P : Nat → L2.St → Hp → Hp → Prop, P 0 σ G1 H1 ∧ (∀ i σ' G' H', P i σ' G' H' → Ex G1 G' ∧ Ex G' H') ∧
      (∀ i a x σ' G' H' G2 H2, as[i]? = some a → P i σ' G' H' → Go G' H' G2 H2 → Dat G2 x (.tuple [.int (i : Int), enc a]) → g x σ' H2 fun σ2 H2 => tu { D with nx := fun s h => ∃ G, P (i + 1) s G h, ct := fun s h => ∃ G, P (i + 1) s G h, bk := tz D } σ2 H2) ∧ ∀ σ' G' H', P as.length σ' G' H' → tz D σ' H') :
    tSeq (tFor (iEnum K (tCons ta tNil)) g tu) tz D σ H := s_forE (D := { D with nx := tz D }) e h k
end
section
variable {P : Program} {w : World} {K : PySem.W.Frag} {mg : Str → Option Value} {base : Heap} {f : Addr} {fd : FuncData} {σ : L2.St} {G H : Hp} {ta tb te : TE}
/-- what the two are called with -/
structure Ask (t : Ty) (ps : List Pat) : Prop where
  m : Match t ps
  pk : ∀ p ∈ ps, pok p = true
  few : ps.length ≤ 900
theorem Ask.fit {t : Ty} {ps : List Pat} (h : Ask t ps) : Fit fuel [t] (ps.map fun p => [p]) where
  ex := ⟨[3], fuel_ok, one_rows h.m⟩
  slim := by simp [slims, h.m.slim]
  pk := fun r hr => by
    obtain ⟨p, hp, rfl⟩ := List.mem_map.mp hr
    simp [poks, h.pk p hp]
  few := by rw [List.length_map]; have := h.few; omega
  low := by decide
theorem Ask.sub {t : Ty} {ps qs : List Pat} (h : Ask t ps) (hs : ∀ q ∈ qs, q ∈ ps) (hl : qs.length ≤ 900) : Ask t qs :=
  ⟨⟨fun p hp => h.m.wt p (hs p hp), fun p hp => h.m.low p (hs p hp), fun p hp => h.m.dep p (hs p hp), h.m.slim⟩, fun p hp => h.pk p (hs p hp), hl⟩
theorem one_d (ps : List Pat) : rowsD (ps.map fun p => [p]) = .list (ps.map fun p => .list [p.d]) := by
  unfold rowsD
  rw [List.map_map]
  rfl
abbrev s_missing : Stmt := topS 16
theorem sc_missing : FnScope ["data", "ty", "patterns", "found", "pattern"] ["data", "ty", "patterns"] (defScope s_missing) := ⟨rfl, rfl, rfl, by decide +kernel, rfl, by decide +kernel, by decide +kernel⟩
def patD : Option Pat → PyData
  | none => .none
  | some p => p.d
def spMissing (T : Addr) : Sp := fun vs H Q _ => ∃ G t ps, Ex G H ∧ Tab G H T ∧ Dats G vs [dataD, t.d, rowD ps] ∧ Ask t ps ∧ ∀ v G' H', Go G H G' H' → Dat G' v (patD (missing t ps)) → Q v H'
theorem ok_missing {T : Addr} (F : Fun K "missing" "missing" s_missing f fd) (d_left_out : Dfn P w K mg base "left_out" 47 ["data", "tys", "rows"] (spLeft T fuel)) : FnOk P w K mg base CX0 48 f fd ["data", "ty", "patterns"] (spMissing T) := by
  refine F.ok sc_missing (fun vs H Q E ⟨G, t, ps, _, _, hv, _⟩ => hv.len) (fun cdv A outer s H vs Q E hr h => ?_)
  obtain ⟨G, t, ps, e, tab, hv, hk, q⟩ := h
  cases hv with
  | cons h1 h2 =>
  cases h2 with
  | cons h2 h3 =>
  cases h3 with
  | cons h3 h4 =>
  cases h4
  refine ⟨_, (pss_cons (ps_set (i := 3) sc_missing.nd rfl (.inl rfl) (pe_def d_left_out (hr.mono (by omega)) (by rfl) (pa_cons (pv 0) (pa_cons (pe_lst (pa_cons (pv 1) pa_nil)) (pa_cons (pe_lc (own := [("pattern", 4)]) (by rfl) sc_missing.nd (pi_list (pv 2)) (blkOk_by (N := ["data", "ty", "patterns", "found", "pattern"]) (sc := defScope s_missing) (by decide +kernel)) (fun _ _ _ _ _ => (pg_name (i := 4) sc_missing.nd rfl (.inl rfl))) (fun _ _ _ _ _ => pts_nil) (fun _ _ _ _ _ => (pe_lst (pa_cons (pv 4) pa_nil)))) pa_nil)))))
      (pss_one (ps_ret (pe_ifExp (pt_cmp (pc_isN (pv 3))) pe_non (pe_ix (ixK K) (pv 3) pe_int (fun _ _ => rfl)))))), ?_⟩
  have h3' := h3
  simp only [rowD, Pat.ds_map] at h3'
  refine q_asg e (s := .dat (resD (leftOut fuel [t] (ps.map fun p => [p])))) (ev_left (ea_cons (ev_var rfl h1) (ea_cons (ev_lst (ds := [t.d]) (ea_cons (ev_var rfl h2) ea_nil) (by simp)) (ea_cons (ev_is (ev_lcA (enc := Pat.d) (as := ps) (fun p => .list [p.d]) (ev_var rfl h3') (by have := hk.few; omega) fun p _ x G1 H1 a hx => ⟨_, fun R z => z, rfl, ev_lst (ds := [p.d]) (ea_cons (ev_var rfl hx) ea_nil) (by simp)⟩) (one_d ps).symm) ea_nil))) tab hk.fit) fun vf G1 H1 a hvf => ?_
  refine s_ret (s := .dat (patD (missing t ps))) a.gh (ev_if (b := (leftOut fuel [t] (ps.map fun p => [p])).isNone) (eb_B (ev_isNb (ev_var rfl hvf) (no_res _))) (fun z => ?_) (fun z => ?_)) fun v G2 H2 b hd => q v G2 H2 (a.trans b) hd
  · unfold missing
    cases ho : leftOut fuel [t] (ps.map fun p => [p]) with
    | none => exact ev_non
    | some f => rw [ho] at z; cases z
  · unfold missing
    cases ho : leftOut fuel [t] (ps.map fun p => [p]) with
    | none => rw [ho] at z; cases z
    | some f =>
      have hl := leftOut_len _ _ _ _ ho
      rw [ho] at hvf
      cases f with
      | nil => cases hl
      | cons p f => exact ev_il (ds := Pat.ds (p :: f)) (ev_var rfl hvf) ev_int at0
abbrev s_unused : Stmt := topS 18
theorem sc_unused : FnScope ["data", "ty", "patterns", "k", "pattern", "one"] ["data", "ty", "patterns"] (defScope s_unused) := ⟨rfl, rfl, rfl, by decide +kernel, rfl, by decide +kernel, by decide +kernel⟩
def natD : Option Nat → PyData
  | none => .none
  | some k => .int (k : Int)
def spUnused (T : Addr) : Sp := fun vs H Q _ => ∃ G t ps, Ex G H ∧ Tab G H T ∧ Dats G vs [dataD, t.d, rowD ps] ∧ Ask t ps ∧ ∀ v G' H', Go G H G' H' → Dat G' v (natD (unused t ps)) → Q v H'
theorem range_take (n i : Nat) (h : i ≤ n) : (List.range n).take i = List.range i := by
  rw [List.take_range, Nat.min_eq_left h]
theorem ok_unused {T : Addr} (F : Fun K "unused" "unused" s_unused f fd) (m_enumerate : mg "enumerate" = none) (d_fits_more : Dfn P w K mg base "fits_more" 47 ["data", "tys", "rows", "row"] (spMore T fuel)) : FnOk P w K mg base CX0 48 f fd ["data", "ty", "patterns"] (spUnused T) := by
  refine F.ok sc_unused (fun vs H Q E ⟨G, t, ps, _, _, hv, _⟩ => hv.len) (fun cdv A outer s H vs Q E hr h => ?_)
  obtain ⟨G, t, ps, e, tab, hv, hk, q⟩ := h
  cases hv with
  | cons h1 h2 =>
  cases h2 with
  | cons h2 h3 =>
  cases h3 with
  | cons h3 h4 =>
  cases h4
  rename_i v1 v2 v3
  refine ⟨_, (pss_cons (ps_for PassesOwn.never rfl (pi_enum (by rfl) m_enumerate (pa_cons (pv 2) pa_nil)) (pg_tup rfl (pgs_cons (pg_name (i := 3) sc_unused.nd rfl (.inl rfl)) (pgs_cons (pg_name (i := 4) sc_unused.nd rfl (.inl rfl)) pgs_nil))) (pss_one (ps_if (pt_not (pt_val (pe_def d_fits_more (hr.mono (by omega)) (by rfl) (pa_cons (pv 0) (pa_cons (pe_lst (pa_cons (pv 1) pa_nil)) (pa_cons (pe_lc (own := [("one", 5)]) (by rfl) sc_unused.nd (pi_list (pe_slice (slK K) (pv 2) po_none (po_some (pv 3)))) (blkOk_by (N := ["data", "ty", "patterns", "k", "pattern", "one"]) (sc := defScope s_unused) (by decide +kernel)) (fun _ _ _ _ _ => (pg_name (i := 5) sc_unused.nd rfl (.inl rfl))) (fun _ _ _ _ _ => pts_nil) (fun _ _ _ _ _ => (pe_lst (pa_cons (pv 5) pa_nil)))) (pa_cons (pe_lst (pa_cons (pv 4) pa_nil)) pa_nil))))))) (pss_one (ps_ret (pv 3))) pss_nil)))
      (pss_one (ps_ret pe_non))), ?_⟩
  have h3' := h3
  simp only [rowD, Pat.ds_map] at h3'
  refine q_forE (enc := Pat.d) (as := ps) e (ev_var rfl h3') fun G1 H1 a => ?_
  refine ⟨fun i σ' G' H' => ∃ y3 y4, σ' = [some v1, some v2, some v3, y3, y4, none] ∧ Go G1 H1 G' H' ∧ ((List.range ps.length).take i).find? (idle t ps) = none, ⟨none, none, rfl, Go.refl a.gh, by simp⟩, fun i σ' G' H' ⟨_, _, _, g, _⟩ => ⟨g.g, g.gh⟩, fun i p x σ' G' H' G2 H2 hi ⟨y3, y4, hσ, g, hno⟩ b hx => ?_, fun σ' G' H' ⟨y3, y4, hσ, g, hno⟩ => ?_⟩
  · subst hσ
    have A := (a.trans g).trans b
    have hil := (List.getElem?_eq_some_iff.mp hi).1
    have hir : (List.range ps.length)[i]? = some i := by simp [hil]
    refine g2 (d1 := .int (i : Int)) (d2 := p.d) A.gh hx fun w1 w2 hw1 hw2 => ?_
    have hgd : ps.getD i .any = p := by rw [List.getD_eq_getElem?_getD, hi, Option.getD_some]
    have hask : Ask t (p :: ps.take i) := hk.sub (fun q hq => by
      rcases List.mem_cons.mp hq with rfl | z
      · exact List.mem_of_getElem? hi
      · exact List.mem_of_mem_take z) (by
      simp only [List.length_cons, List.length_take]
      have := hk.few
      omega)
    have hcut : cutD (ps.map Pat.d) none (some (i : Int)) = (ps.take i).map Pat.d := by
      have z := cut_take ps i
      rw [Pat.ds_map, Pat.ds_map] at z
      exact z
    refine s_when (b := idle t ps i) A.gh (eb_is (eb_not (eb_B (ev_more (tys := [t]) (rows := (ps.take i).map fun p => [p]) (row := [p]) (ea_cons (ev_var rfl (Dat.m h1 A.g)) (ea_cons (ev_lst (ds := [t.d]) (ea_cons (ev_var rfl (Dat.m h2 A.g)) ea_nil) (by simp)) (ea_cons (ev_is (ev_lcA (enc := Pat.d) (as := ps.take i) (fun p => .list [p.d]) (ev_is (ev_slL (ds := ps.map Pat.d) (ev_var rfl (Dat.m h3' A.g)) eo_none (eo_some (ev_var rfl hw1))) (by rw [hcut])) (by
      rw [List.length_take]
      have := hk.few
      omega) fun p _ x G1 H1 a hx => ⟨_, fun R z => z, rfl, ev_lst (ds := [p.d]) (ea_cons (ev_var rfl hx) ea_nil) (by simp)⟩) (one_d _).symm) (ea_cons (ev_lst (ds := [p.d]) (ea_cons (ev_var rfl hw2) ea_nil) (by simp)) ea_nil)))) (tab.m A) hask.fit))) (by unfold idle; rw [hgd])) (fun hb G3 H3 c => ?_) (fun hb G3 H3 c => ?_)
    · have hf := find_of hno hir hb
      unfold unused at q
      rw [hf] at q
      exact s_ret (s := .dat (.int (i : Int))) c.gh (ev_var rfl (Dat.m hw1 c.g)) fun v G4 H4 c2 hd => q v G4 H4 ((A.trans c).trans c2) hd
    · exact ⟨G3, _, _, rfl, (g.trans b).trans c, find_none hno hir hb⟩
  · subst hσ
    rw [range_take _ _ (Nat.le_refl _)] at hno
    unfold unused at q
    rw [hno] at q
    have A := a.trans g
    exact s_ret A.gh ev_non fun v G2 H2 b hd => q v G2 H2 (A.trans b) hd
end
end G

namespace G
open PySem L2 Evl
open M
/-! ### changes at some places only -/
def hid (ps : List Addr) (H : Hp) : Hp := fun a => if a ∈ ps then none else H a
theorem hid_in {ps : List Addr} {H : Hp} {a : Addr} (h : a ∈ ps) : hid ps H a = none := if_pos h
theorem hid_out {ps : List Addr} {H : Hp} {a : Addr} (h : a ∉ ps) : hid ps H a = H a := if_neg h
theorem hid_some {ps : List Addr} {H : Hp} {a : Addr} {o : HO} (h : hid ps H a = some o) : a ∉ ps ∧ H a = some o := by
  by_cases z : a ∈ ps
  · rw [hid_in z] at h
    cases h
  · rw [hid_out z] at h
    exact ⟨z, h⟩
theorem hid_ne {ps : List Addr} {H : Hp} {a : Addr} (h : hid ps H a ≠ none) : a ∉ ps ∧ H a ≠ none := by
  by_cases z : a ∈ ps
  · exact absurd (hid_in z) h
  · rw [hid_out z] at h
    exact ⟨z, h⟩
structure But (ps : List Addr) (G H G' H' : Hp) : Prop where
  go : Go G (hid ps H) G' (hid ps H')
  ex : Ex G' H'
  out : ∀ a ∈ ps, G' a = none
theorem But.of_go {ps : List Addr} {G H G' H' : Hp} (a : Go G H G' H') (h : ∀ p ∈ ps, G p = none ∧ H p ≠ none) : But ps G H G' H' := by
  have ho : ∀ p ∈ ps, G' p = none := fun p hp => a.n p (h p hp).1 (h p hp).2
  refine ⟨⟨a.g, fun b u z => ?_, fun b o z q => ?_, fun b qs z => ?_, fun b z1 z2 => ?_⟩, a.gh, ho⟩
  · have nb : b ∉ ps := fun hb => by
      rw [ho b hb] at z
      cases z
    rw [hid_out nb]
    exact a.gh b u z
  · obtain ⟨nb, z⟩ := hid_some z
    rw [hid_out nb]
    exact a.h b o z q
  · obtain ⟨nb, z⟩ := hid_some z
    rw [hid_out nb]
    exact a.t b qs z
  · obtain ⟨nb, z2⟩ := hid_ne z2
    exact a.n b z1 z2
theorem But.refl {ps : List Addr} {G H : Hp} (e : Ex G H) (h : ∀ p ∈ ps, G p = none ∧ H p ≠ none) : But ps G H G H := .of_go (Go.refl e) h
theorem But.trans {ps : List Addr} {G H G1 H1 G2 H2 : Hp} (a : But ps G H G1 H1) (b : But ps G1 H1 G2 H2) : But ps G H G2 H2 := ⟨a.go.trans b.go, b.ex, b.out⟩
theorem hid_upd {ps : List Addr} {H : Hp} {p : Addr} {o : HO} (h : p ∈ ps) : hid ps (upd H p o) = hid ps H := by
  funext a
  by_cases z : a ∈ ps
  · rw [hid_in z, hid_in z]
  · rw [hid_out z, hid_out z, upd_ne (fun e => z (by rw [e]; exact h))]
theorem But.put {ps : List Addr} {G H G' H' : Hp} {p : Addr} {o : HO} (a : But ps G H G' H') (h : p ∈ ps) : But ps G H G' (upd H' p o) := by
  refine ⟨by rw [hid_upd h]; exact a.go, fun b u z => ?_, a.out⟩
  have nb : b ≠ p := fun e => by
    rw [e, a.out p h] at z
    cases z
  rw [upd_ne nb]
  exact a.ex b u z
theorem But.after {ps : List Addr} {G0 H0 G H G' H' : Hp} (a : Go G0 H0 G H) (b : But ps G H G' H') (h : ∀ p ∈ ps, H0 p = none) : Go G0 H0 G' H' := by
  have np : ∀ {c : Addr}, H0 c ≠ none → c ∉ ps := fun z hc => z (h _ hc)
  refine ⟨a.g.trans b.go.g, b.ex, fun c o z q => ?_, fun c qs z => ?_, fun c z1 z2 => ?_⟩
  · have nc := np (c := c) (by rw [z]; exact fun z => nomatch z)
    have z2 := b.go.h c o (by rw [hid_out nc]; exact a.h c o z q) q
    exact (hid_some z2).2
  · have nc := np (c := c) (by rw [z]; exact fun z => nomatch z)
    obtain ⟨q1, e1, t1⟩ := a.t c qs z
    obtain ⟨q2, e2, t2⟩ := b.go.t c q1 (by rw [hid_out nc]; exact e1)
    exact ⟨q2, (hid_some e2).2, fun t => t2 (t1 t)⟩
  · have nc := np (c := c) z2
    exact b.go.n c (a.n c z1 z2) (by rw [hid_out nc]; exact a.some_of z2)
/-- more places may change -/
theorem But.widen {ps qs : List Addr} {G H G' H' : Hp} (a : But ps G H G' H') (hs : ∀ p ∈ ps, p ∈ qs) (h : ∀ p ∈ qs, p ∉ ps → G p = none ∧ H p ≠ none) : But qs G H G' H' := by
  have ho : ∀ p ∈ qs, G' p = none := fun p hp => by
    by_cases z : p ∈ ps
    · exact a.out p z
    · exact a.go.n p (h p hp z).1 (by rw [hid_out z]; exact (h p hp z).2)
  refine ⟨⟨a.go.g, fun b u z => ?_, fun b o z q => ?_, fun b us z => ?_, fun b z1 z2 => ?_⟩, a.ex, ho⟩
  · have nb : b ∉ qs := fun hb => by
      rw [ho b hb] at z
      cases z
    rw [hid_out nb]
    exact a.ex b u z
  · obtain ⟨nb, z⟩ := hid_some z
    have nb2 : b ∉ ps := fun hb => nb (hs b hb)
    rw [hid_out nb]
    exact (hid_some (a.go.h b o (by rw [hid_out nb2]; exact z) q)).2
  · obtain ⟨nb, z⟩ := hid_some z
    have nb2 : b ∉ ps := fun hb => nb (hs b hb)
    rw [hid_out nb]
    obtain ⟨vs, e1, t1⟩ := a.go.t b us (by rw [hid_out nb2]; exact z)
    exact ⟨vs, (hid_some e1).2, t1⟩
  · obtain ⟨nb, z2⟩ := hid_ne z2
    have nb2 : b ∉ ps := fun hb => nb (hs b hb)
    exact a.go.n b z1 (by rw [hid_out nb2]; exact z2)
/-- what stands elsewhere stands -/
theorem But.lst {ps : List Addr} {G H G' H' : Hp} (a : But ps G H G' H') {p : Addr} {xs : List V} (n : p ∉ ps) (h : H p = some (.lst xs)) : H' p = some (.lst xs) :=
  (hid_some (a.go.h p (.lst xs) (by rw [hid_out n]; exact h) fun _ z => nomatch z)).2
theorem But.none {ps : List Addr} {G H G' H' : Hp} (a : But ps G H G' H') {p : Addr} (n : p ∉ ps) (hg : G p = none) (h : H p ≠ none) : G' p = none :=
  a.go.n p hg (by rw [hid_out n]; exact h)
section
variable {P : Program} {w : World} {K : PySem.W.Frag} {mg : Str → Option Value} {base : Heap} {f : Addr} {fd : FuncData} {σ : L2.St} {G H : Hp} {ta tb te ti : TE} {D : Ends} {tz : TS}
theorem SqL.go {G H G' H' : Hp} (a : Go G H G' H') {p : Addr} {xs : List V} (h : SqL K H p xs) : SqL K H' p xs := by
  rcases h with (h | ⟨o, h⟩) | h
  · exact .inl (.inl (a.lst h))
  · exact .inl (.inr ⟨o, a.h p _ h fun _ z => nomatch z⟩)
  · exact .inr h
theorem ints_dats {G : Hp} : ∀ ns : List Int, Dats G (ns.map V.int) (ns.map PyData.int)
  | [] => .nil
  | n :: ns => .cons (.int n) (ints_dats ns)
theorem ev_slS {p : Addr} {ns : List Int} {tl th : TO} {lo hi : Option Int} (h : Evs ta σ G H (.val (.ref p))) (hp : SqL K H p (ns.map V.int)) (h1 : Evo tl σ G H lo) (h2 : Evo th σ G H hi) : EvD (tSl (rSlL K) ta tl th) σ G H (.list (cutD (ns.map PyData.int) lo hi)) := fun G1 H1 a Q q =>
  h G1 H1 a _ fun x G2 H2 b hx => h1 G2 H2 (a.trans b) _ fun G3 H3 c => h2 G3 H3 ((a.trans b).trans c) _ fun G4 H4 f => by
    cases hx
    have z := ((a.trans b).trans c).trans f
    exact ⟨_, _, rfl, SqL.go z hp, fun p hp => q _ _ _ (((b.trans c).trans f).trans (Go.imm f.gh hp)) (dat_lst f.gh (cut_dat (ints_dats ns) lo hi) hp)⟩
theorem ev_int1 {i : Int} (h : EvD ta σ G H (.int i)) : EvD (tCB (fun xs H Q => (∃ i, xs = [.int i] ∧ Q (.int i) H) ∨ ∃ k, xs = [.bl k] ∧ Q (.int (if k then 1 else 0)) H) (tCons ta tNil)) σ G H (.int i) := ev_cb (ea_cons h ea_nil) fun vs G1 H1 a hv Q q => by
  cases hv with
  | cons h1 h2 =>
    cases h2
    cases h1
    exact .inl ⟨i, rfl, q _ G1 H1 (Go.refl a.gh) (.int _)⟩
theorem ev_rI {C : Int → Int → Prop} {g : Int → Int → Int} {i j : Int} (h1 : EvD ta σ G H (.int i)) (h2 : EvD tb σ G H (.int j)) (hc : C i j) : EvD (tOp (rI C fun i j => .int (g i j)) ta tb) σ G H (.int (g i j)) := ev_op h1 h2 fun x y G1 H1 a hx hy Q q => by
  cases hx
  cases hy
  exact ⟨i, j, rfl, rfl, hc, q _ G1 H1 (Go.refl a.gh) (.int _)⟩
theorem s_retL {ta : TA} {ds : List PyData} (e : Ex G H) (h : Eva ta σ G H (ds.map .dat)) (hl : ds.length ≤ 100000) (k : ∀ p xs G1 H1, Go G H G1 H1 → H1 p = none → Dats G1 xs ds → D.rt (.ref p) (upd H1 p (.lst xs))) : tRet (tLst ta) D σ H :=
  h G H (Go.refl e) _ fun vs G1 H1 a hv => ⟨sz_of (by rw [hv.dats.len]; exact hl), fun p hp => k p vs G1 H1 a hp hv.dats⟩
/-! ### the source of numbers -/
def srcD (cells : List Int) (i x k : Int) : List PyData := [.list (cells.map PyData.int), .int i, .int x, .int k]
def Src (p : Addr) (G H : Hp) : Prop := ∃ xs cells i x k, H p = some (.lst xs) ∧ G p = none ∧ Dats G xs (srcD cells i x k) ∧ 0 ≤ i
abbrev s__law_start : Stmt := topS 20
theorem sc__law_start : FnScope ["script", "cell"] ["script"] (defScope s__law_start) := ⟨rfl, rfl, rfl, by decide +kernel, rfl, by decide +kernel, by decide +kernel⟩
def spStart (K : PySem.W.Frag) : Sp := fun vs H Q _ => ∃ (G : Hp) (a : Addr) (ns : List Int), Ex G H ∧ vs = [.ref a] ∧ SqL K H a (ns.map V.int) ∧ ∀ p G' H', Ex G' H' → Go G H G' H' → H p = none → Src p G' H' → Q (.ref p) H'
theorem ok__law_start (F : Fun K "_law_start" "_law_start" s__law_start f fd) (m_int : mg "int" = none) : FnOk P w K mg base CX0 1 f fd ["script"] (spStart K) := by
  refine F.ok sc__law_start (fun vs H Q E ⟨G, a, ns, _, h, _⟩ => by rw [h]; rfl) (fun cdv A outer s H vs Q E hr h => ?_)
  obtain ⟨G, a, ns, e, rfl, hs, q⟩ := h
  refine ⟨_, (pss_one (ps_ret (pe_lst (pa_cons (pe_lc (own := [("cell", 1)]) (by rfl) sc__law_start.nd (pi_list (pe_slice (slK K) (pv 0) po_none (po_some pe_int))) (blkOk_by (N := ["script", "cell"]) (sc := defScope s__law_start) (by decide +kernel)) (fun _ _ _ _ _ => (pg_name (i := 1) sc__law_start.nd rfl (.inl rfl))) (fun _ _ _ _ _ => pts_nil) (fun _ _ _ _ _ => (pe_callTy call_int1 (by rfl) m_int (by decide +kernel) (pa_cons (pv 1) pa_nil)))) (pa_cons pe_int (pa_cons pe_int (pa_cons pe_int pa_nil))))))), ?_⟩
  have hcut : cutD (ns.map PyData.int) none (some 63) = (ns.take 63).map PyData.int := by
    unfold cutD
    rw [HT.sIx_none, show HT.sIx (ns.map PyData.int).length (ns.map PyData.int).length (some 63) = min 63 (ns.map PyData.int).length from HT.sIx_nat _ _ 63]
    simp [List.map_take, List.take_eq_take_iff]
  refine s_retL (ds := srcD (ns.take 63) 0 0 0) e (ea_cons (s := .dat (.list ((ns.take 63).map PyData.int))) (ev_lcA (enc := PyData.int) (as := ns.take 63) PyData.int (ev_is (ev_slS (lo := none) (hi := some 63) (ev_var rfl rfl) hs eo_none (eo_some ev_int)) (by rw [hcut])) (by rw [List.length_take]; omega) fun i _ x G1 H1 b hx => ⟨_, fun R z => z, rfl, ev_int1 (ev_var rfl hx)⟩) (ea_cons ev_int (ea_cons ev_int (ea_cons ev_int ea_nil)))) (by simp [srcD]) fun p xs G1 H1 b hp hx => ?_
  have hg := gnone b.gh hp
  exact q p G1 _ (b.trans (Go.born b.gh hp)).gh (b.trans (Go.born b.gh hp)) (b.back hp) ⟨xs, _, _, _, _, upd_same, hg, hx, by decide⟩
theorem Dats.setAt {G : Hp} {v : V} {d : PyData} : ∀ {vs : List V} {ds : List PyData} (j : Nat), Dats G vs ds → Dat G v d → Dats G (vs.set j v) (ds.set j d)
  | _, _, _, .nil, _ => .nil
  | _, _, 0, .cons _ t, h => .cons h t
  | _, _, j + 1, .cons a t, h => .cons a (Dats.setAt j t h)
/-- d[j] = e -/
theorem q_put {p : Addr} {xs : List V} {j : Int} {n : Nat} {s : Sv} (e : Ex G H) (hp : H p = some (.lst xs)) (h : Evs te σ G H s) (ha : Evs ta σ G H (.val (.ref p))) (hi : EvD ti σ G H (.int j)) (hj : ixN xs.length j = some n) (k : ∀ v G1 H1, Go G H G1 H1 → Is G1 s v → tz D σ (upd H1 p (.lst (xs.set n v)))) :
    tSeq (tAsg te (gSub ta ti rSetL)) tz D σ H :=
  h G H (Go.refl e) _ fun v G1 H1 a hv => ha G1 H1 a _ fun o G2 H2 b ho => hi G2 H2 (a.trans b) _ fun i G3 H3 c hi2 => by
    cases ho
    cases hi2
    exact ⟨p, xs, j, n, rfl, rfl, ((a.trans b).trans c).lst hp, hj, k v G3 H3 ((a.trans b).trans c) (hv.m (b.trans c).g)⟩
/-- from (G0, H0), of which only the source at p has changed: it holds this now -/
structure Now (p : Addr) (G0 H0 : Hp) (cells : List Int) (i x k : Int) (xs : List V) (G H : Hp) : Prop where
  but : But [p] G0 H0 G H
  at_ : H p = some (.lst xs)
  dats : Dats G xs (srcD cells i x k)
theorem Now.out {p : Addr} {G0 H0 G H : Hp} {cells : List Int} {i x k : Int} {xs : List V} (h : Now p G0 H0 cells i x k xs G H) : G p = none := h.but.out p (by simp)
theorem Now.go {p : Addr} {G0 H0 G H G1 H1 : Hp} {cells : List Int} {i x k : Int} {xs : List V} (h : Now p G0 H0 cells i x k xs G H) (a : Go G H G1 H1) : Now p G0 H0 cells i x k xs G1 H1 :=
  ⟨h.but.trans (But.of_go a fun q hq => by
    rw [List.mem_singleton.mp hq]
    exact ⟨h.out, by rw [h.at_]; exact fun z => nomatch z⟩), a.lst h.at_, h.dats.m a.g⟩
theorem Now.put {p : Addr} {G0 H0 G H : Hp} {cells cells' : List Int} {i x k i' x' k' : Int} {xs ys : List V} (h : Now p G0 H0 cells i x k xs G H) (hy : Dats G ys (srcD cells' i' x' k')) : Now p G0 H0 cells' i' x' k' ys G (upd H p (.lst ys)) :=
  ⟨h.but.put (by simp), upd_same, hy⟩
theorem Now.src {p : Addr} {G0 H0 G H : Hp} {cells : List Int} {i x k : Int} {xs : List V} (h : Now p G0 H0 cells i x k xs G H) (hi : 0 ≤ i) : Src p G H := ⟨xs, cells, i, x, k, h.at_, h.out, h.dats, hi⟩
theorem Src.now {p : Addr} {G H : Hp} (e : Ex G H) (h : Src p G H) : ∃ cells i x k xs, Now p G H cells i x k xs G H ∧ 0 ≤ i := by
  obtain ⟨xs, cells, i, x, k, h1, h2, h3, h4⟩ := h
  exact ⟨cells, i, x, k, xs, ⟨.refl e fun q hq => by
    rw [List.mem_singleton.mp hq]
    exact ⟨h2, by rw [h1]; exact fun z => nomatch z⟩, h1, h3⟩, h4⟩
theorem Now.len {p : Addr} {G0 H0 G H : Hp} {cells : List Int} {i x k : Int} {xs : List V} (h : Now p G0 H0 cells i x k xs G H) : xs.length = 4 := h.dats.len
section
variable {p : Addr} {G0 H0 : Hp} {cells : List Int} {i x k : Int} {xs : List V}
theorem Now.ev0 (h : Now p G0 H0 cells i x k xs G H) {j : Nat} (hv : σ[j]? = some (some (.ref p))) : EvD (tOp (rIxA K) (tVar j) (tC (.int 0))) σ G H (.list (cells.map PyData.int)) := ev_ilM (ev_var hv rfl) h.at_ h.dats ev_int at0
theorem Now.ev1 (h : Now p G0 H0 cells i x k xs G H) {j : Nat} (hv : σ[j]? = some (some (.ref p))) : EvD (tOp (rIxA K) (tVar j) (tC (.int 1))) σ G H (.int i) := ev_ilM (ev_var hv rfl) h.at_ h.dats ev_int at1
theorem Now.ev2 (h : Now p G0 H0 cells i x k xs G H) {j : Nat} (hv : σ[j]? = some (some (.ref p))) : EvD (tOp (rIxA K) (tVar j) (tC (.int 2))) σ G H (.int x) := ev_ilM (ev_var hv rfl) h.at_ h.dats ev_int (atI_nat (j := 2) rfl)
theorem Now.ev3 (h : Now p G0 H0 cells i x k xs G H) {j : Nat} (hv : σ[j]? = some (some (.ref p))) : EvD (tOp (rIxA K) (tVar j) (tC (.int 3))) σ G H (.int k) := ev_ilM (ev_var hv rfl) h.at_ h.dats ev_int (atI_nat (j := 3) rfl)
end
abbrev s__law_fill : Stmt := topS 21
theorem sc__law_fill : FnScope ["d", "number"] ["d"] (defScope s__law_fill) := ⟨rfl, rfl, rfl, by decide +kernel, rfl, by decide +kernel, by decide +kernel⟩
def spFill : Sp := fun vs H Q _ => ∃ G p, Ex G H ∧ vs = [.ref p] ∧ Src p G H ∧ ∀ z G' H', But [p] G H G' H' → Src p G' H' → Q (.int z) H'
theorem neg1_at {c : Int} {cs : List Int} : ∃ z, atI ((c :: cs).map PyData.int) (-1) = some (.int z) := by
  unfold atI ixN
  rw [if_neg (by decide), if_pos (by simp; omega)]
  have e : (-1 + (((c :: cs).map PyData.int).length : Int)).toNat = cs.length := by simp; omega
  refine ⟨(c :: cs)[cs.length]'(by simp), ?_⟩
  rw [Option.bind_some, e, List.getElem?_map, List.getElem?_eq_getElem (by simp)]
  rfl
theorem ok__law_fill (F : Fun K "_law_fill" "_law_fill" s__law_fill f fd) (m_int : mg "int" = none) (m_len : mg "len" = none) : FnOk P w K mg base CX0 1 f fd ["d"] spFill := by
  refine F.ok sc__law_fill (fun vs H Q E ⟨G, p, _, h, _⟩ => by rw [h]; rfl) (fun cdv A outer s H vs Q E hr h => ?_)
  obtain ⟨G, p, e, rfl, hs, q⟩ := h
  obtain ⟨cells, i, x, k, xs, hn, hi⟩ := hs.now e
  refine ⟨_, (pss_cons (ps_asg (pe_op op_add (pe_ix (ixK K) (pv 0) pe_int (fun _ _ => rfl)) pe_int) (pg_sub (pv 0) pe_int set_list))
      (pss_cons (ps_set (i := 1) sc__law_fill.nd rfl (.inl rfl) (pe_op op_add (pe_op op_mul (pe_ix (ixK K) (pv 0) pe_int (fun _ _ => rfl)) pe_int) pe_int))
      (pss_cons (ps_if (pt_cmpR op_lt (pe_ix (ixK K) (pv 0) pe_int (fun _ _ => rfl)) (pe_callB (lenK K) (by rfl) m_len PySem.boot_len (pa_cons (pe_ix (ixK K) (pv 0) pe_int (fun _ _ => rfl)) pa_nil)) (nomark _)) (pss_cons (ps_set (i := 1) sc__law_fill.nd rfl (.inl rfl) (pe_ix (ixK K) (pe_ix (ixK K) (pv 0) pe_int (fun _ _ => rfl)) (pe_ix (ixK K) (pv 0) pe_int (fun _ _ => rfl)) (fun _ _ => rfl)))
      (pss_cons (ps_asg (pe_op op_add (pe_ix (ixK K) (pv 0) pe_int (fun _ _ => rfl)) pe_int) (pg_sub (pv 0) pe_int set_list))
      (pss_cons (ps_if (pt_cmpR op_lt (pv 1) pe_int (nomark _)) (pss_one (ps_set (i := 1) sc__law_fill.nd rfl (.inl rfl) (pe_op op_sub (pe_un un_neg pe_int) (pv 1)))) pss_nil)
      (pss_one (ps_if (pt_cmpR op_ge (pv 1) (pe_op op_pow pe_int pe_int) (nomark _)) (pss_one (ps_ret (pv 1))) pss_nil))))) pss_nil)
      (pss_cons (ps_if (PW.pt (pw_and (ptTru K (pe_ix (ixK K) (pv 0) pe_int (fun _ _ => rfl))) (pw_and1 (pt_cmpR op_ge (pe_ix (ixK K) (pv 0) pe_int (fun _ _ => rfl)) (pe_callB (lenK K) (by rfl) m_len PySem.boot_len (pa_cons (pe_ix (ixK K) (pv 0) pe_int (fun _ _ => rfl)) pa_nil)) (nomark _))))) (pss_one (ps_set (i := 1) sc__law_fill.nd rfl (.inl rfl) (pe_op op_add (pv 1) (pe_op op_mod (pe_callTy call_int1 (by rfl) m_int (by decide +kernel) (pa_cons (pe_ix (ixK K) (pe_ix (ixK K) (pv 0) pe_int (fun _ _ => rfl)) (pe_un un_neg pe_int) (fun _ _ => rfl)) pa_nil)) pe_int)))) pss_nil)
      (pss_cons (ps_set (i := 1) sc__law_fill.nd rfl (.inl rfl) (pe_op op_mod (pe_callTy call_int1 (by rfl) m_int (by decide +kernel) (pa_cons (pe_op op_add (pe_op op_mul (pv 1) pe_int) (pe_op op_mul (pe_ix (ixK K) (pv 0) pe_int (fun _ _ => rfl)) pe_int)) pa_nil)) pe_int))
      (pss_one (ps_ret (pe_op op_add (pe_op op_fdiv (pe_callTy call_int1 (by rfl) m_int (by decide +kernel) (pa_cons (pe_op op_add (pe_op op_add (pe_op op_mul (pv 1) (pv 1)) (pe_op op_mul (pe_ix (ixK K) (pv 0) pe_int (fun _ _ => rfl)) pe_int)) pe_int) pa_nil)) pe_int) pe_int)))))))), ?_⟩
  refine q_put (n := 3) e hn.at_ (s := .dat (.int (k + 1))) (ev_add (hn.ev3 rfl) ev_int) (ev_var rfl rfl) ev_int (by rw [hn.len]; rfl) fun v G1 H1 a hv => ?_
  have hn := (hn.go a).put (i' := i) (x' := x) (k' := k + 1) (cells' := cells) (Dats.setAt 3 (hn.go a).dats hv)
  refine q_asg hn.but.ex (s := .dat (.int ((k + 1) * 69621 + 12345))) (ev_add (ev_rI (g := fun i j => i * j) (hn.ev3 rfl) ev_int (.inr ⟨by decide, by decide⟩)) ev_int) fun v2 G2 H2 a2 hv2 => ?_
  have hn := hn.go a2
  cases hv2
  refine q_meet (b := decide (i < (cells.length : Int))) (fun σ' H' => ∃ n i' xs G', σ' = [some (.ref p), some (.int n)] ∧ Now p G H cells i' x (k + 1) xs G' H' ∧ 0 ≤ i') hn.but.ex (eb_test (ev_I0b (g := fun i j => decide (i < j)) (hn.ev1 rfl) (ev_is (ev_len (hn.ev0 rfl)) (by rw [List.length_map])))) (fun σ' H' ⟨n, i', xs, G', hσ, hn, hi⟩ => ?_) (fun hb rest G3 H3 a3 => ?_) (fun hb G3 H3 a3 => ⟨_, _, _, G3, rfl, hn.go a3, hi⟩)
  · subst hσ
    refine q_meet (b := !cells.isEmpty && decide ((cells.length : Int) ≤ i')) (fun σ' H' => ∃ n G', σ' = [some (.ref p), some (.int n)] ∧ Now p G H cells i' x (k + 1) xs G' H') hn.but.ex (eb_and (eb_tru (hn.ev0 rfl) (by cases cells <;> rfl)) fun _ => eb_test (ev_I0b (g := fun i j => decide (j ≤ i)) (hn.ev1 rfl) (ev_is (ev_len (hn.ev0 rfl)) (by rw [List.length_map])))) (fun σ' H' ⟨n, G', hσ, hn⟩ => ?_) (fun hb rest G3 H3 a3 => ?_) (fun hb G3 H3 a3 => ⟨_, G3, rfl, hn.go a3⟩)
    · subst hσ
      refine q_asg hn.but.ex (s := .dat (.int ((n * 48271 + (k + 1) * 69621) % 2147483647))) (ev_rI (g := fun i j => i % j) (ev_int1 (ev_add (ev_rI (g := fun i j => i * j) (ev_var rfl (.int _)) ev_int (.inr ⟨by decide, by decide⟩)) (ev_rI (g := fun i j => i * j) (hn.ev3 rfl) ev_int (.inr ⟨by decide, by decide⟩)))) ev_int (by decide)) fun v3 G4 H4 a4 hv3 => ?_
      have hn := hn.go a4
      cases hv3
      generalize hm : (n * 48271 + (k + 1) * 69621) % 2147483647 = m
      have hm1 : 0 ≤ m := by
        rw [← hm]
        exact Int.emod_nonneg _ (by decide)
      have hm2 : m < 2147483647 := by
        rw [← hm]
        exact Int.emod_lt_of_pos _ (by decide)
      exact s_ret (s := .dat (.int _)) hn.but.ex (ev_add (ev_rI (g := fun i j => i / j) (ev_int1 (ev_add (ev_add (ev_rI (g := fun i j => i * j) (ev_var rfl (.int m)) (ev_var rfl (.int m)) (.inl ⟨by omega, by omega⟩)) (ev_rI (g := fun i j => i * j) (hn.ev3 rfl) ev_int (.inr ⟨by decide, by decide⟩))) ev_int)) ev_int ⟨by decide, by decide⟩) ev_int) fun v G5 H5 a5 hd => by
        cases hd
        exact q _ G5 H5 (hn.go a5).but ((hn.go a5).src hi)
    · have hn := hn.go a3
      cases cells with
      | nil => cases hb
      | cons c cs =>
        obtain ⟨z, hz⟩ := neg1_at (c := c) (cs := cs)
        exact s_asg (s := .dat (.int (n + z % 1000003))) hn.but.ex (ev_add (ev_var rfl (.int _)) (ev_rI (g := fun i j => i % j) (ev_int1 (ev_il (hn.ev0 rfl) (ev_neg ev_int) hz)) ev_int (by decide))) fun v G4 H4 a4 hv => by
          cases hv
          exact rest _ _ ⟨_, G4, rfl, hn.go a4⟩
  · have hn := hn.go a3
    have hlt := of_decide_eq_true hb
    obtain ⟨j, rfl⟩ := Int.eq_ofNat_of_zero_le hi
    have hj : j < cells.length := by omega
    refine q_asg hn.but.ex (s := .dat (.int cells[j])) (ev_il (hn.ev0 rfl) (hn.ev1 rfl) (atI_nat (j := j) (by rw [List.getElem?_map, List.getElem?_eq_getElem hj]; rfl))) fun v3 G4 H4 a4 hv3 => ?_
    have hn := hn.go a4
    cases hv3
    generalize cells[j] = c
    refine q_put (n := 1) hn.but.ex hn.at_ (s := .dat (.int ((j : Int) + 1))) (ev_add (hn.ev1 rfl) ev_int) (ev_var rfl rfl) ev_int (by rw [hn.len]; rfl) fun v5 G5 H5 a5 hv5 => ?_
    have hn := (hn.go a5).put (i' := (j : Int) + 1) (x' := x) (k' := k + 1) (cells' := cells) (Dats.setAt 1 (hn.go a5).dats hv5)
    have hi' : 0 ≤ (j : Int) + 1 := by omega
    refine q_meet (b := decide (c < 0)) (fun σ' H' => ∃ n xs G', σ' = [some (.ref p), some (.int n)] ∧ Now p G H cells ((j : Int) + 1) x (k + 1) xs G' H') hn.but.ex (eb_test (ev_I0b (g := fun i j => decide (i < j)) (ev_var rfl (.int c)) ev_int)) (fun σ' H' ⟨n, xs, G', hσ, hn⟩ => ?_) (fun hb rest2 G3 H3 a3 => ?_) (fun hb G3 H3 a3 => ⟨_, _, G3, rfl, hn.go a3⟩)
    · subst hσ
      refine s_when hn.but.ex (eb_test (ev_I0b (g := fun i j => decide (j ≤ i)) (ev_var rfl (.int n)) (ev_rI (C := CPow) (g := fun i j => i ^ j.toNat) ev_int ev_int ⟨by decide, by decide, by decide⟩))) (fun _ G6 H6 a6 => ?_) (fun _ G6 H6 a6 => rest _ _ ⟨_, _, _, G6, rfl, hn.go a6, hi'⟩)
      have hn := hn.go a6
      exact s_ret (s := .dat (.int n)) hn.but.ex (ev_var rfl (.int _)) fun v G7 H7 a7 hd => by
        cases hd
        exact q _ G7 H7 (hn.go a7).but ((hn.go a7).src hi')
    · have hn := hn.go a3
      exact s_asg (s := .dat (.int (-1 - c))) hn.but.ex (ev_sub (ev_neg ev_int) (ev_var rfl (.int _))) fun v G6 H6 a6 hv => by
        cases hv
        exact rest2 _ _ ⟨_, _, G6, rfl, hn.go a6⟩
end
end G

namespace G
open PySem L2 Evl
open M
theorem hid_upd_out {ps : List Addr} {H : Hp} {p : Addr} {o : HO} (h : p ∉ ps) : hid ps (upd H p o) = upd (hid ps H) p o := by
  funext a
  by_cases e : a = p
  · subst e
    rw [hid_out h, upd_same, upd_same]
  · rw [upd_ne e]
    by_cases z : a ∈ ps
    · rw [hid_in z, hid_in z]
    · rw [hid_out z, hid_out z, upd_ne e]
theorem But.mut {ps : List Addr} {G0 H0 G H : Hp} (a : But ps G0 H0 G H) {p : Addr} {o : HO} (n : p ∉ ps) (h : H0 p = Option.none) (hg : G p = Option.none) : But ps G0 H0 G (upd H p o) := by
  refine ⟨by rw [hid_upd_out n]; exact a.go.mut (by rw [hid_out n]; exact h) hg, fun b u z => ?_, a.out⟩
  rw [upd_ne (ne_of_none z hg)]
  exact a.ex b u z
theorem But.freeze {ps : List Addr} {G0 H0 G H : Hp} (a : But ps G0 H0 G H) {p : Addr} {o : HO} (n : p ∉ ps) (h : H0 p = Option.none) (hg : G p = Option.none) (hp : H p = some o) : But ps G0 H0 (upd G p o) H := by
  refine ⟨a.go.freeze (by rw [hid_out n]; exact h) hg (by rw [hid_out n]; exact hp), fun b u z => ?_, fun q hq => ?_⟩
  · by_cases e : b = p
    · subst e
      rw [upd_same] at z
      rw [hp]
      exact z
    · rw [upd_ne e] at z
      exact a.ex b u z
  · rw [upd_ne (fun e => n (by rw [← e]; exact hq))]
    exact a.out q hq
theorem Paired.snoc {α β : Type} {R : α → β → Prop} {x : α} {y : β} (h : R x y) : ∀ {xs : List α} {ys : List β}, Paired R xs ys → Paired R (xs ++ [x]) (ys ++ [y])
  | _, _, .nil => .cons h .nil
  | _, _, .cons a t => .cons a (Paired.snoc h t)
section
variable {P : Program} {w : World} {K : PySem.W.Frag} {mg : Str → Option Value} {base : Heap} {f : Addr} {fd : FuncData} {σ : L2.St} {G H : Hp} {ta tb te ti : TE} {D : Ends} {tz : TS} {g : TG}
/-- an expression that changes what stands at ps: its answer meets post, the state Z behind it -/
def Tk (ps : List Addr) (Z : Hp → Hp → Prop) (te : TE) (σ : L2.St) (G H : Hp) (post : PyData → Prop) : Prop := ∀ Q : VK, (∀ v G' H' d, But ps G H G' H' → Z G' H' → Dat G' v d → post d → Q v H') → te σ H Q
/-- Z speaks of what stands at ps only -/
def Stable (ps : List Addr) (Z : Hp → Hp → Prop) : Prop := ∀ G H G' H', Z G H → Ex G G' → (∀ q ∈ ps, H' q = H q ∧ G' q = none) → Z G' H'
/-- things stand at ps that are no data -/
def Own (ps : List Addr) (G H : Hp) : Prop := ∀ q ∈ ps, G q = none ∧ ∃ xs, H q = some (.lst xs)
theorem Own.ne {ps : List Addr} {G H : Hp} (h : Own ps G H) : ∀ q ∈ ps, G q = none ∧ H q ≠ none := fun q hq => ⟨(h q hq).1, by
  obtain ⟨xs, e⟩ := (h q hq).2
  rw [e]
  exact fun z => nomatch z⟩
theorem Own.go {ps : List Addr} {G H G' H' : Hp} (h : Own ps G H) (a : Go G H G' H') : Own ps G' H' ∧ ∀ q ∈ ps, H' q = H q ∧ G' q = none := by
  have z : ∀ q ∈ ps, H' q = H q ∧ G' q = none := fun q hq => by
    obtain ⟨xs, e⟩ := (h q hq).2
    exact ⟨by rw [e]; exact a.lst e, a.n q (h q hq).1 (h.ne q hq).2⟩
  exact ⟨fun q hq => ⟨(z q hq).2, by rw [(z q hq).1]; exact (h q hq).2⟩, z⟩
/-- the invariant of a comprehension whose turns change what stands at ps -/
def FxInv {α : Type} (ps : List Addr) (Z : Nat → Hp → Hp → Prop) (post : α → PyData → Prop) (as : List α) (G H : Hp) (Dl : Addr) (i : Nat) (h : Hp) : Prop :=
  ∃ G2 acc ds, But ps G H G2 h ∧ G2 Dl = none ∧ h Dl = some (.lst acc) ∧ Dats G2 acc ds ∧ Paired post (as.take i) ds ∧ Z i G2 h
theorem fx_start {α : Type} {ps : List Addr} {Z : Nat → Hp → Hp → Prop} {post : α → PyData → Prop} {as : List α} {Dl : Addr} (hst : ∀ i, Stable ps (Z i)) (e : Ex G H) (ho : Own ps G H) (hz : Z 0 G H) (hD : H Dl = none) : FxInv ps Z post as G H Dl 0 (upd H Dl (.lst [])) := by
  have nD : ∀ q ∈ ps, q ≠ Dl := fun q hq z => (ho.ne q hq).2 (by rw [z]; exact hD)
  refine ⟨G, [], [], But.of_go (Go.born e hD) ho.ne, gnone e hD, upd_same, .nil, ?_, hst 0 G H G _ hz (Ex.refl G) fun q hq => ⟨upd_ne (nD q hq), (ho q hq).1⟩⟩
  rw [List.take_zero]
  exact .nil
theorem fx_turn {α : Type} {ps : List Addr} {Z : Nat → Hp → Hp → Prop} {post : α → PyData → Prop} {as : List α} {Dl : Addr} {i : Nat} {a : α} {h G2 : Hp} {acc : List V} {ds : List PyData} (hst : ∀ i, Stable ps (Z i)) (ho : Own ps G H) (hD : H Dl = none) (hl : as.length ≤ 1000) (hi : as[i]? = some a)
    (b : But ps G H G2 h) (n2 : G2 Dl = none) (ha : h Dl = some (.lst acc)) (hd : Dats G2 acc ds) (hp : Paired post (as.take i) ds) (k : Tk ps (Z (i + 1)) te σ G2 h (post a)) :
    te σ h fun y H4 => ∃ acc, H4 Dl = some (.lst acc) ∧ acc.length < sizeLine ∧ FxInv ps Z post as G H Dl (i + 1) (upd H4 Dl (.lst (acc ++ [y]))) := by
  have nD : Dl ∉ ps := fun hq => (ho.ne Dl hq).2 hD
  refine k _ fun v G3 H3 d b3 hz hv hpost => ?_
  have at3 := b3.lst nD ha
  have n3 := b3.none nD n2 (by rw [ha]; exact fun z => nomatch z)
  refine ⟨acc, at3, ?_, G3, _, ds ++ [d], (b.trans b3).mut nD hD n3, n3, upd_same, (hd.m b3.go.g).snoc hv, ?_, hst _ G3 H3 G3 _ hz (Ex.refl G3) fun q hq => ⟨upd_ne (fun z => nD (by rw [← z]; exact hq)), b3.out q hq⟩⟩
  · rw [hd.len, ← hp.length, List.length_take]
    have : min i as.length ≤ as.length := Nat.min_le_right _ _
    exact Nat.lt_of_le_of_lt (by omega) (show 1000 < sizeLine by decide)
  · rw [List.take_add_one, hi]
    exact Paired.snoc hpost hp
theorem fx_end {α : Type} {ps : List Addr} {Z : Nat → Hp → Hp → Prop} {post : α → PyData → Prop} {as : List α} {Dl : Addr} {h : Hp} {Q : VK} (hst : ∀ i, Stable ps (Z i)) (ho : Own ps G H) (hD : H Dl = none) (hF : FxInv ps Z post as G H Dl as.length h)
    (q : ∀ v G' H' ds, But ps G H G' H' → Z as.length G' H' → Dat G' v (.list ds) → Paired post as ds → Q v H') : Q (.ref Dl) h := by
  have nD : Dl ∉ ps := fun hq => (ho.ne Dl hq).2 hD
  obtain ⟨G2, acc, ds, b, n2, ha, hd, hp, hz⟩ := hF
  rw [List.take_length] at hp
  have ex2 : Ex G2 (upd G2 Dl (.lst acc)) := fun b u z => by
    rw [upd_ne (ne_of_none z n2)]
    exact z
  exact q _ _ _ ds (b.freeze nD hD n2 ha) (hst _ G2 h _ h hz ex2 fun q hq => ⟨rfl, by rw [upd_ne (fun z => nD (by rw [← z]; exact hq))]; exact b.out q hq⟩) (.lst upd_same (hd.m ex2)) hp
theorem yes_of {R : Bool → Hp → Prop} (h : R true H) : tYes σ H R := h
/-- over a tuple -/
theorem tk_lcT {α : Type} {enc : α → PyData} {as : List α} {tl : TE} {vs : List Nat} {ps : List Addr} (Z : Nat → Hp → Hp → Prop) (post : α → PyData → Prop) (hst : ∀ i, Stable ps (Z i)) (h : EvD tl σ G H (.tuple (as.map enc))) (e : Ex G H) (ho : Own ps G H) (hz : Z 0 G H) (hl : as.length ≤ 1000)
    (k : ∀ i a x G1 H1, as[i]? = some a → But ps G H G1 H1 → Z i G1 H1 → Dat G1 x (enc a) → ∃ σ2, (∀ R : L2.St → Hp → Prop, R σ2 H1 → g x (wipe σ vs) H1 R) ∧ wipe σ2 vs = wipe σ vs ∧ Tk ps (Z (i + 1)) te σ2 G1 H1 (post a)) :
    ∀ Q : VK, (∀ v G' H' ds, But ps G H G' H' → Z as.length G' H' → Dat G' v (.list ds) → Paired post as ds → Q v H') → tLc (iTup K tl) g tYes te vs σ H Q := fun Q q => h G H (Go.refl e) _ fun x G1 H1 a hx => by
  cases hx with
  | tup e1 e2 =>
    rename_i l xs
    have b0 := But.of_go a ho.ne
    have ho1 : Own ps G1 H1 := (ho.go a).1
    have hz1 : Z 0 G1 H1 := hst 0 G H G1 H1 hz a.g (ho.go a).2
    refine ⟨l, rfl, ⟨xs, st_of (a.gh _ _ e1)⟩, fun Dl hD => ?_⟩
    have gl : xs.length = as.length := by rw [e2.len, List.length_map]
    refine lc_tup (xs := xs) (FxInv ps Z post as G1 H1 Dl) (fx_start hst a.gh ho1 hz1 hD) (fun i h _ ⟨G2, _, _, b, _⟩ => st_of (b.ex _ _ (b.go.g _ _ e1))) (fun i x h hx ⟨G2, acc, ds, b, n2, ha, hd, hp, hz⟩ => ?_) fun h hF => ?_
    · obtain ⟨d, hd2, hv⟩ := e2.getM hx
      obtain ⟨σ2, hg, hw, ht⟩ := k i d x G2 h hd2 (b0.trans b) hz (hv.m b.go.g)
      refine hg _ ⟨hw, yes_of ?_⟩
      rw [if_pos rfl]
      exact fx_turn hst ho1 hD hl hd2 b n2 ha hd hp ht
    · rw [gl] at hF
      exact fx_end hst ho1 hD hF fun v G' H' ds b hz hv hp => q v G' H' ds (b0.trans b) hz hv hp
/-- over a range, whose end may change what stands at ps too -/
theorem tk_lcR {n : Nat} {vs : List Nat} {ps : List Addr} (Z : Nat → Hp → Hp → Prop) (post : Nat → PyData → Prop) (hst : ∀ i, Stable ps (Z i)) (ho : Own ps G H) (hz : Z 0 G H) (e : Ex G H) (hl : n ≤ 1000)
    (k : ∀ i G1 H1, i < n → But ps G H G1 H1 → Z i G1 H1 → ∃ σ2, (∀ R : L2.St → Hp → Prop, R σ2 H1 → g (.int (i : Int)) (wipe σ vs) H1 R) ∧ wipe σ2 vs = wipe σ vs ∧ Tk ps (Z (i + 1)) te σ2 G1 H1 (post i)) :
    ∀ Q : VK, (∀ v G' H' ds, But ps G H G' H' → Z n G' H' → Dat G' v (.list ds) → Paired post (List.range n) ds → Q v H') → ∀ Dl, H Dl = none → ∃ W : Nat → Nat → Hp → Prop, (∃ m, W 0 m (upd H Dl (.lst []))) ∧ ∀ i m H, W i m H →
      ((Itr 0 n).stop i H ∧ Q (.ref Dl) H) ∨ ((Itr 0 n).go i H ∧ ∃ Nx : Hp → Prop, (∀ H', Nx H' → ∃ m', m' < m ∧ W (i + 1) m' H') ∧ ∀ x H', (Itr 0 n).yld i H x H' → g x (wipe σ vs) H' fun σ2 H2 => wipe σ2 vs = wipe σ vs ∧ tYes σ2 H2 fun b H3 =>
        if b = true then te σ2 H3 fun y H4 => ∃ acc, H4 Dl = some (.lst acc) ∧ acc.length < sizeLine ∧ Nx (upd H4 Dl (.lst (acc ++ [y]))) else Nx H3) := fun Q q Dl hD => by
  refine lc_range (FxInv ps Z post (List.range n) G H Dl) (fx_start hst e ho hz hD) (fun i h hi ⟨G2, acc, ds, b, n2, ha, hd, hp, hz⟩ => ?_) fun h hF => ?_
  · obtain ⟨σ2, hg, hw, ht⟩ := k i G2 h hi b hz
    rw [Int.zero_add]
    refine hg _ ⟨hw, yes_of ?_⟩
    rw [if_pos rfl]
    exact fx_turn hst ho hD (by rw [List.length_range]; exact hl) (by simp [hi]) b n2 ha hd hp ht
  · have hF2 : FxInv ps Z post (List.range n) G H Dl (List.range n).length h := by rw [List.length_range]; exact hF
    exact fx_end hst ho hD hF2 fun v G' H' ds b hz hv hp => q v G' H' ds b (by rw [List.length_range] at hz; exact hz) hv hp
/-! ### _law_take -/
theorem src_stable {p : Addr} : Stable [p] (Src p) := fun G H G' H' ⟨xs, cells, i, x, k, h1, h2, h3, h4⟩ e h => by
  obtain ⟨e1, e2⟩ := h p (by simp)
  exact ⟨xs, cells, i, x, k, by rw [e1]; exact h1, e2, h3.m e, h4⟩
theorem Src.own {p : Addr} (h : Src p G H) : Own [p] G H := fun q hq => by
  obtain ⟨xs, cells, i, x, k, h1, h2, h3, h4⟩ := h
  rw [List.mem_singleton.mp hq]
  exact ⟨h2, xs, h1⟩
theorem Src.go {p : Addr} {G' H' : Hp} (h : Src p G H) (a : Go G H G' H') : Src p G' H' := src_stable G H G' H' h a.g (h.own.go a).2
abbrev s__law_take : Stmt := topS 22
theorem sc__law_take : FnScope ["d", "many", "answer"] ["d", "many"] (defScope s__law_take) := ⟨rfl, rfl, rfl, by decide +kernel, rfl, by decide +kernel, by decide +kernel⟩
def spTake : Sp := fun vs H Q _ => ∃ G p many, Ex G H ∧ vs = [.ref p, .int many] ∧ Src p G H ∧ 0 < many ∧ many < 1000 ∧ ∀ r G' H', But [p] G H G' H' → Src p G' H' → 0 ≤ r → r < many → Q (.int r) H'
theorem ok__law_take (F : Fun K "_law_take" "_law_take" s__law_take f fd) (m_int : mg "int" = none) (d__law_fill : Dfn P w K mg base "_law_fill" 1 ["d"] spFill) : FnOk P w K mg base CX0 2 f fd ["d", "many"] spTake := by
  refine F.ok sc__law_take (fun vs H Q E ⟨G, p, many, _, h, _⟩ => by rw [h]; rfl) (fun cdv A outer s H vs Q E hr h => ?_)
  obtain ⟨G, p, many, e, rfl, hs, hm1, hm2, q⟩ := h
  obtain ⟨cells, i, x, k, xs, hn, hi⟩ := hs.now e
  refine ⟨_, (pss_cons (ps_if (pt_cmpR op_lt (pe_ix (ixK K) (pv 0) pe_int (fun _ _ => rfl)) (pv 1) (nomark _)) (pss_one (ps_asg (pe_def d__law_fill (hr.mono (by omega)) (by rfl) (pa_cons (pv 0) pa_nil)) (pg_sub (pv 0) pe_int set_list))) pss_nil)
      (pss_cons (ps_set (i := 2) sc__law_take.nd rfl (.inl rfl) (pe_op op_mod (pe_callTy call_int1 (by rfl) m_int (by decide +kernel) (pa_cons (pe_ix (ixK K) (pv 0) pe_int (fun _ _ => rfl)) pa_nil)) (pv 1)))
      (pss_cons (ps_asg (pe_op op_fdiv (pe_ix (ixK K) (pv 0) pe_int (fun _ _ => rfl)) (pv 1)) (pg_sub (pv 0) pe_int set_list))
      (pss_one (ps_ret (pv 2)))))), ?_⟩
  refine q_meet (b := decide (x < many)) (fun σ' H' => ∃ cells i x k xs G', σ' = [some (.ref p), some (.int many), none] ∧ Now p G H cells i x k xs G' H' ∧ 0 ≤ i) hn.but.ex (eb_test (ev_I0b (g := fun i j => decide (i < j)) (hn.ev2 rfl) (ev_var rfl (.int _)))) (fun σ' H' ⟨cells, i, x, k, xs, G', hσ, hn, hi⟩ => ?_) (fun hb rest G3 H3 a3 => ?_) (fun hb G3 H3 a3 => ⟨_, _, _, _, _, G3, rfl, hn.go a3, hi⟩)
  · subst hσ
    refine q_asg hn.but.ex (s := .dat (.int (x % many))) (ev_rI (g := fun i j => i % j) (ev_int1 (hn.ev2 rfl)) (ev_var rfl (.int _)) hm1) fun v G1 H1 a hv => ?_
    have hn := hn.go a
    cases hv
    refine q_put (n := 2) hn.but.ex hn.at_ (s := .dat (.int (x / many))) (ev_rI (g := fun i j => i / j) (hn.ev2 rfl) (ev_var rfl (.int _)) ⟨hm1, by omega⟩) (ev_var rfl rfl) ev_int (by rw [hn.len]; rfl) fun v2 G2 H2 a2 hv2 => ?_
    have hn := (hn.go a2).put (i' := i) (x' := x / many) (k' := k) (cells' := cells) (Dats.setAt 2 (hn.go a2).dats hv2)
    exact s_ret (s := .dat (.int (x % many))) hn.but.ex (ev_var rfl (.int _)) fun v3 G4 H4 a4 hd => by
      cases hd
      exact q _ G4 H4 (hn.go a4).but ((hn.go a4).src hi) (Int.emod_nonneg _ (by omega)) (Int.emod_lt_of_pos _ hm1)
  · have hn := hn.go a3
    refine ⟨_, rfl, G3, p, hn.but.ex, rfl, hn.src hi, fun z G4 H4 b4 hs4 => ?_⟩
    obtain ⟨cells, i, x, k, xs, hn4, hi⟩ := hs4.now b4.ex
    refine ⟨_, rfl, p, xs, 2, 2, rfl, rfl, hn4.at_, by rw [hn4.len]; rfl, rest _ _ ⟨_, _, _, _, _, G4, rfl, Now.put (i' := i) (x' := z) (k' := k) (cells' := cells) ⟨(hn.but.trans b4).trans hn4.but, hn4.at_, hn4.dats⟩ (Dats.setAt 2 hn4.dats (.int z)), hi⟩⟩
/-! ### what follows from it -/
theorem tk_take {p : Addr} {m : Int} {i : Nat} (e : Ex G H) (hs : Src p G H) (hv : σ[i]? = some (some (.ref p))) (h : EvD te σ G H (.int m)) (h1 : 0 < m) (h2 : m < 1000) : Tk [p] (Src p) (tCall spTake [] E0 (tCons (tVar i) (tCons te tNil))) σ G H fun d => ∃ r, d = .int r ∧ 0 ≤ r ∧ r < m := fun Q q =>
  ⟨_, hv, h G H (Go.refl e) _ fun v G1 H1 a hm => by
    cases hm
    exact ⟨G1, p, m, a.gh, rfl, hs.go a, h1, h2, fun r G2 H2 b hs2 r0 r1 => q _ G2 H2 _ ((But.of_go a hs.own.ne).trans b) hs2 (.int r) ⟨r, rfl, r0, r1⟩⟩⟩
theorem Tk.imp {ps : List Addr} {Z : Hp → Hp → Prop} {post post' : PyData → Prop} (h : Tk ps Z te σ G H post) (k : ∀ d, post d → post' d) : Tk ps Z te σ G H post' := fun Q q => h Q fun v G' H' d b z hv hp => q v G' H' d b z hv (k d hp)
theorem q_tk {ps : List Addr} {Z : Hp → Hp → Prop} {post : PyData → Prop} {i : Nat} (h : Tk ps Z te σ G H post) (k : ∀ v G1 H1 d, But ps G H G1 H1 → Z G1 H1 → Dat G1 v d → post d → tz D (σ.set i (some v)) H1) : tSeq (tAsg te (gName i)) tz D σ H := h _ k
theorem s_tk {ps : List Addr} {Z : Hp → Hp → Prop} {post : PyData → Prop} (h : Tk ps Z te σ G H post) (k : ∀ v G1 H1 d, But ps G H G1 H1 → Z G1 H1 → Dat G1 v d → post d → D.rt v H1) : tRet te D σ H := h _ k
/-- l[e], e changing what stands at ps -/
theorem tk_ix {ps : List Addr} {Z : Hp → Hp → Prop} {post post' : PyData → Prop} {ds : List PyData} (hst : Stable ps Z) (e : Ex G H) (ho : Own ps G H) (hz : Z G H) (h1 : EvD ta σ G H (.list ds)) (h2 : ∀ G1 H1, Ex G1 H1 → Own ps G1 H1 → Z G1 H1 → Go G H G1 H1 → Tk ps Z tb σ G1 H1 post) (hp : ∀ d, post d → ∃ i d', d = .int i ∧ atI ds i = some d' ∧ post' d') :
    Tk ps Z (tOp (rIxA K) ta tb) σ G H post' := fun Q q => h1 G H (Go.refl e) _ fun x G1 H1 a hx => by
  have ho1 := ho.go a
  refine h2 G1 H1 a.gh ho1.1 (hst G H G1 H1 hz a.g ho1.2) a _ fun v G2 H2 d b hz2 hv hpost => ?_
  obtain ⟨i, d', rfl, hat, hp'⟩ := hp d hpost
  cases hv
  cases hx with
  | lst e1 e2 =>
    obtain ⟨y, y1, y2⟩ := atI_dat (e2.m b.go.g) hat
    exact .inl ⟨_, _, _, y, rfl, rfl, sq_of (b.ex _ _ (b.go.g _ _ e1)), y1, q y G2 H2 d' ((But.of_go a ho.ne).trans b) hz2 y2 hp'⟩
end
end G

namespace G
open PySem L2 Evl
open M
mutual
def tdep : Ty → Nat
  | .list t => tdep t + 1
  | .tup ts => tdeps ts
  | _ => 0
def tdeps : List Ty → Nat
  | [] => 0
  | t :: ts => max (tdep t + 1) (tdeps ts)
end
section
variable {P : Program} {w : World} {K : PySem.W.Frag} {mg : Str → Option Value} {base : Heap} {f : Addr} {fd : FuncData} {σ : L2.St} {G H : Hp} {ta tb te ti : TE} {D : Ends} {tz : TS} {g : TG}
/-- what the state Z at ps must be for all this -/
structure Fx (ps : List Addr) (Z : Hp → Hp → Prop) : Prop where
  st : Stable ps Z
  own : ∀ G H, Z G H → Own ps G H
theorem fx_src (p : Addr) : Fx [p] (Src p) := ⟨src_stable, fun _ _ h => h.own⟩
theorem Fx.go {ps : List Addr} {Z : Hp → Hp → Prop} (x : Fx ps Z) {G' H' : Hp} (z : Z G H) (a : Go G H G' H') : Z G' H' := x.st G H G' H' z a.g ((x.own G H z).go a).2
theorem Fx.but {ps : List Addr} {Z : Hp → Hp → Prop} (x : Fx ps Z) {G' H' : Hp} (z : Z G H) (a : Go G H G' H') : But ps G H G' H' := But.of_go a (x.own G H z).ne
def TkA (ps : List Addr) (Z : Hp → Hp → Prop) (ta : TA) (σ : L2.St) (G H : Hp) (post : List PyData → Prop) : Prop := ∀ Q : List V → Hp → Prop, (∀ vs G' H' ds, But ps G H G' H' → Z G' H' → Dats G' vs ds → post ds → Q vs H') → ta σ H Q
theorem tka_cons {ps : List Addr} {Z : Hp → Hp → Prop} {tr : TA} {d : PyData} {post : List PyData → Prop} (x : Fx ps Z) (e : Ex G H) (z : Z G H) (h : EvD te σ G H d) (hr : ∀ G1 H1, Go G H G1 H1 → Z G1 H1 → TkA ps Z tr σ G1 H1 post) : TkA ps Z (tCons te tr) σ G H fun ds => ∃ r, ds = d :: r ∧ post r := fun Q q =>
  h G H (Go.refl e) _ fun v G1 H1 a hv => hr G1 H1 a (x.go z a) _ fun vs G2 H2 ds b z2 hds hp => q _ G2 H2 _ ((x.but z a).trans b) z2 (.cons (Dat.m hv b.go.g) hds) ⟨ds, rfl, hp⟩
theorem tka_last {ps : List Addr} {Z : Hp → Hp → Prop} {post : PyData → Prop} (h : Tk ps Z te σ G H post) : TkA ps Z (tCons te tNil) σ G H fun ds => ∃ d, ds = [d] ∧ post d := fun Q q => h _ fun v G1 H1 d b z hv hp => q _ G1 H1 _ b z (.cons hv .nil) ⟨d, rfl, hp⟩
theorem tk_tup {ps : List Addr} {Z : Hp → Hp → Prop} {ta : TA} {post : List PyData → Prop} (x : Fx ps Z) (h : TkA ps Z ta σ G H post) (hl : ∀ ds, post ds → ds.length ≤ 1000) : Tk ps Z (tTup ta) σ G H fun d => ∃ ds, d = .tuple ds ∧ post ds := fun Q q =>
  h _ fun vs G1 H1 ds b z hds hp => ⟨sz_of (by rw [hds.len]; exact Nat.le_trans (hl ds hp) (by decide)), fun p hn => by
    have a := Go.imm (o := .tup vs) b.ex hn
    exact q _ _ _ _ (b.trans (x.but z a)) (x.go z a) (dat_tup b.ex hds hn) ⟨ds, rfl, hp⟩⟩
/-- tuple(l) -/
theorem tk_tupL {ps : List Addr} {Z : Hp → Hp → Prop} {post : List PyData → Prop} (x : Fx ps Z) (h : ∀ Q : VK, (∀ v G' H' ds, But ps G H G' H' → Z G' H' → Dat G' v (.list ds) → post ds → Q v H') → te σ H Q) : Tk ps Z (tCB (rTupS K) (tCons te tNil)) σ G H fun d => ∃ ds, d = .tuple ds ∧ post ds := fun Q q =>
  h _ fun v G1 H1 ds b z hv hp => by
    cases hv with
    | lst e1 e2 =>
      rename_i l xs
      refine ⟨_, xs, rfl, .inl ⟨sq_of (b.ex _ _ e1), fun p hn => ?_⟩⟩
      have a := Go.imm (o := .tup xs) b.ex hn
      exact q _ _ _ _ (b.trans (x.but z a)) (x.go z a) (dat_tup b.ex e2 hn) ⟨ds, rfl, hp⟩
theorem ev_eqI {i j : Int} (h1 : EvD ta σ G H (.int i)) (h2 : EvD tb σ G H (.int j)) : EvD (tOp rEq ta tb) σ G H (.bool (decide (i = j))) := ev_is (ev_eqF h1 h2 rfl rfl) (by simp [PyData.eqv, Bool.beq_eq_decide_eq])
theorem ev_ltI {i j : Int} (h1 : EvD ta σ G H (.int i)) (h2 : EvD tb σ G H (.int j)) : EvD (tOp (rI0 fun i j => .bl (decide (i < j))) ta tb) σ G H (.bool (decide (i < j))) := ev_I0b (g := fun i j => decide (i < j)) h1 h2
/-! ### _law_ty -/
/-- a type that was drawn -/
def Drawn (n : Nat) (d : PyData) : Prop := ∃ t : Ty, d = t.d ∧ slim t = true ∧ tdep t ≤ n
abbrev s__law_ty : Stmt := topS 23
theorem sc__law_ty : FnScope ["d", "depth", "k", "rows", "j"] ["d", "depth"] (defScope s__law_ty) := ⟨rfl, rfl, rfl, by decide +kernel, rfl, by decide +kernel, by decide +kernel⟩
def spTy (n : Nat) : Sp := fun vs H Q _ => ∃ G p, Ex G H ∧ vs = [.ref p, .int (n : Int)] ∧ Src p G H ∧ ∀ v G' H' d, But [p] G H G' H' → Src p G' H' → Dat G' v d → Drawn n d → Q v H'
theorem tk_ty {p : Addr} {n : Nat} {i : Nat} (e : Ex G H) (hs : Src p G H) (hv : σ[i]? = some (some (.ref p))) (h : EvD te σ G H (.int (n : Int))) : Tk [p] (Src p) (tCall (spTy n) [] E0 (tCons (tVar i) (tCons te tNil))) σ G H (Drawn n) := fun Q q =>
  ⟨_, hv, h G H (Go.refl e) _ fun v G1 H1 a hm => by
    cases hm
    exact ⟨G1, p, a.gh, rfl, hs.go a, fun v G2 H2 d b hs2 hv hd => q v G2 H2 d ((But.of_go a hs.own.ne).trans b) hs2 hv hd⟩⟩
theorem drawn_all {m : Nat} : ∀ {as : List Nat} {ds : List PyData}, Paired (fun _ d => Drawn m d) as ds → ∃ ts, ds = Ty.ds ts ∧ ts.length = as.length ∧ slims ts = true ∧ tdeps ts ≤ m + 1
  | _, _, .nil => ⟨[], rfl, rfl, rfl, by simp [tdeps]⟩
  | _, _, .cons h t => by
    obtain ⟨ts, e1, e2, e3, e4⟩ := drawn_all t
    obtain ⟨u, rfl, h1, h2⟩ := h
    refine ⟨u :: ts, by rw [e1]; rfl, by simp [e2], by simp [slims, h1, e3], ?_⟩
    simp only [tdeps]
    omega
def rows4 : List PyData := [.tuple [.str "con", .str "int", .tuple []], .tuple [.str "con", .str "string", .tuple []], .tuple [.str "fun", .tuple [.str "con", .str "int", .tuple []], .tuple [.str "var", .int 3]], .tuple [.str "con", .str "ref", .tuple [.tuple [.str "var", .str "a"]]]]
def rows3 : List PyData := [.tuple [.str "var", .int 5], .tuple [.str "var", .str "b"], .tuple [.str "tuple", .tuple []]]
theorem rows_drawn (n : Nat) : ∀ j : Nat, j < 7 → ∃ d, (rows4 ++ rows3)[j]? = some d ∧ Drawn n d
  | 0, _ => ⟨_, rfl, .int, rfl, rfl, by simp [tdep]⟩
  | 1, _ => ⟨_, rfl, .str, rfl, rfl, by simp [tdep]⟩
  | 2, _ => ⟨_, rfl, .op 0, rfl, rfl, by simp [tdep]⟩
  | 3, _ => ⟨_, rfl, .op 1, rfl, rfl, by simp [tdep]⟩
  | 4, _ => ⟨_, rfl, .op 2, rfl, rfl, by simp [tdep]⟩
  | 5, _ => ⟨_, rfl, .op 3, rfl, rfl, by simp [tdep]⟩
  | 6, _ => ⟨_, rfl, .tup [], rfl, rfl, by simp [tdep, tdeps]⟩
  | _ + 7, h => absurd h (by omega)
theorem fn_false {k : Nat} {ps : List Str} : FnOk P w K mg base CX0 k f fd ps (fun _ _ _ _ => False) := ⟨fun _ _ _ _ h => h.elim, fun _ _ _ _ _ _ _ _ _ _ _ _ _ h => h.elim⟩
def spTyP : Nat → Sp
  | 0 => fun _ _ _ _ => False
  | n + 1 => spTy n
theorem step__law_ty (F : Fun K "_law_ty" "_law_ty" s__law_ty f fd) (m_tuple : mg "tuple" = none) (m_range : mg "range" = none) (d__law_take : Dfn P w K mg base "_law_take" 2 ["d", "many"] spTake)
    (n : Nat) (d__law_ty : Dfn P w K mg base "_law_ty" (n + 2) ["d", "depth"] (spTyP n)) : FnOk P w K mg base CX0 (n + 3) f fd ["d", "depth"] (spTy n) := by
  refine F.ok sc__law_ty (fun vs H Q E ⟨G, p, _, h, _⟩ => by rw [h]; rfl) (fun cdv A outer s H vs Q E hr h => ?_)
  obtain ⟨G, p, e, rfl, hs, q⟩ := h
  refine ⟨_, (pss_cons (ps_set (i := 2) sc__law_ty.nd rfl (.inl rfl) (pe_def d__law_take (hr.mono (by omega)) (by rfl) (pa_cons (pv 0) (pa_cons pe_int pa_nil))))
      (pss_cons (ps_if (PW.pt (pw_or (pt_cmpR op_eq (pv 1) pe_int (nomark _)) (pw_or1 (pt_cmpR op_lt (pv 2) pe_int (nomark _))))) (pss_cons (ps_set (i := 3) sc__law_ty.nd rfl (.inl rfl) (pe_lst (pa_cons (pe_tup (pa_cons pe_str (pa_cons pe_str (pa_cons (pe_tup pa_nil) pa_nil)))) (pa_cons (pe_tup (pa_cons pe_str (pa_cons pe_str (pa_cons (pe_tup pa_nil) pa_nil)))) (pa_cons (pe_tup (pa_cons pe_str (pa_cons (pe_tup (pa_cons pe_str (pa_cons pe_str (pa_cons (pe_tup pa_nil) pa_nil)))) (pa_cons (pe_tup (pa_cons pe_str (pa_cons pe_int pa_nil))) pa_nil)))) (pa_cons (pe_tup (pa_cons pe_str (pa_cons pe_str (pa_cons (pe_tup (pa_cons (pe_tup (pa_cons pe_str (pa_cons pe_str pa_nil))) pa_nil)) pa_nil)))) pa_nil))))))
      (pss_cons (ps_set (i := 3) sc__law_ty.nd rfl (.inl rfl) (pe_op op_cat (pv 3) (pe_lst (pa_cons (pe_tup (pa_cons pe_str (pa_cons pe_int pa_nil))) (pa_cons (pe_tup (pa_cons pe_str (pa_cons pe_str pa_nil))) (pa_cons (pe_tup (pa_cons pe_str (pa_cons (pe_tup pa_nil) pa_nil))) pa_nil))))))
      (pss_one (ps_ret (pe_ix (ixK K) (pv 3) (pe_def d__law_take (hr.mono (by omega)) (by rfl) (pa_cons (pv 0) (pa_cons pe_int pa_nil))) (fun _ _ => rfl)))))) pss_nil)
      (pss_cons (ps_if (pt_cmpR op_lt (pv 2) pe_int (nomark _)) (pss_one (ps_ret (pe_tup (pa_cons pe_str (pa_cons pe_str (pa_cons (pe_tup (pa_cons (pe_def d__law_ty (hr.mono (by omega)) (by rfl) (pa_cons (pv 0) (pa_cons (pe_op op_sub (pv 1) pe_int) pa_nil))) pa_nil)) pa_nil)))))) pss_nil)
      (pss_one (ps_ret (pe_tup (pa_cons pe_str (pa_cons (pe_callTy (tupK K) (by rfl) m_tuple (by decide +kernel) (pa_cons (pe_lc (own := [("j", 4)]) (by rfl) sc__law_ty.nd (pi_range1 (by rfl) m_range (pa_cons (pe_op op_add pe_int (pe_def d__law_take (hr.mono (by omega)) (by rfl) (pa_cons (pv 0) (pa_cons pe_int pa_nil)))) pa_nil)) (blkOk_by (N := ["d", "depth", "k", "rows", "j"]) (sc := defScope s__law_ty) (by decide +kernel)) (fun _ _ _ _ _ => (pg_name (i := 4) sc__law_ty.nd rfl (.inl rfl))) (fun _ _ _ _ _ => pts_nil) (fun _ _ _ _ _ => (pe_def d__law_ty (hr.mono (by omega)) (by rfl) (pa_cons (pv 0) (pa_cons (pe_op op_sub (pv 1) pe_int) pa_nil))))) pa_nil)) pa_nil)))))))), ?_⟩
  refine q_tk (tk_take e hs rfl ev_int (by decide) (by decide)) fun v G1 H1 d b1 hs1 hv ⟨r, hd, r0, r1⟩ => ?_
  subst hd
  cases hv
  refine q_when (b := decide ((n : Int) = 0) || decide (r < 4)) b1.ex (eb_or (eb_test (ev_eqI (ev_var rfl (.int _)) ev_int)) fun _ => eb_test (ev_ltI (ev_var rfl (.int _)) ev_int)) (fun hb G2 H2 a2 => ?_) (fun hb G2 H2 a2 => ?_)
  · have B := b1.trans ((fx_src p).but hs1 a2)
    have hs2 := hs1.go a2
    refine q_asg B.ex (s := .dat (.list rows4)) (ev_lst (ds := rows4) ?_ (by decide)) fun v3 G3 H3 a3 hv3 => ?_
    · unfold rows4
      repeat' first | exact ea_nil | exact ev_str | exact ev_int | refine ea_cons ?_ ?_ | refine ev_tup ?_ (by simp)
    have B := B.trans ((fx_src p).but hs2 a3)
    have hs3 := hs2.go a3
    refine q_asg B.ex (s := .dat (.list (rows4 ++ rows3))) (ev_cat (ev_var rfl hv3) (ev_lst (ds := rows3) ?_ (by decide)) (by decide)) fun v4 G4 H4 a4 hv4 => ?_
    · unfold rows3
      repeat' first | exact ea_nil | exact ev_str | exact ev_int | refine ea_cons ?_ ?_ | refine ev_tup ?_ (by simp)
    have B := B.trans ((fx_src p).but hs3 a4)
    have hs4 := hs3.go a4
    refine s_tk (tk_ix (post' := Drawn n) src_stable B.ex hs4.own hs4 (ev_var rfl hv4) (fun G5 H5 e5 _ hs5 a5 => tk_take e5 hs5 rfl ev_int (by decide) (by decide)) fun d ⟨r, hd, r0, r1⟩ => ?_) fun v G6 H6 d b6 hs6 hv6 hd6 => q v G6 H6 d (B.trans b6) hs6 hv6 hd6
    obtain ⟨j, rfl⟩ := Int.eq_ofNat_of_zero_le r0
    obtain ⟨d', h1, h2⟩ := rows_drawn n j (by omega)
    exact ⟨(j : Int), d', hd, atI_nat h1, h2⟩
  rw [Bool.or_eq_false_iff] at hb
  have hn0 := of_decide_eq_false hb.1
  obtain ⟨m, rfl⟩ : ∃ m, n = m + 1 := ⟨n - 1, by omega⟩
  have B := b1.trans ((fx_src p).but hs1 a2)
  have hs2 := hs1.go a2
  have hdep : ∀ {G' H' : Hp} {s' : L2.St}, s'[1]? = some (some (.int ((m + 1 : Nat) : Int))) → EvD (tOp (rI0 fun i j => .int (i - j)) (tVar 1) (tC (.int 1))) s' G' H' (.int (m : Int)) := fun {G' H' s'} hv => ev_is (ev_sub (ev_var hv (.int _)) ev_int) (by congr 1; omega)
  refine q_when (b := decide (r < 6)) B.ex (eb_test (ev_ltI (ev_var rfl (.int _)) ev_int)) (fun hb G3 H3 a3 => ?_) (fun hb G3 H3 a3 => ?_)
  · have B := B.trans ((fx_src p).but hs2 a3)
    have hs3 := hs2.go a3
    have x := fx_src p
    refine s_tk (tk_tup x (tka_cons x B.ex hs3 ev_str fun G4 H4 a4 hs4 => tka_cons x a4.gh hs4 ev_str fun G5 H5 a5 hs5 => tka_last (tk_tup x (tka_last (tk_ty (n := m) a5.gh hs5 rfl (hdep rfl))) fun ds ⟨d, hd, _⟩ => by rw [hd]; simp)) fun ds ⟨r, hd, r2, hd2, d, hd3, _⟩ => by rw [hd, hd2, hd3]; simp) fun v G6 H6 d b6 hs6 hv6 ⟨ds, hd, r, hd1, r2, hd2, d3, hd3, ds4, hd4, d5, hd5, t, ht, h1, h2⟩ => ?_
    refine q v G6 H6 d (B.trans b6) hs6 hv6 ⟨.list t, ?_, h1, by simp only [tdep]; omega⟩
    rw [hd, hd1, hd2, hd3, hd4, hd5, ht]
    rfl
  · have B := B.trans ((fx_src p).but hs2 a3)
    have hs3 := hs2.go a3
    have x := fx_src p
    refine s_tk (tk_tup x (tka_cons x B.ex hs3 ev_str fun G4 H4 a4 hs4 => tka_last (tk_tupL (post := fun ds => ∃ ts, ds = Ty.ds ts ∧ ts.length ≤ 3 ∧ slims ts = true ∧ tdeps ts ≤ m + 1) x fun Q2 q2 => ?_)) fun ds ⟨r, hd, d, hd2, _⟩ => by rw [hd, hd2]; simp) fun v G6 H6 d b6 hs6 hv6 ⟨ds, hd, r, hd1, d2, hd2, ds3, hd3, ts, hd4, h1, h2, h3⟩ => ?_
    · refine tk_take a4.gh hs4 rfl ev_int (by decide) (by decide) _ fun v G5 H5 d b5 hs5 hv ⟨r, hd, r0, r1⟩ => ?_
      subst hd
      cases hv
      refine ⟨2, r, rfl, rfl, 2 + r, rfl, by omega, by omega, ?_⟩
      have hlen : (2 + r).toNat ≤ 3 := by omega
      refine tk_lcR (fun _ => Src p) (fun _ => Drawn m) (fun _ => src_stable) hs5.own hs5 b5.ex (by omega) (fun i G7 H7 hi b7 hs7 => by
        refine ⟨_, fun R z => z, rfl, ?_⟩
        exact tk_ty (n := m) b7.ex hs7 rfl (hdep rfl)) Q2 fun v G' H' ds b8 hs8 hv8 hp8 => ?_
      obtain ⟨ts, h1, h2, h3, h4⟩ := drawn_all hp8
      exact q2 v G' H' ds (b5.trans b8) hs8 hv8 ⟨ts, h1, by rw [h2, List.length_range]; exact hlen, h3, h4⟩
    · refine q v G6 H6 d (B.trans b6) hs6 hv6 ⟨.tup ts, ?_, by simp [slim, h1, h2], h3⟩
      rw [hd, hd1, hd2, hd3, hd4]
      rfl
theorem ok__law_ty (F : Fun K "_law_ty" "_law_ty" s__law_ty f fd) (m_tuple : mg "tuple" = none) (m_range : mg "range" = none) (d__law_take : Dfn P w K mg base "_law_take" 2 ["d", "many"] spTake)
    (kp : PySem.W.keepIn K (.ref f) = true) (mf : mg "_law_ty" = some (.ref f)) (bd : Binds K fd ["d", "depth"] []) : ∀ n, FnOk P w K mg base CX0 (n + 3) f fd ["d", "depth"] (spTy n)
  | 0 => step__law_ty F m_tuple m_range d__law_take 0 ⟨⟨f, fd, fn_false, kp, mf, bd⟩⟩
  | n + 1 => step__law_ty F m_tuple m_range d__law_take (n + 1) ⟨⟨f, fd, ok__law_ty F m_tuple m_range d__law_take kp mf bd n, kp, mf, bd⟩⟩
/-! ### _law_data -/
abbrev s__law_data : Stmt := topS 24
theorem sc__law_data : FnScope ["pair"] [] (defScope s__law_data) := ⟨rfl, rfl, rfl, by decide +kernel, rfl, by decide +kernel, by decide +kernel⟩
def spData : Sp := fun vs H Q _ => ∃ G, Ex G H ∧ vs = [] ∧ ∀ v G' H', Go G H G' H' → Dat G' v dataD → Q v H'
theorem ok__law_data (F : Fun K "_law_data" "_law_data" s__law_data f fd) : FnOk P w K mg base CX0 1 f fd [] spData := by
  refine F.ok sc__law_data (fun vs H Q E ⟨G, _, h, _⟩ => by rw [h]; rfl) (fun cdv A outer s H vs Q E hr h => ?_)
  obtain ⟨G, e, rfl, q⟩ := h
  refine ⟨_, (pss_cons (ps_set (i := 0) sc__law_data.nd rfl (.inl rfl) (pe_tup (pa_cons pe_str (pa_cons (pe_tup (pa_cons (pe_tup (pa_cons pe_str (pa_cons pe_str pa_nil))) (pa_cons (pe_tup (pa_cons pe_str (pa_cons pe_str (pa_cons (pe_tup (pa_cons (pe_tup (pa_cons pe_str (pa_cons pe_str pa_nil))) pa_nil)) pa_nil)))) pa_nil))) pa_nil))))
      (pss_one (ps_ret (pe_tup (pa_cons (pe_tup (pa_cons pe_str (pa_cons (pe_tup pa_nil) (pa_cons (pe_tup (pa_cons (pe_tup (pa_cons pe_str (pa_cons pe_non pa_nil))) (pa_cons (pe_tup (pa_cons pe_str (pa_cons pe_non pa_nil))) pa_nil))) pa_nil)))) (pa_cons (pe_tup (pa_cons pe_str (pa_cons (pe_tup (pa_cons pe_str pa_nil)) (pa_cons (pe_tup (pa_cons (pe_tup (pa_cons pe_str (pa_cons pe_non pa_nil))) (pa_cons (pe_tup (pa_cons pe_str (pa_cons (pv 0) pa_nil))) pa_nil))) pa_nil)))) pa_nil)))))), ?_⟩
  refine q_asg e (s := .dat prD) ?_ fun v G1 H1 a hv => ?_
  · unfold prD lsD vaD
    repeat' first | exact ea_nil | exact ev_str | exact ev_int | refine ea_cons ?_ ?_ | refine ev_tup ?_ (by simp)
  refine s_ret (s := .dat dataD) a.gh ?_ fun v2 G2 H2 b hd => q v2 G2 H2 (a.trans b) hd
  unfold dataD boolD consD
  simp only [List.map_cons, List.map_nil, coD]
  repeat' first | exact ea_nil | exact ev_str | exact ev_non | refine ea_cons ?_ ?_ | (exact ev_var rfl hv; done) | refine ev_tup ?_ (by simp)
end
end G

namespace G
open PySem L2 Evl
open M
/-! ### types, shaped -/
mutual
theorem ty_lay : ∀ t : Ty, PyData.canLay0 t.d = true
  | .int => by decide +kernel
  | .str => by decide +kernel
  | .op 0 => by decide +kernel
  | .op 1 => by decide +kernel
  | .op 2 => by decide +kernel
  | .op (_ + 3) => (by decide +kernel : PyData.canLay0 (.tuple [.str "var", .str "b"]) = true)
  | .list t => by
    have h := ty_lay t
    show PyData.canLay0 (.tuple [.str "con", .str "list", .tuple [t.d]]) = true
    simp only [PyData.canLay0, PyData.canLayAll0, h]
    decide +kernel
  | .tup ts => by
    have h := tys_lay ts
    show PyData.canLay0 (.tuple [.str "tuple", .tuple (Ty.ds ts)]) = true
    simp only [PyData.canLay0, PyData.canLayAll0, h]
    decide +kernel
theorem tys_lay : ∀ ts : List Ty, PyData.canLayAll0 (Ty.ds ts) = true
  | [] => rfl
  | t :: ts => by
    show PyData.canLayAll0 (t.d :: Ty.ds ts) = true
    simp only [PyData.canLayAll0, ty_lay t, tys_lay ts, Bool.and_true]
end
mutual
theorem ty_depth : ∀ t : Ty, t.d.depth ≤ 2 * tdep t + 4
  | .int => by decide
  | .str => by decide
  | .op 0 => by decide
  | .op 1 => by decide
  | .op 2 => by decide
  | .op (_ + 3) => by simp [Ty.d, PyData.depth, PyData.depthAll, tdep]
  | .list t => by
    have h := ty_depth t
    show PyData.depth (.tuple [.str "con", .str "list", .tuple [t.d]]) ≤ _
    simp only [PyData.depth, PyData.depthAll, tdep]
    omega
  | .tup ts => by
    have h := tys_depth ts
    show PyData.depth (.tuple [.str "tuple", .tuple (Ty.ds ts)]) ≤ _
    simp only [PyData.depth, PyData.depthAll, tdep]
    omega
theorem tys_depth : ∀ ts : List Ty, PyData.depthAll (Ty.ds ts) ≤ 2 * tdeps ts + 2
  | [] => by decide
  | t :: ts => by
    have h1 := ty_depth t
    have h2 := tys_depth ts
    show PyData.depthAll (t.d :: Ty.ds ts) ≤ _
    simp only [PyData.depthAll, tdeps]
    omega
end
theorem ty_shaped {t : Ty} (h : tdep t ≤ 12) : SeqAt.shaped t.d = true := by
  have h1 := ty_lay t
  have h2 := ty_depth t
  show (PyData.canLay0 t.d && decide (PyData.depth t.d ≤ 64)) = true
  rw [h1, decide_eq_true (by omega)]
  rfl
def isInt : Ty → Bool
  | .int => true
  | _ => false
def isStr : Ty → Bool
  | .str => true
  | _ => false
def isList : Ty → Bool
  | .list _ => true
  | _ => false
theorem eqv_int : ∀ t : Ty, PyData.eqv t.d Ty.int.d = isInt t
  | .int => by decide +kernel
  | .str => by decide +kernel
  | .op 0 => by decide +kernel
  | .op 1 => by decide +kernel
  | .op 2 => by decide +kernel
  | .op (_ + 3) => (by decide +kernel : PyData.eqv (.tuple [.str "var", .str "b"]) Ty.int.d = false)
  | .list t => by
    show PyData.eqv (.tuple [.str "con", .str "list", .tuple [t.d]]) (.tuple [.str "con", .str "int", .tuple []]) = false
    simp [PyData.eqv, PyData.eqvAll]
  | .tup ts => by
    show PyData.eqv (.tuple [.str "tuple", .tuple (Ty.ds ts)]) (.tuple [.str "con", .str "int", .tuple []]) = false
    simp [PyData.eqv, PyData.eqvAll]
theorem eqv_str : ∀ t : Ty, PyData.eqv t.d Ty.str.d = isStr t
  | .int => by decide +kernel
  | .str => by decide +kernel
  | .op 0 => by decide +kernel
  | .op 1 => by decide +kernel
  | .op 2 => by decide +kernel
  | .op (_ + 3) => (by decide +kernel : PyData.eqv (.tuple [.str "var", .str "b"]) Ty.str.d = false)
  | .list t => by
    show PyData.eqv (.tuple [.str "con", .str "list", .tuple [t.d]]) (.tuple [.str "con", .str "string", .tuple []]) = false
    simp [PyData.eqv, PyData.eqvAll]
  | .tup ts => by
    show PyData.eqv (.tuple [.str "tuple", .tuple (Ty.ds ts)]) (.tuple [.str "con", .str "string", .tuple []]) = false
    simp [PyData.eqv, PyData.eqvAll]
/-! ### small patterns -/
def nameOf (n : Nat) : Str := ("x" : Str) ++ Str.ofString (toString (n : Int))
mutual
def tiny : Pat → Bool
  | .name s => (List.range 28).any fun n => s == nameOf n
  | .pint i => i == 0 || i == 1
  | .pstr s => s == ("" : Str) || s == ("a" : Str)
  | .cons p => tiny p
  | .tup ps => decide (ps.length ≤ 3) && tinys ps
  | _ => true
def tinys : List Pat → Bool
  | [] => true
  | p :: ps => tiny p && tinys ps
end
def cap : Nat → Nat
  | 0 => 1
  | n + 1 => 3 * cap n
theorem cap_pos (n : Nat) : 1 ≤ cap n := by
  induction n with
  | zero => decide
  | succ n ih => simp only [cap]; omega
def Pdrawn (n : Nat) (t : Ty) (d : PyData) : Prop := ∃ p : Pat, d = p.d ∧ wt p t = true ∧ dep p ≤ n ∧ tiny p = true
section
variable {P : Program} {w : World} {K : PySem.W.Frag} {mg : Str → Option Value} {base : Heap} {f : Addr} {fd : FuncData} {σ : L2.St} {G H : Hp} {ta tb te ti : TE} {D : Ends} {tz : TS} {g : TG}
def Src2 (p nm : Addr) (b : Nat) (G H : Hp) : Prop := Src p G H ∧ G nm = none ∧ p ≠ nm ∧ ∃ zs, H nm = some (.lst zs) ∧ zs.length ≤ b
theorem fx_src2 (p nm : Addr) (b : Nat) : Fx [p, nm] (Src2 p nm b) := ⟨fun G H G' H' ⟨h1, h2, h3, zs, h4, h5⟩ e h =>
  ⟨src_stable G H G' H' h1 e fun q hq => h q (by rw [List.mem_singleton.mp hq]; simp), (h nm (by simp)).2, h3, zs, by rw [(h nm (by simp)).1]; exact h4, h5⟩,
  fun G H ⟨h1, h2, h3, zs, h4, h5⟩ q hq => by
    simp at hq
    rcases hq with rfl | rfl
    · exact h1.own q (by simp)
    · exact ⟨h2, zs, h4⟩⟩
theorem Src2.le {p nm : Addr} {b c : Nat} (h : Src2 p nm b G H) (hb : b ≤ c) : Src2 p nm c G H := ⟨h.1, h.2.1, h.2.2.1, let ⟨zs, h4, h5⟩ := h.2.2.2; ⟨zs, h4, by omega⟩⟩
theorem Src2.lift {p nm : Addr} {b : Nat} {post : PyData → Prop} (z : Src2 p nm b G H) (h : Tk [p] (Src p) te σ G H post) : Tk [p, nm] (Src2 p nm b) te σ G H post := fun Q q => h Q fun v G' H' d bt hs hv hp => by
  obtain ⟨h1, h2, h3, zs, h4, h5⟩ := z
  have nn : nm ∉ [p] := fun z => h3 (List.mem_singleton.mp z).symm
  refine q v G' H' d (bt.widen (fun q hq => by rw [List.mem_singleton.mp hq]; simp) fun q hq hn => ?_) ⟨hs, bt.none nn h2 (by rw [h4]; exact fun z => nomatch z), h3, zs, bt.lst nn h4, h5⟩ hv hp
  simp at hq hn
  rcases hq with rfl | rfl
  · exact absurd rfl hn
  · exact ⟨h2, by rw [h4]; exact fun z => nomatch z⟩
def spPat (n : Nat) : Sp := fun vs H Q _ => ∃ G p nm t b tv, Ex G H ∧ vs = [.ref p, tv, .int (n : Int), .ref nm] ∧ Dat G tv (Ty.d t) ∧ slim t = true ∧ tdep t + n ≤ 10 ∧ Src2 p nm b G H ∧ b + cap n ≤ 27 ∧
  ∀ v G' H' d, But [p, nm] G H G' H' → Src2 p nm (b + cap n) G' H' → Dat G' v d → Pdrawn n t d → Q v H'
def spPatP : Nat → Sp
  | 0 => fun _ _ _ _ => False
  | n + 1 => spPat n
theorem tk_pat {p nm : Addr} {n b i j : Nat} {t : Ty} (e : Ex G H) (hs : Src2 p nm b G H) (hb : b + cap n ≤ 27) (hsl : slim t = true) (htd : tdep t + n ≤ 10) (hv : σ[i]? = some (some (.ref p))) (hn : σ[j]? = some (some (.ref nm))) (h1 : EvD ta σ G H t.d) (h2 : EvD tb σ G H (.int (n : Int))) :
    Tk [p, nm] (Src2 p nm (b + cap n)) (tCall (spPat n) [] E0 (tCons (tVar i) (tCons ta (tCons tb (tCons (tVar j) tNil))))) σ G H (Pdrawn n t) := fun Q q => by
  have x := fx_src2 p nm b
  refine ⟨_, hv, h1 G H (Go.refl e) _ fun v1 G1 H1 a1 hd1 => h2 G1 H1 a1 _ fun v2 G2 H2 a2 hd2 => ?_⟩
  cases hd2
  have hs2 := x.go (x.go hs a1) a2
  exact ⟨_, hn, G2, p, nm, t, b, v1, a2.gh, rfl, Dat.m hd1 a2.g, hsl, htd, hs2, hb, fun v G3 H3 d b3 hs3 hv hd => q v G3 H3 d (((x.but hs a1).trans (x.but (x.go hs a1) a2)).trans b3) hs3 hv hd⟩
theorem ev_strOf {i : Int} (h : EvD ta σ G H (.int i)) (hl : i.natAbs.log2 < 1920) : EvD (tCB (fun xs H Q => ∃ i, xs = [.int i] ∧ i.natAbs.log2 < 1920 ∧ Q (.str (Str.ofString (toString i))) H) (tCons ta tNil)) σ G H (.str (Str.ofString (toString i))) := ev_cb (ea_cons h ea_nil) fun vs G1 H1 a hv Q q => by
  cases hv with
  | cons h1 h2 =>
    cases h2
    cases h1
    exact ⟨i, rfl, hl, q _ G1 H1 (Go.refl a.gh) (.str _)⟩
theorem ev_cats {x y : Str} (h1 : EvD ta σ G H (.str x)) (h2 : EvD tb σ G H (.str y)) (hl : x.length + y.length ≤ sizeLine) : EvD (tOp (fun x y H Q => ∃ i j, x = .str i ∧ y = .str j ∧ i.length + j.length ≤ sizeLine ∧ Q (.str (i ++ j)) H) ta tb) σ G H (.str (x ++ y)) := ev_op h1 h2 fun x y G1 H1 a hx hy Q q => by
  cases hx
  cases hy
  exact ⟨_, _, rfl, rfl, hl, q _ G1 H1 (Go.refl a.gh) (.str _)⟩
theorem name_len : ∀ n : Nat, n < 28 → (("x" : Str).length + (Str.ofString (toString (n : Int))).length ≤ 100 ∧ ((n : Int).natAbs.log2 < 1920)) := by decide +kernel
theorem name_tiny {n : Nat} (h : n < 28) : tiny (.name (nameOf n)) = true := by
  simp only [tiny]
  exact List.any_eq_true.mpr ⟨n, List.mem_range.mpr h, by simp⟩
theorem pats_of {n : Nat} : ∀ {ts : List Ty} {ds : List PyData}, Paired (fun t d => Pdrawn n t d) ts ds → ∃ ps, ds = Pat.ds ps ∧ wts ps ts = true ∧ deps ps ≤ n ∧ tinys ps = true
  | _, _, .nil => ⟨[], rfl, rfl, by simp [deps], rfl⟩
  | _, _, .cons h t => by
    obtain ⟨ps, e1, e2, e3, e4⟩ := pats_of t
    obtain ⟨p, rfl, h1, h2, h3⟩ := h
    refine ⟨p :: ps, by rw [e1]; rfl, by simp [wts, h1, e2], ?_, by simp [tinys, h3, e4]⟩
    simp only [deps]
    omega
theorem slims_mem : ∀ {ts : List Ty} {t : Ty}, slims ts = true → t ∈ ts → slim t = true
  | u :: ts, t, h, hm => by
    simp only [slims, Bool.and_eq_true] at h
    rcases List.mem_cons.mp hm with rfl | hm
    · exact h.1
    · exact slims_mem h.2 hm
theorem tdeps_mem : ∀ {ts : List Ty} {t : Ty}, t ∈ ts → tdep t + 1 ≤ tdeps ts
  | u :: ts, t, hm => by
    simp only [tdeps]
    rcases List.mem_cons.mp hm with rfl | hm
    · omega
    · have := tdeps_mem hm
      omega
/-- if (e == 0), e changing what stands at ps -/
theorem q_whenTk {ps : List Addr} {Z : Hp → Hp → Prop} {m : Int} {tu : TS} (h : Tk ps Z te σ G H fun d => ∃ r, d = .int r ∧ 0 ≤ r ∧ r < m) (h1 : ∀ G1 H1, But ps G H G1 H1 → Z G1 H1 → tu { D with nx := tz D } σ H1) (h2 : ∀ G1 H1, But ps G H G1 H1 → Z G1 H1 → tz D σ H1) :
    tSeq (tIfS (tTest (tOp rEq te (tC (.int 0)))) tu tNext) tz D σ H := h _ fun v G1 H1 d b z hv ⟨r, hd, _, _⟩ => by
  subst hd
  cases hv
  refine ⟨rfl, decide (V.int r = V.int 0), rfl, ?_⟩
  cases decide (V.int r = V.int 0) with
  | true => exact h1 G1 H1 b z
  | false => exact h2 G1 H1 b z
theorem eb_isList {t : Ty} {tv : V} {i : Nat} (hv : σ[i]? = some (some tv)) (hd : Dat G tv t.d) (hn : ∀ ts, t ≠ .tup ts) : EvB (tAnd (tTest (tOp rEq (tOp (rIxA K) (tVar i) (tC (.int 0))) (tC (.str "con")))) (tTest (tOp rEq (tOp (rIxA K) (tVar i) (tC (.int 1))) (tC (.str "list"))))) σ G H (isList t) := by
  cases t with
  | tup ts => exact absurd rfl (hn ts)
  | int => exact eb_is (eb_and (eb_key (ev_var hv hd) (b := true) rfl) fun _ => eb_test (ev_eqF (d := .str "int") (ev_it (ds := [.str "con", .str "int", .tuple []]) (ev_var hv hd) ev_int at1) ev_str rfl rfl)) (by decide +kernel)
  | str => exact eb_is (eb_and (eb_key (ev_var hv hd) (b := true) rfl) fun _ => eb_test (ev_eqF (d := .str "string") (ev_it (ds := [.str "con", .str "string", .tuple []]) (ev_var hv hd) ev_int at1) ev_str rfl rfl)) (by decide +kernel)
  | list u => exact eb_is (eb_and (eb_key (ev_var hv hd) (b := true) rfl) fun _ => eb_test (ev_eqF (d := .str "list") (ev_it (ds := [.str "con", .str "list", .tuple [u.d]]) (ev_var hv hd) ev_int at1) ev_str rfl rfl)) (by show (true && PyData.eqv (.str "list") (.str "list")) = true; decide +kernel)
  | op k => match k with
    | 0 => exact eb_is (eb_and (b := false) (eb_key (ev_var hv hd) (b := false) rfl) fun z => nomatch z) rfl
    | 1 => exact eb_is (eb_and (eb_key (ev_var hv hd) (b := true) rfl) fun _ => eb_test (ev_eqF (d := .str "ref") (ev_it (ds := [.str "con", .str "ref", .tuple [.tuple [.str "var", .str "a"]]]) (ev_var hv hd) ev_int at1) ev_str rfl rfl)) (by decide +kernel)
    | 2 => exact eb_is (eb_and (b := false) (eb_key (ev_var hv hd) (b := false) rfl) fun z => nomatch z) rfl
    | _ + 3 => exact eb_is (eb_and (b := false) (eb_key (ev_var hv hd) (b := false) rfl) fun z => nomatch z) rfl
abbrev s__law_pattern : Stmt := topS 25
theorem sc__law_pattern : FnScope ["d", "ty", "depth", "names", "k", "part"] ["d", "ty", "depth", "names"] (defScope s__law_pattern) := ⟨rfl, rfl, rfl, by decide +kernel, rfl, by decide +kernel, by decide +kernel⟩
theorem step__law_pattern (F : Fun K "_law_pattern" "_law_pattern" s__law_pattern f fd) (m_tuple : mg "tuple" = none) (m_str : mg "str" = none) (m_len : mg "len" = none) (d__law_take : Dfn P w K mg base "_law_take" 2 ["d", "many"] spTake)
    (n : Nat) (d__law_pattern : Dfn P w K mg base "_law_pattern" (n + 2) ["d", "ty", "depth", "names"] (spPatP n)) : FnOk P w K mg base CX0 (n + 3) f fd ["d", "ty", "depth", "names"] (spPat n) := by
  refine F.ok sc__law_pattern (fun vs H Q E ⟨G, p, nm, t, b, tv, _, h, _⟩ => by rw [h]; rfl) (fun cdv A outer s H vs Q E hr h => ?_)
  have hu := hu_in hr
  obtain ⟨G, p, nm, t, b, tv, e, rfl, ht, hsl, htd, hs, hb, q⟩ := h
  have x := fx_src2 p nm b
  have hcp := cap_pos n
  refine ⟨_, (pss_cons (ps_set (i := 4) sc__law_pattern.nd rfl (.inl rfl) (pe_def d__law_take (hr.mono (by omega)) (by rfl) (pa_cons (pv 0) (pa_cons pe_int pa_nil))))
      (pss_cons (ps_if (pt_cmpR op_eq (pv 4) pe_int (nomark _)) (pss_cons (ps_expr (pe_bm PySem.F.plainAttrs_list PySem.F.slot_list_append PySem.F.type_list_append mt_append (pv 3) (pa_cons pe_int pa_nil)))
      (pss_one (ps_ret (pe_tup (pa_cons pe_str (pa_cons (pe_op op_add_str pe_str (pe_callTy call_str_int (by rfl) m_str (by decide +kernel) (pa_cons (pe_callB (lenK K) (by rfl) m_len PySem.boot_len (pa_cons (pv 3) pa_nil)) pa_nil))) pa_nil)))))) pss_nil)
      (pss_cons (ps_if (PW.pt (pw_or (pt_cmpR op_eq (pv 2) pe_int (nomark _)) (pw_or1 (pt_cmpR op_eq (pv 4) pe_int (nomark _))))) (pss_one (ps_ret (pe_tup (pa_cons pe_str pa_nil)))) pss_nil)
      (pss_cons (ps_if (pt_cmpR op_eq (pe_ix (ixK K) (pv 1) pe_int (fun _ _ => rfl)) pe_str (nomark _)) (pss_one (ps_ret (pe_tup (pa_cons pe_str (pa_cons (pe_callTy (tupK K) (by rfl) m_tuple (by decide +kernel) (pa_cons (pe_lc (own := [("part", 5)]) (by rfl) sc__law_pattern.nd (pi_tup (pe_ix (ixK K) (pv 1) pe_int (fun _ _ => rfl))) (blkOk_by (N := ["d", "ty", "depth", "names", "k", "part"]) (sc := defScope s__law_pattern) (by decide +kernel)) (fun _ _ _ _ _ => (pg_name (i := 5) sc__law_pattern.nd rfl (.inl rfl))) (fun _ _ _ _ _ => pts_nil) (fun _ _ _ _ _ => (pe_def d__law_pattern (hr.mono (by omega)) (by rfl) (pa_cons (pv 0) (pa_cons (pv 5) (pa_cons (pe_op op_sub (pv 2) pe_int) (pa_cons (pv 3) pa_nil))))))) pa_nil)) pa_nil))))) pss_nil)
      (pss_cons (ps_if (pt_cmpR (eqK K hu) (pv 1) (pe_tup (pa_cons pe_str (pa_cons pe_str (pa_cons (pe_tup pa_nil) pa_nil)))) (nomark _)) (pss_one (ps_ret (pe_tup (pa_cons pe_str (pa_cons (pe_def d__law_take (hr.mono (by omega)) (by rfl) (pa_cons (pv 0) (pa_cons pe_int pa_nil))) pa_nil))))) pss_nil)
      (pss_cons (ps_if (pt_cmpR (eqK K hu) (pv 1) (pe_tup (pa_cons pe_str (pa_cons pe_str (pa_cons (pe_tup pa_nil) pa_nil)))) (nomark _)) (pss_one (ps_ret (pe_tup (pa_cons pe_str (pa_cons (pe_ix (ixK K) (pe_lst (pa_cons pe_str (pa_cons pe_str pa_nil))) (pe_def d__law_take (hr.mono (by omega)) (by rfl) (pa_cons (pv 0) (pa_cons pe_int pa_nil))) (fun _ _ => rfl)) pa_nil))))) pss_nil)
      (pss_cons (ps_if (PW.pt (pw_and (pt_cmpR op_eq (pe_ix (ixK K) (pv 1) pe_int (fun _ _ => rfl)) pe_str (nomark _)) (pw_and1 (pt_cmpR op_eq (pe_ix (ixK K) (pv 1) pe_int (fun _ _ => rfl)) pe_str (nomark _))))) (pss_cons (ps_if (pt_cmpR op_eq (pe_def d__law_take (hr.mono (by omega)) (by rfl) (pa_cons (pv 0) (pa_cons pe_int pa_nil))) pe_int (nomark _)) (pss_one (ps_ret (pe_tup (pa_cons pe_str (pa_cons (pe_tup (pa_cons pe_str pa_nil)) (pa_cons pe_non pa_nil)))))) pss_nil)
      (pss_one (ps_ret (pe_tup (pa_cons pe_str (pa_cons (pe_tup (pa_cons pe_str pa_nil)) (pa_cons (pe_def d__law_pattern (hr.mono (by omega)) (by rfl) (pa_cons (pv 0) (pa_cons (pe_tup (pa_cons pe_str (pa_cons (pe_tup (pa_cons (pe_ix (ixK K) (pe_ix (ixK K) (pv 1) pe_int (fun _ _ => rfl)) pe_int (fun _ _ => rfl)) (pa_cons (pv 1) pa_nil))) pa_nil))) (pa_cons (pe_op op_sub (pv 2) pe_int) (pa_cons (pv 3) pa_nil))))) pa_nil))))))) pss_nil)
      (pss_one (ps_ret (pe_tup (pa_cons pe_str pa_nil))))))))))), ?_⟩
  refine q_tk (hs.lift (tk_take e hs.1 rfl ev_int (by decide) (by decide))) fun v G1 H1 d b1 hs1 hv ⟨r, hd, r0, r1⟩ => ?_
  subst hd
  cases hv
  refine q_when (b := decide (r = 0)) b1.ex (eb_test (ev_eqI (ev_var rfl (.int _)) ev_int)) (fun hb0 G2 H2 a2 => ?_) (fun hb0 G2 H2 a2 => ?_)
  · -- a name
    have B := b1.trans (x.but hs1 a2)
    obtain ⟨k1, k2, k3, zs, k4, k5⟩ := x.go hs1 a2
    refine q_app (s := .dat (.int 0)) B.ex k4 k2 (ev_var rfl rfl) ev_int (by omega) fun v3 G3 H3 a3 k3n hv3 => ?_
    have hs3 := x.go (x.go hs1 a2) a3
    have B := (B.trans (x.but (x.go hs1 a2) a3)).put (o := .lst (zs ++ [v3])) (p := nm) (by simp)
    have hl : zs.length + 1 < 28 := by omega
    have hn := name_len (zs.length + 1) hl
    have hs4 : Src2 p nm (b + cap n) G3 (upd H3 nm (.lst (zs ++ [v3]))) := by
      obtain ⟨h1, h2, h3, ws, h4, h5⟩ := hs3
      obtain ⟨xs, cells, i, y, k, e1, e2, e3, e4⟩ := h1
      exact ⟨⟨xs, cells, i, y, k, by rw [upd_ne h3]; exact e1, e2, e3, e4⟩, h2, h3, _, upd_same, by simp; omega⟩
    refine s_ret (s := .dat (.tuple [.str "name", .str (nameOf (zs.length + 1))])) B.ex (ev_tup (ds := [.str "name", .str (nameOf (zs.length + 1))]) (ea_cons ev_str (ea_cons (ev_cats (x := "x") (y := Str.ofString (toString ((zs.length + 1 : Nat) : Int))) ev_str (ev_strOf (i := ((zs.length + 1 : Nat) : Int)) (ev_is (ev_lenM (xs := zs ++ [v3]) (ev_var rfl rfl) upd_same) (by simp)) hn.2) (Nat.le_trans hn.1 (by decide))) ea_nil)) (by simp)) fun v5 G5 H5 a5 hd => ?_
    exact q v5 G5 H5 _ (B.trans ((fx_src2 p nm _).but hs4 a5)) ((fx_src2 p nm _).go hs4 a5) hd ⟨.name (nameOf (zs.length + 1)), rfl, by cases t <;> rfl, by simp [dep], name_tiny hl⟩
  have B := b1.trans (x.but hs1 a2)
  have hs2 := x.go hs1 a2
  have anyway : ∀ {G' H' : Hp} {s' : L2.St} {D' : Ends}, But [p, nm] G H G' H' → Src2 p nm b G' H' → (∀ v G'' H'' , Go G' H' G'' H'' → Dat G'' v (.tuple [.str "any"]) → D'.rt v H'') → tRet (tTup (tCons (tC (.str "any")) tNil)) D' s' H' := fun {G' H' s' D'} B' hs' k => s_ret (s := .dat (.tuple [.str "any"])) B'.ex (ev_tup (ds := [.str "any"]) (ea_cons ev_str ea_nil) (by simp)) fun v G'' H'' a hd => k v G'' H'' a hd
  have anyQ : ∀ {G' H' : Hp}, But [p, nm] G H G' H' → Src2 p nm b G' H' → ∀ v G'' H'', Go G' H' G'' H'' → Dat G'' v (.tuple [.str "any"]) → Q v H'' := fun {G' H'} B' hs' v G'' H'' a hd => q v G'' H'' _ (B'.trans (x.but hs' a)) ((x.go hs' a).le (by omega)) hd ⟨.any, rfl, by cases t <;> rfl, by simp [dep], rfl⟩
  refine q_when (b := decide ((n : Int) = 0) || decide (r = 1)) B.ex (eb_or (eb_test (ev_eqI (ev_var rfl (.int _)) ev_int)) fun _ => eb_test (ev_eqI (ev_var rfl (.int _)) ev_int)) (fun hb1 G3 H3 a3 => ?_) (fun hb1 G3 H3 a3 => ?_)
  · exact anyway (B.trans (x.but hs2 a3)) (x.go hs2 a3) (anyQ (B.trans (x.but hs2 a3)) (x.go hs2 a3))
  have B := B.trans (x.but hs2 a3)
  have hs3 := x.go hs2 a3
  rw [Bool.or_eq_false_iff] at hb1
  have hn0 := of_decide_eq_false hb1.1
  obtain ⟨m, rfl⟩ : ∃ m, n = m + 1 := ⟨n - 1, by omega⟩
  simp only [cap] at hb
  have hdep : ∀ {G' H' : Hp} {s' : L2.St}, s'[2]? = some (some (.int ((m + 1 : Nat) : Int))) → EvD (tOp (rI0 fun i j => .int (i - j)) (tVar 2) (tC (.int 1))) s' G' H' (.int (m : Int)) := fun {G' H' s'} hv => ev_is (ev_sub (ev_var hv (.int _)) ev_int) (by congr 1; omega)
  have ht3 := Dat.m ht B.go.g
  have hnt : ∀ {s' : L2.St} {G' H' : Hp}, (∀ ts, t ≠ .tup ts) → s'[1]? = some (some tv) → Dat G' tv t.d → EvB (tTest (tOp rEq (tOp (rIxA K) (tVar 1) (tC (.int 0))) (tC (.str "tuple")))) s' G' H' false := fun {s' G' H'} hnt hv hd => by
    cases t with
    | tup ts => exact absurd rfl (hnt ts)
    | int => exact eb_key (ev_var hv hd) rfl
    | str => exact eb_key (ev_var hv hd) rfl
    | list u => exact eb_key (ev_var hv hd) rfl
    | op k => match k with
      | 0 => exact eb_key (ev_var hv hd) rfl
      | 1 => exact eb_key (ev_var hv hd) rfl
      | 2 => exact eb_key (ev_var hv hd) rfl
      | _ + 3 => exact eb_key (ev_var hv hd) rfl
  by_cases htup : ∃ ts, t = .tup ts
  · obtain ⟨ts, rfl⟩ := htup
    have hsl2 : ts.length ≤ 3 ∧ slims ts = true := by simpa [slim] using hsl
    refine q_when (b := true) B.ex (eb_key (ev_var rfl ht3) rfl) (fun _ G4 H4 a4 => ?_) (fun z => nomatch z)
    have B := B.trans (x.but hs3 a4)
    have hs4 := x.go hs3 a4
    have xx := fx_src2 p nm (b + cap (m + 1))
    have hs4' : Src2 p nm (b + cap (m + 1)) G4 H4 := hs4.le (by omega)
    refine s_tk (tk_tup xx (tka_cons xx B.ex hs4' ev_str fun G5 H5 a5 hs5 => tka_last (tk_tupL (post := fun ds => ∃ ps, ds = Pat.ds ps ∧ wts ps ts = true ∧ deps ps ≤ m ∧ tinys ps = true) xx fun Q2 q2 => ?_)) fun ds ⟨r, hd, d, hd2, _⟩ => by rw [hd, hd2]; simp) fun v G6 H6 d b6 hs6 hv6 ⟨ds, hd, r, hd1, d2, hd2, ds3, hd3, ps, hd4, h1, h2, h3⟩ => ?_
    · have hs5b := x.go hs4 a5
      have ht5 := Dat.m ht3 (a4.trans a5).g
      refine tk_lcT (enc := Ty.d) (as := ts) (fun i => Src2 p nm (b + i * cap m)) (fun t d => Pdrawn m t d) (fun i => (fx_src2 p nm _).st) (ev_is (ev_it (ds := [.str "tuple", .tuple (Ty.ds ts)]) (ev_var rfl ht5) ev_int at1) (by rw [Ty.ds_map])) a5.gh (x.own _ _ hs5b) (hs5b.le (by omega)) (by omega) (fun i u y G7 H7 hi b7 hs7 hy => ?_) Q2 fun v G8 H8 ds b8 hs8 hv8 hp8 => ?_
      · have hil := (List.getElem?_eq_some_iff.mp hi).1
        have hum := List.mem_of_getElem? hi
        have h3 := tdeps_mem hum
        simp only [tdep] at htd
        refine ⟨_, fun R z => z, rfl, ?_⟩
        have e1 : b + (i + 1) * cap m = (b + i * cap m) + cap m := by rw [Nat.add_mul]; omega
        have hi2 : i ≤ 2 := by omega
        have hmul : i * cap m ≤ 2 * cap m := Nat.mul_le_mul_right _ hi2
        rw [e1]
        exact tk_pat (n := m) b7.ex hs7 (by omega) (slims_mem hsl2.2 hum) (by omega) rfl rfl (ev_var rfl hy) (hdep rfl)
      · have hmul : ts.length * cap m ≤ 3 * cap m := Nat.mul_le_mul_right _ hsl2.1
        exact q2 v G8 H8 ds ((fx_src2 p nm _).but hs5b (Go.refl a5.gh) |>.trans b8) (hs8.le (by simp only [cap]; omega)) hv8 (pats_of hp8)
    · refine q v G6 H6 d (B.trans b6) hs6 hv6 ⟨.tup ps, ?_, by simpa [wt] using h1, by simp only [dep]; omega, ?_⟩
      · rw [hd, hd1, hd2, hd3, hd4]
        rfl
      · have := wts_len h1
        simp only [tiny, Bool.and_eq_true, decide_eq_true_eq]
        exact ⟨by omega, h3⟩
  have hnt2 : ∀ ts, t ≠ .tup ts := fun ts z => htup ⟨ts, z⟩
  refine q_when (b := false) B.ex (hnt hnt2 rfl ht3) (fun z => nomatch z) (fun _ G4 H4 a4 => ?_)
  have B := B.trans (x.but hs3 a4)
  have hs4 := x.go hs3 a4
  have ht4 := Dat.m ht3 a4.g
  refine q_when (b := isInt t) B.ex (eb_test (ev_is (ev_eqD (e := .tuple [.str "con", .str "int", .tuple []]) (ev_var rfl ht4) (ev_tup (ea_cons ev_str (ea_cons ev_str (ea_cons (ev_tup (ds := []) ea_nil (by simp)) ea_nil))) (by simp)) (ty_shaped (by omega)) (by decide +kernel)) (by rw [← eqv_int t]; rfl))) (fun hi G5 H5 a5 => ?_) (fun hi G5 H5 a5 => ?_)
  · have B := B.trans (x.but hs4 a5)
    have hs5 := x.go hs4 a5
    refine s_tk (tk_tup x (tka_cons x B.ex hs5 ev_str fun G6 H6 a6 hs6 => tka_last (hs6.lift (tk_take a6.gh hs6.1 rfl ev_int (by decide) (by decide)))) fun ds ⟨r, hd, d, hd2, _⟩ => by rw [hd, hd2]; simp) fun v G6 H6 d b6 hs6 hv6 ⟨ds, hd, r, hd1, d2, hd2, r2, hd3, h1, h2⟩ => ?_
    refine q v G6 H6 d (B.trans b6) (hs6.le (by omega)) hv6 ⟨.pint r2, ?_, (by cases t <;> first | rfl | (cases hi)), by simp [dep], ?_⟩
    · rw [hd, hd1, hd2, hd3]
      rfl
    · have : r2 = 0 ∨ r2 = 1 := by omega
      rcases this with rfl | rfl <;> rfl
  have B := B.trans (x.but hs4 a5)
  have hs5 := x.go hs4 a5
  have ht5 := Dat.m ht4 a5.g
  refine q_when (b := isStr t) B.ex (eb_test (ev_is (ev_eqD (e := .tuple [.str "con", .str "string", .tuple []]) (ev_var rfl ht5) (ev_tup (ea_cons ev_str (ea_cons ev_str (ea_cons (ev_tup (ds := []) ea_nil (by simp)) ea_nil))) (by simp)) (ty_shaped (by omega)) (by decide +kernel)) (by rw [← eqv_str t]; rfl))) (fun hi2 G6 H6 a6 => ?_) (fun hi2 G6 H6 a6 => ?_)
  · have B := B.trans (x.but hs5 a6)
    have hs6 := x.go hs5 a6
    refine s_tk (tk_tup x (tka_cons x B.ex hs6 ev_str fun G7 H7 a7 hs7 => tka_last (tk_ix (ds := [.str "", .str "a"]) (post' := fun d => d = .str "" ∨ d = .str "a") x.st a7.gh (x.own _ _ hs7) hs7 (ev_lst (ds := [.str "", .str "a"]) (ea_cons ev_str (ea_cons ev_str ea_nil)) (by simp)) (fun G8 H8 e8 _ hs8 a8 => hs8.lift (tk_take e8 hs8.1 rfl ev_int (by decide) (by decide))) fun d ⟨r, hd, r0, r1⟩ => by
      have : r = 0 ∨ r = 1 := by omega
      rcases this with rfl | rfl
      · exact ⟨0, _, hd, at0, .inl rfl⟩
      · exact ⟨1, _, hd, at1, .inr rfl⟩)) fun ds ⟨r, hd, d, hd2, _⟩ => by rw [hd, hd2]; simp) fun v G7 H7 d b7 hs7 hv7 ⟨ds, hd, r, hd1, d2, hd2, hd3⟩ => ?_
    have wtp : ∀ s, wt (.pstr s) t = true := fun s => by cases t <;> first | rfl | cases hi2
    rcases hd3 with hd3 | hd3
    · exact q v G7 H7 d (B.trans b7) (hs7.le (by omega)) hv7 ⟨.pstr "", by rw [hd, hd1, hd2, hd3]; rfl, wtp _, by simp [dep], by decide +kernel⟩
    · exact q v G7 H7 d (B.trans b7) (hs7.le (by omega)) hv7 ⟨.pstr "a", by rw [hd, hd1, hd2, hd3]; rfl, wtp _, by simp [dep], by decide +kernel⟩
  have B := B.trans (x.but hs5 a6)
  have hs6 := x.go hs5 a6
  have ht6 := Dat.m ht5 a6.g
  refine q_when (b := isList t) B.ex (eb_isList rfl ht6 hnt2) (fun hi3 G7 H7 a7 => ?_) (fun hi3 G7 H7 a7 => ?_)
  · have B := B.trans (x.but hs6 a7)
    have hs7 := x.go hs6 a7
    have ht7 := Dat.m ht6 a7.g
    obtain ⟨u, rfl⟩ : ∃ u, t = .list u := by cases t <;> first | exact ⟨_, rfl⟩ | cases hi3
    refine q_whenTk (hs7.lift (tk_take B.ex hs7.1 rfl ev_int (by decide) (by decide))) (fun G8 H8 b8 hs8 => ?_) (fun G8 H8 b8 hs8 => ?_)
    · refine s_ret (s := .dat (.tuple [.str "pcon", .tuple [.str "Nil"], .none])) b8.ex (ev_tup (ds := [.str "pcon", .tuple [.str "Nil"], .none]) (ea_cons ev_str (ea_cons (ev_tup (ds := [.str "Nil"]) (ea_cons ev_str ea_nil) (by simp)) (ea_cons ev_non ea_nil))) (by simp)) fun v G9 H9 a9 hd => ?_
      exact q v G9 H9 _ ((B.trans b8).trans (x.but hs8 a9)) ((x.go hs8 a9).le (by omega)) hd ⟨.nil, rfl, rfl, by simp [dep], rfl⟩
    · have B := B.trans b8
      have ht8 := Dat.m ht7 b8.go.g
      have xx := fx_src2 p nm (b + cap m)
      have hcm : b + cap m ≤ b + cap (m + 1) := by simp only [cap]; omega
      have hs8' : Src2 p nm (b + cap m) G8 H8 := hs8.le (by omega)
      have hsl2 : slim u = true := by simpa [slim] using hsl
      refine s_tk (tk_tup xx (tka_cons xx B.ex hs8' ev_str fun G9 H9 a9 hs9 => tka_cons (d := .tuple [.str "Cons"]) xx a9.gh hs9 (ev_tup (ds := [.str "Cons"]) (ea_cons ev_str ea_nil) (by simp)) fun G10 H10 a10 hs10 => tka_last (tk_pat (n := m) (b := b) (t := .tup [u, .list u]) (i := 0) (j := 3) a10.gh (x.go (x.go hs8 a9) a10) (by omega) (by simp [slim, slims, hsl2]) (by simp only [tdep, tdeps] at htd ⊢; omega) rfl rfl
          (ev_tup (ds := [.str "tuple", .tuple [u.d, (Ty.list u).d]]) (ea_cons ev_str (ea_cons (ev_tup (ds := [u.d, (Ty.list u).d]) (ea_cons (ev_it (ds := [u.d]) (ev_it (ds := [.str "con", .str "list", .tuple [u.d]]) (ev_var rfl (Dat.m ht8 (a9.trans a10).g)) ev_int (atI_nat (j := 2) rfl)) ev_int at0) (ea_cons (ev_var rfl (Dat.m ht8 (a9.trans a10).g)) ea_nil)) (by simp)) ea_nil)) (by simp)) (hdep rfl))) fun ds ⟨r, hd, r2, hd2, d, hd3, _⟩ => by rw [hd, hd2, hd3]; simp) fun v G11 H11 d b11 hs11 hv11 ⟨ds, hd, r, hd1, r2, hd2, d3, hd3, pt, hd4, h1, h2, h3⟩ => ?_
      refine q v G11 H11 d (B.trans b11) (hs11.le hcm) hv11 ⟨.cons pt, ?_, h1, by simp only [dep]; omega, h3⟩
      rw [hd, hd1, hd2, hd3, hd4]
      rfl
  · exact anyway (B.trans (x.but hs6 a7)) (x.go hs6 a7) (anyQ (B.trans (x.but hs6 a7)) (x.go hs6 a7))
end
end G

namespace G
open PySem L2 Evl
open M
theorem catK {X : Cx} (K : PySem.W.Frag) (h : X.K = K := by rfl) : OpR X (binaryOp .Add) (rCatA K) := by
  subst h
  exact op_catA
/-! ### the values, as they are counted -/
def pairsOf : Nat → Ty → List Val
  | 0 => fun _ => []
  | n + 1 => fun t => (vals n (.tup [t, .list t])).map Val.cons
theorem vals_eq (n : Nat) : vals n = valsWith (pairsOf n) := by cases n <;> rfl
theorem cols_eq (n : Nat) : ∀ ts : List Ty, colsWith (pairsOf n) ts = ts.map (vals n)
  | [] => rfl
  | t :: ts => by
    show valsWith (pairsOf n) t :: colsWith (pairsOf n) ts = vals n t :: ts.map (vals n)
    rw [cols_eq n ts, vals_eq]
theorem vals_tup (n : Nat) (ts : List Ty) : vals n (.tup ts) = ((ts.map (vals n)).foldl rowStep [[]]).map Val.tup := by
  rw [← cols_eq n ts, vals_eq]
  rfl
theorem vals_list (n : Nat) (t : Ty) : vals n (.list t) = (Val.nil :: pairsOf n t).take 60 := by
  rw [vals_eq]
  rfl
theorem rows_len : ∀ (cols : List (List Val)) (rows : List (List Val)), rows.length ≤ 400 → (cols.foldl rowStep rows).length ≤ 400
  | [], rows, h => h
  | c :: cols, rows, h => by
    rw [List.foldl_cons]
    refine rows_len cols _ ?_
    unfold rowStep
    rw [List.length_take]
    omega
theorem vals_len (n : Nat) (t : Ty) : (vals n t).length ≤ 400 := by
  cases t with
  | int => rw [vals_eq]; simp [valsWith]
  | str => rw [vals_eq]; simp [valsWith]
  | op k => rw [vals_eq]; simp [valsWith]
  | list t => rw [vals_list, List.length_take]; omega
  | tup ts => rw [vals_tup, List.length_map]; exact rows_len _ _ (by simp)
theorem rows_wide : ∀ (cols : List (List Val)) (rows : List (List Val)) (b : Nat), (∀ r ∈ rows, r.length ≤ b) → ∀ r ∈ cols.foldl rowStep rows, r.length ≤ b + cols.length
  | [], rows, b, h, r, hr => h r hr
  | c :: cols, rows, b, h, r, hr => by
    rw [List.foldl_cons] at hr
    have z := rows_wide cols (rowStep rows c) (b + 1) (fun r hr => by
      obtain ⟨r0, h0, hr⟩ := List.mem_flatMap.mp (List.mem_of_mem_take hr)
      obtain ⟨o, _, rfl⟩ := List.mem_map.mp hr
      have := h r0 h0
      simp
      omega) r hr
    simp only [List.length_cons]
    omega
def rowV (r : List Val) : PyData := .tuple (Val.ds r)
def valsD (vs : List Val) : PyData := .list (vs.map Val.d)
theorem vds_app (a b : List Val) : Val.ds (a ++ b) = Val.ds a ++ Val.ds b := by simp [Val.ds_map]
theorem cut_takeD (ds : List PyData) (n : Nat) : cutD ds none (some (n : Int)) = ds.take n := by
  unfold cutD
  rw [HT.sIx_none, show HT.sIx ds.length ds.length (some (n : Int)) = min n ds.length from HT.sIx_nat _ _ _]
  simp [List.take_eq_take_iff]
theorem flat_len (inner : List Val) : ∀ rows : List (List Val), (rows.flatMap fun row => inner.map fun one => row ++ [one]).length = rows.length * inner.length
  | [] => by simp
  | r :: rows => by
    rw [List.flatMap_cons, List.length_append, flat_len inner rows, List.length_map, List.length_cons, Nat.add_mul]
    omega
section
variable {P : Program} {w : World} {K : PySem.W.Frag} {mg : Str → Option Value} {base : Heap} {f : Addr} {fd : FuncData} {σ : L2.St} {G H : Hp} {ta tb te ti : TE} {D : Ends} {tz : TS} {g : TG}
theorem ev_catT {ds es : List PyData} (h1 : EvD ta σ G H (.tuple ds)) (h2 : EvD tb σ G H (.tuple es)) (hl : ds.length + es.length ≤ 1000000) : EvD (tOp (rCatA K) ta tb) σ G H (.tuple (ds ++ es)) := ev_op h1 h2 fun x y G1 H1 a hx hy Q q => by
  cases hx with
  | tup e1 e2 =>
    cases hy with
    | tup e3 e4 =>
      rename_i l xs l2 ys
      refine ⟨_, _, _, _, rfl, rfl, st_of (a.gh _ _ e1), st_of (a.gh _ _ e3), by rw [e2.len, e4.len]; exact Nat.le_trans hl (by decide), fun z => ?_, fun _ z => ?_, fun _ _ p hp => q _ _ _ (Go.imm a.gh hp) (dat_tup a.gh (e2.app e4) hp)⟩
      · subst z
        cases e2
        exact q _ G1 H1 (Go.refl a.gh) (.tup e3 e4)
      · subst z
        cases e4
        refine q _ G1 H1 (Go.refl a.gh) ?_
        rw [List.append_nil]
        exact .tup e1 e2
abbrev s__law_values : Stmt := topS 26
theorem sc__law_values : FnScope ["ty", "depth", "rows", "part", "inner", "grown", "row", "one", "found", "pairs"] ["ty", "depth"] (defScope s__law_values) := ⟨rfl, rfl, rfl, by decide +kernel, rfl, by decide +kernel, by decide +kernel⟩
abbrev spVals (k : Nat) : Sp := Pu (fun a : Ty × Nat => [a.1.d, .int (a.2 : Int)]) (fun a => 2 * a.2 + tdep a.1 < k ∧ k ≤ 12 ∧ slim a.1 = true) fun a => valsD (vals a.2 a.1)
def spValsP : Nat → Sp
  | 0 => fun _ _ _ _ => False
  | n + 1 => spVals n
theorem step__law_values (F : Fun K "_law_values" "_law_values" s__law_values f fd) (k : Nat) (d__law_values : Dfn P w K mg base "_law_values" k ["ty", "depth"] (spValsP k)) : FnOk P w K mg base CX0 (k + 1) f fd ["ty", "depth"] (spVals k) := by
  refine F.ok sc__law_values (fun vs H Q E h => len1 (fun _ => rfl) h) (fun cdv A outer s H vs Q E hr h => ?_)
  have hu := hu_in hr
  obtain ⟨G, ⟨t, n⟩, e, hv, ⟨hk1, hk2, hsl⟩, q⟩ := h
  simp only at hk1 hk2 hsl q
  obtain ⟨k, rfl⟩ : ∃ j, k = j + 1 := ⟨k - 1, by omega⟩
  cases hv with
  | cons h1 h2 =>
  cases h2 with
  | cons h2 h3 =>
  cases h3
  cases h2
  rename_i tv
  refine ⟨_, (pss_cons (ps_if (pt_cmpR op_eq (pe_ix (ixK K) (pv 0) pe_int (fun _ _ => rfl)) pe_str (nomark _)) (pss_cons (ps_set (i := 2) sc__law_values.nd rfl (.inl rfl) (pe_lst (pa_cons (pe_tup pa_nil) pa_nil)))
      (pss_cons (ps_for PassesOwn.never rfl (pi_tup (pe_ix (ixK K) (pv 0) pe_int (fun _ _ => rfl))) (pg_name (i := 3) sc__law_values.nd rfl (.inl rfl)) (pss_cons (ps_set (i := 4) sc__law_values.nd rfl (.inl rfl) (pe_def d__law_values (hr.mono (by omega)) (by rfl) (pa_cons (pv 3) (pa_cons (pv 1) pa_nil))))
      (pss_cons (ps_set (i := 5) sc__law_values.nd rfl (.inl rfl) (pe_lst pa_nil))
      (pss_cons (ps_for PassesOwn.never rfl (pi_list (pv 2)) (pg_name (i := 6) sc__law_values.nd rfl (.inr rfl)) (pss_one (ps_set (i := 5) sc__law_values.nd rfl (.inl rfl) (pe_op op_cat (pv 5) (pe_lc (own := [("one", 7)]) (by rfl) sc__law_values.nd (pi_list (pv 4)) (blkOk_by (N := ["ty", "depth", "rows", "part", "inner", "grown", "row", "one", "found", "pairs"]) (sc := defScope s__law_values) (by decide +kernel)) (fun _ _ _ _ _ => (pg_name (i := 7) sc__law_values.nd rfl (.inl rfl))) (fun _ _ _ _ _ => pts_nil) (fun _ _ _ _ _ => (pe_op (catK K) (pv 6) (pe_tup (pa_cons (pv 7) pa_nil)))))))))
      (pss_one (ps_set (i := 2) sc__law_values.nd rfl (.inl rfl) (pe_slice (slK K) (pv 5) po_none (po_some pe_int))))))))
      (pss_one (ps_ret (pe_lc (own := [("row", 6)]) (by rfl) sc__law_values.nd (pi_list (pv 2)) (blkOk_by (N := ["ty", "depth", "rows", "part", "inner", "grown", "row", "one", "found", "pairs"]) (sc := defScope s__law_values) (by decide +kernel)) (fun _ _ _ _ _ => (pg_name (i := 6) sc__law_values.nd rfl (.inl rfl))) (fun _ _ _ _ _ => pts_nil) (fun _ _ _ _ _ => (pe_tup (pa_cons pe_str (pa_cons (pv 6) pa_nil))))))))) pss_nil)
      (pss_cons (ps_if (pt_cmpR (eqK K hu) (pv 0) (pe_tup (pa_cons pe_str (pa_cons pe_str (pa_cons (pe_tup pa_nil) pa_nil)))) (nomark _)) (pss_one (ps_ret (pe_lst (pa_cons (pe_tup (pa_cons pe_str (pa_cons pe_int pa_nil))) (pa_cons (pe_tup (pa_cons pe_str (pa_cons pe_int pa_nil))) (pa_cons (pe_tup (pa_cons pe_str (pa_cons pe_int pa_nil))) pa_nil)))))) pss_nil)
      (pss_cons (ps_if (pt_cmpR (eqK K hu) (pv 0) (pe_tup (pa_cons pe_str (pa_cons pe_str (pa_cons (pe_tup pa_nil) pa_nil)))) (nomark _)) (pss_one (ps_ret (pe_lst (pa_cons (pe_tup (pa_cons pe_str (pa_cons pe_str pa_nil))) (pa_cons (pe_tup (pa_cons pe_str (pa_cons pe_str pa_nil))) (pa_cons (pe_tup (pa_cons pe_str (pa_cons pe_str pa_nil))) pa_nil)))))) pss_nil)
      (pss_cons (ps_if (PW.pt (pw_and (pt_cmpR op_eq (pe_ix (ixK K) (pv 0) pe_int (fun _ _ => rfl)) pe_str (nomark _)) (pw_and1 (pt_cmpR op_eq (pe_ix (ixK K) (pv 0) pe_int (fun _ _ => rfl)) pe_str (nomark _))))) (pss_cons (ps_set (i := 8) sc__law_values.nd rfl (.inl rfl) (pe_lst (pa_cons (pe_tup (pa_cons pe_str (pa_cons pe_str (pa_cons pe_non pa_nil)))) pa_nil)))
      (pss_cons (ps_if (pt_cmpR op_gt (pv 1) pe_int (nomark _)) (pss_cons (ps_set (i := 9) sc__law_values.nd rfl (.inl rfl) (pe_def d__law_values (hr.mono (by omega)) (by rfl) (pa_cons (pe_tup (pa_cons pe_str (pa_cons (pe_tup (pa_cons (pe_ix (ixK K) (pe_ix (ixK K) (pv 0) pe_int (fun _ _ => rfl)) pe_int (fun _ _ => rfl)) (pa_cons (pv 0) pa_nil))) pa_nil))) (pa_cons (pe_op op_sub (pv 1) pe_int) pa_nil))))
      (pss_one (ps_set (i := 8) sc__law_values.nd rfl (.inl rfl) (pe_op op_cat (pv 8) (pe_lc (own := [("one", 7)]) (by rfl) sc__law_values.nd (pi_list (pv 9)) (blkOk_by (N := ["ty", "depth", "rows", "part", "inner", "grown", "row", "one", "found", "pairs"]) (sc := defScope s__law_values) (by decide +kernel)) (fun _ _ _ _ _ => (pg_name (i := 7) sc__law_values.nd rfl (.inl rfl))) (fun _ _ _ _ _ => pts_nil) (fun _ _ _ _ _ => (pe_tup (pa_cons pe_str (pa_cons pe_str (pa_cons (pv 7) pa_nil)))))))))) pss_nil)
      (pss_one (ps_ret (pe_slice (slK K) (pv 8) po_none (po_some pe_int)))))) pss_nil)
      (pss_one (ps_ret (pe_lst (pa_cons (pe_tup (pa_cons pe_str pa_nil)) pa_nil)))))))), ?_⟩
  by_cases htup : ∃ ts, t = .tup ts
  · obtain ⟨ts, rfl⟩ := htup
    refine q_when (b := true) e (eb_key (ev_var rfl h1) rfl) (fun _ G1 H1 a => ?_) (fun z => nomatch z)
    refine q_asg a.gh (s := .dat (.list [rowV []])) (ev_lst (ds := [rowV []]) (ea_cons (ev_tup (ds := []) ea_nil (by simp)) ea_nil) (by simp)) fun vr G2 H2 a2 hvr => ?_
    have A := a.trans a2
    have h1' := Dat.m h1 A.g
    have htd : tdep (.tup ts) = tdeps ts := rfl
    have hsl2 : ts.length ≤ 3 ∧ slims ts = true := by simpa [slim] using hsl
    refine q_forT (enc := Ty.d) (as := ts) A.gh (ev_is (ev_it (ds := [.str "tuple", .tuple (Ty.ds ts)]) (ev_var rfl h1') ev_int at1) (by rw [Ty.ds_map])) fun G3 H3 a3 => ?_
    refine ⟨fun i σ' G' H' => ∃ vr y3 y4 y5 y6, σ' = [some tv, some (.int (n : Int)), some vr, y3, y4, y5, y6, none, none, none] ∧ Go G3 H3 G' H' ∧ Dat G' vr (.list ((((ts.map (vals n)).take i).foldl rowStep [[]]).map rowV)), ⟨vr, none, none, none, none, rfl, Go.refl a3.gh, hvr.m a3.g⟩, fun i σ' G' H' ⟨_, _, _, _, _, _, g, _⟩ => ⟨g.g, g.gh⟩, fun i u x σ' G' H' hi ⟨vr, y3, y4, y5, y6, hσ, g, hvr⟩ hx => ?_, fun σ' G' H' ⟨vr, y3, y4, y5, y6, hσ, g, hvr⟩ => ?_⟩
    · subst hσ
      have hum := List.mem_of_getElem? hi
      have hut := tdeps_mem hum
      have hrl : (((ts.map (vals n)).take i).foldl rowStep [[]]).length ≤ 400 := rows_len _ _ (by simp)
      have htk : (((ts.map (vals n)).take (i + 1)).foldl rowStep [[]]) = rowStep (((ts.map (vals n)).take i).foldl rowStep [[]]) (vals n u) := by
        rw [List.take_add_one, List.getElem?_map, hi, Option.map_some, Option.toList_some, List.foldl_append]
        rfl
      have hrw : ∀ r ∈ ((ts.map (vals n)).take i).foldl rowStep [[]], r.length ≤ 3 := fun r hr => by
        have z := rows_wide ((ts.map (vals n)).take i) [[]] 0 (by simp) r hr
        have : ((ts.map (vals n)).take i).length ≤ ts.length := by rw [List.length_take, List.length_map]; exact Nat.min_le_right _ _
        omega
      generalize ((ts.map (vals n)).take i).foldl rowStep [[]] = rows at hvr hrl htk hrw
      have hil := vals_len n u
      refine q_asg g.gh (s := .dat (valsD (vals n u))) (ev_def (res := fun a : Ty × Nat => valsD (vals a.2 a.1)) (u, n) (ea_cons (ev_var rfl hx) (ea_cons (ev_var rfl (.int _)) ea_nil)) ⟨by show 2 * n + tdep u < k; omega, by omega, slims_mem hsl2.2 hum⟩) fun vi G4 H4 a4 hvi => ?_
      refine q_asg a4.gh (s := .dat (.list ((([] : List (List Val)).flatMap fun row => (vals n u).map fun one => row ++ [one]).map rowV))) (ev_lst (ds := []) ea_nil (by simp)) fun vg G5 H5 a5 hvg => ?_
      have hvi := hvi.m a5.g
      have hvr := Dat.m hvr (a4.trans a5).g
      refine q_for (enc := rowV) (as := rows) a5.gh (ev_var rfl hvr) fun G6 H6 a6 => ?_
      refine ⟨fun j σ' G' H' => ∃ vg y6, σ' = [some tv, some (.int (n : Int)), some vr, some x, some vi, some vg, y6, none, none, none] ∧ Go G6 H6 G' H' ∧ Dat G' vg (.list (((rows.take j).flatMap fun row => (vals n u).map fun one => row ++ [one]).map rowV)), ⟨vg, y6, rfl, Go.refl a6.gh, by rw [List.take_zero]; exact hvg.m a6.g⟩, fun j σ' G' H' ⟨_, _, _, g, _⟩ => ⟨g.g, g.gh⟩, fun j row y σ' G' H' hj ⟨vg, y6, hσ, g6, hvg⟩ hy => ?_, fun σ' G' H' ⟨vg, y6, hσ, g6, hvg⟩ => ?_⟩
      · subst hσ
        have hvi := hvi.m (a6.trans g6).g
        have hfl := flat_len (vals n u) (rows.take j)
        have hml : (rows.take j).length * (vals n u).length ≤ 400 * 400 := Nat.mul_le_mul (by rw [List.length_take]; omega) hil
        refine s_asg g6.gh (s := .dat (.list ((((rows.take j).flatMap fun row => (vals n u).map fun one => row ++ [one]).map rowV) ++ ((vals n u).map fun one => rowV (row ++ [one]))))) (ev_cat (ev_var rfl hvg) (ev_lcA (enc := Val.d) (as := vals n u) (fun one => rowV (row ++ [one])) (ev_var rfl hvi) (by omega) fun one _ z G8 H8 a8 hz => ⟨_, fun R z => z, rfl, ev_is (ev_catT (ds := Val.ds row) (es := [one.d]) (ev_var rfl (Dat.m hy a8.g)) (ev_tup (ds := [one.d]) (ea_cons (ev_var rfl hz) ea_nil) (by simp)) ?_) ?_⟩) ?_) fun v G8 H8 a8 hv => ⟨G8, v, _, rfl, g6.trans a8, ?_⟩
        · have := hrw row (List.mem_of_getElem? hj)
          simp [Val.ds_map]
          omega
        · rw [rowV, vds_app]
          rfl
        · rw [List.length_map, List.length_map, hfl]
          omega
        · have e1 : rows.take (j + 1) = rows.take j ++ [row] := by rw [List.take_add_one, hj]; rfl
          have hv : Dat G8 v _ := hv
          rw [e1, List.flatMap_append, List.map_append]
          simpa [List.map_map, Function.comp_def] using hv
      · subst hσ
        rw [List.take_length] at hvg
        refine s_asg g6.gh (s := .dat (.list ((rowStep rows (vals n u)).map rowV))) (ev_is (ev_slL (lo := none) (ev_var rfl hvg) eo_none (eo_some (i := 400) ev_int)) (by rw [show (400 : Int) = ((400 : Nat) : Int) from rfl, cut_takeD, ← List.map_take]; rfl)) fun v G8 H8 a8 hv => ⟨G8, v, _, _, _, _, rfl, ((((g.trans a4).trans a5).trans a6).trans g6).trans a8, ?_⟩
        rw [htk]
        exact hv
    · subst hσ
      have e1 : (ts.map (vals n)).take ts.length = ts.map (vals n) := List.take_of_length_le (by simp)
      rw [e1] at hvr
      have B := (A.trans a3).trans g
      refine s_ret B.gh (ev_lcA (enc := rowV) (as := (ts.map (vals n)).foldl rowStep [[]]) (fun r => .tuple [.str "tuple", rowV r]) (ev_var rfl hvr) (by have := rows_len (ts.map (vals n)) [[]] (by simp); omega) fun r _ x G8 H8 a8 hx => ⟨_, fun R z => z, rfl, ev_tup (ds := [.str "tuple", rowV r]) (ea_cons ev_str (ea_cons (ev_var rfl hx) ea_nil)) (by simp)⟩) fun v G8 H8 a8 hd => q v G8 H8 (B.trans a8) ?_
      have hd : Dat G8 v (.list _) := hd
      rw [valsD, vals_tup, List.map_map]
      exact hd
  have hnt2 : ∀ ts, t ≠ .tup ts := fun ts z => htup ⟨ts, z⟩
  have hnt : ∀ {s' : L2.St} {G' H' : Hp}, s'[0]? = some (some tv) → Dat G' tv t.d → EvB (tTest (tOp rEq (tOp (rIxA K) (tVar 0) (tC (.int 0))) (tC (.str "tuple")))) s' G' H' false := fun {s' G' H'} hv hd => by
    cases t with
    | tup ts => exact absurd rfl (hnt2 ts)
    | int => exact eb_key (ev_var hv hd) rfl
    | str => exact eb_key (ev_var hv hd) rfl
    | list u => exact eb_key (ev_var hv hd) rfl
    | op k => match k with
      | 0 => exact eb_key (ev_var hv hd) rfl
      | 1 => exact eb_key (ev_var hv hd) rfl
      | 2 => exact eb_key (ev_var hv hd) rfl
      | _ + 3 => exact eb_key (ev_var hv hd) rfl
  refine q_when (b := false) e (hnt rfl h1) (fun z => nomatch z) (fun _ G1 H1 A => ?_)
  have h1 := Dat.m h1 A.g
  refine q_when (b := isInt t) A.gh (eb_test (ev_is (ev_eqD (e := .tuple [.str "con", .str "int", .tuple []]) (ev_var rfl h1) (ev_tup (ea_cons ev_str (ea_cons ev_str (ea_cons (ev_tup (ds := []) ea_nil (by simp)) ea_nil))) (by simp)) (ty_shaped (t := t) (by omega)) (by decide +kernel)) (by rw [← eqv_int t]; rfl))) (fun hi G2 H2 a2 => ?_) (fun hi G2 H2 a2 => ?_)
  · have A := A.trans a2
    obtain rfl : t = .int := by cases t <;> first | rfl | cases hi
    refine s_ret (s := .dat (valsD [.int 9, .int 0, .int 1])) A.gh (ev_lst (ds := [.tuple [.str "int", .int 9], .tuple [.str "int", .int 0], .tuple [.str "int", .int 1]]) ?_ (by simp)) fun v G3 H3 a3 hd => q v G3 H3 (A.trans a3) (by rw [vals_eq]; exact hd)
    repeat' first | exact ea_nil | exact ev_str | exact ev_int | refine ea_cons ?_ ?_ | refine ev_tup ?_ (by simp)
  have A := A.trans a2
  have h1 := Dat.m h1 a2.g
  refine q_when (b := isStr t) A.gh (eb_test (ev_is (ev_eqD (e := .tuple [.str "con", .str "string", .tuple []]) (ev_var rfl h1) (ev_tup (ea_cons ev_str (ea_cons ev_str (ea_cons (ev_tup (ds := []) ea_nil (by simp)) ea_nil))) (by simp)) (ty_shaped (t := t) (by omega)) (by decide +kernel)) (by rw [← eqv_str t]; rfl))) (fun hi2 G3 H3 a3 => ?_) (fun hi2 G3 H3 a3 => ?_)
  · have A := A.trans a3
    obtain rfl : t = .str := by cases t <;> first | rfl | cases hi2
    refine s_ret (s := .dat (valsD [.str "z", .str "", .str "a"])) A.gh (ev_lst (ds := [.tuple [.str "string", .str "z"], .tuple [.str "string", .str ""], .tuple [.str "string", .str "a"]]) ?_ (by simp)) fun v G3 H3 a3 hd => q v G3 H3 (A.trans a3) (by rw [vals_eq]; exact hd)
    repeat' first | exact ea_nil | exact ev_str | exact ev_int | refine ea_cons ?_ ?_ | refine ev_tup ?_ (by simp)
  have A := A.trans a3
  have h1 := Dat.m h1 a3.g
  refine q_when (b := isList t) A.gh (eb_isList rfl h1 hnt2) (fun hi3 G4 H4 a4 => ?_) (fun hi3 G4 H4 a4 => ?_)
  · have A := A.trans a4
    have h1 := Dat.m h1 a4.g
    obtain ⟨u, rfl⟩ : ∃ u, t = .list u := by cases t <;> first | exact ⟨_, rfl⟩ | cases hi3
    have hsl2 : slim u = true := by simpa [slim] using hsl
    simp only [tdep] at hk1
    refine q_asg A.gh (s := .dat (valsD [.nil])) (ev_lst (ds := [.tuple [.str "con", .str "Nil", .none]]) (ea_cons (ev_tup (ds := [.str "con", .str "Nil", .none]) (ea_cons ev_str (ea_cons ev_str (ea_cons ev_non ea_nil))) (by simp)) ea_nil) (by simp)) fun vf G5 H5 a5 hvf => ?_
    have A := A.trans a5
    have h1 := Dat.m h1 a5.g
    refine q_meet (b := decide (0 < (n : Int))) (fun σ' H' => ∃ vf y7 y9 G', σ' = [some tv, some (.int (n : Int)), none, none, none, none, none, y7, some vf, y9] ∧ Go G H G' H' ∧ Dat G' vf (valsD (Val.nil :: pairsOf n u))) A.gh (eb_test (ev_I0b (g := fun i j => decide (j < i)) (ev_var rfl (.int _)) ev_int)) (fun σ' H' ⟨vf, y7, y9, G', hσ, g, hvf⟩ => ?_) (fun hb rest G6 H6 a6 => ?_) (fun hb G6 H6 a6 => ?_)
    · subst hσ
      refine s_ret (s := .dat (valsD ((Val.nil :: pairsOf n u).take 60))) g.gh (ev_is (ev_slL (lo := none) (ev_var rfl hvf) eo_none (eo_some (i := 60) ev_int)) (by rw [show (60 : Int) = ((60 : Nat) : Int) from rfl, cut_takeD, ← List.map_take]; rfl)) fun v G7 H7 a7 hd => q v G7 H7 (g.trans a7) (by rw [vals_list]; exact hd)
    · have hn := of_decide_eq_true hb
      obtain ⟨m, rfl⟩ : ∃ m, n = m + 1 := ⟨n - 1, by omega⟩
      have A := A.trans a6
      have h1 := Dat.m h1 a6.g
      have hvf := hvf.m a6.g
      refine q_asg A.gh (s := .dat (valsD (vals m (.tup [u, .list u])))) (ev_def (res := fun a : Ty × Nat => valsD (vals a.2 a.1)) (.tup [u, .list u], m) (ea_cons (ev_tup (ds := [.str "tuple", .tuple [u.d, (Ty.list u).d]]) (ea_cons ev_str (ea_cons (ev_tup (ds := [u.d, (Ty.list u).d]) (ea_cons (ev_it (ds := [u.d]) (ev_it (ds := [.str "con", .str "list", .tuple [u.d]]) (ev_var rfl h1) ev_int (atI_nat (j := 2) rfl)) ev_int at0) (ea_cons (ev_var rfl h1) ea_nil)) (by simp)) ea_nil)) (by simp)) (ea_cons (ev_is (ev_sub (ev_var rfl (.int _)) ev_int) (by congr 1; omega)) ea_nil)) ⟨?_, by omega, by simp [slim, slims, hsl2]⟩) fun vp G7 H7 a7 hvp => ?_
      · show 2 * m + tdep (.tup [u, .list u]) < k
        simp only [tdep, tdeps]
        omega
      have A := A.trans a7
      have hvf := hvf.m a7.g
      have hpl := vals_len m (.tup [u, .list u])
      exact s_asg (s := .dat (valsD (Val.nil :: pairsOf (m + 1) u))) A.gh (ev_is (ev_cat (ds := [Val.nil.d]) (es := (vals m (.tup [u, .list u])).map fun v => .tuple [.str "con", .str "Cons", v.d]) (ev_var rfl hvf) (ev_lcA (enc := Val.d) (as := vals m (.tup [u, .list u])) (fun v => .tuple [.str "con", .str "Cons", v.d]) (ev_var rfl hvp) (by omega) fun one _ z G8 H8 a8 hz => by
        refine ⟨_, fun R z => z, rfl, ?_⟩
        exact ev_tup (ds := [.str "con", .str "Cons", one.d]) (ea_cons ev_str (ea_cons ev_str (ea_cons (ev_var rfl hz) ea_nil))) (by simp)) (by rw [List.length_map]; simp; omega)) (by
        show PyData.list _ = valsD _
        rw [valsD, pairsOf, List.map_cons, List.map_map]
        rfl)) fun v G8 H8 a8 hv => rest _ _ ⟨v, _, _, G8, rfl, A.trans a8, hv⟩
    · have hn := of_decide_eq_false hb
      obtain rfl : n = 0 := by omega
      exact ⟨vf, _, _, G6, rfl, A.trans a6, hvf.m a6.g⟩
  · have A := A.trans a4
    refine s_ret (s := .dat (valsD [.other])) A.gh (ev_lst (ds := [.tuple [.str "other"]]) (ea_cons (ev_tup (ds := [.str "other"]) (ea_cons ev_str ea_nil) (by simp)) ea_nil) (by simp)) fun v G5 H5 a5 hd => q v G5 H5 (A.trans a5) ?_
    cases t with
    | int => cases hi
    | str => cases hi2
    | list u => cases hi3
    | tup ts => exact absurd rfl (hnt2 ts)
    | op k => rw [vals_eq]; exact hd
theorem ok__law_values (F : Fun K "_law_values" "_law_values" s__law_values f fd) (kp : PySem.W.keepIn K (.ref f) = true) (mf : mg "_law_values" = some (.ref f)) (bd : Binds K fd ["ty", "depth"] []) : ∀ k, FnOk P w K mg base CX0 (k + 1) f fd ["ty", "depth"] (spVals k)
  | 0 => step__law_values F 0 ⟨⟨f, fd, fn_false, kp, mf, bd⟩⟩
  | n + 1 => step__law_values F (n + 1) ⟨⟨f, fd, ok__law_values F kp mf bd n, kp, mf, bd⟩⟩
theorem ok__law_pattern (F : Fun K "_law_pattern" "_law_pattern" s__law_pattern f fd) (m_tuple : mg "tuple" = none) (m_str : mg "str" = none) (m_len : mg "len" = none) (d__law_take : Dfn P w K mg base "_law_take" 2 ["d", "many"] spTake)
    (kp : PySem.W.keepIn K (.ref f) = true) (mf : mg "_law_pattern" = some (.ref f)) (bd : Binds K fd ["d", "ty", "depth", "names"] []) : ∀ n, FnOk P w K mg base CX0 (n + 3) f fd ["d", "ty", "depth", "names"] (spPat n)
  | 0 => step__law_pattern F m_tuple m_str m_len d__law_take 0 ⟨⟨f, fd, fn_false, kp, mf, bd⟩⟩
  | n + 1 => step__law_pattern F m_tuple m_str m_len d__law_take (n + 1) ⟨⟨f, fd, ok__law_pattern F m_tuple m_str m_len d__law_take kp mf bd n, kp, mf, bd⟩⟩
end
end G

namespace G
open PySem L2 Evl
open M
theorem deps_take (n : Nat) : ∀ (f : List Pat) (k : Nat), deps f ≤ n → deps (f.take k) ≤ n ∧ deps (f.drop k) ≤ n
  | f, 0, h => ⟨by simp [deps], by simpa using h⟩
  | [], k + 1, h => ⟨by simp [deps], by simp [deps]⟩
  | p :: f, k + 1, h => by
    simp only [deps] at h
    obtain ⟨h1, h2⟩ := deps_take n f k (by omega)
    refine ⟨?_, by simpa using h2⟩
    rw [List.take_succ_cons]
    simp only [deps]
    omega
theorem deps_anys : ∀ ts : List Ty, deps (ts.map fun _ => Pat.any) = 0
  | [] => rfl
  | t :: ts => by simp [deps, dep, deps_anys ts]
theorem dep_shown {h : Hd} {ps : List Pat} {n : Nat} (hp : deps ps ≤ n) : dep (shown h ps) ≤ n + 1 := by
  cases h with
  | tup => simp only [shown, dep]; omega
  | cons =>
    simp only [shown, dep]
    cases ps with
    | nil => simp [hdP, dep]
    | cons p ps =>
      simp only [deps] at hp
      simp only [hdP]
      omega
  | nil => simp [shown, dep]
  | int i => simp [shown, dep]
  | str s => simp [shown, dep]
theorem leftOut_dep : ∀ (n : Nat) (tys : List Ty) (rows : List (List Pat)) (f : List Pat), leftOut n tys rows = some f → deps f ≤ n
  | 0, _, _, _, h => by simp [leftOut] at h
  | n + 1, tys, [], f, h => by
    have h : some (tys.map fun _ => Pat.any) = some f := h
    cases h
    rw [deps_anys]
    omega
  | n + 1, [], _ :: _, f, h => by simp [leftOut] at h
  | n + 1, t :: tys, r0 :: rs, f, h => by
    have any1 : ∀ x, leftOut n tys (restRows (r0 :: rs)) = some x → deps (Pat.any :: x) ≤ n + 1 := fun x hx => by
      have := leftOut_dep n _ _ _ hx
      simp only [deps, dep]
      omega
    rw [leftOut_step (by simp)] at h
    split at h
    · obtain ⟨x, hx, rfl⟩ := Option.map_eq_some_iff.mp h
      exact any1 x hx
    · split at h
      · obtain ⟨x, hx, rfl⟩ := Option.map_eq_some_iff.mp h
        exact any1 x hx
      · split at h
        · rename_i x hx
          cases h
          split at hx
          · cases hx
          · rename_i c us _
            obtain ⟨y, hy, rfl⟩ := Option.map_eq_some_iff.mp hx
            have h1 := leftOut_dep n _ _ _ hy
            have h2 := dep_shown (h := c.1) (n := 0) (Nat.le_of_eq (deps_anys c.2))
            simp only [deps]
            omega
        · obtain ⟨c, hc, e⟩ := List.exists_of_findSome?_eq_some h
          obtain ⟨y, hy, rfl⟩ := Option.map_eq_some_iff.mp e
          have h1 := leftOut_dep n _ _ _ hy
          obtain ⟨h2, h3⟩ := deps_take n y c.2.length h1
          have h4 := dep_shown (h := c.1) h2
          simp only [cutFound, deps]
          omega
theorem vt_tup {v : Val} {ts : List Ty} (h : vt v (.tup ts) = true) : ∃ vs, v = .tup vs ∧ vts vs ts = true := by
  cases v <;> simp [vt] at h
  exact ⟨_, rfl, h⟩
theorem vt_list {v : Val} {u : Ty} (h : vt v (.list u) = true) : v = .nil ∨ ∃ x, v = .cons x ∧ vt x (.tup [u, .list u]) = true := by
  cases v <;> simp [vt] at h
  · exact .inl rfl
  · exact .inr ⟨_, rfl, h⟩
theorem vt_int {v : Val} (h : vt v .int = true) : ∃ j, v = .int j := by
  cases v <;> simp [vt] at h
  exact ⟨_, rfl⟩
theorem vt_str {v : Val} (h : vt v .str = true) : ∃ j, v = .str j := by
  cases v <;> simp [vt] at h
  exact ⟨_, rfl⟩
theorem wt_tup {ps : List Pat} {t : Ty} (h : wt (.tup ps) t = true) : ∃ ts, t = .tup ts ∧ wts ps ts = true := by
  cases t <;> simp [wt] at h
  exact ⟨_, rfl, h⟩
theorem wt_nil {t : Ty} (h : wt .nil t = true) : ∃ u, t = .list u := by
  cases t <;> simp [wt] at h
  exact ⟨_, rfl⟩
theorem wt_cons {p : Pat} {t : Ty} (h : wt (.cons p) t = true) : ∃ u, t = .list u ∧ wt p (.tup [u, .list u]) = true := by
  cases t <;> simp [wt] at h
  exact ⟨_, rfl, h⟩
theorem wt_pint {i : Int} {t : Ty} (h : wt (.pint i) t = true) : t = .int := by
  cases t <;> simp [wt] at h
  rfl
theorem wt_pstr {i : Str} {t : Ty} (h : wt (.pstr i) t = true) : t = .str := by
  cases t <;> simp [wt] at h
  rfl
theorem fitss_range : ∀ (ps : List Pat) (vs : List Val), ps.length = vs.length → fitss ps vs = (List.range ps.length).all fun k => fits (ps.getD k .any) (vs.getD k .other)
  | [], [], _ => rfl
  | [], _ :: _, h => by simp at h
  | _ :: _, [], h => by simp at h
  | p :: ps, v :: vs, h => by
    rw [List.length_cons, List.range_succ_eq_map, List.all_cons, List.all_map]
    simp only [fitss]
    rw [fitss_range ps vs (by simpa using h)]
    rfl
theorem standss_range : ∀ (ps : List Pat) (vs : List Val), ps.length = vs.length → standss ps vs = (List.range vs.length).all fun k => stands (ps.getD k .any) (vs.getD k .other)
  | [], [], _ => rfl
  | [], _ :: _, h => by simp at h
  | _ :: _, [], h => by simp at h
  | p :: ps, v :: vs, h => by
    rw [List.length_cons, List.range_succ_eq_map, List.all_cons, List.all_map]
    simp only [standss]
    rw [standss_range ps vs (by simpa using h)]
    rfl
theorem wts_get : ∀ {ps : List Pat} {ts : List Ty} {vs : List Val} (k : Nat), wts ps ts = true → vts vs ts = true → slims ts = true → k < ps.length → ∃ p v t, ps[k]? = some p ∧ vs[k]? = some v ∧ wt p t = true ∧ vt v t = true ∧ slim t = true ∧ dep p ≤ deps ps ∧ (plains ps = true → plain p = true)
  | [], _, _, _, _, _, _, h => by simp at h
  | p :: ps, [], _, _, h, _, _, _ => by simp [wts] at h
  | p :: ps, t :: ts, [], _, _, h, _, _ => by simp [vts] at h
  | p :: ps, t :: ts, v :: vs, k, h1, h2, h3, h4 => by
    simp only [wts, vts, slims, Bool.and_eq_true] at h1 h2 h3
    cases k with
    | zero => exact ⟨p, v, t, rfl, rfl, h1.1, h2.1, h3.1, by simp only [deps]; omega, fun z => by simp only [plains, Bool.and_eq_true] at z; exact z.1⟩
    | succ k =>
      obtain ⟨p', v', t', e1, e2, e3, e4, e5, e6, e7⟩ := wts_get (vs := vs) k h1.2 h2.2 h3.2 (by simpa using h4)
      exact ⟨p', v', t', by simpa using e1, by simpa using e2, e3, e4, e5, by simp only [deps]; omega, fun z => by simp only [plains, Bool.and_eq_true] at z; exact e7 z.2⟩
section
variable {P : Program} {w : World} {K : PySem.W.Frag} {mg : Str → Option Value} {base : Heap} {f : Addr} {fd : FuncData} {σ : L2.St} {G H : Hp} {ta tb te ti : TE} {D : Ends} {tz : TS} {g : TG}
/-- a comprehension over a range -/
theorem ev_lcR {n : Nat} {vs : List Nat} (f : Nat → PyData) (h : EvD ta σ G H (.int (n : Int))) (hl : n ≤ 1000) (k : ∀ i, i < n → ∀ G1 H1, Go G H G1 H1 → ∃ σ2, (∀ R : L2.St → Hp → Prop, R σ2 H1 → g (.int (i : Int)) (wipe σ vs) H1 R) ∧ wipe σ2 vs = wipe σ vs ∧ EvD te σ2 G1 H1 (f i)) :
    EvD (tLc (iRng1 (tCons ta tNil)) g tYes te vs) σ G H (.list ((List.range n).map f)) := fun G0 H0 a0 Q q => h G0 H0 a0 _ fun x G1 H1 a hx => by
  cases hx
  refine ⟨(n : Int), rfl, by omega, by omega, fun Dl hD => ?_⟩
  rw [Int.toNat_natCast]
  refine lc_range (fun i h => ∃ G2, Go G1 H1 G2 h ∧ G2 Dl = none ∧ ∃ acc, h Dl = some (.lst acc) ∧ Dats G2 acc ((List.range i).map f)) ⟨G1, Go.born a.gh hD, gnone a.gh hD, [], upd_same, .nil⟩ (fun i h hi ⟨G2, p, n2, acc, ha, hda⟩ => ?_) fun h ⟨G2, p, n2, acc, ha, hda⟩ => ?_
  · obtain ⟨σ2, hg, hw, he⟩ := k i hi G2 h ((a0.trans a).trans p)
    rw [Int.zero_add]
    refine hg _ ⟨hw, yes_of ?_⟩
    rw [if_pos rfl]
    refine he G2 h (Go.refl p.gh) _ fun y G4 H4 bb hy => ?_
    refine ⟨acc, bb.lst ha, ?_, G4, (p.trans bb).mut hD (bb.out n2 ha), bb.out n2 ha, _, upd_same, ?_⟩
    · rw [hda.len, List.length_map, List.length_range]
      exact Nat.lt_of_le_of_lt (by omega) (show 1000 < sizeLine by decide)
    · rw [List.range_succ, List.map_append]
      exact (hda.m bb.g).snoc hy
  · refine q _ _ _ (a.trans (p.freeze hD n2 ha)) (Dat.lst upd_same (hda.m ?_))
    intro b u z
    rw [upd_ne (ne_of_none z n2)]
    exact z
theorem bools_dats {G : Hp} : ∀ {bs : List Bool} {xs : List V}, Dats G xs (bs.map PyData.bool) → xs = bs.map V.bl
  | [], _, h => by cases h; rfl
  | b :: bs, _, h => by
    cases h with
    | cons h1 h2 =>
      cases h1
      rw [bools_dats h2]
      rfl
theorem ev_all {bs : List Bool} (h : EvD ta σ G H (.list (bs.map PyData.bool))) : EvD (tCB (rAll K) (tCons ta tNil)) σ G H (.bool (bs.all id)) := ev_cb (ea_cons h ea_nil) fun vs G1 H1 a hv Q q => by
  cases hv with
  | cons h1 h2 =>
    cases h2
    cases h1 with
    | lst e1 e2 =>
      rw [bools_dats e2] at e1
      exact ⟨_, bs, rfl, sq_of (a.gh _ _ e1), q _ G1 H1 (Go.refl a.gh) (.bl _)⟩
theorem ev_isT {ds : List PyData} (h : EvD ta σ G H (.tuple ds)) : EvD (tCB (rIsi K) (tCons ta (tCons (tC (.ty "tuple")) tNil))) σ G H (.bool true) := ev_cb (ea_cons h (ea_cons (s := .val (.ty "tuple")) (ev_c fun _ => rfl) ea_nil)) fun vs G1 H1 a hv Q q => by
  cases hv with
  | cons h1 h2 =>
    cases h2 with
    | cons h2 h3 =>
    cases h3
    cases h2
    cases h1 with
    | tup e1 e2 => exact ⟨_, _, _, _, true, rfl, .ty "tuple", .base (.tup (a.gh _ _ e1)), kit_ty rfl, q _ G1 H1 (Go.refl a.gh) (.bl _)⟩
theorem ev_isTrue {b : Bool} (h : EvD ta σ G H (.bool b)) : EvD (tOp rIsB ta (tC (.bl true))) σ G H (.bool b) := ev_op h ev_bl fun x y G1 H1 a hx hy Q q => by
  cases hx
  cases hy
  refine ⟨b, true, rfl, rfl, ?_⟩
  have e : decide (b = true) = b := by cases b <;> rfl
  rw [e]
  exact q _ G1 H1 (Go.refl a.gh) (.bl _)
theorem ev_neB {a b : Bool} (h1 : EvD ta σ G H (.bool a)) (h2 : EvD tb σ G H (.bool b)) : EvD (tOp rNe ta tb) σ G H (.bool (a != b)) := ev_op h1 h2 fun x y G1 H1 z hx hy Q q => by
  cases hx
  cases hy
  refine ⟨rfl, ?_⟩
  have e : (!decide (V.bl a = V.bl b)) = (a != b) := by cases a <;> cases b <;> rfl
  rw [e]
  exact q _ G1 H1 (Go.refl z.gh) (.bl _)
theorem ev_neI {i j : Int} (h1 : EvD ta σ G H (.int i)) (h2 : EvD tb σ G H (.int j)) : EvD (tOp rNe ta tb) σ G H (.bool (!decide (i = j))) := ev_is (ev_neF h1 h2 rfl rfl) (by simp [PyData.eqv, Bool.beq_eq_decide_eq])
theorem ev_eqS {x y : Str} (h1 : EvD ta σ G H (.str x)) (h2 : EvD tb σ G H (.str y)) : EvD (tOp rEq ta tb) σ G H (.bool (decide (x = y))) := ev_is (ev_eqF h1 h2 rfl rfl) (by simp [PyData.eqv, Bool.beq_eq_decide_eq])
theorem ev_neS {x y : Str} (h1 : EvD ta σ G H (.str x)) (h2 : EvD tb σ G H (.str y)) : EvD (tOp rNe ta tb) σ G H (.bool (!decide (x = y))) := ev_is (ev_neF h1 h2 rfl rfl) (by simp [PyData.eqv, Bool.beq_eq_decide_eq])
theorem eb_open2 {p : Pat} {pv : V} {i : Nat} (hv : σ[i]? = some (some pv)) (hd : Dat G pv p.d) : EvB (tTest (tOp (rInD K) (tOp (rIxA K) (tVar i) (tC (.int 0))) (tLst (tCons (tC (.str "any")) (tCons (tC (.str "name")) tNil))))) σ G H p.isOpen := by
  cases p <;> exact eb_is (eb_test (ev_inD (ds := [.str "any", .str "name"]) (ev_it (ev_var hv hd) ev_int rfl) (ev_lst (ds := [.str "any", .str "name"]) (ea_cons ev_str (ea_cons ev_str ea_nil)) (by simp)) (by decide +kernel) (by decide +kernel))) (by first | rfl | decide +kernel)
abbrev s__law_fits : Stmt := topS 27
theorem sc__law_fits : FnScope ["pattern", "value", "k"] ["pattern", "value"] (defScope s__law_fits) := ⟨rfl, rfl, rfl, by decide +kernel, rfl, by decide +kernel, by decide +kernel⟩
abbrev spFits (k : Nat) : Sp := Pu (fun a : Pat × Val => [a.1.d, a.2.d]) (fun a => (∃ t, wt a.1 t = true ∧ vt a.2 t = true ∧ slim t = true) ∧ dep a.1 < k) fun a => .bool (fits a.1 a.2)
def spFitsP : Nat → Sp
  | 0 => fun _ _ _ _ => False
  | n + 1 => spFits n
theorem step__law_fits (F : Fun K "_law_fits" "_law_fits" s__law_fits f fd) (m_all : mg "all" = none) (m_range : mg "range" = none) (m_len : mg "len" = none) (k : Nat) (d__law_fits : Dfn P w K mg base "_law_fits" k ["pattern", "value"] (spFitsP k)) : FnOk P w K mg base CX0 (k + 1) f fd ["pattern", "value"] (spFits k) := by
  refine F.ok sc__law_fits (fun vs H Q E h => len1 (fun _ => rfl) h) (fun cdv A outer s H vs Q E hr h => ?_)
  have hu := hu_in hr
  obtain ⟨G, ⟨p, v⟩, e, hv, ⟨⟨t, hw, hvt, hsl⟩, hk⟩, q⟩ := h
  simp only at hw hvt hk q
  obtain ⟨k, rfl⟩ : ∃ j, k = j + 1 := ⟨k - 1, by omega⟩
  cases hv with
  | cons h1 h2 =>
  cases h2 with
  | cons h2 h3 =>
  cases h3
  rename_i xp xv
  simp only at h1 h2
  refine ⟨_, (pss_cons (ps_if (pt_cmpR (inK K hu) (pe_ix (ixK K) (pv 0) pe_int (fun _ _ => rfl)) (pe_lst (pa_cons pe_str (pa_cons pe_str pa_nil))) (by rfl)) (pss_one (ps_ret pe_bl)) pss_nil)
      (pss_cons (ps_if (pt_cmpR op_eq (pe_ix (ixK K) (pv 0) pe_int (fun _ _ => rfl)) pe_str (nomark _)) (pss_one (ps_ret (pe_callB (cr_all rfl) (by rfl) m_all (by decide +kernel) (pa_cons (pe_lc (own := [("k", 2)]) (by rfl) sc__law_fits.nd (pi_range1 (by rfl) m_range (pa_cons (pe_callB (lenK K) (by rfl) m_len PySem.boot_len (pa_cons (pe_ix (ixK K) (pv 0) pe_int (fun _ _ => rfl)) pa_nil)) pa_nil)) (blkOk_by (N := ["pattern", "value", "k"]) (sc := defScope s__law_fits) (by decide +kernel)) (fun _ _ _ _ _ => (pg_name (i := 2) sc__law_fits.nd rfl (.inl rfl))) (fun _ _ _ _ _ => pts_nil) (fun _ _ _ _ _ => (pe_def d__law_fits (hr.mono (by omega)) (by rfl) (pa_cons (pe_ix (ixK K) (pe_ix (ixK K) (pv 0) pe_int (fun _ _ => rfl)) (pv 2) (fun _ _ => rfl)) (pa_cons (pe_ix (ixK K) (pe_ix (ixK K) (pv 1) pe_int (fun _ _ => rfl)) (pv 2) (fun _ _ => rfl)) pa_nil))))) pa_nil)))) pss_nil)
      (pss_cons (ps_if (pt_cmpR op_eq (pe_ix (ixK K) (pv 0) pe_int (fun _ _ => rfl)) pe_str (nomark _)) (pss_cons (ps_if (pt_cmpR op_ne (pe_ix (ixK K) (pe_ix (ixK K) (pv 0) pe_int (fun _ _ => rfl)) pe_int (fun _ _ => rfl)) (pe_ix (ixK K) (pv 1) pe_int (fun _ _ => rfl)) (nomark _)) (pss_one (ps_ret pe_bl)) pss_nil)
      (pss_one (ps_ret (pe_or (pe_cmp (pc_isN (pe_ix (ixK K) (pv 0) pe_int (fun _ _ => rfl)))) (pe_one (pe_def d__law_fits (hr.mono (by omega)) (by rfl) (pa_cons (pe_ix (ixK K) (pv 0) pe_int (fun _ _ => rfl)) (pa_cons (pe_ix (ixK K) (pv 1) pe_int (fun _ _ => rfl)) pa_nil)))))))) pss_nil)
      (pss_one (ps_ret (pe_and (pe_cmpR op_ne (pe_ix (ixK K) (pv 1) pe_int (fun _ _ => rfl)) pe_str (nomark _)) (pe_one (pe_cmpR op_eq (pe_ix (ixK K) (pv 0) pe_int (fun _ _ => rfl)) (pe_ix (ixK K) (pv 1) pe_int (fun _ _ => rfl)) (nomark _))))))))), ?_⟩
  refine q_when (b := p.isOpen) e (eb_open2 rfl h1) (fun ho G1 H1 a => ?_) (fun ho G1 H1 a => ?_)
  · exact s_ret a.gh ev_bl fun v2 G2 H2 b hd => q v2 G2 H2 (a.trans b) (by rw [fits_open ho]; exact hd)
  have h1 := Dat.m h1 a.g
  have h2 := Dat.m h2 a.g
  cases p with
  | any => cases ho
  | name s => cases ho
  | tup ps =>
    obtain ⟨ts, rfl, hw⟩ := wt_tup hw
    obtain ⟨vs, rfl, hvt⟩ := vt_tup hvt
    have hl := wts_len hw
    have hl2 := vts_len hvt
    have hsl2 : ts.length ≤ 3 ∧ slims ts = true := by simpa [slim] using hsl
    simp only [dep] at hk
    refine q_when (b := true) a.gh (eb_key (ev_var rfl h1) rfl) (fun _ G2 H2 b => ?_) (fun z => nomatch z)
    have h1 := Dat.m h1 b.g
    have h2 := Dat.m h2 b.g
    refine s_ret (s := .dat (.bool (((List.range ps.length).map fun k => fits (ps.getD k .any) (vs.getD k .other)).all id))) b.gh (ev_all (ev_is (ev_lcR (n := ps.length) (fun k => .bool (fits (ps.getD k .any) (vs.getD k .other))) (ev_is (ev_lenT (ds := Pat.ds ps) (ev_it (ds := [.str "ptuple", .tuple (Pat.ds ps)]) (ev_var rfl h1) ev_int at1)) (by rw [ds_len])) (by omega) fun i hi G3 H3 c => by
      obtain ⟨p', v', t', e1, e2, e3, e4, e5, e6, _⟩ := wts_get i hw hvt hsl2.2 hi
      refine ⟨_, fun R z => z, rfl, ?_⟩
      have g1 : ps.getD i .any = p' := by rw [List.getD_eq_getElem?_getD, e1]; rfl
      have g2 : vs.getD i .other = v' := by rw [List.getD_eq_getElem?_getD, e2]; rfl
      rw [g1, g2]
      exact ev_def (res := fun a : Pat × Val => .bool (fits a.1 a.2)) (p', v') (ea_cons (ev_it (ds := Pat.ds ps) (ev_it (ds := [.str "ptuple", .tuple (Pat.ds ps)]) (ev_var rfl (Dat.m h1 c.g)) ev_int at1) (ev_var rfl (.int (i : Int))) (atI_nat (by rw [Pat.ds_map, List.getElem?_map, e1]; rfl))) (ea_cons (ev_it (ds := Val.ds vs) (ev_it (ds := [.str "tuple", .tuple (Val.ds vs)]) (ev_var rfl (Dat.m h2 c.g)) ev_int at1) (ev_var rfl (.int (i : Int))) (atI_nat (by rw [Val.ds_map, List.getElem?_map, e2]; rfl))) ea_nil)) ⟨⟨t', e3, e4, e5⟩, by show dep p' < k; omega⟩) (by rw [List.map_map]; rfl))) fun v3 G3 H3 c hd => q v3 G3 H3 ((a.trans b).trans c) ?_
    have e1 : fits (.tup ps) (.tup vs) = fitss ps vs := rfl
    rw [e1, fitss_range ps vs (by omega)]
    rw [List.all_map] at hd
    exact hd
  | nil =>
    obtain ⟨u, rfl⟩ := wt_nil hw
    refine q_when (b := false) a.gh (eb_key (ev_var rfl h1) rfl) (fun z => nomatch z) (fun _ G2 H2 b => ?_)
    have h1 := Dat.m h1 b.g
    have h2 := Dat.m h2 b.g
    refine q_when (b := true) b.gh (eb_key (ev_var rfl h1) rfl) (fun _ G3 H3 c => ?_) (fun z => nomatch z)
    have h1 := Dat.m h1 c.g
    have h2 := Dat.m h2 c.g
    rcases vt_list hvt with rfl | ⟨v', rfl, hvt⟩
    · refine q_when (b := false) c.gh (eb_is (eb_test (ev_neS (x := "Nil") (y := "Nil") (ev_it (ds := [.str "Nil"]) (ev_it (ds := [.str "pcon", .tuple [.str "Nil"], .none]) (ev_var rfl h1) ev_int at1) ev_int at0) (ev_it (ds := [.str "con", .str "Nil", .none]) (ev_var rfl h2) ev_int at1))) (by decide +kernel)) (fun z => nomatch z) (fun _ G4 H4 d => ?_)
      exact s_ret (s := .dat (.bool (true || false))) d.gh (ev_orV (ev_isNb (d := .none) (ev_it (ds := [.str "pcon", .tuple [.str "Nil"], .none]) (ev_var rfl (Dat.m h1 d.g)) ev_int (atI_nat (j := 2) rfl)) rfl) fun z => nomatch z) fun v5 G5 H5 d2 hd => q v5 G5 H5 ((((a.trans b).trans c).trans d).trans d2) hd
    · refine q_when (b := true) c.gh (eb_is (eb_test (ev_neS (x := "Nil") (y := "Cons") (ev_it (ds := [.str "Nil"]) (ev_it (ds := [.str "pcon", .tuple [.str "Nil"], .none]) (ev_var rfl h1) ev_int at1) ev_int at0) (ev_it (ds := [.str "con", .str "Cons", v'.d]) (ev_var rfl h2) ev_int at1))) (by decide +kernel)) (fun _ G4 H4 d => ?_) (fun z => nomatch z)
      exact s_ret d.gh ev_bl fun v5 G5 H5 d2 hd => q v5 G5 H5 ((((a.trans b).trans c).trans d).trans d2) hd
  | cons p' =>
    obtain ⟨u, rfl, hw⟩ := wt_cons hw
    simp only [dep] at hk
    refine q_when (b := false) a.gh (eb_key (ev_var rfl h1) rfl) (fun z => nomatch z) (fun _ G2 H2 b => ?_)
    have h1 := Dat.m h1 b.g
    have h2 := Dat.m h2 b.g
    refine q_when (b := true) b.gh (eb_key (ev_var rfl h1) rfl) (fun _ G3 H3 c => ?_) (fun z => nomatch z)
    have h1 := Dat.m h1 c.g
    have h2 := Dat.m h2 c.g
    rcases vt_list hvt with rfl | ⟨v', rfl, hvt⟩
    · refine q_when (b := true) c.gh (eb_is (eb_test (ev_neS (x := "Cons") (y := "Nil") (ev_it (ds := [.str "Cons"]) (ev_it (ds := [.str "pcon", .tuple [.str "Cons"], p'.d]) (ev_var rfl h1) ev_int at1) ev_int at0) (ev_it (ds := [.str "con", .str "Nil", .none]) (ev_var rfl h2) ev_int at1))) (by decide +kernel)) (fun _ G4 H4 d => ?_) (fun z => nomatch z)
      exact s_ret d.gh ev_bl fun v5 G5 H5 d2 hd => q v5 G5 H5 ((((a.trans b).trans c).trans d).trans d2) hd
    · refine q_when (b := false) c.gh (eb_is (eb_test (ev_neS (x := "Cons") (y := "Cons") (ev_it (ds := [.str "Cons"]) (ev_it (ds := [.str "pcon", .tuple [.str "Cons"], p'.d]) (ev_var rfl h1) ev_int at1) ev_int at0) (ev_it (ds := [.str "con", .str "Cons", v'.d]) (ev_var rfl h2) ev_int at1))) (by decide +kernel)) (fun z => nomatch z) (fun _ G4 H4 d => ?_)
      have h1 := Dat.m h1 d.g
      have h2 := Dat.m h2 d.g
      exact s_ret (s := .dat (.bool (false || fits p' v'))) d.gh (ev_orV (ev_isNb (d := p'.d) (ev_it (ds := [.str "pcon", .tuple [.str "Cons"], p'.d]) (ev_var rfl h1) ev_int (atI_nat (j := 2) rfl)) (no_pat p')) fun _ => ev_def (res := fun a : Pat × Val => .bool (fits a.1 a.2)) (p', v') (ea_cons (ev_it (ds := [.str "pcon", .tuple [.str "Cons"], p'.d]) (ev_var rfl h1) ev_int (atI_nat (j := 2) rfl)) (ea_cons (ev_it (ds := [.str "con", .str "Cons", v'.d]) (ev_var rfl h2) ev_int (atI_nat (j := 2) rfl)) ea_nil)) ⟨⟨.tup [u, .list u], hw, hvt, by simpa [slim, slims] using hsl⟩, by show dep p' < k; omega⟩) fun v5 G5 H5 d2 hd => q v5 G5 H5 ((((a.trans b).trans c).trans d).trans d2) hd
  | pint i =>
    obtain rfl := wt_pint hw
    obtain ⟨j, rfl⟩ := vt_int hvt
    refine q_when (b := false) a.gh (eb_key (ev_var rfl h1) rfl) (fun z => nomatch z) (fun _ G2 H2 b => ?_)
    have h1 := Dat.m h1 b.g
    have h2 := Dat.m h2 b.g
    refine q_when (b := false) b.gh (eb_key (ev_var rfl h1) rfl) (fun z => nomatch z) (fun _ G3 H3 c => ?_)
    have h1 := Dat.m h1 c.g
    have h2 := Dat.m h2 c.g
    exact s_ret (s := .dat (.bool (true && decide (i = j)))) c.gh (ev_andV (ev_nkey (b := false) (ev_var rfl h2) rfl) fun _ => ev_eqI (ev_it (ds := [.str "pint", .int i]) (ev_var rfl h1) ev_int at1) (ev_it (ds := [.str "int", .int j]) (ev_var rfl h2) ev_int at1)) fun v4 G4 H4 d hd => q v4 G4 H4 (((a.trans b).trans c).trans d) hd
  | pstr x =>
    obtain rfl := wt_pstr hw
    obtain ⟨y, rfl⟩ := vt_str hvt
    refine q_when (b := false) a.gh (eb_key (ev_var rfl h1) rfl) (fun z => nomatch z) (fun _ G2 H2 b => ?_)
    have h1 := Dat.m h1 b.g
    have h2 := Dat.m h2 b.g
    refine q_when (b := false) b.gh (eb_key (ev_var rfl h1) rfl) (fun z => nomatch z) (fun _ G3 H3 c => ?_)
    have h1 := Dat.m h1 c.g
    have h2 := Dat.m h2 c.g
    exact s_ret (s := .dat (.bool (true && decide (x = y)))) c.gh (ev_andV (ev_nkey (b := false) (ev_var rfl h2) rfl) fun _ => ev_eqS (ev_it (ds := [.str "pstring", .str x]) (ev_var rfl h1) ev_int at1) (ev_it (ds := [.str "string", .str y]) (ev_var rfl h2) ev_int at1)) fun v4 G4 H4 d hd => q v4 G4 H4 (((a.trans b).trans c).trans d) hd
theorem ok__law_fits (F : Fun K "_law_fits" "_law_fits" s__law_fits f fd) (m_all : mg "all" = none) (m_range : mg "range" = none) (m_len : mg "len" = none) (kp : PySem.W.keepIn K (.ref f) = true) (mf : mg "_law_fits" = some (.ref f)) (bd : Binds K fd ["pattern", "value"] []) : ∀ k, FnOk P w K mg base CX0 (k + 1) f fd ["pattern", "value"] (spFits k)
  | 0 => step__law_fits F m_all m_range m_len 0 ⟨⟨f, fd, fn_false, kp, mf, bd⟩⟩
  | n + 1 => step__law_fits F m_all m_range m_len (n + 1) ⟨⟨f, fd, ok__law_fits F m_all m_range m_len kp mf bd n, kp, mf, bd⟩⟩
end
end G

namespace G
open PySem L2 Evl
open M
section
variable {P : Program} {w : World} {K : PySem.W.Frag} {mg : Str → Option Value} {base : Heap} {f : Addr} {fd : FuncData} {σ : L2.St} {G H : Hp} {ta tb te ti : TE} {D : Ends} {tz : TS} {g : TG}
theorem eb_nkey {s k : Str} {r : List PyData} (h : EvD ta σ G H (.tuple (.str s :: r))) {b : Bool} (e : (s == k) = b) : EvB (tTest (tOp rNe (tOp (rIxA K) ta (tC (.int 0))) (tC (.str k)))) σ G H (!b) := eb_test (ev_nkey h e)
abbrev s__law_stands : Stmt := topS 28
theorem sc__law_stands : FnScope ["pattern", "value", "k"] ["pattern", "value"] (defScope s__law_stands) := ⟨rfl, rfl, rfl, by decide +kernel, rfl, by decide +kernel, by decide +kernel⟩
abbrev spStands (k : Nat) : Sp := Pu (fun a : Pat × Val => [a.1.d, a.2.d]) (fun a => (∃ t, wt a.1 t = true ∧ vt a.2 t = true ∧ slim t = true) ∧ dep a.1 < k ∧ plain a.1 = true) fun a => .bool (stands a.1 a.2)
def spStandsP : Nat → Sp
  | 0 => fun _ _ _ _ => False
  | n + 1 => spStands n
theorem step__law_stands (F : Fun K "_law_stands" "_law_stands" s__law_stands f fd) (m_isinstance : mg "isinstance" = none) (m_tuple : mg "tuple" = none) (m_all : mg "all" = none) (m_range : mg "range" = none) (m_len : mg "len" = none) (k : Nat) (d__law_stands : Dfn P w K mg base "_law_stands" k ["pattern", "value"] (spStandsP k)) : FnOk P w K mg base CX0 (k + 1) f fd ["pattern", "value"] (spStands k) := by
  refine F.ok sc__law_stands (fun vs H Q E h => len1 (fun _ => rfl) h) (fun cdv A outer s H vs Q E hr h => ?_)
  have hu := hu_in hr
  obtain ⟨G, ⟨p, v⟩, e, hv, ⟨⟨t, hw, hvt, hsl⟩, hk, hpl⟩, q⟩ := h
  simp only at hw hvt hk hpl q
  obtain ⟨k, rfl⟩ : ∃ j, k = j + 1 := ⟨k - 1, by omega⟩
  cases hv with
  | cons h1 h2 =>
  cases h2 with
  | cons h2 h3 =>
  cases h3
  rename_i xp xv
  simp only at h1 h2
  refine ⟨_, (pss_cons (ps_if (PW.pt (pw_or (pt_not (pt_val (pe_callB call_isi (by rfl) m_isinstance (by decide +kernel) (pa_cons (pv 0) (pa_cons (pe_bltn (v := .ty "tuple") (u := .type "tuple") (by rfl) m_tuple (by decide +kernel) rfl) pa_nil))))) (pw_or1 (pt_not (ptTru K (pv 0)))))) (pss_one (ps_ret pe_non)) pss_nil)
      (pss_cons (ps_if (pt_cmpR op_eq (pe_ix (ixK K) (pv 0) pe_int (fun _ _ => rfl)) pe_str (nomark _)) (pss_one (ps_ret pe_bl)) pss_nil)
      (pss_cons (ps_if (pt_cmpR op_eq (pe_ix (ixK K) (pv 0) pe_int (fun _ _ => rfl)) pe_str (nomark _)) (pss_cons (ps_if (PW.pt (pw_or (pt_cmpR op_ne (pe_ix (ixK K) (pv 1) pe_int (fun _ _ => rfl)) pe_str (nomark _)) (pw_or1 (pt_cmpR op_ne (pe_callB (lenK K) (by rfl) m_len PySem.boot_len (pa_cons (pe_ix (ixK K) (pv 0) pe_int (fun _ _ => rfl)) pa_nil)) (pe_callB (lenK K) (by rfl) m_len PySem.boot_len (pa_cons (pe_ix (ixK K) (pv 1) pe_int (fun _ _ => rfl)) pa_nil)) (nomark _))))) (pss_one (ps_ret pe_bl)) pss_nil)
      (pss_one (ps_ret (pe_callB (cr_all rfl) (by rfl) m_all (by decide +kernel) (pa_cons (pe_lc (own := [("k", 2)]) (by rfl) sc__law_stands.nd (pi_range1 (by rfl) m_range (pa_cons (pe_callB (lenK K) (by rfl) m_len PySem.boot_len (pa_cons (pe_ix (ixK K) (pv 1) pe_int (fun _ _ => rfl)) pa_nil)) pa_nil)) (blkOk_by (N := ["pattern", "value", "k"]) (sc := defScope s__law_stands) (by decide +kernel)) (fun _ _ _ _ _ => (pg_name (i := 2) sc__law_stands.nd rfl (.inl rfl))) (fun _ _ _ _ _ => pts_nil) (fun _ _ _ _ _ => (pe_cmpR op_isBl (pe_def d__law_stands (hr.mono (by omega)) (by rfl) (pa_cons (pe_ix (ixK K) (pe_ix (ixK K) (pv 0) pe_int (fun _ _ => rfl)) (pv 2) (fun _ _ => rfl)) (pa_cons (pe_ix (ixK K) (pe_ix (ixK K) (pv 1) pe_int (fun _ _ => rfl)) (pv 2) (fun _ _ => rfl)) pa_nil))) pe_bl (nomark _)))) pa_nil))))) pss_nil)
      (pss_cons (ps_if (PW.pt (pw_or (pt_cmpR op_ne (pe_ix (ixK K) (pv 0) pe_int (fun _ _ => rfl)) pe_str (nomark _)) (pw_or (pt_cmpR op_ne (pe_ix (ixK K) (pv 1) pe_int (fun _ _ => rfl)) pe_str (nomark _)) (pw_or (pt_cmpR (neK K hu) (pe_ix (ixK K) (pv 0) pe_int (fun _ _ => rfl)) (pe_tup (pa_cons (pe_ix (ixK K) (pv 1) pe_int (fun _ _ => rfl)) pa_nil)) (nomark _)) (pw_or1 (pt_cmpR op_ne (pe_cmp (pc_isN (pe_ix (ixK K) (pv 0) pe_int (fun _ _ => rfl)))) (pe_cmp (pc_isN (pe_ix (ixK K) (pv 1) pe_int (fun _ _ => rfl)))) (nomark _))))))) (pss_one (ps_ret pe_bl)) pss_nil)
      (pss_one (ps_ret (pe_or (pe_cmp (pc_isN (pe_ix (ixK K) (pv 0) pe_int (fun _ _ => rfl)))) (pe_one (pe_cmpR op_isBl (pe_def d__law_stands (hr.mono (by omega)) (by rfl) (pa_cons (pe_ix (ixK K) (pv 0) pe_int (fun _ _ => rfl)) (pa_cons (pe_ix (ixK K) (pv 1) pe_int (fun _ _ => rfl)) pa_nil))) pe_bl (nomark _)))))))))), ?_⟩
  have hform : ∃ x r, p.d = .tuple (x :: r) := by cases p <;> exact ⟨_, _, rfl⟩
  obtain ⟨x0, r0, hform⟩ := hform
  have h1f := h1
  rw [hform] at h1f
  refine q_when (b := false) e (eb_is (eb_or (eb_not (eb_B (ev_isT (ev_var rfl h1f)))) fun _ => eb_not (eb_tru (b := true) (ev_var rfl h1f) rfl)) rfl) (fun z => nomatch z) (fun _ G1 H1 a => ?_)
  have h1 := Dat.m h1 a.g
  have h2 := Dat.m h2 a.g
  cases p with
  | any =>
    refine q_when (b := true) a.gh (eb_key (ev_var rfl h1) rfl) (fun _ G2 H2 b => ?_) (fun z => nomatch z)
    exact s_ret b.gh ev_bl fun v2 G3 H3 c hd => q v2 G3 H3 ((a.trans b).trans c) (by rw [show stands .any v = true by simp [stands]]; exact hd)
  | name s => cases hpl
  | pint i => cases hpl
  | pstr i => cases hpl
  | tup ps =>
    obtain ⟨ts, rfl, hw⟩ := wt_tup hw
    obtain ⟨vs, rfl, hvt⟩ := vt_tup hvt
    have hl := wts_len hw
    have hl2 := vts_len hvt
    have hsl2 : ts.length ≤ 3 ∧ slims ts = true := by simpa [slim] using hsl
    simp only [dep] at hk
    have hpl2 : plains ps = true := hpl
    refine q_when (b := false) a.gh (eb_key (ev_var rfl h1) rfl) (fun z => nomatch z) (fun _ G2 H2 b => ?_)
    have h1 := Dat.m h1 b.g
    have h2 := Dat.m h2 b.g
    refine q_when (b := true) b.gh (eb_key (ev_var rfl h1) rfl) (fun _ G3 H3 c => ?_) (fun z => nomatch z)
    have h1 := Dat.m h1 c.g
    have h2 := Dat.m h2 c.g
    refine q_when (b := false) c.gh (eb_is (eb_or (eb_nkey (b := true) (ev_var rfl h2) rfl) fun _ => eb_test (ev_neI (i := (ps.length : Int)) (j := (vs.length : Int)) (ev_is (ev_lenT (ds := Pat.ds ps) (ev_it (ds := [.str "ptuple", .tuple (Pat.ds ps)]) (ev_var rfl h1) ev_int at1)) (by rw [ds_len])) (ev_is (ev_lenT (ds := Val.ds vs) (ev_it (ds := [.str "tuple", .tuple (Val.ds vs)]) (ev_var rfl h2) ev_int at1)) (by rw [Val.ds_map, List.length_map])))) (by
      rw [decide_eq_true (by omega : (ps.length : Int) = (vs.length : Int))]
      rfl)) (fun z => nomatch z) (fun _ G4 H4 d => ?_)
    have h1 := Dat.m h1 d.g
    have h2 := Dat.m h2 d.g
    refine s_ret (s := .dat (.bool (((List.range vs.length).map fun k => stands (ps.getD k .any) (vs.getD k .other)).all id))) d.gh (ev_all (ev_is (ev_lcR (n := vs.length) (fun k => .bool (stands (ps.getD k .any) (vs.getD k .other))) (ev_is (ev_lenT (ds := Val.ds vs) (ev_it (ds := [.str "tuple", .tuple (Val.ds vs)]) (ev_var rfl h2) ev_int at1)) (by rw [Val.ds_map, List.length_map])) (by omega) fun i hi G5 H5 c5 => by
      obtain ⟨p', v', t', e1, e2, e3, e4, e5, e6, e7⟩ := wts_get i hw hvt hsl2.2 (by omega)
      refine ⟨_, fun R z => z, rfl, ?_⟩
      have g1 : ps.getD i .any = p' := by rw [List.getD_eq_getElem?_getD, e1]; rfl
      have g2 : vs.getD i .other = v' := by rw [List.getD_eq_getElem?_getD, e2]; rfl
      rw [g1, g2]
      exact ev_isTrue (ev_def (res := fun a : Pat × Val => .bool (stands a.1 a.2)) (p', v') (ea_cons (ev_it (ds := Pat.ds ps) (ev_it (ds := [.str "ptuple", .tuple (Pat.ds ps)]) (ev_var rfl (Dat.m h1 c5.g)) ev_int at1) (ev_var rfl (.int (i : Int))) (atI_nat (by rw [Pat.ds_map, List.getElem?_map, e1]; rfl))) (ea_cons (ev_it (ds := Val.ds vs) (ev_it (ds := [.str "tuple", .tuple (Val.ds vs)]) (ev_var rfl (Dat.m h2 c5.g)) ev_int at1) (ev_var rfl (.int (i : Int))) (atI_nat (by rw [Val.ds_map, List.getElem?_map, e2]; rfl))) ea_nil)) ⟨⟨t', e3, e4, e5⟩, by show dep p' < k; omega, e7 hpl2⟩)) (by rw [List.map_map]; rfl))) fun v3 G5 H5 c5 hd => q v3 G5 H5 ((((a.trans b).trans c).trans d).trans c5) ?_
    have e1 : stands (.tup ps) (.tup vs) = standss ps vs := rfl
    rw [e1, standss_range ps vs (by omega)]
    rw [List.all_map] at hd
    exact hd
  | nil =>
    obtain ⟨u, rfl⟩ := wt_nil hw
    refine q_when (b := false) a.gh (eb_key (ev_var rfl h1) rfl) (fun z => nomatch z) (fun _ G2 H2 b => ?_)
    have h1 := Dat.m h1 b.g
    have h2 := Dat.m h2 b.g
    refine q_when (b := false) b.gh (eb_key (ev_var rfl h1) rfl) (fun z => nomatch z) (fun _ G3 H3 c => ?_)
    have h1 := Dat.m h1 c.g
    have h2 := Dat.m h2 c.g
    rcases vt_list hvt with rfl | ⟨v', rfl, hvt⟩
    · refine q_when (b := false) c.gh (eb_is (eb_or (eb_nkey (b := true) (ev_var rfl h1) rfl) fun _ => eb_or (eb_nkey (b := true) (ev_var rfl h2) rfl) fun _ => eb_or (eb_test (ev_neD (d := .tuple [.str "Nil"]) (e := .tuple [.str "Nil"]) (ev_it (ds := [.str "pcon", .tuple [.str "Nil"], .none]) (ev_var rfl h1) ev_int at1) (ev_tup (ds := [.str "Nil"]) (ea_cons (ev_it (ds := [.str "con", .str "Nil", .none]) (ev_var rfl h2) ev_int at1) ea_nil) (by simp)) (by decide +kernel) (by decide +kernel))) fun _ => eb_test (ev_neB (a := true) (b := true) (ev_isNb (d := .none) (ev_it (ds := [.str "pcon", .tuple [.str "Nil"], .none]) (ev_var rfl h1) ev_int (atI_nat (j := 2) rfl)) rfl) (ev_isNb (d := .none) (ev_it (ds := [.str "con", .str "Nil", .none]) (ev_var rfl h2) ev_int (atI_nat (j := 2) rfl)) rfl))) (by decide +kernel)) (fun z => nomatch z) (fun _ G4 H4 d => ?_)
      exact s_ret (s := .dat (.bool (true || false))) d.gh (ev_orV (ev_isNb (d := .none) (ev_it (ds := [.str "pcon", .tuple [.str "Nil"], .none]) (ev_var rfl (Dat.m h1 d.g)) ev_int (atI_nat (j := 2) rfl)) rfl) fun z => nomatch z) fun v5 G5 H5 d2 hd => q v5 G5 H5 ((((a.trans b).trans c).trans d).trans d2) hd
    · refine q_when (b := true) c.gh (eb_is (eb_or (eb_nkey (b := true) (ev_var rfl h1) rfl) fun _ => eb_or (eb_nkey (b := true) (ev_var rfl h2) rfl) fun _ => eb_or (a := true) (b := false) (eb_is (eb_test (ev_neD (d := .tuple [.str "Nil"]) (e := .tuple [.str "Cons"]) (ev_it (ds := [.str "pcon", .tuple [.str "Nil"], .none]) (ev_var rfl h1) ev_int at1) (ev_tup (ds := [.str "Cons"]) (ea_cons (ev_it (ds := [.str "con", .str "Cons", v'.d]) (ev_var rfl h2) ev_int at1) ea_nil) (by simp)) (by decide +kernel) (by decide +kernel))) (by decide +kernel)) fun z => nomatch z) (by decide +kernel)) (fun _ G4 H4 d => ?_) (fun z => nomatch z)
      exact s_ret d.gh ev_bl fun v5 G5 H5 d2 hd => q v5 G5 H5 ((((a.trans b).trans c).trans d).trans d2) hd
  | cons p' =>
    obtain ⟨u, rfl, hw⟩ := wt_cons hw
    simp only [dep] at hk
    refine q_when (b := false) a.gh (eb_key (ev_var rfl h1) rfl) (fun z => nomatch z) (fun _ G2 H2 b => ?_)
    have h1 := Dat.m h1 b.g
    have h2 := Dat.m h2 b.g
    refine q_when (b := false) b.gh (eb_key (ev_var rfl h1) rfl) (fun z => nomatch z) (fun _ G3 H3 c => ?_)
    have h1 := Dat.m h1 c.g
    have h2 := Dat.m h2 c.g
    rcases vt_list hvt with rfl | ⟨v', rfl, hvt⟩
    · refine q_when (b := true) c.gh (eb_is (eb_or (eb_nkey (b := true) (ev_var rfl h1) rfl) fun _ => eb_or (eb_nkey (b := true) (ev_var rfl h2) rfl) fun _ => eb_or (a := true) (b := false) (eb_is (eb_test (ev_neD (d := .tuple [.str "Cons"]) (e := .tuple [.str "Nil"]) (ev_it (ds := [.str "pcon", .tuple [.str "Cons"], p'.d]) (ev_var rfl h1) ev_int at1) (ev_tup (ds := [.str "Nil"]) (ea_cons (ev_it (ds := [.str "con", .str "Nil", .none]) (ev_var rfl h2) ev_int at1) ea_nil) (by simp)) (by decide +kernel) (by decide +kernel))) (by decide +kernel)) fun z => nomatch z) (by decide +kernel)) (fun _ G4 H4 d => ?_) (fun z => nomatch z)
      exact s_ret d.gh ev_bl fun v5 G5 H5 d2 hd => q v5 G5 H5 ((((a.trans b).trans c).trans d).trans d2) hd
    · have noV : isNo v'.d = false := by cases v' <;> rfl
      refine q_when (b := false) c.gh (eb_is (eb_or (eb_nkey (b := true) (ev_var rfl h1) rfl) fun _ => eb_or (eb_nkey (b := true) (ev_var rfl h2) rfl) fun _ => eb_or (eb_test (ev_neD (d := .tuple [.str "Cons"]) (e := .tuple [.str "Cons"]) (ev_it (ds := [.str "pcon", .tuple [.str "Cons"], p'.d]) (ev_var rfl h1) ev_int at1) (ev_tup (ds := [.str "Cons"]) (ea_cons (ev_it (ds := [.str "con", .str "Cons", v'.d]) (ev_var rfl h2) ev_int at1) ea_nil) (by simp)) (by decide +kernel) (by decide +kernel))) fun _ => eb_test (ev_neB (a := false) (b := false) (ev_isNb (d := p'.d) (ev_it (ds := [.str "pcon", .tuple [.str "Cons"], p'.d]) (ev_var rfl h1) ev_int (atI_nat (j := 2) rfl)) (no_pat p')) (ev_isNb (d := v'.d) (ev_it (ds := [.str "con", .str "Cons", v'.d]) (ev_var rfl h2) ev_int (atI_nat (j := 2) rfl)) noV))) (by decide +kernel)) (fun z => nomatch z) (fun _ G4 H4 d => ?_)
      have h1 := Dat.m h1 d.g
      have h2 := Dat.m h2 d.g
      exact s_ret (s := .dat (.bool (false || stands p' v'))) d.gh (ev_orV (ev_isNb (d := p'.d) (ev_it (ds := [.str "pcon", .tuple [.str "Cons"], p'.d]) (ev_var rfl h1) ev_int (atI_nat (j := 2) rfl)) (no_pat p')) fun _ => ev_isTrue (ev_def (res := fun a : Pat × Val => .bool (stands a.1 a.2)) (p', v') (ea_cons (ev_it (ds := [.str "pcon", .tuple [.str "Cons"], p'.d]) (ev_var rfl h1) ev_int (atI_nat (j := 2) rfl)) (ea_cons (ev_it (ds := [.str "con", .str "Cons", v'.d]) (ev_var rfl h2) ev_int (atI_nat (j := 2) rfl)) ea_nil)) ⟨⟨.tup [u, .list u], hw, hvt, by simpa [slim, slims] using hsl⟩, by show dep p' < k; omega, hpl⟩)) fun v5 G5 H5 d2 hd => q v5 G5 H5 ((((a.trans b).trans c).trans d).trans d2) hd
theorem ok__law_stands (F : Fun K "_law_stands" "_law_stands" s__law_stands f fd) (m_isinstance : mg "isinstance" = none) (m_tuple : mg "tuple" = none) (m_all : mg "all" = none) (m_range : mg "range" = none) (m_len : mg "len" = none) (kp : PySem.W.keepIn K (.ref f) = true) (mf : mg "_law_stands" = some (.ref f)) (bd : Binds K fd ["pattern", "value"] []) : ∀ k, FnOk P w K mg base CX0 (k + 1) f fd ["pattern", "value"] (spStands k)
  | 0 => step__law_stands F m_isinstance m_tuple m_all m_range m_len 0 ⟨⟨f, fd, fn_false, kp, mf, bd⟩⟩
  | n + 1 => step__law_stands F m_isinstance m_tuple m_all m_range m_len (n + 1) ⟨⟨f, fd, ok__law_stands F m_isinstance m_tuple m_all m_range m_len kp mf bd n, kp, mf, bd⟩⟩
end
end G

namespace G
open PySem L2 Evl
open M
/-! ### small patterns, as data -/
theorem names_fine : ∀ n : Nat, n < 28 → PyData.strOk (nameOf n) = true ∧ (nameOf n).cps.size ≤ 4 := by decide +kernel
theorem name_fine {s : Str} (h : tiny (.name s) = true) : PyData.strOk s = true ∧ s.cps.size ≤ 4 := by
  simp only [tiny] at h
  obtain ⟨n, hn, e⟩ := List.any_eq_true.mp h
  have e : s = nameOf n := by simpa using e
  rw [e]
  exact names_fine n (List.mem_range.mp hn)
theorem pint_fine {i : Int} (h : tiny (.pint i) = true) : i = 0 ∨ i = 1 := by simpa [tiny] using h
theorem pstr_fine {s : Str} (h : tiny (.pstr s) = true) : s = "" ∨ s = "a" := by simpa [tiny] using h
mutual
theorem tiny_low : ∀ p : Pat, tiny p = true → low p = true
  | .any, _ => rfl
  | .name _, _ => rfl
  | .nil, _ => rfl
  | .pint i, h => by rcases pint_fine h with rfl | rfl <;> decide
  | .pstr s, h => by rcases pstr_fine h with rfl | rfl <;> decide +kernel
  | .cons p, h => tiny_low p h
  | .tup ps, h => by
    simp only [tiny, Bool.and_eq_true] at h
    exact tinys_low ps h.2
theorem tinys_low : ∀ ps : List Pat, tinys ps = true → lows ps = true
  | [], _ => rfl
  | p :: ps, h => by
    simp only [tinys, Bool.and_eq_true] at h
    simp only [lows, tiny_low p h.1, tinys_low ps h.2, Bool.and_self]
end
mutual
theorem tiny_pok : ∀ p : Pat, tiny p = true → pok p = true
  | .any, _ => rfl
  | .name _, h => (name_fine h).1
  | .nil, _ => rfl
  | .pint i, h => rfl
  | .pstr s, h => by rcases pstr_fine h with rfl | rfl <;> decide +kernel
  | .cons p, h => tiny_pok p h
  | .tup ps, h => by
    simp only [tiny, Bool.and_eq_true] at h
    exact tinys_pok ps h.2
theorem tinys_pok : ∀ ps : List Pat, tinys ps = true → poks ps = true
  | [], _ => rfl
  | p :: ps, h => by
    simp only [tinys, Bool.and_eq_true] at h
    simp only [poks, tiny_pok p h.1, tinys_pok ps h.2, Bool.and_self]
end
mutual
theorem pat_lay : ∀ p : Pat, pok p = true → PyData.canLay0 p.d = true
  | .any, _ => by decide +kernel
  | .name s, h => by
    show PyData.canLay0 (.tuple [.str "name", .str s]) = true
    have h : PyData.strOk s = true := h
    simp only [PyData.canLay0, PyData.canLayAll0, h]
    decide +kernel
  | .nil, _ => by decide +kernel
  | .pint i, h => by
    show PyData.canLay0 (.tuple [.str "pint", .int i]) = true
    simp only [PyData.canLay0, PyData.canLayAll0]
    decide +kernel
  | .pstr s, h => by
    show PyData.canLay0 (.tuple [.str "pstring", .str s]) = true
    have h : PyData.strOk s = true := h
    simp only [PyData.canLay0, PyData.canLayAll0, h]
    decide +kernel
  | .cons p, h => by
    show PyData.canLay0 (.tuple [.str "pcon", .tuple [.str "Cons"], p.d]) = true
    simp only [PyData.canLay0, PyData.canLayAll0, pat_lay p h]
    decide +kernel
  | .tup ps, h => by
    show PyData.canLay0 (.tuple [.str "ptuple", .tuple (Pat.ds ps)]) = true
    simp only [PyData.canLay0, PyData.canLayAll0, pats_lay ps h]
    decide +kernel
theorem pats_lay : ∀ ps : List Pat, poks ps = true → PyData.canLayAll0 (Pat.ds ps) = true
  | [], _ => rfl
  | p :: ps, h => by
    simp only [poks, Bool.and_eq_true] at h
    show PyData.canLayAll0 (p.d :: Pat.ds ps) = true
    simp only [PyData.canLayAll0, pat_lay p h.1, pats_lay ps h.2, Bool.and_self]
end
mutual
theorem pat_depth : ∀ p : Pat, p.d.depth ≤ 2 * dep p + 4
  | .any => by decide
  | .name s => by simp [Pat.d, PyData.depth, PyData.depthAll]
  | .nil => by decide
  | .pint i => by simp [Pat.d, PyData.depth, PyData.depthAll]
  | .pstr s => by simp [Pat.d, PyData.depth, PyData.depthAll]
  | .cons p => by
    have h := pat_depth p
    show PyData.depth (.tuple [.str "pcon", .tuple [.str "Cons"], p.d]) ≤ _
    simp only [PyData.depth, PyData.depthAll, dep]
    omega
  | .tup ps => by
    have h := pats_depth ps
    show PyData.depth (.tuple [.str "ptuple", .tuple (Pat.ds ps)]) ≤ _
    simp only [PyData.depth, PyData.depthAll, dep]
    omega
theorem pats_depth : ∀ ps : List Pat, PyData.depthAll (Pat.ds ps) ≤ 2 * deps ps + 4
  | [] => by simp [Pat.ds, PyData.depthAll]
  | p :: ps => by
    have h1 := pat_depth p
    have h2 := pats_depth ps
    show PyData.depthAll (p.d :: Pat.ds ps) ≤ _
    simp only [PyData.depthAll, deps]
    omega
end
def wP : Nat → Nat
  | 0 => 20
  | n + 1 => 3 * (wP n + 1) + 20
theorem wP_pos : ∀ n, 20 ≤ wP n
  | 0 => Nat.le_refl _
  | n + 1 => by simp only [wP]; omega
mutual
theorem pat_weight : ∀ (p : Pat) (n : Nat), tiny p = true → dep p ≤ n → p.d.weight ≤ wP n
  | .any, n, _, _ => Nat.le_trans (by decide) (wP_pos n)
  | .name s, n, h, _ => by
    have h1 := (name_fine h).2
    have h2 := wP_pos n
    have e : PyData.weight (.str "name") = 4 := by decide +kernel
    show PyData.weight (.tuple [.str "name", .str s]) ≤ _
    rw [PyData.weight]
    simp only [PyData.weightAll, e]
    simp only [PyData.weight]
    omega
  | .nil, n, _, _ => Nat.le_trans (by decide +kernel) (wP_pos n)
  | .pint i, n, h, _ => by rcases pint_fine h with rfl | rfl <;> exact Nat.le_trans (by decide +kernel) (wP_pos n)
  | .pstr s, n, h, _ => by rcases pstr_fine h with rfl | rfl <;> exact Nat.le_trans (by decide +kernel) (wP_pos n)
  | .cons p, n, h, hd => by
    simp only [dep] at hd
    obtain ⟨m, rfl⟩ : ∃ m, n = m + 1 := ⟨n - 1, by omega⟩
    have h1 := pat_weight p m h (by omega)
    have e : PyData.weight (.str "pcon") = 4 := by decide +kernel
    have e2 : PyData.weight (.tuple [.str "Cons"]) = 5 := by decide +kernel
    show PyData.weight (.tuple [.str "pcon", .tuple [.str "Cons"], p.d]) ≤ _
    rw [PyData.weight]
    simp only [PyData.weightAll, e, e2, wP]
    omega
  | .tup ps, n, h, hd => by
    simp only [dep] at hd
    obtain ⟨m, rfl⟩ : ∃ m, n = m + 1 := ⟨n - 1, by omega⟩
    simp only [tiny, Bool.and_eq_true, decide_eq_true_eq] at h
    have h1 := pats_weight ps m h.2 (by omega)
    have h2 : ps.length * (wP m + 1) ≤ 3 * (wP m + 1) := Nat.mul_le_mul_right _ h.1
    have e : PyData.weight (.str "ptuple") = 6 := by decide +kernel
    have e2 : PyData.weight (.tuple (Pat.ds ps)) = PyData.weightAll (Pat.ds ps) := by rw [PyData.weight]
    show PyData.weight (.tuple [.str "ptuple", .tuple (Pat.ds ps)]) ≤ _
    rw [PyData.weight]
    simp only [PyData.weightAll, e, e2, wP]
    omega
theorem pats_weight : ∀ (ps : List Pat) (n : Nat), tinys ps = true → deps ps ≤ n → PyData.weightAll (Pat.ds ps) ≤ ps.length * (wP n + 1)
  | [], _, _, _ => by simp [Pat.ds, PyData.weightAll]
  | p :: ps, n, h, hd => by
    simp only [tinys, Bool.and_eq_true] at h
    simp only [deps] at hd
    have h1 := pat_weight p n h.1 (by omega)
    have h2 := pats_weight ps n h.2 (by omega)
    show PyData.weightAll (p.d :: Pat.ds ps) ≤ _
    simp only [PyData.weightAll, List.length_cons, Nat.add_mul]
    omega
end
def wT : Nat → Nat
  | 0 => 40
  | n + 1 => 3 * (wT n + 1) + 20
theorem wT_pos : ∀ n, 40 ≤ wT n
  | 0 => Nat.le_refl _
  | n + 1 => by have := wT_pos n; simp only [wT]; omega
mutual
theorem ty_weight : ∀ (t : Ty) (n : Nat), slim t = true → tdep t ≤ n → t.d.weight ≤ wT n
  | .int, n, _, _ => Nat.le_trans (by decide +kernel) (wT_pos n)
  | .str, n, _, _ => Nat.le_trans (by decide +kernel) (wT_pos n)
  | .op 0, n, _, _ => Nat.le_trans (by decide +kernel) (wT_pos n)
  | .op 1, n, _, _ => Nat.le_trans (by decide +kernel) (wT_pos n)
  | .op 2, n, _, _ => Nat.le_trans (by decide +kernel) (wT_pos n)
  | .op (_ + 3), n, _, _ => Nat.le_trans (by decide +kernel : PyData.weight (.tuple [.str "var", .str "b"]) ≤ 40) (wT_pos n)
  | .list t, n, h, hd => by
    simp only [tdep] at hd
    obtain ⟨m, rfl⟩ : ∃ m, n = m + 1 := ⟨n - 1, by omega⟩
    have h1 := ty_weight t m (by simpa [slim] using h) (by omega)
    have e : PyData.weight (.str "con") = 3 := by decide +kernel
    have e2 : PyData.weight (.str "list") = 4 := by decide +kernel
    have e3 : PyData.weight (.tuple [t.d]) = t.d.weight + 1 := by rw [PyData.weight]; simp only [PyData.weightAll] <;> omega
    show PyData.weight (.tuple [.str "con", .str "list", .tuple [t.d]]) ≤ _
    rw [PyData.weight]
    simp only [PyData.weightAll, e, e2, e3, wT]
    omega
  | .tup ts, n, h, hd => by
    simp only [tdep] at hd
    simp only [slim, Bool.and_eq_true, decide_eq_true_eq] at h
    have h1 := tys_weight ts n h.2 hd
    have e : PyData.weight (.str "tuple") = 5 := by decide +kernel
    have e2 : PyData.weight (.tuple (Ty.ds ts)) = PyData.weightAll (Ty.ds ts) := by rw [PyData.weight]
    show PyData.weight (.tuple [.str "tuple", .tuple (Ty.ds ts)]) ≤ _
    rw [PyData.weight]
    simp only [PyData.weightAll, e, e2]
    cases n with
    | zero =>
      cases ts with
      | nil => simp [Ty.ds, PyData.weightAll, wT]
      | cons t ts => simp [tdeps] at hd
    | succ m =>
      have h2 : ts.length * (wT m + 1) ≤ 3 * (wT m + 1) := Nat.mul_le_mul_right _ h.1
      simp only [wT]
      simp only at h1
      omega
theorem tys_weight : ∀ (ts : List Ty) (n : Nat), slims ts = true → tdeps ts ≤ n → PyData.weightAll (Ty.ds ts) ≤ ts.length * ((match n with | 0 => 0 | m + 1 => wT m) + 1)
  | [], _, _, _ => by simp [Ty.ds, PyData.weightAll]
  | t :: ts, n, h, hd => by
    simp only [slims, Bool.and_eq_true] at h
    simp only [tdeps] at hd
    obtain ⟨m, rfl⟩ : ∃ m, n = m + 1 := ⟨n - 1, by omega⟩
    have h1 := ty_weight t m h.1 (by omega)
    have h2 := tys_weight ts (m + 1) h.2 (by omega)
    show PyData.weightAll (t.d :: Ty.ds ts) ≤ _
    simp only [PyData.weightAll, List.length_cons, Nat.add_mul] at h2 ⊢
    omega
end
mutual
theorem ty_ints : ∀ t : Ty, PyData.intsShort 13 t.d = true
  | .int => by decide +kernel
  | .str => by decide +kernel
  | .op 0 => by decide +kernel
  | .op 1 => by decide +kernel
  | .op 2 => by decide +kernel
  | .op (_ + 3) => (by decide +kernel : PyData.intsShort 13 (.tuple [.str "var", .str "b"]) = true)
  | .list t => by
    show PyData.intsShort 13 (.tuple [.str "con", .str "list", .tuple [t.d]]) = true
    simp only [PyData.intsShort, PyData.intsShortAll, ty_ints t, Bool.and_self]
  | .tup ts => by
    show PyData.intsShort 13 (.tuple [.str "tuple", .tuple (Ty.ds ts)]) = true
    simp only [PyData.intsShort, PyData.intsShortAll, tys_ints ts, Bool.and_self]
theorem tys_ints : ∀ ts : List Ty, PyData.intsShortAll 13 (Ty.ds ts) = true
  | [] => rfl
  | t :: ts => by
    show PyData.intsShortAll 13 (t.d :: Ty.ds ts) = true
    simp only [PyData.intsShortAll, ty_ints t, tys_ints ts, Bool.and_self]
end
mutual
theorem pat_ints : ∀ p : Pat, tiny p = true → PyData.intsShort 13 p.d = true
  | .any, _ => by decide +kernel
  | .name s, _ => rfl
  | .nil, _ => by decide +kernel
  | .pint i, h => by rcases pint_fine h with rfl | rfl <;> decide +kernel
  | .pstr s, _ => rfl
  | .cons p, h => by
    show PyData.intsShort 13 (.tuple [.str "pcon", .tuple [.str "Cons"], p.d]) = true
    simp only [PyData.intsShort, PyData.intsShortAll, pat_ints p h, Bool.and_self]
  | .tup ps, h => by
    simp only [tiny, Bool.and_eq_true] at h
    show PyData.intsShort 13 (.tuple [.str "ptuple", .tuple (Pat.ds ps)]) = true
    simp only [PyData.intsShort, PyData.intsShortAll, pats_ints ps h.2, Bool.and_self]
theorem pats_ints : ∀ ps : List Pat, tinys ps = true → PyData.intsShortAll 13 (Pat.ds ps) = true
  | [], _ => rfl
  | p :: ps, h => by
    simp only [tinys, Bool.and_eq_true] at h
    show PyData.intsShortAll 13 (p.d :: Pat.ds ps) = true
    simp only [PyData.intsShortAll, pat_ints p h.1, pats_ints ps h.2, Bool.and_self]
end
mutual
theorem ty_show : ∀ t : Ty, PyData.showable t.d = true
  | .int => by decide +kernel
  | .str => by decide +kernel
  | .op 0 => by decide +kernel
  | .op 1 => by decide +kernel
  | .op 2 => by decide +kernel
  | .op (_ + 3) => (by decide +kernel : PyData.showable (.tuple [.str "var", .str "b"]) = true)
  | .list t => by
    show PyData.showable (.tuple [.str "con", .str "list", .tuple [t.d]]) = true
    simp only [PyData.showable, PyData.showableAll, ty_show t, Bool.and_self]
  | .tup ts => by
    show PyData.showable (.tuple [.str "tuple", .tuple (Ty.ds ts)]) = true
    simp only [PyData.showable, PyData.showableAll, tys_show ts, Bool.and_self]
theorem tys_show : ∀ ts : List Ty, PyData.showableAll (Ty.ds ts) = true
  | [] => rfl
  | t :: ts => by
    show PyData.showableAll (t.d :: Ty.ds ts) = true
    simp only [PyData.showableAll, ty_show t, tys_show ts, Bool.and_self]
end
mutual
theorem pat_show : ∀ p : Pat, tiny p = true → PyData.showable p.d = true
  | .any, _ => by decide +kernel
  | .name s, _ => rfl
  | .nil, _ => by decide +kernel
  | .pint i, h => by rcases pint_fine h with rfl | rfl <;> decide +kernel
  | .pstr s, _ => rfl
  | .cons p, h => by
    show PyData.showable (.tuple [.str "pcon", .tuple [.str "Cons"], p.d]) = true
    simp only [PyData.showable, PyData.showableAll, pat_show p h, Bool.and_self]
  | .tup ps, h => by
    simp only [tiny, Bool.and_eq_true] at h
    show PyData.showable (.tuple [.str "ptuple", .tuple (Pat.ds ps)]) = true
    simp only [PyData.showable, PyData.showableAll, pats_show ps h.2, Bool.and_self]
theorem pats_show : ∀ ps : List Pat, tinys ps = true → PyData.showableAll (Pat.ds ps) = true
  | [], _ => rfl
  | p :: ps, h => by
    simp only [tinys, Bool.and_eq_true] at h
    show PyData.showableAll (p.d :: Pat.ds ps) = true
    simp only [PyData.showableAll, pat_show p h.1, pats_show ps h.2, Bool.and_self]
end
end G

namespace G
open PySem PySem.Spec PyProof.Rows L2 Evl
open M
/-! ### equal data, equal things -/
def tagN : Nat → Str
  | 0 => "any"
  | 1 => "name"
  | 2 => "pint"
  | 3 => "pstring"
  | 4 => "pcon"
  | _ => "ptuple"
def pnum : Pat → Nat
  | .any => 0
  | .name _ => 1
  | .pint _ => 2
  | .pstr _ => 3
  | .nil => 4
  | .cons _ => 4
  | .tup _ => 5
theorem tag_inj : ∀ i : Nat, i < 6 → ∀ j : Nat, j < 6 → tagN i = tagN j → i = j := by decide +kernel
theorem pnum_lt (p : Pat) : pnum p < 6 := by cases p <;> simp [pnum]
theorem eqv_tag {p q : Pat} (h : PyData.eqv p.d q.d = true) : pnum p = pnum q := by
  have e : ∀ p : Pat, ∃ r, p.d = .tuple (.str (tagN (pnum p)) :: r) := fun p => by cases p <;> exact ⟨_, rfl⟩
  obtain ⟨r, e1⟩ := e p
  obtain ⟨r', e2⟩ := e q
  rw [e1, e2] at h
  simp only [PyData.eqv, PyData.eqvAll, Bool.and_eq_true, beq_iff_eq] at h
  exact tag_inj _ (pnum_lt p) _ (pnum_lt q) h.1
theorem eqv3 (a b c a' b' c' : PyData) : PyData.eqv (.tuple [a, b, c]) (.tuple [a', b', c']) = (PyData.eqv a a' && (PyData.eqv b b' && (PyData.eqv c c' && true))) := by simp only [PyData.eqv, PyData.eqvAll]
mutual
theorem pat_eqv : ∀ p q : Pat, PyData.eqv p.d q.d = true → p = q
  | .any, q, h => by
    have ht := eqv_tag h
    cases q <;> first | rfl | (simp [pnum] at ht; done)
  | .name s, q, h => by
    have ht := eqv_tag h
    cases q with
    | name s' =>
      have h : PyData.eqv (.tuple [.str "name", .str s]) (.tuple [.str "name", .str s']) = true := h
      simp only [PyData.eqv, PyData.eqvAll, Bool.and_eq_true, beq_iff_eq] at h
      rw [h.2.1]
    | _ => simp [pnum] at ht
  | .pint i, q, h => by
    have ht := eqv_tag h
    cases q with
    | pint j =>
      have h : PyData.eqv (.tuple [.str "pint", .int i]) (.tuple [.str "pint", .int j]) = true := h
      simp only [PyData.eqv, PyData.eqvAll, Bool.and_eq_true, beq_iff_eq] at h
      rw [h.2.1]
    | _ => simp [pnum] at ht
  | .pstr s, q, h => by
    have ht := eqv_tag h
    cases q with
    | pstr s' =>
      have h : PyData.eqv (.tuple [.str "pstring", .str s]) (.tuple [.str "pstring", .str s']) = true := h
      simp only [PyData.eqv, PyData.eqvAll, Bool.and_eq_true, beq_iff_eq] at h
      rw [h.2.1]
    | _ => simp [pnum] at ht
  | .nil, q, h => by
    have ht := eqv_tag h
    cases q with
    | nil => rfl
    | cons p =>
      have h : PyData.eqv (.tuple [.str "pcon", .tuple [.str "Nil"], .none]) (.tuple [.str "pcon", .tuple [.str "Cons"], p.d]) = true := h
      rw [eqv3] at h
      simp only [Bool.and_eq_true] at h
      exact absurd h.2.1 (by decide +kernel)
    | _ => simp [pnum] at ht
  | .cons p, q, h => by
    have ht := eqv_tag h
    cases q with
    | nil =>
      have h : PyData.eqv (.tuple [.str "pcon", .tuple [.str "Cons"], p.d]) (.tuple [.str "pcon", .tuple [.str "Nil"], .none]) = true := h
      rw [eqv3] at h
      simp only [Bool.and_eq_true] at h
      exact absurd h.2.1 (by decide +kernel)
    | cons p' =>
      have h : PyData.eqv (.tuple [.str "pcon", .tuple [.str "Cons"], p.d]) (.tuple [.str "pcon", .tuple [.str "Cons"], p'.d]) = true := h
      rw [eqv3] at h
      simp only [Bool.and_eq_true] at h
      rw [pat_eqv p p' h.2.2.1]
    | _ => simp [pnum] at ht
  | .tup ps, q, h => by
    have ht := eqv_tag h
    cases q with
    | tup ps' =>
      have h : PyData.eqv (.tuple [.str "ptuple", .tuple (Pat.ds ps)]) (.tuple [.str "ptuple", .tuple (Pat.ds ps')]) = true := h
      simp only [PyData.eqv, PyData.eqvAll, Bool.and_eq_true] at h
      rw [pats_eqv ps ps' h.2.1]
    | _ => simp [pnum] at ht
termination_by p => sizeOf p
theorem pats_eqv : ∀ ps qs : List Pat, PyData.eqvAll (Pat.ds ps) (Pat.ds qs) = true → ps = qs
  | [], [], _ => rfl
  | [], q :: qs, h => by
    have h : PyData.eqvAll [] (q.d :: Pat.ds qs) = true := h
    simp [PyData.eqvAll] at h
  | p :: ps, [], h => by
    have h : PyData.eqvAll (p.d :: Pat.ds ps) [] = true := h
    simp [PyData.eqvAll] at h
  | p :: ps, q :: qs, h => by
    have h : PyData.eqvAll (p.d :: Pat.ds ps) (q.d :: Pat.ds qs) = true := h
    simp only [PyData.eqvAll, Bool.and_eq_true] at h
    rw [pat_eqv p q h.1, pats_eqv ps qs h.2]
termination_by ps => sizeOf ps
end
mutual
theorem val_eqv : ∀ v : Val, PyData.eqv v.d v.d = true
  | .int i => by simp [Val.d, PyData.eqv, PyData.eqvAll]
  | .str i => by simp [Val.d, PyData.eqv, PyData.eqvAll]
  | .nil => by decide +kernel
  | .other => by decide +kernel
  | .cons v => by
    show PyData.eqv (.tuple [.str "con", .str "Cons", v.d]) (.tuple [.str "con", .str "Cons", v.d]) = true
    simp [PyData.eqv, PyData.eqvAll, val_eqv v]
  | .tup vs => by
    show PyData.eqv (.tuple [.str "tuple", .tuple (Val.ds vs)]) (.tuple [.str "tuple", .tuple (Val.ds vs)]) = true
    simp [PyData.eqv, PyData.eqvAll, vals_eqv vs]
theorem vals_eqv : ∀ vs : List Val, PyData.eqvAll (Val.ds vs) (Val.ds vs) = true
  | [] => rfl
  | v :: vs => by
    show PyData.eqvAll (v.d :: Val.ds vs) (v.d :: Val.ds vs) = true
    simp only [PyData.eqvAll, val_eqv v, vals_eqv vs, Bool.and_self]
end
/-! ### values, shaped -/
mutual
def vdep : Val → Nat
  | .cons v => vdep v + 1
  | .tup vs => vdeps vs + 1
  | _ => 0
def vdeps : List Val → Nat
  | [] => 0
  | v :: vs => max (vdep v) (vdeps vs)
end
mutual
/-- its texts are those that the law lays -/
def vok : Val → Bool
  | .str s => PyData.strOk s
  | .cons v => vok v
  | .tup vs => voks vs
  | _ => true
def voks : List Val → Bool
  | [] => true
  | v :: vs => vok v && voks vs
end
mutual
theorem val_lay : ∀ v : Val, vok v = true → PyData.canLay0 v.d = true
  | .int i, _ => by
    show PyData.canLay0 (.tuple [.str "int", .int i]) = true
    simp only [PyData.canLay0, PyData.canLayAll0]
    decide +kernel
  | .str s, h => by
    show PyData.canLay0 (.tuple [.str "string", .str s]) = true
    have h : PyData.strOk s = true := h
    simp only [PyData.canLay0, PyData.canLayAll0, h]
    decide +kernel
  | .nil, _ => by decide +kernel
  | .other, _ => by decide +kernel
  | .cons v, h => by
    show PyData.canLay0 (.tuple [.str "con", .str "Cons", v.d]) = true
    simp only [PyData.canLay0, PyData.canLayAll0, val_lay v h]
    decide +kernel
  | .tup vs, h => by
    show PyData.canLay0 (.tuple [.str "tuple", .tuple (Val.ds vs)]) = true
    simp only [PyData.canLay0, PyData.canLayAll0, vals_lay vs h]
    decide +kernel
theorem vals_lay : ∀ vs : List Val, voks vs = true → PyData.canLayAll0 (Val.ds vs) = true
  | [], _ => rfl
  | v :: vs, h => by
    simp only [voks, Bool.and_eq_true] at h
    show PyData.canLayAll0 (v.d :: Val.ds vs) = true
    simp only [PyData.canLayAll0, val_lay v h.1, vals_lay vs h.2, Bool.and_self]
end
mutual
theorem val_depth : ∀ v : Val, v.d.depth ≤ 2 * vdep v + 4
  | .int i => by simp [Val.d, PyData.depth, PyData.depthAll]
  | .str i => by simp [Val.d, PyData.depth, PyData.depthAll]
  | .nil => by decide
  | .other => by decide
  | .cons v => by
    have h := val_depth v
    show PyData.depth (.tuple [.str "con", .str "Cons", v.d]) ≤ _
    simp only [PyData.depth, PyData.depthAll, vdep]
    omega
  | .tup vs => by
    have h := vals_depth vs
    show PyData.depth (.tuple [.str "tuple", .tuple (Val.ds vs)]) ≤ _
    simp only [PyData.depth, PyData.depthAll, vdep]
    omega
theorem vals_depth : ∀ vs : List Val, PyData.depthAll (Val.ds vs) ≤ 2 * vdeps vs + 4
  | [] => by simp [Val.ds, PyData.depthAll]
  | v :: vs => by
    have h1 := val_depth v
    have h2 := vals_depth vs
    show PyData.depthAll (v.d :: Val.ds vs) ≤ _
    simp only [PyData.depthAll, vdeps]
    omega
end
theorem voks_snoc : ∀ {r : List Val} {x : Val}, voks r = true → vok x = true → voks (r ++ [x]) = true
  | [], x, _, h => by simp [voks, h]
  | v :: r, x, h, h2 => by
    simp only [voks, Bool.and_eq_true, List.cons_append] at h ⊢
    exact ⟨h.1, voks_snoc h.2 h2⟩
theorem vdeps_snoc : ∀ {r : List Val} {x : Val} {n : Nat}, vdeps r ≤ n → vdep x ≤ n → vdeps (r ++ [x]) ≤ n
  | [], x, n, _, h => by simp [vdeps, h]
  | v :: r, x, n, h, h2 => by
    simp only [vdeps, List.cons_append] at h ⊢
    have := vdeps_snoc (r := r) (x := x) (n := n) (by omega) h2
    omega
theorem rows_good {n : Nat} : ∀ (cols : List (List Val)) (rows : List (List Val)), (∀ c ∈ cols, ∀ v ∈ c, vok v = true ∧ vdep v ≤ n) → (∀ r ∈ rows, voks r = true ∧ vdeps r ≤ n) → ∀ r ∈ cols.foldl rowStep rows, voks r = true ∧ vdeps r ≤ n
  | [], rows, _, h, r, hr => h r hr
  | c :: cols, rows, hc, h, r, hr => by
    rw [List.foldl_cons] at hr
    refine rows_good cols (rowStep rows c) (fun c' h' => hc c' (List.mem_cons_of_mem _ h')) (fun r hr => ?_) r hr
    obtain ⟨r0, h0, hr⟩ := List.mem_flatMap.mp (List.mem_of_mem_take hr)
    obtain ⟨o, ho, rfl⟩ := List.mem_map.mp hr
    have h1 := h r0 h0
    have h2 := hc c List.mem_cons_self o ho
    exact ⟨voks_snoc h1.1 h2.1, vdeps_snoc h1.2 h2.2⟩
theorem vals_good : ∀ (k n : Nat) (t : Ty), 2 * n + tdep t < k → ∀ v ∈ vals n t, vok v = true ∧ vdep v ≤ 2 * n + tdep t + 1
  | 0, _, _, h, _, _ => absurd h (by omega)
  | k + 1, n, t, hk, v, hv => by
    cases t with
    | int =>
      rw [vals_eq] at hv
      simp [valsWith] at hv
      rcases hv with rfl | rfl | rfl <;> exact ⟨rfl, by simp [vdep]⟩
    | str =>
      rw [vals_eq] at hv
      simp [valsWith] at hv
      rcases hv with rfl | rfl | rfl <;> exact ⟨by decide +kernel, by simp [vdep]⟩
    | op j =>
      rw [vals_eq] at hv
      simp [valsWith] at hv
      subst hv
      exact ⟨rfl, by simp [vdep]⟩
    | list u =>
      rw [vals_list] at hv
      simp only [tdep] at hk ⊢
      rcases List.mem_cons.mp (List.mem_of_mem_take hv) with rfl | hv
      · exact ⟨rfl, by simp [vdep]⟩
      · cases n with
        | zero => cases hv
        | succ n =>
          obtain ⟨x, hx, rfl⟩ := List.mem_map.mp hv
          have z := vals_good k n (.tup [u, .list u]) (by simp only [tdep, tdeps]; omega) x hx
          simp only [tdep, tdeps] at z
          exact ⟨z.1, by simp only [vdep]; omega⟩
    | tup ts =>
      rw [vals_tup] at hv
      obtain ⟨r, hr, rfl⟩ := List.mem_map.mp hv
      simp only [tdep] at hk ⊢
      have z := rows_good (n := 2 * n + tdeps ts) (ts.map (vals n)) [[]] (fun c hc v hv => by
        obtain ⟨u, hu, rfl⟩ := List.mem_map.mp hc
        have hut := tdeps_mem hu
        have z := vals_good k n u (by omega) v hv
        exact ⟨z.1, by omega⟩) (fun r hr => by rw [List.mem_singleton.mp hr]; exact ⟨rfl, by simp [vdeps]⟩) r hr
      exact ⟨z.1, by simp only [vdep]; omega⟩
end G

namespace G
open PySem PySem.Spec PyProof.Rows L2 Evl
open M
/-! ### repr -/
def rRepr (K : PySem.W.Frag) : List V → Hp → VK → Prop := fun xs H Q => ∃ a d, xs = [.ref a] ∧ Dp K H (.ref a) d ∧ PyData.layable0 d = true ∧ d.showable = true ∧ d.intsShort 13 = true ∧ Q (.str d.shown) H
theorem call_reprD {X : Cx} (hg : X.A.guards = some []) (hu : X.A.units + 65 < cLine) : CallR X (.builtin "repr") (rRepr X.K) := by
  intro pins s σ H xs us Q I r h
  obtain ⟨a, d, rfl, hd, hl, hs, hi, q⟩ := h
  obtain ⟨u, rfl, ru⟩ := vals1 r
  cases ru
  obtain ⟨as, r1⟩ := Dp.reads I d _ _ hd rfl
  have hdp : d.depth ≤ 64 := PyData.depth_le_of_layable hl
  refine repr_of_reads' r1 hs (PyData.noDict_hsm (PyData.hasDict_of_layable hl)) hg (by omega) (fun _ _ e => e) (fun h' u tk hk => ?_) (Nat.le_trans (shown_le13 hl hi) (by decide))
  exact ⟨.str d.shown, H, I.kept (t' := tk) hk, ⟨u, rfl⟩, q⟩
section
variable {P : Program} {w : World} {K : PySem.W.Frag} {mg : Str → Option Value} {base : Heap} {f : Addr} {fd : FuncData} {σ : L2.St} {G H : Hp} {ta tb te ti : TE} {D : Ends} {tz : TS} {g : TG}
theorem ev_repr {ds : List PyData} (h : EvD ta σ G H (.list ds)) (h1 : PyData.layable0 (.list ds) = true) (h2 : PyData.showable (.list ds) = true) (h3 : PyData.intsShort 13 (.list ds) = true) : EvD (tCB (rRepr K) (tCons ta tNil)) σ G H (.str (PyData.shown (.list ds))) := ev_cb (ea_cons h ea_nil) fun vs G1 H1 a hv Q q => by
  cases hv with
  | cons h4 h5 =>
    cases h5
    have hd := Dat.dp (K := K) a.gh _ _ h4
    cases h4 with
    | lst e1 e2 => exact ⟨_, _, rfl, hd, h1, h2, h3, q _ G1 H1 (Go.refl a.gh) (.str _)⟩
/-! ### drawing -/
theorem tk_take2 {p : Addr} {i : Nat} (hs : Src p G H) (hv : σ[i]? = some (some (.ref p))) (h : Tk [p] (Src p) te σ G H fun d => ∃ m, d = .int m ∧ 0 < m ∧ m ≤ 16) : Tk [p] (Src p) (tCall spTake [] E0 (tCons (tVar i) (tCons te tNil))) σ G H fun d => ∃ r, d = .int r ∧ 0 ≤ r ∧ r < 16 := fun Q q =>
  ⟨_, hv, h _ fun v G1 H1 d b hs1 hvd ⟨m, hm, m1, m2⟩ => by
    subst hm
    cases hvd
    exact ⟨G1, p, m, b.ex, rfl, hs1, m1, by omega, fun r G2 H2 b2 hs2 r0 r1 => q _ G2 H2 _ (b.trans b2) hs2 (.int r) ⟨r, rfl, r0, by omega⟩⟩⟩
theorem tk_add1 {ps : List Addr} {Z : Hp → Hp → Prop} (h : Tk ps Z te σ G H fun d => ∃ r, d = .int r ∧ 0 ≤ r ∧ r < 16) : Tk ps Z (tOp (rI0 fun i j => .int (i + j)) (tC (.int 1)) te) σ G H fun d => ∃ n : Nat, d = .int (n : Int) ∧ n ≤ 16 := fun Q q => h _ fun v G1 H1 d b z hv ⟨r, hd, r0, r1⟩ => by
  subst hd
  cases hv
  obtain ⟨j, rfl⟩ := Int.eq_ofNat_of_zero_le r0
  refine ⟨1, (j : Int), rfl, rfl, ?_⟩
  have e : (1 : Int) + (j : Int) = ((j + 1 : Nat) : Int) := by omega
  show Q (.int ((1 : Int) + (j : Int))) H1
  rw [e]
  exact q _ G1 H1 _ b z (.int _) ⟨j + 1, rfl, by omega⟩
theorem q_forTk {te : TE} {tu : TS} {ps : List Addr} {Z : Hp → Hp → Prop} (h : Tk ps Z te σ G H fun d => ∃ n : Nat, d = .int (n : Int) ∧ n ≤ 16)
    (k : ∀ (n : Nat) G1 H1, But ps G H G1 H1 → Z G1 H1 → n ≤ 16 → ∃ Pv : Nat → L2.St → Hp → Prop, Pv 0 σ H1 ∧ (∀ i s h, i < n → Pv i s h → g (.int (i : Int)) s h fun σ2 H2 => tu { D with nx := Pv (i + 1), ct := Pv (i + 1), bk := tz D } σ2 H2) ∧ ∀ s h, Pv n s h → tz D s h) :
    tSeq (tFor (iRng1 (tCons te tNil)) g tu) tz D σ H := h _ fun v G1 H1 d b z hv ⟨n, hd, hn⟩ => by
  subst hd
  cases hv
  obtain ⟨Pv, p0, ps, pd⟩ := k n G1 H1 b z hn
  refine ⟨(n : Int), rfl, by omega, by omega, ?_⟩
  rw [Int.toNat_natCast]
  refine for_range (D := { D with nx := tz D }) Pv p0 (fun i s h hi p => ?_) pd
  rw [Int.zero_add]
  exact ps i s h hi p
theorem Grow.but {G0 H0 G H G' H' : Hp} {p : Addr} {acc : List V} {ds : List PyData} {ps : List Addr} (h : Grow G0 H0 p acc ds G H) (b : But ps G H G' H') (hn : p ∉ ps) (h0 : ∀ q ∈ ps, H0 q = Option.none) : Grow G0 H0 p acc ds G' H' :=
  ⟨h.new, But.after h.go b h0, b.none hn h.out (by rw [h.at_]; exact fun z => nomatch z), b.lst hn h.at_, h.dats.m b.go.g⟩
/-- a pure loop over range(n) -/
theorem q_forR {tu : TS} {n : Nat} (e : Ex G H) (h : EvD te σ G H (.int (n : Int))) (hn : n ≤ 1000)
    (k : ∀ G1 H1, Go G H G1 H1 → ∃ Pv : Nat → L2.St → Hp → Hp → Prop, Pv 0 σ G1 H1 ∧ (∀ i s G' h, i < n → Pv i s G' h → g (.int (i : Int)) s h fun σ2 H2 => tu { D with nx := fun s h => ∃ G, Pv (i + 1) s G h, ct := fun s h => ∃ G, Pv (i + 1) s G h, bk := tz D } σ2 H2) ∧ ∀ s G' h, Pv n s G' h → tz D s h) :
    tSeq (tFor (iRng1 (tCons te tNil)) g tu) tz D σ H := h G H (Go.refl e) _ fun v G1 H1 a hv => by
  cases hv
  obtain ⟨Pv, p0, ps, pd⟩ := k G1 H1 a
  refine ⟨(n : Int), rfl, by omega, by omega, ?_⟩
  rw [Int.toNat_natCast]
  refine for_range (D := { D with nx := tz D }) (fun i s h => ∃ G, Pv i s G h) ⟨G1, p0⟩ (fun i s h hi ⟨G', p⟩ => ?_) fun s h ⟨G', p⟩ => pd s G' h p
  rw [Int.zero_add]
  exact ps i s G' h hi p
/-! ### what the law lays -/
structure Laid (t : Ty) (ps : List Pat) : Prop where
  slim : slim t = true
  tdep : tdep t ≤ 2
  wt : ∀ p ∈ ps, wt p t = true
  dep : ∀ p ∈ ps, M.dep p ≤ 3
  tiny : ∀ p ∈ ps, tiny p = true
  few : ps.length ≤ 16
theorem Laid.ask {t : Ty} {ps : List Pat} (h : Laid t ps) : Ask t ps := ⟨⟨h.wt, fun p hp => tiny_low p (h.tiny p hp), h.dep, h.slim⟩, fun p hp => tiny_pok p (h.tiny p hp), by have := h.few; omega⟩
theorem tinys_of : ∀ {ps : List Pat}, (∀ p ∈ ps, tiny p = true) → tinys ps = true
  | [], _ => rfl
  | p :: ps, h => by simp [tinys, h p List.mem_cons_self, tinys_of fun q hq => h q (List.mem_cons_of_mem _ hq)]
theorem deps_of {n : Nat} : ∀ {ps : List Pat}, (∀ p ∈ ps, dep p ≤ n) → deps ps ≤ n
  | [], _ => by simp [deps]
  | p :: ps, h => by
    have h1 := h p List.mem_cons_self
    have h2 := deps_of fun q hq => h q (List.mem_cons_of_mem _ hq)
    simp only [deps]
    omega
theorem Laid.lay {t : Ty} {ps : List Pat} (h : Laid t ps) : PyData.layable0 (.list [t.d, rowD ps]) = true ∧ PyData.showable (.list [t.d, rowD ps]) = true ∧ PyData.intsShort 13 (.list [t.d, rowD ps]) = true := by
  have ht := tinys_of h.tiny
  have hd := deps_of h.dep
  refine ⟨?_, ?_, ?_⟩
  · have h1 : PyData.canLay0 (.list [t.d, rowD ps]) = true := by
      simp only [rowD, PyData.canLay0, PyData.canLayAll0, ty_lay t, pats_lay ps (tinys_pok ps ht), Bool.and_self]
    have h2 : PyData.depth (.list [t.d, rowD ps]) ≤ 64 := by
      have z1 := ty_depth t
      have z2 := pats_depth ps
      have z3 := h.tdep
      simp only [rowD, PyData.depth, PyData.depthAll]
      omega
    have h3 : PyData.weight (.list [t.d, rowD ps]) ≤ 2 ^ 20 := by
      have z1 := ty_weight t 2 h.slim h.tdep
      have z2 := pats_weight ps 3 ht hd
      have z3 : ps.length * (wP 3 + 1) ≤ 16 * (wP 3 + 1) := Nat.mul_le_mul_right _ h.few
      have z4 : wT 2 ≤ 1000 := by decide
      have z5 : 16 * (wP 3 + 1) ≤ 100000 := by decide
      have z6 : PyData.weight (rowD ps) = PyData.weightAll (Pat.ds ps) := by rw [rowD, PyData.weight]
      rw [PyData.weight]
      simp only [PyData.weightAll, z6]
      omega
    show (PyData.canLay0 _ && decide (PyData.depth _ ≤ 64) && decide (PyData.weight _ ≤ 2 ^ 20)) = true
    rw [h1, decide_eq_true h2, decide_eq_true h3]
    rfl
  · simp only [rowD, PyData.showable, PyData.showableAll, ty_show t, pats_show ps ht, Bool.and_self]
  · simp only [rowD, PyData.intsShort, PyData.intsShortAll, ty_ints t, pats_ints ps ht, Bool.and_self]
theorem pat_shaped {p : Pat} (h : tiny p = true) (hd : dep p ≤ 20) : SeqAt.shaped p.d = true := by
  have h1 := pat_lay p (tiny_pok p h)
  have h2 := pat_depth p
  show (PyData.canLay0 p.d && decide (PyData.depth p.d ≤ 64)) = true
  rw [h1, decide_eq_true (by omega)]
  rfl
theorem val_shaped {n : Nat} {t : Ty} {v : Val} (hn : 2 * n + tdep t ≤ 8) (h : v ∈ vals n t) : SeqAt.shaped v.d = true ∧ v.d.depth ≤ 63 := by
  obtain ⟨h1, h2⟩ := vals_good 9 n t (by omega) v h
  have h3 := val_lay v h1
  have h4 := val_depth v
  refine ⟨?_, by omega⟩
  show (PyData.canLay0 v.d && decide (PyData.depth v.d ≤ 64)) = true
  rw [h3, decide_eq_true (by omega)]
  rfl
end
end G

namespace G
open PySem PySem.Spec PyProof.Rows L2 Evl
open M
theorem pe_def0 {X : Cx} {x : Str} {k : Nat} {sp : Sp} {p pos : Pos} (d : Dfn X.prog X.w X.K X.mg X.base x k [] sp) (hr : Room k X.A) (hg : Gl X x)
    (hdb : (x == ("__debug__" : Str)) = false := by decide) : PE X (.Call (.Name x p) [] [] pos) (tCall sp [] E0 tNil) := by
  obtain ⟨f, fd, F, kf, mf, bf⟩ := d.ex
  exact pe_call0 F hr hg mf kf bf .nil pass0 hdb
section
variable {P : Program} {w : World} {K : PySem.W.Frag} {mg : Str → Option Value} {base : Heap} {f : Addr} {fd : FuncData} {σ : L2.St} {G H : Hp} {ta tb te ti : TE} {D : Ends} {tz : TS} {g : TG}
theorem q_start {i j : Nat} {a : Addr} {ns : List Int} (hv : σ[i]? = some (some (.ref a))) (e : Ex G H) (hs : SqL K H a (ns.map V.int)) (k : ∀ p G' H', Ex G' H' → Go G H G' H' → H p = none → Src p G' H' → tz D (σ.set j (some (.ref p))) H') :
    tSeq (tAsg (tCall (spStart K) [] E0 (tCons (tVar i) tNil)) (gName j)) tz D σ H := ⟨_, hv, G, a, ns, e, rfl, hs, fun p G' H' ex a h1 h2 => k p G' H' ex a h1 h2⟩
theorem s_appPat {p pl : Addr} {t : Ty} {tv : V} {acc : List V} {ds : List PyData} {G0 H0 : Hp} (e : Ex G H) (hp : Src p G H) (gr : Grow G0 H0 pl acc ds G H) (hpn : H0 p = none) (ne : pl ≠ p) (hv1 : σ[1]? = some (some (.ref p))) (hv2 : σ[2]? = some (some tv)) (hv3 : σ[3]? = some (some (.ref pl)))
    (ht : Dat G tv t.d) (hsl : slim t = true) (htd : tdep t ≤ 2) (hz : acc.length < 1000000) (k : ∀ v d G' H', Ex G G' → Src p G' H' → Grow G0 H0 pl (acc ++ [v]) (ds ++ [d]) G' H' → Pdrawn 3 t d → D.nx σ H') :
    tDrop (tBM K "list" rAppend (tVar 3) (tCons (tCall (spPat 3) [] E0 (tCons (tVar 1) (tCons (tVar 2) (tCons (tC (.int 3)) (tCons (tLst tNil) tNil))))) tNil)) D σ H := by
  obtain ⟨xs, cells, i, y, k', e1, e2, e3, e4⟩ := hp
  have hp : Src p G H := ⟨xs, cells, i, y, k', e1, e2, e3, e4⟩
  refine ⟨_, hv3, .inl ⟨rfl, acc, sq_of gr.at_⟩, _, hv1, _, hv2, Nat.zero_le _, fun nm hnm => ?_⟩
  have b0 := Go.born (o := .lst []) e hnm
  have n1 : p ≠ nm := ne_of_none e1 hnm
  have n2 : pl ≠ nm := ne_of_none gr.at_ hnm
  refine ⟨G, p, nm, t, 0, tv, b0.gh, rfl, ht, hsl, by omega, ⟨hp.go b0, gnone e hnm, n1, [], upd_same, Nat.le_refl _⟩, by decide, fun v G' H' d b hs hv hd => ?_⟩
  have gr2 := (gr.step b0).but b (by simp [ne, n2]) fun q hq => by
    simp at hq
    rcases hq with rfl | rfl
    · exact hpn
    · exact gr.go.back hnm
  refine ⟨pl, acc, v, rfl, rfl, gr2.at_, Nat.lt_of_lt_of_le hz (by decide), ?_⟩
  refine k v d G' _ b.go.g (src_stable G' H' G' _ hs.1 (Ex.refl G') fun q hq => ?_) (gr2.app hv) hd
  rw [List.mem_singleton.mp hq]
  exact ⟨upd_ne (Ne.symm ne), b.out p (by simp)⟩
theorem ev_data {E : XK} (e : Ex G H) : EvD (tCall spData [] E tNil) σ G H dataD := fun G1 H1 a Q q => ⟨G1, a.gh, rfl, fun v G' H' b hv => q v G' H' b hv⟩
theorem ev_miss {T : Addr} {t : Ty} {ps : List Pat} {E : XK} {ta : TA} (h : Eva ta σ G H ([dataD, t.d, rowD ps].map .dat)) (tb : Tab G H T) (hf : Ask t ps) : EvD (tCall (spMissing T) [] E ta) σ G H (patD (missing t ps)) := fun G1 H1 x Q q =>
  h G1 H1 x _ fun vs G2 H2 b hv => ⟨G2, t, ps, b.gh, (tb.m x).m b, by rw [List.append_nil]; exact hv.dats, hf, fun v G3 H3 c hv => q v G3 H3 (b.trans c) hv⟩
theorem ev_unus {T : Addr} {t : Ty} {ps : List Pat} {E : XK} {ta : TA} (h : Eva ta σ G H ([dataD, t.d, rowD ps].map .dat)) (tb : Tab G H T) (hf : Ask t ps) : EvD (tCall (spUnused T) [] E ta) σ G H (natD (unused t ps)) := fun G1 H1 x Q q =>
  h G1 H1 x _ fun vs G2 H2 b hv => ⟨G2, t, ps, b.gh, (tb.m x).m b, by rw [List.append_nil]; exact hv.dats, hf, fun v G3 H3 c hv => q v G3 H3 (b.trans c) hv⟩
theorem tru_map {α : Type} (xs : List α) (f : α → PyData) : truD (.list (xs.map f)) = some (!xs.isEmpty) := by cases xs <;> rfl
theorem flat_nat (o : Option Nat) : flat (natD o) = true := by cases o <;> rfl
theorem eqv_nat (o : Option Nat) (i : Nat) : PyData.eqv (natD o) (.int (i : Int)) = decide (o = some i) := by
  cases o with
  | none => simp [natD, PyData.eqv]
  | some k =>
    rw [Bool.eq_iff_iff]
    simp [natD, PyData.eqv]
    omega
/-- an idle pattern is found, or one ahead of it -/
theorem idle_found {t : Ty} {ps : List Pat} {i : Nat} (hi : i < ps.length) (h : idle t ps i = true) : ∃ j, unused t ps = some j ∧ j ≤ i := by
  unfold unused
  cases e : (List.range ps.length).find? (idle t ps) with
  | none =>
    have z := List.find?_eq_none.mp e i (List.mem_range.mpr hi)
    exact absurd h z
  | some j =>
    refine ⟨j, rfl, ?_⟩
    rw [List.find?_range_eq_some] at e
    by_cases hc : j ≤ i
    · exact hc
    · have z := e.2.2 i (by omega)
      rw [h] at z
      cases z
theorem found_idle {t : Ty} {ps : List Pat} {i : Nat} (h : unused t ps = some i) : idle t ps i = true := by
  unfold unused at h
  exact List.find?_some h
theorem told_dep {t : Ty} {ps : List Pat} {p : Pat} (h : missing t ps = some p) : dep p ≤ 41 := by
  unfold missing at h
  obtain ⟨f, hf, rfl⟩ := Option.map_eq_some_iff.mp h
  have z := leftOut_dep _ _ _ _ hf
  cases f with
  | nil => simp [hdP, dep]
  | cons p f =>
    simp only [deps, fuel] at z
    simp only [hdP]
    omega
theorem pats_each {n : Nat} {t : Ty} {d : PyData} (h : Pdrawn n t d) : ∃ p : Pat, d = p.d ∧ wt p t = true ∧ dep p ≤ n ∧ tiny p = true := h
abbrev s_law : Stmt := topS 29
theorem sc_law : FnScope ["script", "d", "ty", "patterns", "k", "values", "kept", "told", "first", "alone", "v", "one", "left", "stands"] ["script"] (defScope s_law) := ⟨rfl, rfl, rfl, by decide +kernel, rfl, by decide +kernel, by decide +kernel⟩
theorem law_reads {T1 T2 : Addr} (m_range : mg "range" = none) (m_list : mg "list" = none) (m_len : mg "len" = none) (m_repr : mg "repr" = none)
    (d__law_start : Dfn P w K mg base "_law_start" 1 ["script"] (spStart K)) (d__law_take : Dfn P w K mg base "_law_take" 2 ["d", "many"] spTake) (d__law_ty : Dfn P w K mg base "_law_ty" 5 ["d", "depth"] (spTy 2)) (d__law_data : Dfn P w K mg base "_law_data" 1 [] spData)
    (d__law_pattern : Dfn P w K mg base "_law_pattern" 6 ["d", "ty", "depth", "names"] (spPat 3)) (d__law_values : Dfn P w K mg base "_law_values" 10 ["ty", "depth"] (spVals 9)) (d__law_fits : Dfn P w K mg base "_law_fits" 5 ["pattern", "value"] (spFits 4)) (d__law_stands : Dfn P w K mg base "_law_stands" 43 ["pattern", "value"] (spStands 42))
    (d_missing : Dfn P w K mg base "missing" 48 ["data", "ty", "patterns"] (spMissing T1)) (d_unused : Dfn P w K mg base "unused" 48 ["data", "ty", "patterns"] (spUnused T2))
    (cdv : Value) (A : Around) (outer : List Env) (s : Shared) (a : Addr) (ns : List Int) (Q : VK) (E : XK) (hr : Room 48 (A.deeper (envOfC "law" (defScope s_law) s.heap.objs.size f cdv))) (hgA : A.guards = some []) (hs : SqL K H a (ns.map V.int)) (t1 : GxR.TabG H T1) (t2 : GxR.TabG H T2) (q : ∀ H', Q (.bl true) H') :
    ∃ t, PSs (cxOf CX0 P w K mg base ["script", "d", "ty", "patterns", "k", "values", "kept", "told", "first", "alone", "v", "one", "left", "stands"] "law" (defScope s_law) f cdv A outer s H E).nox (defBody s_law) t ∧ t { nx := fun _ H' => Q .non H', rt := Q } (start ["script", "d", "ty", "patterns", "k", "values", "kept", "told", "first", "alone", "v", "one", "left", "stands"] [.ref a]) H := by
  have hu := hu_in hr
  have hg : (A.deeper (envOfC "law" (defScope s_law) s.heap.objs.size f cdv)).guards = some [] := hgA
  refine ⟨_, (pss_cons (ps_set (i := 1) sc_law.nd rfl (.inl rfl) (pe_def d__law_start (hr.mono (by omega)) (by rfl) (pa_cons (pv 0) pa_nil)))
      (pss_cons (ps_set (i := 2) sc_law.nd rfl (.inl rfl) (pe_def d__law_ty (hr.mono (by omega)) (by rfl) (pa_cons (pv 1) (pa_cons pe_int pa_nil))))
      (pss_cons (ps_set (i := 3) sc_law.nd rfl (.inr rfl) (pe_lst pa_nil))
      (pss_cons (ps_for PassesOwn.never rfl (pi_range1 (by rfl) m_range (pa_cons (pe_op op_add pe_int (pe_def d__law_take (hr.mono (by omega)) (by rfl) (pa_cons (pv 1) (pa_cons (pe_ix (ixK K) (pe_lst (pa_cons pe_int (pa_cons pe_int (pa_cons pe_int pa_nil)))) (pe_def d__law_take (hr.mono (by omega)) (by rfl) (pa_cons (pv 1) (pa_cons pe_int pa_nil))) (fun _ _ => rfl)) pa_nil)))) pa_nil)) (pg_name (i := 4) sc_law.nd rfl (.inr rfl)) (pss_one (ps_expr (pe_bm PySem.F.plainAttrs_list PySem.F.slot_list_append PySem.F.type_list_append mt_append (pv 3) (pa_cons (pe_def d__law_pattern (hr.mono (by omega)) (by rfl) (pa_cons (pv 1) (pa_cons (pv 2) (pa_cons pe_int (pa_cons (pe_lst pa_nil) pa_nil))))) pa_nil)))))
      (pss_cons (ps_set (i := 5) sc_law.nd rfl (.inl rfl) (pe_def d__law_values (hr.mono (by omega)) (by rfl) (pa_cons (pv 2) (pa_cons pe_int pa_nil))))
      (pss_cons (ps_set (i := 6) sc_law.nd rfl (.inl rfl) (pe_callB (call_reprD hg hu) (by rfl) m_repr (by decide +kernel) (pa_cons (pe_lst (pa_cons (pv 2) (pa_cons (pv 3) pa_nil))) pa_nil)))
      (pss_cons (ps_set (i := 7) sc_law.nd rfl (.inr rfl) (pe_def d_missing (hr.mono (by omega)) (by rfl) (pa_cons (pe_def0 d__law_data (hr.mono (by omega)) (by rfl)) (pa_cons (pv 2) (pa_cons (pe_callTy (listK K) (by rfl) m_list (by decide +kernel) (pa_cons (pv 3) pa_nil)) pa_nil)))))
      (pss_cons (ps_set (i := 8) sc_law.nd rfl (.inl rfl) (pe_def d_unused (hr.mono (by omega)) (by rfl) (pa_cons (pe_def0 d__law_data (hr.mono (by omega)) (by rfl)) (pa_cons (pv 2) (pa_cons (pe_callTy (listK K) (by rfl) m_list (by decide +kernel) (pa_cons (pv 3) pa_nil)) pa_nil)))))
      (pss_cons (ps_if (pt_cmpR op_ne (pe_callB (call_reprD hg hu) (by rfl) m_repr (by decide +kernel) (pa_cons (pe_lst (pa_cons (pv 2) (pa_cons (pv 3) pa_nil))) pa_nil)) (pv 6) (nomark _)) (pss_one (ps_ret pe_bl)) pss_nil)
      (pss_cons (ps_for PassesOwn.never rfl (pi_range1 (by rfl) m_range (pa_cons (pe_callB (lenK K) (by rfl) m_len PySem.boot_len (pa_cons (pv 3) pa_nil)) pa_nil)) (pg_name (i := 4) sc_law.nd rfl (.inr rfl)) (pss_cons (ps_setLc (i := 9) (own := [("v", 10)]) (by rfl) sc_law.nd rfl rfl (sw_true rfl rfl rfl (by decide +kernel)) (pi_list (pv 5)) (blkOk_by (N := ["script", "d", "ty", "patterns", "k", "values", "kept", "told", "first", "alone", "v", "one", "left", "stands"]) (sc := defScope s_law) (by decide +kernel)) (fun _ _ _ _ _ => (pg_name (i := 10) sc_law.nd rfl (.inr rfl))) (fun _ _ _ _ _ => (pts_one (PW.pt (pw_and (pt_val (pe_def d__law_fits (hr.mono (by omega)) (by rfl) (pa_cons (pe_ix (ixK K) (pv 3) (pv 4) (fun _ _ => rfl)) (pa_cons (pv 10) pa_nil)))) (pw_and1 (pt_not (ptTru K (pe_lc (own := [("one", 11)]) (by rfl) sc_law.nd (piK K (pe_slice (slK K) (pv 3) po_none (po_some (pv 4)))) (blkOk_by (by rfl)) (fun _ _ _ _ _ => (pg_name (i := 11) sc_law.nd rfl (.inl rfl))) (fun _ _ _ _ _ => (pts_one (pt_val (pe_def d__law_fits (hr.mono (by omega)) (by rfl) (pa_cons (pv 11) (pa_cons (pv 10) pa_nil)))))) (fun _ _ _ _ _ => (pv 11)))))))))) (fun _ _ _ _ _ => (pv 10)))
      (pss_cons (ps_if (PW.pt (pw_and (ptTru K (pv 9)) (pw_and1 (pt_cmpR op_eq (pv 8) (pv 4) (nomark _))))) (pss_one (ps_ret pe_bl)) pss_nil)
      (pss_one (ps_if (PW.pt (pw_and (pt_cmpR (inK K hu) (pe_ix (ixK K) (pv 3) (pv 4) (fun _ _ => rfl)) (pe_slice (slK K) (pv 3) po_none (po_some (pv 4))) (by rfl)) (pw_and1 (PW.pt (pw_or (pt_cmp (pc_isN (pv 8))) (pw_or1 (pt_cmpR op_gt (pv 8) (pv 4) (nomark _)))))))) (pss_one (ps_ret pe_bl)) pss_nil)))))
      (pss_cons (ps_set (i := 12) sc_law.nd rfl (.inr rfl) (pe_lc (own := [("v", 10)]) (by rfl) sc_law.nd (pi_list (pv 5)) (blkOk_by (N := ["script", "d", "ty", "patterns", "k", "values", "kept", "told", "first", "alone", "v", "one", "left", "stands"]) (sc := defScope s_law) (by decide +kernel)) (fun _ _ _ _ _ => (pg_name (i := 10) sc_law.nd rfl (.inr rfl))) (fun _ _ _ _ _ => (pts_one (pt_not (ptTru K (pe_lc (own := [("one", 11)]) (by rfl) sc_law.nd (piK K (pv 3)) (blkOk_by (by rfl)) (fun _ _ _ _ _ => (pg_name (i := 11) sc_law.nd rfl (.inl rfl))) (fun _ _ _ _ _ => (pts_one (pt_val (pe_def d__law_fits (hr.mono (by omega)) (by rfl) (pa_cons (pv 11) (pa_cons (pv 10) pa_nil)))))) (fun _ _ _ _ _ => (pv 11))))))) (fun _ _ _ _ _ => (pv 10))))
      (pss_cons (ps_if (pt_cmp (pc_isN (pv 7))) (pss_one (ps_ret (pe_notT (pv 12)))) pss_nil)
      (pss_cons (ps_if (ptTru K (pe_lc (own := [("one", 11)]) (by rfl) sc_law.nd (pi_list (pv 3)) (blkOk_by (N := ["script", "d", "ty", "patterns", "k", "values", "kept", "told", "first", "alone", "v", "one", "left", "stands"]) (sc := defScope s_law) (by decide +kernel)) (fun _ _ _ _ _ => (pg_name (i := 11) sc_law.nd rfl (.inl rfl))) (fun _ _ _ _ _ => (pts_one (pt_cmpR (inK K hu) (pe_ix (ixK K) (pv 11) pe_int (fun _ _ => rfl)) (pe_lst (pa_cons pe_str (pa_cons pe_str pa_nil))) (by rfl)))) (fun _ _ _ _ _ => (pv 11)))) (pss_one (ps_ret pe_bl)) pss_nil)
      (pss_cons (ps_setLc (i := 13) (own := [("v", 10)]) (by rfl) sc_law.nd rfl rfl (sw_true rfl rfl rfl (by decide +kernel)) (pi_list (pv 5)) (blkOk_by (N := ["script", "d", "ty", "patterns", "k", "values", "kept", "told", "first", "alone", "v", "one", "left", "stands"]) (sc := defScope s_law) (by decide +kernel)) (fun _ _ _ _ _ => (pg_name (i := 10) sc_law.nd rfl (.inl rfl))) (fun _ _ _ _ _ => (pts_one (pt_cmpR op_isBl (pe_def d__law_stands (hr.mono (by omega)) (by rfl) (pa_cons (pv 7) (pa_cons (pv 10) pa_nil))) pe_bl (nomark _)))) (fun _ _ _ _ _ => (pv 10)))
      (pss_one (ps_ret (pe_or (pe_notT (pv 13)) (pe_one (pe_cmpR op_gt (pe_callB (lenK K) (by rfl) m_len PySem.boot_len (pa_cons (pe_lc (own := [("v", 10)]) (by rfl) sc_law.nd (pi_list (pv 13)) (blkOk_by (N := ["script", "d", "ty", "patterns", "k", "values", "kept", "told", "first", "alone", "v", "one", "left", "stands"]) (sc := defScope s_law) (by decide +kernel)) (fun _ _ _ _ _ => (pg_name (i := 10) sc_law.nd rfl (.inl rfl))) (fun _ _ _ _ _ => (pts_one (pt_cmpR (inK K hu) (pv 10) (pv 12) (by rfl)))) (fun _ _ _ _ _ => (pv 10))) pa_nil)) pe_int (nomark _)))))))))))))))))))), ?_⟩
  refine q_start (G := fun _ => none) rfl (fun _ _ z => nomatch z) hs fun p G1 H1 ex1 a1 hp hsrc => ?_
  refine q_tk (tk_ty (n := 2) ex1 hsrc rfl ev_int) fun tv G2 H2 d b2 hs2 htv ⟨t, hd, hsl, htd⟩ => ?_
  subst hd
  have hp1 : ∀ q ∈ [p], H q = none := fun q hq => by rw [List.mem_singleton.mp hq]; exact hp
  have A2 := But.after a1 b2 hp1
  refine q_new b2.ex fun pl hpl a3 => ?_
  have gr3 := Grow.born A2 hpl
  have hs3 := hs2.go a3
  have npl : pl ≠ p := fun z => by
    obtain ⟨xs, cells, i, y, k', e1, e2, e3, e4⟩ := hs2
    rw [← z, hpl] at e1
    cases e1
  have npl2 : pl ∉ [p] := by simp [npl]
  refine q_forTk (ps := [p]) (Z := Src p) (tk_add1 (tk_take2 hs3 rfl (tk_ix (ds := [.int 5, .int 5, .int 16]) src_stable a3.gh hs3.own hs3 (ev_lst (ds := [.int 5, .int 5, .int 16]) (ea_cons ev_int (ea_cons ev_int (ea_cons ev_int ea_nil))) (by simp)) (fun G5 H5 e5 _ hs5 _ => tk_take e5 hs5 rfl ev_int (by decide) (by decide)) fun d ⟨r, hd, r0, r1⟩ => ?_))) fun n G4 H4 b4 hs4 hn => ?_
  · have : r = 0 ∨ r = 1 ∨ r = 2 := by omega
    rcases this with rfl | rfl | rfl
    · exact ⟨0, _, hd, at0, 5, rfl, by decide, by decide⟩
    · exact ⟨1, _, hd, at1, 5, rfl, by decide, by decide⟩
    · exact ⟨2, _, hd, atI_nat (j := 2) rfl, 16, rfl, by decide, by decide⟩
  have gr4 := gr3.but b4 npl2 hp1
  refine ⟨fun i σ' H' => ∃ G' acc ps y4, σ' = [some (.ref a), some (.ref p), some tv, some (.ref pl), y4, none, none, none, none, none, none, none, none, none] ∧ Grow (fun _ => none) H pl acc (Pat.ds ps) G' H' ∧ Src p G' H' ∧ ps.length = i ∧ (∀ q ∈ ps, wt q t = true ∧ dep q ≤ 3 ∧ tiny q = true) ∧ Ex G2 G', ⟨G4, [], [], none, rfl, gr4, hs4, rfl, by simp, b4.go.g⟩, fun i s' h hi ⟨G', acc, ps, y4, hσ, gr, hsr, hlen, hall, ex⟩ => ?_, fun s' h ⟨G', acc, ps, y4, hσ, gr, hsr, hlen, hall, ex⟩ => ?_⟩
  · subst hσ
    refine s_appPat (t := t) gr.go.gh hsr gr hp npl rfl rfl rfl (Dat.m htv ex) hsl htd (by rw [gr.len, ds_len]; omega) fun v d G5 H5 ex5 hs5 gr5 hd5 => ?_
    obtain ⟨pt, rfl, h1, h2, h3⟩ := hd5
    refine ⟨G5, acc ++ [v], ps ++ [pt], _, rfl, by rw [ds_app]; exact gr5, hs5, by simp [hlen], fun q hq => ?_, ex.trans ex5⟩
    rcases List.mem_append.mp hq with z | z
    · exact hall q z
    · rw [List.mem_singleton.mp z]
      exact ⟨h1, h2, h3⟩
  subst hσ
  obtain ⟨z1, z2⟩ := gr.done
  have exf : Ex G' (upd G' pl (.lst acc)) := fun b u z => by
    rw [upd_ne (ne_of_none z gr.out)]
    exact z
  have htv := Dat.m htv (ex.trans exf)
  generalize upd G' pl (.lst acc) = G6 at z1 z2 htv
  clear exf gr hsr ex gr4 hs4 b4 npl2 npl hs3 gr3 a3 hpl A2 hs2 b2 hsrc ex1 a1 hp1 hp
  have L : Laid t ps := ⟨hsl, htd, fun q hq => (hall q hq).1, fun q hq => (hall q hq).2.1, fun q hq => (hall q hq).2.2, by omega⟩
  have M0 := L.ask.m
  have tb1 : Tab (fun _ => none) H T1 := ⟨rfl, t1⟩
  have tb2 : Tab (fun _ => none) H T2 := ⟨rfl, t2⟩
  have z2 : Dat G6 (.ref pl) (rowD ps) := z2
  have hvl := vals_len 3 t
  have hrepr : ∀ {G' H' : Hp} {s' : L2.St}, Go G6 h G' H' → s'[2]? = some (some tv) → s'[3]? = some (some (.ref pl)) → EvD (tCB (rRepr K) (tCons (tLst (tCons (tVar 2) (tCons (tVar 3) tNil))) tNil)) s' G' H' (.str (PyData.shown (.list [t.d, rowD ps]))) := fun {G' H' s'} g e1 e2 =>
    ev_repr (ev_lst (ds := [t.d, rowD ps]) (ea_cons (ev_var e1 (Dat.m htv g.g)) (ea_cons (ev_var e2 (Dat.m z2 g.g)) ea_nil)) (by simp)) L.lay.1 L.lay.2.1 L.lay.2.2
  refine q_asg z1.gh (s := .dat (valsD (vals 3 t))) (ev_def (res := fun a : Ty × Nat => valsD (vals a.2 a.1)) (t, 3) (ea_cons (ev_var rfl htv) (ea_cons ev_int ea_nil)) ⟨by show 2 * 3 + tdep t < 9; omega, by decide, hsl⟩) fun vv G7 H7 a7 hvv => ?_
  refine q_asg a7.gh (s := .dat (.str (PyData.shown (.list [t.d, rowD ps])))) (hrepr a7 rfl rfl) fun vk G8 H8 a8 hvk => ?_
  have B := a7.trans a8
  refine q_asg B.gh (s := .dat (patD (missing t ps))) (ev_miss (ea_cons (ev_data B.gh) (ea_cons (ev_var rfl (Dat.m htv B.g)) (ea_cons (ev_listL (ev_var rfl (Dat.m z2 B.g))) ea_nil))) (tb1.m (z1.trans B)) L.ask) fun vt G9 H9 a9 hvt => ?_
  have B := B.trans a9
  refine q_asg B.gh (s := .dat (natD (unused t ps))) (ev_unus (ea_cons (ev_data B.gh) (ea_cons (ev_var rfl (Dat.m htv B.g)) (ea_cons (ev_listL (ev_var rfl (Dat.m z2 B.g))) ea_nil))) (tb2.m (z1.trans B)) L.ask) fun vf G10 H10 a10 hvf => ?_
  have B := B.trans a10
  refine q_when (b := false) B.gh (eb_is (eb_test (ev_neS (hrepr B rfl rfl) (ev_var rfl (hvk.m (a9.trans a10).g)))) (by simp)) (fun z => nomatch z) (fun _ G11 H11 a11 => ?_)
  have B := B.trans a11
  have htv := Dat.m htv B.g
  have z2 := Dat.m z2 B.g
  have hvv := hvv.m (((a8.trans a9).trans a10).trans a11).g
  have hvt := hvt.m (a10.trans a11).g
  have hvf := hvf.m a11.g
  have C := z1.trans B
  clear a7 a8 a9 a10 a11 hvk hrepr tb1 tb2
  have hfit : ∀ {G' H' : Hp} {s' : L2.St} {p : Pat} {v : Val} {ta tb : TE}, p ∈ ps → v ∈ vals 3 t → EvD ta s' G' H' p.d → EvD tb s' G' H' v.d → EvD (tCall (spFits 4) [] E0 (tCons ta (tCons tb tNil))) s' G' H' (.bool (fits p v)) := fun {G' H' s' p v ta tb} h1 h2 e1 e2 =>
    ev_def (res := fun a : Pat × Val => .bool (fits a.1 a.2)) (p, v) (ea_cons e1 (ea_cons e2 ea_nil)) ⟨⟨t, L.wt p h1, vals_vt 3 t v h2, L.slim⟩, by have := L.dep p h1; show dep p < 4; omega⟩
  have hat : ∀ {i : Nat} (hi : i < ps.length), atI (Pat.ds ps) (i : Int) = some (ps[i]).d := fun {i} hi => atI_nat (by rw [Pat.ds_map, List.getElem?_map, List.getElem?_eq_getElem hi]; rfl)
  have hcut : ∀ i : Nat, cutD (Pat.ds ps) none (some (i : Int)) = (ps.take i).map Pat.d := fun i => by rw [cut_take, Pat.ds_map]
  have hfew := L.few
  refine q_forR (n := ps.length) C.gh (ev_is (ev_len (ds := Pat.ds ps) (ev_var rfl z2)) (by rw [ds_len])) (by omega) fun G12 H12 a12 => ?_
  refine ⟨fun i σ' G' H' => ∃ y4 y9, σ' = [some (.ref a), some (.ref p), some tv, some (.ref pl), y4, some vv, some vk, some vt, some vf, y9, none, none, none, none] ∧ Go G11 H11 G' H', ⟨y4, none, rfl, a12⟩, fun i s' G' H' hi ⟨y4, y9, hσ, g⟩ => ?_, fun s' G' H' ⟨y4, y9, hσ, g⟩ => ?_⟩
  · subst hσ
    have hm : ps[i] ∈ ps := List.getElem_mem hi
    refine q_asg g.gh (s := .dat (valsD ((vals 3 t).filter fun v => fits ps[i] v && !(!((ps.take i).filter fun q => fits q v).isEmpty)))) (ev_lc (enc := Val.d) (as := vals 3 t) (fun v => fits ps[i] v && !(!((ps.take i).filter fun q => fits q v).isEmpty)) Val.d (ev_var rfl (hvv.m g.g)) (by omega) fun v hv x G13 H13 b hx => ?_) fun va G13 H13 a13 hva => ?_
    · refine ⟨_, fun R z => z, rfl, ?_, fun _ => ev_var rfl hx⟩
      refine eb_and (eb_B (hfit hm hv (ev_il (ds := Pat.ds ps) (ev_var rfl (Dat.m z2 (g.trans b).g)) (ev_var rfl (.int (i : Int))) (hat hi)) (ev_var rfl hx))) fun _ => eb_not (eb_tru (ev_lc (enc := Pat.d) (as := ps.take i) (fun q => fits q v) Pat.d (ev_is (ev_slL (ds := Pat.ds ps) (ev_var rfl (Dat.m z2 (g.trans b).g)) eo_none (eo_some (ev_var rfl (.int (i : Int))))) (by rw [hcut])) (by rw [List.length_take]; omega) fun q hq y G14 H14 b2 hy => ?_) (tru_map _ _))
      refine ⟨_, fun R z => z, rfl, ?_, fun _ => ev_var rfl hy⟩
      exact eb_B (hfit (List.mem_of_mem_take hq) hv (ev_var rfl hy) (ev_var rfl (Dat.m hx b2.g)))
    have g2 := g.trans a13
    refine q_when (b := false) a13.gh (eb_is (eb_and (eb_tru (ev_var rfl hva) (tru_map _ _)) fun _ => eb_test (ev_eqF (ev_var rfl (hvf.m g2.g)) (ev_var rfl (.int (i : Int))) (flat_nat _) rfl)) ?_) (fun z => nomatch z) (fun _ G14 H14 a14 => ?_)
    · rw [eqv_nat]
      by_cases hu1 : unused t ps = some i
      · have hid := idle_true M0 hi (found_idle hu1)
        have hnil : ((vals 3 t).filter fun v => fits ps[i] v && !(!((ps.take i).filter fun q => fits q v).isEmpty)) = [] := by
          rw [List.filter_eq_nil_iff]
          intro v hv hc
          simp only [Bool.not_not, Bool.and_eq_true, List.isEmpty_iff] at hc
          obtain ⟨q, hq, hf⟩ := hid v (vals_vt 3 t v hv) hc.1
          have z := List.filter_eq_nil_iff.mp hc.2 q hq
          exact z hf
        rw [hnil]
        rfl
      · rw [decide_eq_false hu1, Bool.and_false]
    have g3 := g2.trans a14
    have hsh : ∀ q ∈ ps, SeqAt.shaped q.d = true := fun q hq => pat_shaped (L.tiny q hq) (by have := L.dep q hq; omega)
    refine s_when (b := false) a14.gh ?_ (fun z => nomatch z) (fun _ G15 H15 a15 => ⟨G15, _, _, rfl, g3.trans a15⟩)
    have hin : EvB (tTest (tOp (rInD K) (tOp (rIxA K) (tVar 3) (tVar 4)) (tSl (rSlL K) (tVar 3) tNoPart (tPart (tVar 4))))) [some (.ref a), some (.ref p), some tv, some (.ref pl), some (.int (i : Int)), some vv, some vk, some vt, some vf, some va, none, none, none, none] G14 H14 (((ps.take i).map Pat.d).any fun z => PyData.eqv z (ps[i]).d) :=
      eb_test (ev_inD (ds := (ps.take i).map Pat.d) (ev_il (ds := Pat.ds ps) (ev_var rfl (Dat.m z2 g3.g)) (ev_var rfl (.int (i : Int))) (hat hi)) (ev_is (ev_slL (ds := Pat.ds ps) (ev_var rfl (Dat.m z2 g3.g)) eo_none (eo_some (ev_var rfl (.int (i : Int))))) (by rw [hcut])) (hsh _ hm) (list_shaped (fun q hq => hsh q (List.mem_of_mem_take hq)) fun q hq => by
        have h1 := pat_depth q
        have h2 := L.dep q (List.mem_of_mem_take hq)
        omega))
    refine eb_is (eb_and (b := false) hin fun hdup => ?_) (Bool.and_false _)
    have hdup2 : ps[i] ∈ ps.take i := by
      obtain ⟨z, hz, e⟩ := List.any_eq_true.mp hdup
      obtain ⟨q, hq, rfl⟩ := List.mem_map.mp hz
      rw [← pat_eqv q ps[i] e]
      exact hq
    obtain ⟨j, hj, hji⟩ := idle_found hi (idle_dup hi hdup2)
    have hvf2 : Dat G14 vf (.int (j : Int)) := by
      have z : Dat G14 vf (natD (unused t ps)) := hvf.m g3.g
      rw [hj] at z
      exact z
    exact eb_is (eb_or (a := false) (b := false) (eb_B (ev_isNb (d := .int (j : Int)) (ev_var rfl hvf2) rfl)) fun _ => eb_is (eb_test (ev_I0b (g := fun i j => decide (j < i)) (ev_var rfl hvf2) (ev_var rfl (.int (i : Int))))) (decide_eq_false (by omega))) rfl
  subst hσ
  have hvv := hvv.m g.g
  have hvt := hvt.m g.g
  have z2 := Dat.m z2 g.g
  clear hvf M0 hat hcut
  have M0 := L.ask.m
  refine q_asg g.gh (s := .dat (valsD ((vals 3 t).filter fun v => !(!(ps.filter fun q => fits q v).isEmpty)))) (ev_lc (enc := Val.d) (as := vals 3 t) (fun v => !(!(ps.filter fun q => fits q v).isEmpty)) Val.d (ev_var rfl hvv) (by omega) fun v hv x G13 H13 b hx => ?_) fun vl G13 H13 a13 hvl2 => ?_
  · refine ⟨_, fun R z => z, rfl, ?_, fun _ => ev_var rfl hx⟩
    refine eb_not (eb_tru (ev_lc (enc := Pat.d) (as := ps) (fun q => fits q v) Pat.d (ev_is (ev_var rfl (Dat.m z2 b.g)) (by rw [rowD, Pat.ds_map])) (by omega) fun q hq y G14 H14 b2 hy => ?_) (tru_map _ _))
    refine ⟨_, fun R z => z, rfl, ?_, fun _ => ev_var rfl hy⟩
    exact eb_B (hfit hq hv (ev_var rfl hy) (ev_var rfl (Dat.m hx b2.g)))
  have hvt := hvt.m a13.g
  have z2 := Dat.m z2 a13.g
  have hvv := hvv.m a13.g
  cases hmis : missing t ps with
  | none =>
    rw [hmis] at hvt
    refine q_when (b := true) a13.gh (eb_B (ev_isNb (d := .none) (ev_var rfl hvt) rfl)) (fun _ G14 H14 a14 => ?_) (fun z => nomatch z)
    refine s_ret (s := .dat (.bool true)) a14.gh (ev_is (ev_notT (ev_var rfl (hvl2.m a14.g)) (tru_map _ _)) ?_) fun v G15 H15 a15 hd => by
      cases hd
      exact q _
    have hnil : ((vals 3 t).filter fun v => !(!(ps.filter fun q => fits q v).isEmpty)) = [] := by
      rw [List.filter_eq_nil_iff]
      intro v hv hc
      simp only [Bool.not_not, List.isEmpty_iff] at hc
      obtain ⟨q, hq, hf⟩ := missing_none M0 hmis v (vals_vt 3 t v hv)
      exact List.filter_eq_nil_iff.mp hc q hq hf
    rw [hnil]
    rfl
  | some pt =>
    rw [hmis] at hvt
    obtain ⟨w1, w2, w3⟩ := missing_some M0 hmis
    have w4 := told_dep hmis
    refine q_when (b := false) a13.gh (eb_B (ev_isNb (d := pt.d) (ev_var rfl hvt) (no_pat pt))) (fun z => nomatch z) (fun _ G14 H14 a14 => ?_)
    have z2 := Dat.m z2 a14.g
    have hopen : ps.filter Pat.isOpen = [] := by
      rw [List.filter_eq_nil_iff]
      intro q hq ho
      rw [missing_open ⟨q, hq, ho⟩] at hmis
      cases hmis
    refine q_when (b := false) a14.gh (eb_is (eb_tru (ev_lc (enc := Pat.d) (as := ps) Pat.isOpen Pat.d (ev_is (ev_var rfl z2) (by rw [rowD, Pat.ds_map])) (by omega) fun q hq y G15 H15 b2 hy => ?_) (tru_map _ _)) (by rw [hopen]; rfl)) (fun z => nomatch z) (fun _ G15 H15 a15 => ?_)
    · refine ⟨_, fun R z => z, rfl, ?_, fun _ => ev_var rfl hy⟩
      exact eb_open2 rfl hy
    have a16 := a14.trans a15
    have hvt := hvt.m a16.g
    have hvv := hvv.m a16.g
    have hvl2 := hvl2.m a16.g
    refine q_asg a15.gh (s := .dat (valsD ((vals 3 t).filter fun v => stands pt v))) (ev_lc (enc := Val.d) (as := vals 3 t) (fun v => stands pt v) Val.d (ev_var rfl hvv) (by omega) fun v hv x G16 H16 b hx => ?_) fun vs G16 H16 a17 hvs => ?_
    · refine ⟨_, fun R z => z, rfl, ?_, fun _ => ev_var rfl hx⟩
      exact eb_test (ev_isTrue (ev_def (res := fun a : Pat × Val => .bool (stands a.1 a.2)) (pt, v) (ea_cons (ev_var rfl (hvt.m b.g)) (ea_cons (ev_var rfl hx) ea_nil)) ⟨⟨t, w1, vals_vt 3 t v hv, L.slim⟩, by show dep pt < 42; omega, w2⟩))
    have hvl2 := hvl2.m a17.g
    have hvsh : ∀ v ∈ vals 3 t, SeqAt.shaped v.d = true ∧ v.d.depth ≤ 63 := fun v hv => val_shaped (by have := L.tdep; omega) hv
    refine s_ret (s := .dat (.bool true)) a17.gh (ev_is (ev_orV (ev_notT (ev_var rfl hvs) (tru_map _ _)) fun _ => ev_I0b (g := fun i j => decide (j < i)) (ev_len (ev_lc (enc := Val.d) (as := (vals 3 t).filter fun v => stands pt v) (fun v => (((vals 3 t).filter fun v => !(!(ps.filter fun q => fits q v).isEmpty)).map Val.d).any fun z => PyData.eqv z v.d) Val.d (ev_var rfl hvs) (by have := List.length_filter_le (fun v => stands pt v) (vals 3 t); omega) fun v hv x G17 H17 b hx => ?_)) ev_int) ?_) fun v G17 H17 a18 hd => by
      cases hd
      exact q _
    · refine ⟨_, fun R z => z, rfl, ?_, fun _ => ev_var rfl hx⟩
      exact eb_test (ev_inD (ev_var rfl hx) (ev_var rfl (hvl2.m b.g)) (hvsh v (List.mem_filter.mp hv).1).1 (list_shaped (fun v hv => (hvsh v (List.mem_filter.mp hv).1).1) fun v hv => (hvsh v (List.mem_filter.mp hv).1).2))
    · cases hS : (vals 3 t).filter fun v => stands pt v with
      | nil => rfl
      | cons v0 S =>
        have hv0 : v0 ∈ (vals 3 t).filter fun v => stands pt v := by rw [hS]; exact List.mem_cons_self
        obtain ⟨k1, k2⟩ := told_stands (n := 3) w1 w2 ⟨v0, (List.mem_filter.mp hv0).1, (List.mem_filter.mp hv0).2⟩
        rw [← hS]
        have hcl : canon pt t ∈ (vals 3 t).filter fun v => !(!(ps.filter fun q => fits q v).isEmpty) := by
          refine List.mem_filter.mpr ⟨k1, ?_⟩
          simp only [Bool.not_not, List.isEmpty_iff, List.filter_eq_nil_iff]
          intro q hq hf
          rw [w3 q hq] at hf
          cases hf
        have hmem : canon pt t ∈ ((vals 3 t).filter fun v => stands pt v).filter fun v => (((vals 3 t).filter fun v => !(!(ps.filter fun q => fits q v).isEmpty)).map Val.d).any fun z => PyData.eqv z v.d := by
          refine List.mem_filter.mpr ⟨List.mem_filter.mpr ⟨k1, k2⟩, ?_⟩
          exact List.any_eq_true.mpr ⟨_, List.mem_map.mpr ⟨_, hcl, rfl⟩, val_eqv _⟩
        have hpos := List.length_pos_of_mem hmem
        congr 1
        rw [Bool.or_eq_true]
        refine .inr (decide_eq_true ?_)
        rw [List.length_map]
        omega
end
end G

/-! The end: the law is entered at the caller's own place (there repr's guards are known to be empty). -/
namespace G
open PySem PySem.Spec PyProof.Rows L2 Evl
open M
/-- a def entered at one place A, its body read there -/
theorem enter_at {P : Program} {w : World} {K : PySem.W.Frag} {mg : Str → Option Value} {base : Heap} {k : Nat} {fa : Addr} {nm ql : Str} {prm : Arguments} {bdy : List Stmt} {sco : Scope} {dv kv dc pm cd ct oc : Value} {an od : Option Addr} {osl : Array (Option Value)} {N ps : List Str}
    {A : Around} {outer : List Env} {s : Shared} {H : Hp} {args : Args} {us : List Value} {vs : List V} {Q : VK} {E : XK}
    (known : K.lookup fa = some ⟨oc, od, .func (PySem.W.fnOf nm ql prm bdy sco dv kv dc pm an cd ct), osl⟩) (coded : PySem.W.codeIn K cd ql = true) (S : FnScope N ps sco) (count : vs.length = ps.length) (room : Room (k + 1) A) (env0 : Env0 P w K mg base A outer s H)
    (bound : BindsTo s (PySem.W.fnOf nm ql prm bdy sco dv kv dc pm an cd ct) args (ps.zip us)) (same : Vals vs us)
    (read : ∃ t, PSs (cxOf CX0 P w K mg base N ql sco fa cd A outer s H E) bdy t ∧ t { nx := fun _ H' => Q .non H', rt := Q } (start N vs) H) :
    codeAny (model P w) A (.call (.ref fa) args) (CR CX0 outer P w H s Q E) s := by
  have up : ∀ b o, base.get? b = some o → s.heap.get? b = some o := fun b o z => (env0.bs b o z).1
  have kin : K.In s.heap := env0.mod.kin.keeps up
  have slots : ∀ y ∈ ps.zip us, sco.names.lookup y.1 = some .local ∨ (sco.names.lookup y.1 = some .cell ∧ ((cellsFrom (s.heap.objs.size + 1) sco.names []).lookup y.1).isSome = true) := by
    rintro ⟨n, v⟩ hy
    exact (S.par n (List.of_mem_zip hy).1).imp id fun z => ⟨z, PySem.W.cellsFrom_some _ _ _ (.inl z)⟩
  refine codeAny_call_function room.depth (kin _ _ known) rfl S.co S.gen rfl (PySem.W.codeRec_of kin coded) (bound _ _ _ _ (wpAny_newFunctionEnv_cells S.kind slots fun env isEnv s1 inside => ?_))
  subst isEnv
  refine ⟨(env0.mod.nolimit.keeps up).keeps inside.toInCall.keep, codeAny_func ?_⟩
  obtain ⟨t, ht, hq⟩ := read
  have I := inv_start (CX := CX0) (E := E) S room.hd env0 count same inside
  refine wpAny_mono (ht.run [] s1 (start N vs) H _ I hq) (fun flow s' z => ?_) fun _ _ z => z
  have leave : ∀ {σ' : L2.St} {H' : Hp} {v : V} {u : Value}, Inv (cxOf CX0 P w K mg base N ql sco fa cd A outer s H E) [] σ' H' s' → RelV v u → Q v H' → CE outer P w H s Q u s' := fun J r q => ⟨_, _, J.os, J.bare, J.base, J.hok, r, q⟩
  cases flow with
  | ret u =>
    obtain ⟨_, _, _, J, r, q⟩ := z
    exact leave J r q
  | next =>
    obtain ⟨_, _, J, q⟩ := z
    exact leave (v := V.non) (u := Value.none) J rfl q
  | brk =>
    obtain ⟨_, _, _, no⟩ := z
    exact no.elim
  | cont =>
    obtain ⟨_, _, _, no⟩ := z
    exact no.elim
/-- what the tables are: empty in the heap, not in the written part, each the table of its code object -/
structure TabAt (K : PySem.W.Frag) (h : Heap) (c T : Addr) : Prop where
  empty : h.get? T = some { cls := .none, data := .fields #[] }
  free : K.lookup T = none
  head : PySem.W.codeHdIn K c T = true
/-- the script and the two tables, tracked -/
def seen (K : PySem.W.Frag) (a T1 T2 : Addr) (vs : List Value) (ns : List Int) : Hp := fun b => if b = T1 ∨ b = T2 then some (.tbl #[]) else if b = a ∧ K.lookup a = none then some (.frz { cls := .type "list", data := .seq vs.toArray } (.lst (ns.map V.int))) else none
theorem seen_tab {K : PySem.W.Frag} {a T1 T2 T : Addr} {vs : List Value} {ns : List Int} (h : T = T1 ∨ T = T2) : seen K a T1 T2 vs ns T = some (.tbl #[]) := if_pos h
theorem seen_none {K : PySem.W.Frag} {a T1 T2 b : Addr} {vs : List Value} {ns : List Int} (h1 : ¬(b = T1 ∨ b = T2)) (h2 : ¬(b = a ∧ K.lookup a = none)) : seen K a T1 T2 vs ns b = none := (if_neg h1).trans (if_neg h2)
theorem seen_script {K : PySem.W.Frag} {a T1 T2 : Addr} {vs : List Value} {ns : List Int} (h1 : ¬(a = T1 ∨ a = T2)) (h2 : K.lookup a = none) : seen K a T1 T2 vs ns a = some (.frz { cls := .type "list", data := .seq vs.toArray } (.lst (ns.map V.int))) := (if_neg h1).trans (if_pos ⟨rfl, h2⟩)
theorem run_law {P : Program} {w : World} {K : PySem.W.Frag} {mg mb : Str → Option Value} {k : Nat} {fa a c1 T1 c2 T2 : Addr} {nm ql : Str} {prm : Arguments} {bdy : List Stmt} {sco : Scope} {dv kv dc pm cd ct oc : Value} {an od : Option Addr} {osl : Array (Option Value)} {N : List Str} {x : Str}
    {s₁ : Shared} {vs : List Value} {ns : List Int}
    (kin : K.In s₁.heap) (glob : s₁.heap.Ns mainGlobals mg) (blt : s₁.heap.Ns builtinsNs mb) (boot : ∀ y : Str, y ≠ "__name__" → mb y = bootBuiltins y) (lim : s₁.heap.NoLimit) (gens : s₁.gens = #[])
    (t1 : TabAt K s₁.heap c1 T1) (t2 : TabAt K s₁.heap c2 T2)
    (bmod : ∃ (bm : Addr) (ob : Obj), mg "__builtins__" = some (.ref bm) ∧ bm ≠ builtinsNs ∧ s₁.heap.get? bm = some ob ∧ ob.cls = .type "module" ∧ ob.dict = some builtinsNs ∧ ob.data = .plain)
    (script : s₁.heap.get? a = some { cls := .type "list", data := .seq vs.toArray }) (nums : IntsAre vs ns) (few : ns.length ≤ sizeLine) (room : Room (k + 1) callerA)
    (known : K.lookup fa = some ⟨oc, od, .func (PySem.W.fnOf nm ql prm bdy sco dv kv dc pm an cd ct), osl⟩) (coded : PySem.W.codeIn K cd ql = true) (S : FnScope N [x] sco) (bound : BindsTo s₁ (PySem.W.fnOf nm ql prm bdy sco dv kv dc pm an cd ct) ⟨[.ref a], []⟩ [(x, .ref a)])
    (read : ∀ (base : Heap) (H : Hp), K.In base → base.Ns mainGlobals mg → GxR.TabB base mg c1 T1 → GxR.TabB base mg c2 T2 → SqL K H a (ns.map V.int) → GxR.TabG H T1 → GxR.TabG H T2 → ∀ (Q : VK) (E : XK), (∀ H', Q (.bl true) H') →
      ∃ t, PSs (cxOf CX0 P w K mg base N ql sco fa cd callerA [] s₁ H E) bdy t ∧ t { nx := fun _ H' => Q .non H', rt := Q } (start N [.ref a]) H) :
    codeAny (model P w) callerA (.call (.ref fa) ⟨[.ref a], []⟩) (fun r s' => r = .ok (.ret (.bool true)) ∧ OldK s₁.heap s'.heap ∧ s'.os = s₁.os ∧ AllBare s'.gens) s₁ := by
  have numsR := vals_ints nums
  have empty : ∀ T, T = T1 ∨ T = T2 → s₁.heap.get? T = some { cls := .none, data := .fields #[] } := fun T z => by
    rcases z with rfl | rfl
    · exact t1.empty
    · exact t2.empty
  have free : ∀ T, T = T1 ∨ T = T2 → K.lookup T = none := fun T z => by
    rcases z with rfl | rfl
    · exact t1.free
    · exact t2.free
  have aT : ¬(a = T1 ∨ a = T2) := fun z => by
    have q := (empty a z).symm.trans script
    cases q
  -- the tracked heap
  generalize hH : seen K a T1 T2 vs ns = H
  have cases3 : ∀ b, H b = none ∨ (H b = some (.tbl #[]) ∧ (b = T1 ∨ b = T2)) ∨ (H b = some (.frz { cls := .type "list", data := .seq vs.toArray } (.lst (ns.map V.int))) ∧ b = a ∧ K.lookup a = none) := fun b => by
    rw [← hH]
    by_cases z : b = T1 ∨ b = T2
    · exact .inr (.inl ⟨seen_tab z, z⟩)
    · by_cases y : b = a ∧ K.lookup a = none
      · obtain ⟨rfl, y⟩ := y
        exact .inr (.inr ⟨seen_script z y, rfl, y⟩)
      · exact .inl (seen_none z y)
  have tab1 : H T1 = some (.tbl #[]) := by
    rw [← hH]
    exact seen_tab (.inl rfl)
  have tab2 : H T2 = some (.tbl #[]) := by
    rw [← hH]
    exact seen_tab (.inr rfl)
  have hok : HOk P w H s₁.heap := fun b u z => by
    rcases cases3 b with n | ⟨y, hb⟩ | ⟨y, rfl, _⟩
    · rw [n] at z
      cases z
    · rw [y] at z
      cases z
      exact empty b hb
    · rw [y] at z
      cases z
      exact ⟨script, by rw [List.length_map]; exact few, vs, _, numsR, script⟩
  have sqs : SqL K H a (ns.map V.int) := by
    cases hk : K.lookup a with
    | none =>
      refine .inl (.inr ⟨{ cls := .type "list", data := .seq vs.toArray }, ?_⟩)
      rw [← hH]
      exact seen_script aT hk
    | some o =>
      have z := kin a o hk
      rw [script] at z
      cases z
      exact .inr ⟨_, vs.toArray, _, hk, rfl, rfl, rfl, by rw [List.size_toArray, nums.length]; exact few, by simpa using numsR⟩
  have untracked : ∀ {b : Addr} {o : Obj}, s₁.heap.get? b = some o → (∀ v n, o.data ≠ .seq v n) → o.data ≠ .fields #[] → H b = none := fun {b o} z n1 n2 => by
    rcases cases3 b with n | ⟨_, hb⟩ | ⟨_, rfl, _⟩
    · exact n
    · rw [empty b hb] at z
      cases z
      exact absurd rfl n2
    · rw [script] at z
      cases z
      exact absurd rfl (n1 _ _)
  have kinB : K.In (hidT s₁.heap H) := fun b o z => hidT_get (kin b o z) (by
    rcases cases3 b with n | ⟨_, hb⟩ | ⟨_, rfl, y⟩
    · exact n
    · rw [free b hb] at z
      cases z
    · rw [y] at z
      cases z)
  have nsOf : ∀ {b : Addr} {m : Str → Option Value}, s₁.heap.Ns b m → (hidT s₁.heap H).Ns b m := fun {b m} ⟨o, es, ep, z, hd, r⟩ => ⟨o, es, ep, hidT_get z (untracked z (fun v n y => by rw [hd] at y; cases y) fun y => by rw [hd] at y; cases y), hd, r⟩
  have modB : L2.Mod K mg (hidT s₁.heap H) := ⟨kinB, nsOf glob, ⟨mb, nsOf blt, boot⟩, lim.imp fun _ z => ⟨nsOf z.1, z.2⟩⟩
  have tables : ∀ c T, TabAt K s₁.heap c T → GxR.TabB (hidT s₁.heap H) mg c T := fun c T t => by
    refine ⟨PySem.W.codeHd_of_K kinB t.head, ?_, fun z => ?_⟩
    · obtain ⟨bm, ob, b1, b2, b3, b4, b5, b6⟩ := bmod
      refine ⟨bm, ob, b1, b2, fun z => ?_, fun z => ?_, hidT_get b3 (untracked b3 (fun v n y => by rw [b6] at y; cases y) fun y => by rw [b6] at y; cases y), b4, b5, b6⟩
      · obtain ⟨o, es, ep, y, hd, _⟩ := glob
        rw [← z, b3] at y
        cases y
        rw [b6] at hd
        cases hd
      · rw [z, t.empty] at b3
        cases b3
        cases b6
    · obtain ⟨o, es, ep, y, hd, _⟩ := glob
      rw [z, t.empty] at y
      cases y
      cases hd
  have env0 : Env0 P w K mg (hidT s₁.heap H) callerA [] s₁ H := ⟨rfl, modB, fun b o z => of_hidT z, Nat.le_of_eq (hidT_size _ _), trivial, fun b hb => absurd (show b ∈ ([] : List Addr) from hb) (by simp), hok, .of_eq gens⟩
  have go := enter_at (vs := [V.ref a]) (us := [Value.ref a]) (ps := [x]) (Q := fun v _ => v = .bl true) (E := fun _ _ _ => False) known coded S rfl room env0 bound (.cons rfl .nil)
    (read (hidT s₁.heap H) H kinB (nsOf glob) (tables _ _ t1) (tables _ _ t2) sqs ⟨#[], tab1, trivial⟩ ⟨#[], tab2, trivial⟩ (fun v _ => v = .bl true) (fun _ _ _ => False) fun _ => rfl)
  refine codeAny_mono go fun r s' z => ?_
  match r, z with
  | .error _, z => exact z.elim
  | .ok .next, z => exact z.elim
  | .ok .brk, z => exact z.elim
  | .ok .cont, z => exact z.elim
  | .ok (.ret u), ⟨v, H', os, bare, un, hok', rel, isT⟩ =>
    have isT : v = .bl true := isT
    subst isT
    obtain rfl : u = Value.bool true := rel
    have grown : ∀ T, T = T1 ∨ T = T2 → ∃ more : Array Value, s'.heap.get? T = some { cls := .none, data := .fields more } := fun T hT => by
      obtain ⟨more, y⟩ := un.tbls T #[] (by rw [← hH]; exact seen_tab hT)
      exact ⟨_, hok' T _ y⟩
    have stays : ∀ b o, ¬(b = T1 ∨ b = T2) → s₁.heap.get? b = some o → s'.heap.get? b = some o := fun b o nT y => by
      rcases cases3 b with n | ⟨_, hb⟩ | ⟨yb, rfl, _⟩
      · exact un.keep b o y n (fun z => absurd (show b ∈ ([] : List Addr) from z) (by simp)) (by simp)
      · exact absurd hb nT
      · obtain ⟨e2, _⟩ := hok' b _ (un.frzs b _ _ yb)
        rw [script] at y
        cases y
        exact e2
    have isTab : ∀ T, T = T1 ∨ T = T2 → ∃ c, TabAt K s₁.heap c T := fun T hT => by
      rcases hT with rfl | rfl
      · exact ⟨c1, t1⟩
      · exact ⟨c2, t2⟩
    refine ⟨rfl, ⟨fun b o y => ?_, fun b o y => ?_⟩, os, bare⟩
    · by_cases hb : b = T1 ∨ b = T2
      · obtain ⟨more, hm⟩ := grown b hb
        obtain ⟨c, tc⟩ := isTab b hb
        rw [empty b hb] at y
        cases y
        exact .inr (.inl ⟨((PySem.W.codeHd_of_K kin tc.head).tab (empty b hb)).isCodeTable, rfl, #[], more, rfl, by rw [Array.empty_append]; exact hm⟩)
      · exact .inl (stays b o hb y)
    · by_cases hb : b = T1 ∨ b = T2
      · obtain ⟨more, hm⟩ := grown b hb
        exact ⟨_, hm⟩
      · exact ⟨o, stays b o hb y⟩
end G

namespace G
open PySem PySem.Spec PyProof.Rows L2 Evl
open M
/-- the table of a def of the text -/
structure TabFor (K : PySem.W.Frag) (mg : Str → Option Value) (x : Str) (c T : Addr) : Prop where
  ex : ∃ (f : Addr) (o : Obj) (fd : FuncData) (e : Value) (dd : Option Addr) (vs : Array Value) (sl : Array (Option Value)), mg x = some (.ref f) ∧ K.lookup f = some o ∧ o.data = .func fd ∧ fd.code = .ref c ∧ K.lookup c = some ⟨e, dd, .fields vs, sl⟩ ∧ vs[11]? = some (.ref T)
  free : K.lookup T = none
  head : PySem.W.codeHdIn K c T = true
/-- the law's def, read -/
def LawRun (P : Program) (w : World) (K : PySem.W.Frag) (mg : Str → Option Value) (fa c1 T1 c2 T2 : Addr) : Prop :=
  ∃ (oc : Value) (od : Option Addr) (osl : Array (Option Value)) (kv dc pm cd ct : Value) (an : Option Addr), K.lookup fa = some ⟨oc, od, .func (PySem.W.fnOf "law" "law" (defArgs s_law) (defBody s_law) (defScope s_law) .none kv dc pm an cd ct), osl⟩ ∧ PySem.W.codeIn K cd "law" = true ∧
    ∀ (base : Heap) (H : Hp) (s : Shared) (a : Addr) (ns : List Int), K.In base → base.Ns mainGlobals mg → GxR.TabB base mg c1 T1 → GxR.TabB base mg c2 T2 → SqL K H a (ns.map V.int) → GxR.TabG H T1 → GxR.TabG H T2 → ∀ (Q : VK) (E : XK), (∀ H', Q (.bl true) H') →
      ∃ t, PSs (cxOf CX0 P w K mg base ["script", "d", "ty", "patterns", "k", "values", "kept", "told", "first", "alone", "v", "one", "left", "stands"] "law" (defScope s_law) fa cd callerA [] s H E) (defBody s_law) t ∧ t { nx := fun _ H' => Q .non H', rt := Q } (start ["script", "d", "ty", "patterns", "k", "values", "kept", "told", "first", "alone", "v", "one", "left", "stands"] [.ref a]) H
theorem room_law : Room 49 callerA := ⟨rfl, by decide, by decide⟩
theorem all_mk {P : Program} {w : World} {K : PySem.W.Frag} {h : Heap} {mg : Str → Option Value} {fa : Addr} (X : K.In h) (N : h.Ns mainGlobals mg) (hfa : mg "law" = some (.ref fa))
    {f_ty_parts : Addr} {od_ty_parts an_ty_parts : Option Addr} {sl_ty_parts : Array (Option Value)} {oc_ty_parts kV_ty_parts dc_ty_parts pm_ty_parts cd_ty_parts ct_ty_parts : Value}
    {f_rebuilt : Addr} {od_rebuilt an_rebuilt : Option Addr} {sl_rebuilt : Array (Option Value)} {oc_rebuilt kV_rebuilt dc_rebuilt pm_rebuilt cd_rebuilt ct_rebuilt : Value}
    {f_replaced : Addr} {od_replaced an_replaced : Option Addr} {sl_replaced : Array (Option Value)} {oc_replaced kV_replaced dc_replaced pm_replaced cd_replaced ct_replaced : Value}
    {f_instance : Addr} {od_instance an_instance : Option Addr} {sl_instance : Array (Option Value)} {oc_instance kV_instance dc_instance pm_instance cd_instance ct_instance : Value}
    {f_constructors : Addr} {od_constructors an_constructors : Option Addr} {sl_constructors : Array (Option Value)} {oc_constructors kV_constructors dc_constructors pm_constructors cd_constructors ct_constructors : Value}
    {f_is_open : Addr} {od_is_open an_is_open : Option Addr} {sl_is_open : Array (Option Value)} {oc_is_open kV_is_open dc_is_open pm_is_open cd_is_open ct_is_open : Value}
    {f_head_of : Addr} {od_head_of an_head_of : Option Addr} {sl_head_of : Array (Option Value)} {oc_head_of kV_head_of dc_head_of pm_head_of cd_head_of ct_head_of : Value}
    {f_inner_of : Addr} {od_inner_of an_inner_of : Option Addr} {sl_inner_of : Array (Option Value)} {oc_inner_of kV_inner_of dc_inner_of pm_inner_of cd_inner_of ct_inner_of : Value}
    {f_heads : Addr} {od_heads an_heads : Option Addr} {sl_heads : Array (Option Value)} {oc_heads kV_heads dc_heads pm_heads cd_heads ct_heads : Value}
    {f_specialized : Addr} {od_specialized an_specialized : Option Addr} {sl_specialized : Array (Option Value)} {oc_specialized kV_specialized dc_specialized pm_specialized cd_specialized ct_specialized : Value}
    {f_rest_rows : Addr} {od_rest_rows an_rest_rows : Option Addr} {sl_rest_rows : Array (Option Value)} {oc_rest_rows kV_rest_rows dc_rest_rows pm_rest_rows cd_rest_rows ct_rest_rows : Value}
    {f_shown : Addr} {od_shown an_shown : Option Addr} {sl_shown : Array (Option Value)} {oc_shown kV_shown dc_shown pm_shown cd_shown ct_shown : Value}
    {f_left_out : Addr} {od_left_out an_left_out : Option Addr} {sl_left_out : Array (Option Value)} {oc_left_out kV_left_out dc_left_out pm_left_out ct_left_out : Value}
    {f_divided : Addr} {od_divided an_divided : Option Addr} {sl_divided : Array (Option Value)} {oc_divided kV_divided dc_divided pm_divided cd_divided ct_divided : Value}
    {f_missing : Addr} {od_missing an_missing : Option Addr} {sl_missing : Array (Option Value)} {oc_missing kV_missing dc_missing pm_missing cd_missing ct_missing : Value}
    {f_fits_more : Addr} {od_fits_more an_fits_more : Option Addr} {sl_fits_more : Array (Option Value)} {oc_fits_more kV_fits_more dc_fits_more pm_fits_more ct_fits_more : Value}
    {f_unused : Addr} {od_unused an_unused : Option Addr} {sl_unused : Array (Option Value)} {oc_unused kV_unused dc_unused pm_unused cd_unused ct_unused : Value}
    {f__law_start : Addr} {od__law_start an__law_start : Option Addr} {sl__law_start : Array (Option Value)} {oc__law_start kV__law_start dc__law_start pm__law_start cd__law_start ct__law_start : Value}
    {f__law_fill : Addr} {od__law_fill an__law_fill : Option Addr} {sl__law_fill : Array (Option Value)} {oc__law_fill kV__law_fill dc__law_fill pm__law_fill cd__law_fill ct__law_fill : Value}
    {f__law_take : Addr} {od__law_take an__law_take : Option Addr} {sl__law_take : Array (Option Value)} {oc__law_take kV__law_take dc__law_take pm__law_take cd__law_take ct__law_take : Value}
    {f__law_ty : Addr} {od__law_ty an__law_ty : Option Addr} {sl__law_ty : Array (Option Value)} {oc__law_ty kV__law_ty dc__law_ty pm__law_ty cd__law_ty ct__law_ty : Value}
    {f__law_data : Addr} {od__law_data an__law_data : Option Addr} {sl__law_data : Array (Option Value)} {oc__law_data kV__law_data dc__law_data pm__law_data cd__law_data ct__law_data : Value}
    {f__law_pattern : Addr} {od__law_pattern an__law_pattern : Option Addr} {sl__law_pattern : Array (Option Value)} {oc__law_pattern kV__law_pattern dc__law_pattern pm__law_pattern cd__law_pattern ct__law_pattern : Value}
    {f__law_values : Addr} {od__law_values an__law_values : Option Addr} {sl__law_values : Array (Option Value)} {oc__law_values kV__law_values dc__law_values pm__law_values cd__law_values ct__law_values : Value}
    {f__law_fits : Addr} {od__law_fits an__law_fits : Option Addr} {sl__law_fits : Array (Option Value)} {oc__law_fits kV__law_fits dc__law_fits pm__law_fits cd__law_fits ct__law_fits : Value}
    {f__law_stands : Addr} {od__law_stands an__law_stands : Option Addr} {sl__law_stands : Array (Option Value)} {oc__law_stands kV__law_stands dc__law_stands pm__law_stands cd__law_stands ct__law_stands : Value}
    {f_law : Addr} {od_law an_law : Option Addr} {sl_law : Array (Option Value)} {oc_law kV_law dc_law pm_law cd_law ct_law : Value}
    {c1 T1 : Addr} {e1 : Value} {dd1 : Option Addr} {vs1 : Array Value} {tl1 : Array (Option Value)}
    {c2 T2 : Addr} {e2 : Value} {dd2 : Option Addr} {vs2 : Array Value} {tl2 : Array (Option Value)}
    (a_ty_parts : PySem.W.nsIn K mainGlobals "ty_parts" = some (some (.ref f_ty_parts))) (l_ty_parts : K.lookup f_ty_parts = some ⟨oc_ty_parts, od_ty_parts, .func (PySem.W.fnOf "ty_parts" "ty_parts" (defArgs s_ty_parts) (defBody s_ty_parts) (defScope s_ty_parts) .none kV_ty_parts dc_ty_parts pm_ty_parts an_ty_parts cd_ty_parts ct_ty_parts), sl_ty_parts⟩) (c_ty_parts : PySem.W.codeIn K cd_ty_parts "ty_parts" = true) (k_ty_parts : PySem.W.keepIn K (.ref f_ty_parts) = true)
    (a_rebuilt : PySem.W.nsIn K mainGlobals "rebuilt" = some (some (.ref f_rebuilt))) (l_rebuilt : K.lookup f_rebuilt = some ⟨oc_rebuilt, od_rebuilt, .func (PySem.W.fnOf "rebuilt" "rebuilt" (defArgs s_rebuilt) (defBody s_rebuilt) (defScope s_rebuilt) .none kV_rebuilt dc_rebuilt pm_rebuilt an_rebuilt cd_rebuilt ct_rebuilt), sl_rebuilt⟩) (c_rebuilt : PySem.W.codeIn K cd_rebuilt "rebuilt" = true) (k_rebuilt : PySem.W.keepIn K (.ref f_rebuilt) = true)
    (a_replaced : PySem.W.nsIn K mainGlobals "replaced" = some (some (.ref f_replaced))) (l_replaced : K.lookup f_replaced = some ⟨oc_replaced, od_replaced, .func (PySem.W.fnOf "replaced" "replaced" (defArgs s_replaced) (defBody s_replaced) (defScope s_replaced) .none kV_replaced dc_replaced pm_replaced an_replaced cd_replaced ct_replaced), sl_replaced⟩) (c_replaced : PySem.W.codeIn K cd_replaced "replaced" = true) (k_replaced : PySem.W.keepIn K (.ref f_replaced) = true)
    (a_instance : PySem.W.nsIn K mainGlobals "instance" = some (some (.ref f_instance))) (l_instance : K.lookup f_instance = some ⟨oc_instance, od_instance, .func (PySem.W.fnOf "instance" "instance" (defArgs s_instance) (defBody s_instance) (defScope s_instance) .none kV_instance dc_instance pm_instance an_instance cd_instance ct_instance), sl_instance⟩) (c_instance : PySem.W.codeIn K cd_instance "instance" = true) (k_instance : PySem.W.keepIn K (.ref f_instance) = true)
    (a_constructors : PySem.W.nsIn K mainGlobals "constructors" = some (some (.ref f_constructors))) (l_constructors : K.lookup f_constructors = some ⟨oc_constructors, od_constructors, .func (PySem.W.fnOf "constructors" "constructors" (defArgs s_constructors) (defBody s_constructors) (defScope s_constructors) .none kV_constructors dc_constructors pm_constructors an_constructors cd_constructors ct_constructors), sl_constructors⟩) (c_constructors : PySem.W.codeIn K cd_constructors "constructors" = true) (k_constructors : PySem.W.keepIn K (.ref f_constructors) = true)
    (a_is_open : PySem.W.nsIn K mainGlobals "is_open" = some (some (.ref f_is_open))) (l_is_open : K.lookup f_is_open = some ⟨oc_is_open, od_is_open, .func (PySem.W.fnOf "is_open" "is_open" (defArgs s_is_open) (defBody s_is_open) (defScope s_is_open) .none kV_is_open dc_is_open pm_is_open an_is_open cd_is_open ct_is_open), sl_is_open⟩) (c_is_open : PySem.W.codeIn K cd_is_open "is_open" = true) (k_is_open : PySem.W.keepIn K (.ref f_is_open) = true)
    (a_head_of : PySem.W.nsIn K mainGlobals "head_of" = some (some (.ref f_head_of))) (l_head_of : K.lookup f_head_of = some ⟨oc_head_of, od_head_of, .func (PySem.W.fnOf "head_of" "head_of" (defArgs s_head_of) (defBody s_head_of) (defScope s_head_of) .none kV_head_of dc_head_of pm_head_of an_head_of cd_head_of ct_head_of), sl_head_of⟩) (c_head_of : PySem.W.codeIn K cd_head_of "head_of" = true) (k_head_of : PySem.W.keepIn K (.ref f_head_of) = true)
    (a_inner_of : PySem.W.nsIn K mainGlobals "inner_of" = some (some (.ref f_inner_of))) (l_inner_of : K.lookup f_inner_of = some ⟨oc_inner_of, od_inner_of, .func (PySem.W.fnOf "inner_of" "inner_of" (defArgs s_inner_of) (defBody s_inner_of) (defScope s_inner_of) .none kV_inner_of dc_inner_of pm_inner_of an_inner_of cd_inner_of ct_inner_of), sl_inner_of⟩) (c_inner_of : PySem.W.codeIn K cd_inner_of "inner_of" = true) (k_inner_of : PySem.W.keepIn K (.ref f_inner_of) = true)
    (a_heads : PySem.W.nsIn K mainGlobals "heads" = some (some (.ref f_heads))) (l_heads : K.lookup f_heads = some ⟨oc_heads, od_heads, .func (PySem.W.fnOf "heads" "heads" (defArgs s_heads) (defBody s_heads) (defScope s_heads) .none kV_heads dc_heads pm_heads an_heads cd_heads ct_heads), sl_heads⟩) (c_heads : PySem.W.codeIn K cd_heads "heads" = true) (k_heads : PySem.W.keepIn K (.ref f_heads) = true)
    (a_specialized : PySem.W.nsIn K mainGlobals "specialized" = some (some (.ref f_specialized))) (l_specialized : K.lookup f_specialized = some ⟨oc_specialized, od_specialized, .func (PySem.W.fnOf "specialized" "specialized" (defArgs s_specialized) (defBody s_specialized) (defScope s_specialized) .none kV_specialized dc_specialized pm_specialized an_specialized cd_specialized ct_specialized), sl_specialized⟩) (c_specialized : PySem.W.codeIn K cd_specialized "specialized" = true) (k_specialized : PySem.W.keepIn K (.ref f_specialized) = true)
    (a_rest_rows : PySem.W.nsIn K mainGlobals "rest_rows" = some (some (.ref f_rest_rows))) (l_rest_rows : K.lookup f_rest_rows = some ⟨oc_rest_rows, od_rest_rows, .func (PySem.W.fnOf "rest_rows" "rest_rows" (defArgs s_rest_rows) (defBody s_rest_rows) (defScope s_rest_rows) .none kV_rest_rows dc_rest_rows pm_rest_rows an_rest_rows cd_rest_rows ct_rest_rows), sl_rest_rows⟩) (c_rest_rows : PySem.W.codeIn K cd_rest_rows "rest_rows" = true) (k_rest_rows : PySem.W.keepIn K (.ref f_rest_rows) = true)
    (a_shown : PySem.W.nsIn K mainGlobals "shown" = some (some (.ref f_shown))) (l_shown : K.lookup f_shown = some ⟨oc_shown, od_shown, .func (PySem.W.fnOf "shown" "shown" (defArgs s_shown) (defBody s_shown) (defScope s_shown) .none kV_shown dc_shown pm_shown an_shown cd_shown ct_shown), sl_shown⟩) (c_shown : PySem.W.codeIn K cd_shown "shown" = true) (k_shown : PySem.W.keepIn K (.ref f_shown) = true)
    (a_left_out : PySem.W.nsIn K mainGlobals "left_out" = some (some (.ref f_left_out))) (l_left_out : K.lookup f_left_out = some ⟨oc_left_out, od_left_out, .func (PySem.W.fnOf "left_out" "left_out" (defArgs s_left_out) (defBody s_left_out) (defScope s_left_out) .none kV_left_out dc_left_out pm_left_out an_left_out (.ref c1) ct_left_out), sl_left_out⟩) (c_left_out : PySem.W.codeIn K (.ref c1) "left_out" = true) (k_left_out : PySem.W.keepIn K (.ref f_left_out) = true)
    (a_divided : PySem.W.nsIn K mainGlobals "divided" = some (some (.ref f_divided))) (l_divided : K.lookup f_divided = some ⟨oc_divided, od_divided, .func (PySem.W.fnOf "divided" "divided" (defArgs s_divided) (defBody s_divided) (defScope s_divided) .none kV_divided dc_divided pm_divided an_divided cd_divided ct_divided), sl_divided⟩) (c_divided : PySem.W.codeIn K cd_divided "divided" = true) (k_divided : PySem.W.keepIn K (.ref f_divided) = true)
    (a_missing : PySem.W.nsIn K mainGlobals "missing" = some (some (.ref f_missing))) (l_missing : K.lookup f_missing = some ⟨oc_missing, od_missing, .func (PySem.W.fnOf "missing" "missing" (defArgs s_missing) (defBody s_missing) (defScope s_missing) .none kV_missing dc_missing pm_missing an_missing cd_missing ct_missing), sl_missing⟩) (c_missing : PySem.W.codeIn K cd_missing "missing" = true) (k_missing : PySem.W.keepIn K (.ref f_missing) = true)
    (a_fits_more : PySem.W.nsIn K mainGlobals "fits_more" = some (some (.ref f_fits_more))) (l_fits_more : K.lookup f_fits_more = some ⟨oc_fits_more, od_fits_more, .func (PySem.W.fnOf "fits_more" "fits_more" (defArgs s_fits_more) (defBody s_fits_more) (defScope s_fits_more) .none kV_fits_more dc_fits_more pm_fits_more an_fits_more (.ref c2) ct_fits_more), sl_fits_more⟩) (c_fits_more : PySem.W.codeIn K (.ref c2) "fits_more" = true) (k_fits_more : PySem.W.keepIn K (.ref f_fits_more) = true)
    (a_unused : PySem.W.nsIn K mainGlobals "unused" = some (some (.ref f_unused))) (l_unused : K.lookup f_unused = some ⟨oc_unused, od_unused, .func (PySem.W.fnOf "unused" "unused" (defArgs s_unused) (defBody s_unused) (defScope s_unused) .none kV_unused dc_unused pm_unused an_unused cd_unused ct_unused), sl_unused⟩) (c_unused : PySem.W.codeIn K cd_unused "unused" = true) (k_unused : PySem.W.keepIn K (.ref f_unused) = true)
    (a__law_start : PySem.W.nsIn K mainGlobals "_law_start" = some (some (.ref f__law_start))) (l__law_start : K.lookup f__law_start = some ⟨oc__law_start, od__law_start, .func (PySem.W.fnOf "_law_start" "_law_start" (defArgs s__law_start) (defBody s__law_start) (defScope s__law_start) .none kV__law_start dc__law_start pm__law_start an__law_start cd__law_start ct__law_start), sl__law_start⟩) (c__law_start : PySem.W.codeIn K cd__law_start "_law_start" = true) (k__law_start : PySem.W.keepIn K (.ref f__law_start) = true)
    (a__law_fill : PySem.W.nsIn K mainGlobals "_law_fill" = some (some (.ref f__law_fill))) (l__law_fill : K.lookup f__law_fill = some ⟨oc__law_fill, od__law_fill, .func (PySem.W.fnOf "_law_fill" "_law_fill" (defArgs s__law_fill) (defBody s__law_fill) (defScope s__law_fill) .none kV__law_fill dc__law_fill pm__law_fill an__law_fill cd__law_fill ct__law_fill), sl__law_fill⟩) (c__law_fill : PySem.W.codeIn K cd__law_fill "_law_fill" = true) (k__law_fill : PySem.W.keepIn K (.ref f__law_fill) = true)
    (a__law_take : PySem.W.nsIn K mainGlobals "_law_take" = some (some (.ref f__law_take))) (l__law_take : K.lookup f__law_take = some ⟨oc__law_take, od__law_take, .func (PySem.W.fnOf "_law_take" "_law_take" (defArgs s__law_take) (defBody s__law_take) (defScope s__law_take) .none kV__law_take dc__law_take pm__law_take an__law_take cd__law_take ct__law_take), sl__law_take⟩) (c__law_take : PySem.W.codeIn K cd__law_take "_law_take" = true) (k__law_take : PySem.W.keepIn K (.ref f__law_take) = true)
    (a__law_ty : PySem.W.nsIn K mainGlobals "_law_ty" = some (some (.ref f__law_ty))) (l__law_ty : K.lookup f__law_ty = some ⟨oc__law_ty, od__law_ty, .func (PySem.W.fnOf "_law_ty" "_law_ty" (defArgs s__law_ty) (defBody s__law_ty) (defScope s__law_ty) .none kV__law_ty dc__law_ty pm__law_ty an__law_ty cd__law_ty ct__law_ty), sl__law_ty⟩) (c__law_ty : PySem.W.codeIn K cd__law_ty "_law_ty" = true) (k__law_ty : PySem.W.keepIn K (.ref f__law_ty) = true)
    (a__law_data : PySem.W.nsIn K mainGlobals "_law_data" = some (some (.ref f__law_data))) (l__law_data : K.lookup f__law_data = some ⟨oc__law_data, od__law_data, .func (PySem.W.fnOf "_law_data" "_law_data" (defArgs s__law_data) (defBody s__law_data) (defScope s__law_data) .none kV__law_data dc__law_data pm__law_data an__law_data cd__law_data ct__law_data), sl__law_data⟩) (c__law_data : PySem.W.codeIn K cd__law_data "_law_data" = true) (k__law_data : PySem.W.keepIn K (.ref f__law_data) = true)
    (a__law_pattern : PySem.W.nsIn K mainGlobals "_law_pattern" = some (some (.ref f__law_pattern))) (l__law_pattern : K.lookup f__law_pattern = some ⟨oc__law_pattern, od__law_pattern, .func (PySem.W.fnOf "_law_pattern" "_law_pattern" (defArgs s__law_pattern) (defBody s__law_pattern) (defScope s__law_pattern) .none kV__law_pattern dc__law_pattern pm__law_pattern an__law_pattern cd__law_pattern ct__law_pattern), sl__law_pattern⟩) (c__law_pattern : PySem.W.codeIn K cd__law_pattern "_law_pattern" = true) (k__law_pattern : PySem.W.keepIn K (.ref f__law_pattern) = true)
    (a__law_values : PySem.W.nsIn K mainGlobals "_law_values" = some (some (.ref f__law_values))) (l__law_values : K.lookup f__law_values = some ⟨oc__law_values, od__law_values, .func (PySem.W.fnOf "_law_values" "_law_values" (defArgs s__law_values) (defBody s__law_values) (defScope s__law_values) .none kV__law_values dc__law_values pm__law_values an__law_values cd__law_values ct__law_values), sl__law_values⟩) (c__law_values : PySem.W.codeIn K cd__law_values "_law_values" = true) (k__law_values : PySem.W.keepIn K (.ref f__law_values) = true)
    (a__law_fits : PySem.W.nsIn K mainGlobals "_law_fits" = some (some (.ref f__law_fits))) (l__law_fits : K.lookup f__law_fits = some ⟨oc__law_fits, od__law_fits, .func (PySem.W.fnOf "_law_fits" "_law_fits" (defArgs s__law_fits) (defBody s__law_fits) (defScope s__law_fits) .none kV__law_fits dc__law_fits pm__law_fits an__law_fits cd__law_fits ct__law_fits), sl__law_fits⟩) (c__law_fits : PySem.W.codeIn K cd__law_fits "_law_fits" = true) (k__law_fits : PySem.W.keepIn K (.ref f__law_fits) = true)
    (a__law_stands : PySem.W.nsIn K mainGlobals "_law_stands" = some (some (.ref f__law_stands))) (l__law_stands : K.lookup f__law_stands = some ⟨oc__law_stands, od__law_stands, .func (PySem.W.fnOf "_law_stands" "_law_stands" (defArgs s__law_stands) (defBody s__law_stands) (defScope s__law_stands) .none kV__law_stands dc__law_stands pm__law_stands an__law_stands cd__law_stands ct__law_stands), sl__law_stands⟩) (c__law_stands : PySem.W.codeIn K cd__law_stands "_law_stands" = true) (k__law_stands : PySem.W.keepIn K (.ref f__law_stands) = true)
    (a_law : PySem.W.nsIn K mainGlobals "law" = some (some (.ref f_law))) (l_law : K.lookup f_law = some ⟨oc_law, od_law, .func (PySem.W.fnOf "law" "law" (defArgs s_law) (defBody s_law) (defScope s_law) .none kV_law dc_law pm_law an_law cd_law ct_law), sl_law⟩) (c_law : PySem.W.codeIn K cd_law "law" = true) (k_law : PySem.W.keepIn K (.ref f_law) = true)
    (t1 : K.lookup c1 = some ⟨e1, dd1, .fields vs1, tl1⟩) (u1 : vs1[11]? = some (.ref T1)) (n1 : K.lookup T1 = none) (h1 : ∀ K' : PySem.W.Frag, K'.lookup c1 = some ⟨e1, dd1, .fields vs1, tl1⟩ → PySem.W.codeHdIn K' c1 T1 = true)
    (t2 : K.lookup c2 = some ⟨e2, dd2, .fields vs2, tl2⟩) (u2 : vs2[11]? = some (.ref T2)) (n2 : K.lookup T2 = none) (h2 : ∀ K' : PySem.W.Frag, K'.lookup c2 = some ⟨e2, dd2, .fields vs2, tl2⟩ → PySem.W.codeHdIn K' c2 T2 = true)
    (z_list : PySem.W.nsIn K mainGlobals "list" = some none)
    (z_tuple : PySem.W.nsIn K mainGlobals "tuple" = some none)
    (z_len : PySem.W.nsIn K mainGlobals "len" = some none)
    (z_all : PySem.W.nsIn K mainGlobals "all" = some none)
    (z_enumerate : PySem.W.nsIn K mainGlobals "enumerate" = some none)
    (z_range : PySem.W.nsIn K mainGlobals "range" = some none)
    (z_int : PySem.W.nsIn K mainGlobals "int" = some none)
    (z_str : PySem.W.nsIn K mainGlobals "str" = some none)
    (z_isinstance : PySem.W.nsIn K mainGlobals "isinstance" = some none)
    (z_repr : PySem.W.nsIn K mainGlobals "repr" = some none) :
    ∃ c1 T1 c2 T2, TabFor K mg "left_out" c1 T1 ∧ TabFor K mg "fits_more" c2 T2 ∧ LawRun P w K mg fa c1 T1 c2 T2 := by
  have eq := hfa.symm.trans (PySem.W.mg_of X N a_law)
  cases eq
  have m_list := PySem.W.mg_none_of X N z_list
  have m_tuple := PySem.W.mg_none_of X N z_tuple
  have m_len := PySem.W.mg_none_of X N z_len
  have m_all := PySem.W.mg_none_of X N z_all
  have m_enumerate := PySem.W.mg_none_of X N z_enumerate
  have m_range := PySem.W.mg_none_of X N z_range
  have m_int := PySem.W.mg_none_of X N z_int
  have m_str := PySem.W.mg_none_of X N z_str
  have m_isinstance := PySem.W.mg_none_of X N z_isinstance
  have m_repr := PySem.W.mg_none_of X N z_repr
  have g_ty_parts := PySem.W.mg_of X N a_ty_parts
  have F_ty_parts := fun_mk (st := s_ty_parts) l_ty_parts c_ty_parts k_ty_parts
  have b_ty_parts := F_ty_parts.binds (ps := ["ty"]) fun _ _ _ _ _ _ us hl => match us, hl with | [_], _ => rfl
  have g_rebuilt := PySem.W.mg_of X N a_rebuilt
  have F_rebuilt := fun_mk (st := s_rebuilt) l_rebuilt c_rebuilt k_rebuilt
  have b_rebuilt := F_rebuilt.binds (ps := ["ty", "inner"]) fun _ _ _ _ _ _ us hl => match us, hl with | [_, _], _ => rfl
  have g_replaced := PySem.W.mg_of X N a_replaced
  have F_replaced := fun_mk (st := s_replaced) l_replaced c_replaced k_replaced
  have b_replaced := F_replaced.binds (ps := ["table", "ty"]) fun _ _ _ _ _ _ us hl => match us, hl with | [_, _], _ => rfl
  have g_instance := PySem.W.mg_of X N a_instance
  have F_instance := fun_mk (st := s_instance) l_instance c_instance k_instance
  have b_instance := F_instance.binds (ps := ["scheme", "types"]) fun _ _ _ _ _ _ us hl => match us, hl with | [_, _], _ => rfl
  have g_constructors := PySem.W.mg_of X N a_constructors
  have F_constructors := fun_mk (st := s_constructors) l_constructors c_constructors k_constructors
  have b_constructors := F_constructors.binds (ps := ["data", "ty"]) fun _ _ _ _ _ _ us hl => match us, hl with | [_, _], _ => rfl
  have g_is_open := PySem.W.mg_of X N a_is_open
  have F_is_open := fun_mk (st := s_is_open) l_is_open c_is_open k_is_open
  have b_is_open := F_is_open.binds (ps := ["pattern"]) fun _ _ _ _ _ _ us hl => match us, hl with | [_], _ => rfl
  have g_head_of := PySem.W.mg_of X N a_head_of
  have F_head_of := fun_mk (st := s_head_of) l_head_of c_head_of k_head_of
  have b_head_of := F_head_of.binds (ps := ["pattern"]) fun _ _ _ _ _ _ us hl => match us, hl with | [_], _ => rfl
  have g_inner_of := PySem.W.mg_of X N a_inner_of
  have F_inner_of := fun_mk (st := s_inner_of) l_inner_of c_inner_of k_inner_of
  have b_inner_of := F_inner_of.binds (ps := ["pattern"]) fun _ _ _ _ _ _ us hl => match us, hl with | [_], _ => rfl
  have g_heads := PySem.W.mg_of X N a_heads
  have F_heads := fun_mk (st := s_heads) l_heads c_heads k_heads
  have b_heads := F_heads.binds (ps := ["data", "ty", "column"]) fun _ _ _ _ _ _ us hl => match us, hl with | [_, _, _], _ => rfl
  have g_specialized := PySem.W.mg_of X N a_specialized
  have F_specialized := fun_mk (st := s_specialized) l_specialized c_specialized k_specialized
  have b_specialized := F_specialized.binds (ps := ["rows", "head", "count"]) fun _ _ _ _ _ _ us hl => match us, hl with | [_, _, _], _ => rfl
  have g_rest_rows := PySem.W.mg_of X N a_rest_rows
  have F_rest_rows := fun_mk (st := s_rest_rows) l_rest_rows c_rest_rows k_rest_rows
  have b_rest_rows := F_rest_rows.binds (ps := ["rows"]) fun _ _ _ _ _ _ us hl => match us, hl with | [_], _ => rfl
  have g_shown := PySem.W.mg_of X N a_shown
  have F_shown := fun_mk (st := s_shown) l_shown c_shown k_shown
  have b_shown := F_shown.binds (ps := ["head", "parts"]) fun _ _ _ _ _ _ us hl => match us, hl with | [_, _], _ => rfl
  have g_left_out := PySem.W.mg_of X N a_left_out
  have F_left_out := fun_mk (st := s_left_out) l_left_out c_left_out k_left_out
  have b_left_out := F_left_out.binds (ps := ["data", "tys", "rows"]) fun _ _ _ _ _ _ us hl => match us, hl with | [_, _, _], _ => rfl
  have g_divided := PySem.W.mg_of X N a_divided
  have F_divided := fun_mk (st := s_divided) l_divided c_divided k_divided
  have b_divided := F_divided.binds (ps := ["choices", "column"]) fun _ _ _ _ _ _ us hl => match us, hl with | [_, _], _ => rfl
  have g_missing := PySem.W.mg_of X N a_missing
  have F_missing := fun_mk (st := s_missing) l_missing c_missing k_missing
  have b_missing := F_missing.binds (ps := ["data", "ty", "patterns"]) fun _ _ _ _ _ _ us hl => match us, hl with | [_, _, _], _ => rfl
  have g_fits_more := PySem.W.mg_of X N a_fits_more
  have F_fits_more := fun_mk (st := s_fits_more) l_fits_more c_fits_more k_fits_more
  have b_fits_more := F_fits_more.binds (ps := ["data", "tys", "rows", "row"]) fun _ _ _ _ _ _ us hl => match us, hl with | [_, _, _, _], _ => rfl
  have g_unused := PySem.W.mg_of X N a_unused
  have F_unused := fun_mk (st := s_unused) l_unused c_unused k_unused
  have b_unused := F_unused.binds (ps := ["data", "ty", "patterns"]) fun _ _ _ _ _ _ us hl => match us, hl with | [_, _, _], _ => rfl
  have g__law_start := PySem.W.mg_of X N a__law_start
  have F__law_start := fun_mk (st := s__law_start) l__law_start c__law_start k__law_start
  have b__law_start := F__law_start.binds (ps := ["script"]) fun _ _ _ _ _ _ us hl => match us, hl with | [_], _ => rfl
  have g__law_fill := PySem.W.mg_of X N a__law_fill
  have F__law_fill := fun_mk (st := s__law_fill) l__law_fill c__law_fill k__law_fill
  have b__law_fill := F__law_fill.binds (ps := ["d"]) fun _ _ _ _ _ _ us hl => match us, hl with | [_], _ => rfl
  have g__law_take := PySem.W.mg_of X N a__law_take
  have F__law_take := fun_mk (st := s__law_take) l__law_take c__law_take k__law_take
  have b__law_take := F__law_take.binds (ps := ["d", "many"]) fun _ _ _ _ _ _ us hl => match us, hl with | [_, _], _ => rfl
  have g__law_ty := PySem.W.mg_of X N a__law_ty
  have F__law_ty := fun_mk (st := s__law_ty) l__law_ty c__law_ty k__law_ty
  have b__law_ty := F__law_ty.binds (ps := ["d", "depth"]) fun _ _ _ _ _ _ us hl => match us, hl with | [_, _], _ => rfl
  have g__law_data := PySem.W.mg_of X N a__law_data
  have F__law_data := fun_mk (st := s__law_data) l__law_data c__law_data k__law_data
  have b__law_data := F__law_data.binds (ps := []) fun _ _ _ _ _ _ us hl => match us, hl with | [], _ => rfl
  have g__law_pattern := PySem.W.mg_of X N a__law_pattern
  have F__law_pattern := fun_mk (st := s__law_pattern) l__law_pattern c__law_pattern k__law_pattern
  have b__law_pattern := F__law_pattern.binds (ps := ["d", "ty", "depth", "names"]) fun _ _ _ _ _ _ us hl => match us, hl with | [_, _, _, _], _ => rfl
  have g__law_values := PySem.W.mg_of X N a__law_values
  have F__law_values := fun_mk (st := s__law_values) l__law_values c__law_values k__law_values
  have b__law_values := F__law_values.binds (ps := ["ty", "depth"]) fun _ _ _ _ _ _ us hl => match us, hl with | [_, _], _ => rfl
  have g__law_fits := PySem.W.mg_of X N a__law_fits
  have F__law_fits := fun_mk (st := s__law_fits) l__law_fits c__law_fits k__law_fits
  have b__law_fits := F__law_fits.binds (ps := ["pattern", "value"]) fun _ _ _ _ _ _ us hl => match us, hl with | [_, _], _ => rfl
  have g__law_stands := PySem.W.mg_of X N a__law_stands
  have F__law_stands := fun_mk (st := s__law_stands) l__law_stands c__law_stands k__law_stands
  have b__law_stands := F__law_stands.binds (ps := ["pattern", "value"]) fun _ _ _ _ _ _ us hl => match us, hl with | [_, _], _ => rfl
  have MO : OpenAt K mg := ⟨⟨_, _, _, _, _, _, _, _, _, _, l_is_open, c_is_open, k_is_open, g_is_open⟩⟩
  refine ⟨c1, T1, c2, T2, ⟨⟨_, _, _, _, _, _, _, g_left_out, l_left_out, rfl, rfl, t1, u1⟩, n1, h1 K t1⟩, ⟨⟨_, _, _, _, _, _, _, g_fits_more, l_fits_more, rfl, rfl, t2, u2⟩, n2, h2 K t2⟩, _, _, _, _, _, _, _, _, _, l_law, c_law, fun base H s a ns kin glob TB1 TB2 hs g1 g2 Q E hq => ?_⟩
  have d_is_open : Dfn P w K mg base "is_open" 1 ["pattern"] _ := ⟨⟨_, _, ok_is_open F_is_open, k_is_open, g_is_open, b_is_open⟩⟩
  have d_head_of : Dfn P w K mg base "head_of" 1 ["pattern"] _ := ⟨⟨_, _, ok_head_of F_head_of, k_head_of, g_head_of, b_head_of⟩⟩
  have d_inner_of : Dfn P w K mg base "inner_of" 1 ["pattern"] _ := ⟨⟨_, _, ok_inner_of F_inner_of m_list, k_inner_of, g_inner_of, b_inner_of⟩⟩
  have d_rest_rows : Dfn P w K mg base "rest_rows" 2 ["rows"] _ := ⟨⟨_, _, ok_rest_rows F_rest_rows d_is_open, k_rest_rows, g_rest_rows, b_rest_rows⟩⟩
  have d_shown : Dfn P w K mg base "shown" 1 ["head", "parts"] _ := ⟨⟨_, _, ok_shown F_shown m_tuple, k_shown, g_shown, b_shown⟩⟩
  have d_divided : Dfn P w K mg base "divided" 2 ["choices", "column"] _ := ⟨⟨_, _, ok_divided F_divided d_is_open d_head_of, k_divided, g_divided, b_divided⟩⟩
  have d_specialized : Dfn P w K mg base "specialized" 2 ["rows", "head", "count"] _ := ⟨⟨_, _, ok_specialized F_specialized d_is_open d_head_of d_inner_of, k_specialized, g_specialized, b_specialized⟩⟩
  have d_ty_parts : Dfn P w K mg base "ty_parts" 1 ["ty"] _ := ⟨⟨_, _, ok_ty_parts F_ty_parts, k_ty_parts, g_ty_parts, b_ty_parts⟩⟩
  have d_rebuilt : Dfn P w K mg base "rebuilt" 1 ["ty", "inner"] _ := ⟨⟨_, _, ok_rebuilt F_rebuilt m_tuple, k_rebuilt, g_rebuilt, b_rebuilt⟩⟩
  have d_replaced : Dfn P w K mg base "replaced" 2 ["table", "ty"] _ := ⟨⟨_, _, ok_replaced F_replaced m_len d_ty_parts d_rebuilt, k_replaced, g_replaced, b_replaced⟩⟩
  have d_instance : Dfn P w K mg base "instance" 3 ["scheme", "types"] _ := ⟨⟨_, _, ok_instance F_instance m_enumerate d_replaced, k_instance, g_instance, b_instance⟩⟩
  have d_constructors : Dfn P w K mg base "constructors" 4 ["data", "ty"] _ := ⟨⟨_, _, ok_constructors F_constructors d_instance, k_constructors, g_constructors, b_constructors⟩⟩
  have d_heads : Dfn P w K mg base "heads" 5 ["data", "ty", "column"] _ := ⟨⟨_, _, ok_heads F_heads m_list d_constructors d_is_open d_head_of, k_heads, g_heads, b_heads⟩⟩
  have d_left_out : Dfn P w K mg base "left_out" 47 ["data", "tys", "rows"] _ := ⟨⟨_, _, ok_left_out (c := c1) (T := T1) ⟨⟨_, _, _, _, _, _, _, _, rfl, l_left_out, c_left_out⟩⟩ TB1 MO m_all m_len d_heads d_divided d_rest_rows d_specialized d_shown k_left_out g_left_out b_left_out 41, k_left_out, g_left_out, b_left_out⟩⟩
  have d_fits_more : Dfn P w K mg base "fits_more" 47 ["data", "tys", "rows", "row"] _ := ⟨⟨_, _, ok_fits_more (c := c2) (T := T2) ⟨⟨_, _, _, _, _, _, _, _, rfl, l_fits_more, c_fits_more⟩⟩ TB2 MO m_all m_len d_heads d_divided d_rest_rows d_specialized d_is_open d_head_of d_inner_of k_fits_more g_fits_more b_fits_more 41, k_fits_more, g_fits_more, b_fits_more⟩⟩
  have d_missing : Dfn P w K mg base "missing" 48 ["data", "ty", "patterns"] _ := ⟨⟨_, _, ok_missing F_missing d_left_out, k_missing, g_missing, b_missing⟩⟩
  have d_unused : Dfn P w K mg base "unused" 48 ["data", "ty", "patterns"] _ := ⟨⟨_, _, ok_unused F_unused m_enumerate d_fits_more, k_unused, g_unused, b_unused⟩⟩
  have d__law_start : Dfn P w K mg base "_law_start" 1 ["script"] _ := ⟨⟨_, _, ok__law_start F__law_start m_int, k__law_start, g__law_start, b__law_start⟩⟩
  have d__law_fill : Dfn P w K mg base "_law_fill" 1 ["d"] _ := ⟨⟨_, _, ok__law_fill F__law_fill m_int m_len, k__law_fill, g__law_fill, b__law_fill⟩⟩
  have d__law_take : Dfn P w K mg base "_law_take" 2 ["d", "many"] _ := ⟨⟨_, _, ok__law_take F__law_take m_int d__law_fill, k__law_take, g__law_take, b__law_take⟩⟩
  have d__law_ty : Dfn P w K mg base "_law_ty" 5 ["d", "depth"] _ := ⟨⟨_, _, ok__law_ty F__law_ty m_tuple m_range d__law_take k__law_ty g__law_ty b__law_ty 2, k__law_ty, g__law_ty, b__law_ty⟩⟩
  have d__law_data : Dfn P w K mg base "_law_data" 1 [] _ := ⟨⟨_, _, ok__law_data F__law_data, k__law_data, g__law_data, b__law_data⟩⟩
  have d__law_pattern : Dfn P w K mg base "_law_pattern" 6 ["d", "ty", "depth", "names"] _ := ⟨⟨_, _, ok__law_pattern F__law_pattern m_tuple m_str m_len d__law_take k__law_pattern g__law_pattern b__law_pattern 3, k__law_pattern, g__law_pattern, b__law_pattern⟩⟩
  have d__law_values : Dfn P w K mg base "_law_values" 10 ["ty", "depth"] _ := ⟨⟨_, _, ok__law_values F__law_values k__law_values g__law_values b__law_values 9, k__law_values, g__law_values, b__law_values⟩⟩
  have d__law_fits : Dfn P w K mg base "_law_fits" 5 ["pattern", "value"] _ := ⟨⟨_, _, ok__law_fits F__law_fits m_all m_range m_len k__law_fits g__law_fits b__law_fits 4, k__law_fits, g__law_fits, b__law_fits⟩⟩
  have d__law_stands : Dfn P w K mg base "_law_stands" 43 ["pattern", "value"] _ := ⟨⟨_, _, ok__law_stands F__law_stands m_isinstance m_tuple m_all m_range m_len k__law_stands g__law_stands b__law_stands 42, k__law_stands, g__law_stands, b__law_stands⟩⟩
  obtain ⟨t, ht, hd⟩ := law_reads (f := fa) m_range m_list m_len m_repr d__law_start d__law_take d__law_ty d__law_data d__law_pattern d__law_values d__law_fits d__law_stands d_missing d_unused cd_law callerA [] s a ns Q E (room_law.deeper _) rfl hs g1 g2 hq
  exact ⟨t, ht.nox, hd⟩
theorem walk85 {l : PySem.W.OpenLaw} {n : Nat} {q : Program} {loose : List Str} {XP : (Str → Option Value) → Heap → Prop} {YP : World → Heap → Prop} {d : DefRec} {K : Params → PySem.W.Frag} (hn : l.most = some n) (hn2 : n ≤ sizeLine) (hdf : d.params.defaults = [])
    (r1 : ((recsOf q).any fun e => e.name == ("left_out" : Str)) = true) (r2 : ((recsOf q).any fun e => e.name == ("fits_more" : Str)) = true) (hY : ∀ (w : World) (h : Heap), YP w h → (K w.params).In h)
    (F : ∀ (w : World) (mg : Str → Option Value) (fa : Addr) (h : Heap), (K w.params).In h → h.Ns mainGlobals mg → mg d.name = some (.ref fa) → ∃ c1 T1 c2 T2, TabFor (K w.params) mg "left_out" c1 T1 ∧ TabFor (K w.params) mg "fits_more" c2 T2 ∧ LawRun l.prog w (K w.params) mg fa c1 T1 c2 T2) :
    PySem.W.WalkO q loose XP YP l.row.toRowW d [] (fun f vs => PySem.call f vs) := by
  refine Att.attach_callB hn hdf fun w s₀ s₁ mg mb fa _ _ _ _ a vs ns G Y _ _ _ hfa script nums few _ gens => ?_
  have kin := hY w _ Y
  obtain ⟨c1, T1, c2, T2, t1, t2, oc, od, osl, kv, dc, pm, cd, ct, an, known, coded, read⟩ := F w mg fa _ kin G.T.g hfa
  have made : ∀ x c T, ((recsOf q).any fun e => e.name == x) = true → TabFor (K w.params) mg x c T → TabAt (K w.params) s₁.heap c T := fun x c T hr t => by
    refine ⟨?_, t.free, t.head⟩
    obtain ⟨f, o, fd, e, dd, us, sl, k1, k2, k3, k4, k5, k6⟩ := t.ex
    obtain ⟨rec, inq, same⟩ := List.any_eq_true.mp hr
    obtain ⟨f', o', fd', c', T', j1, j2, j3, j4, _, ⟨oc', us', j5, _, j6, j7⟩, j8⟩ := G.T.tab rec inq
    rw [beq_iff_eq.mp same, k1] at j1
    cases j1
    rw [kin _ _ k2] at j2
    cases j2
    rw [k3] at j3
    cases j3
    rw [k4] at j4
    cases j4
    rw [kin _ _ k5] at j5
    cases j5
    cases j6
    rw [k6] at j7
    cases j7
    exact j8
  exact run_law kin G.T.g G.T.b G.T.builtins G.T.nolimit gens (made _ _ _ r1 t1) (made _ _ _ r2 t2) G.T.bmain script nums (Nat.le_trans few hn2) room_law known coded sc_law (.of_eq rfl) fun base H k1 k2 k3 k4 k5 k6 k7 Q E hq => read base H s₁ a ns k1 k2 k3 k4 k5 k6 k7 Q E hq
end G

open PySem PySem.W PyProof.Rows
set_option maxRecDepth 100000 in
set_option maxHeartbeats 0 in
theorem PySem.Challenge.cw_guanaco_k85_covers_of_other_types_holds : PySem.Challenge.rw_guanaco_k85_covers_of_other_types.Holds := by
  w_on; o_law; k_head; (case hw => w_witness2)
  k_fill
  refine G.walk85 (l := PySem.Challenge.rw_guanaco_k85_covers_of_other_types) rfl (by decide) rfl (by decide +kernel) (by decide +kernel) (fun w h Y => PySem.W.kIn_of Y) ?F
  case F =>
    intro w mg fa h KX N hmg
    refine' G.all_mk KX N hmg ?a_ty_parts ?l_ty_parts ?c_ty_parts ?k_ty_parts ?a_rebuilt ?l_rebuilt ?c_rebuilt ?k_rebuilt ?a_replaced ?l_replaced ?c_replaced ?k_replaced ?a_instance ?l_instance ?c_instance ?k_instance ?a_constructors ?l_constructors ?c_constructors ?k_constructors ?a_is_open ?l_is_open ?c_is_open ?k_is_open ?a_head_of ?l_head_of ?c_head_of ?k_head_of ?a_inner_of ?l_inner_of ?c_inner_of ?k_inner_of ?a_heads ?l_heads ?c_heads ?k_heads ?a_specialized ?l_specialized ?c_specialized ?k_specialized ?a_rest_rows ?l_rest_rows ?c_rest_rows ?k_rest_rows ?a_shown ?l_shown ?c_shown ?k_shown ?a_left_out ?l_left_out ?c_left_out ?k_left_out ?a_divided ?l_divided ?c_divided ?k_divided ?a_missing ?l_missing ?c_missing ?k_missing ?a_fits_more ?l_fits_more ?c_fits_more ?k_fits_more ?a_unused ?l_unused ?c_unused ?k_unused ?a__law_start ?l__law_start ?c__law_start ?k__law_start ?a__law_fill ?l__law_fill ?c__law_fill ?k__law_fill ?a__law_take ?l__law_take ?c__law_take ?k__law_take ?a__law_ty ?l__law_ty ?c__law_ty ?k__law_ty ?a__law_data ?l__law_data ?c__law_data ?k__law_data ?a__law_pattern ?l__law_pattern ?c__law_pattern ?k__law_pattern ?a__law_values ?l__law_values ?c__law_values ?k__law_values ?a__law_fits ?l__law_fits ?c__law_fits ?k__law_fits ?a__law_stands ?l__law_stands ?c__law_stands ?k__law_stands ?a_law ?l_law ?c_law ?k_law ?t1 ?u1 ?n1 ?h1 ?t2 ?u2 ?n2 ?h2 ?z_list ?z_tuple ?z_len ?z_all ?z_enumerate ?z_range ?z_int ?z_str ?z_isinstance ?z_repr
    (case a_ty_parts => k_is)
    (case l_ty_parts => k_is)
    (case c_ty_parts => k_is)
    (case k_ty_parts => k_is)
    (case a_rebuilt => k_is)
    (case l_rebuilt => k_is)
    (case c_rebuilt => k_is)
    (case k_rebuilt => k_is)
    (case a_replaced => k_is)
    (case l_replaced => k_is)
    (case c_replaced => k_is)
    (case k_replaced => k_is)
    (case a_instance => k_is)
    (case l_instance => k_is)
    (case c_instance => k_is)
    (case k_instance => k_is)
    (case a_constructors => k_is)
    (case l_constructors => k_is)
    (case c_constructors => k_is)
    (case k_constructors => k_is)
    (case a_is_open => k_is)
    (case l_is_open => k_is)
    (case c_is_open => k_is)
    (case k_is_open => k_is)
    (case a_head_of => k_is)
    (case l_head_of => k_is)
    (case c_head_of => k_is)
    (case k_head_of => k_is)
    (case a_inner_of => k_is)
    (case l_inner_of => k_is)
    (case c_inner_of => k_is)
    (case k_inner_of => k_is)
    (case a_heads => k_is)
    (case l_heads => k_is)
    (case c_heads => k_is)
    (case k_heads => k_is)
    (case a_specialized => k_is)
    (case l_specialized => k_is)
    (case c_specialized => k_is)
    (case k_specialized => k_is)
    (case a_rest_rows => k_is)
    (case l_rest_rows => k_is)
    (case c_rest_rows => k_is)
    (case k_rest_rows => k_is)
    (case a_shown => k_is)
    (case l_shown => k_is)
    (case c_shown => k_is)
    (case k_shown => k_is)
    (case a_left_out => k_is)
    (case l_left_out => k_is)
    (case c_left_out => k_is)
    (case k_left_out => k_is)
    (case a_divided => k_is)
    (case l_divided => k_is)
    (case c_divided => k_is)
    (case k_divided => k_is)
    (case a_missing => k_is)
    (case l_missing => k_is)
    (case c_missing => k_is)
    (case k_missing => k_is)
    (case a_fits_more => k_is)
    (case l_fits_more => k_is)
    (case c_fits_more => k_is)
    (case k_fits_more => k_is)
    (case a_unused => k_is)
    (case l_unused => k_is)
    (case c_unused => k_is)
    (case k_unused => k_is)
    (case a__law_start => k_is)
    (case l__law_start => k_is)
    (case c__law_start => k_is)
    (case k__law_start => k_is)
    (case a__law_fill => k_is)
    (case l__law_fill => k_is)
    (case c__law_fill => k_is)
    (case k__law_fill => k_is)
    (case a__law_take => k_is)
    (case l__law_take => k_is)
    (case c__law_take => k_is)
    (case k__law_take => k_is)
    (case a__law_ty => k_is)
    (case l__law_ty => k_is)
    (case c__law_ty => k_is)
    (case k__law_ty => k_is)
    (case a__law_data => k_is)
    (case l__law_data => k_is)
    (case c__law_data => k_is)
    (case k__law_data => k_is)
    (case a__law_pattern => k_is)
    (case l__law_pattern => k_is)
    (case c__law_pattern => k_is)
    (case k__law_pattern => k_is)
    (case a__law_values => k_is)
    (case l__law_values => k_is)
    (case c__law_values => k_is)
    (case k__law_values => k_is)
    (case a__law_fits => k_is)
    (case l__law_fits => k_is)
    (case c__law_fits => k_is)
    (case k__law_fits => k_is)
    (case a__law_stands => k_is)
    (case l__law_stands => k_is)
    (case c__law_stands => k_is)
    (case k__law_stands => k_is)
    (case a_law => k_is)
    (case l_law => k_is)
    (case c_law => k_is)
    (case k_law => k_is)
    (case t1 => k_is)
    (case u1 => rfl)
    (case n1 => rfl)
    (case h1 => (intro K' z; unfold PySem.W.codeHdIn; rw [z]; rfl))
    (case t2 => k_is)
    (case u2 => rfl)
    (case n2 => rfl)
    (case h2 => (intro K' z; unfold PySem.W.codeHdIn; rw [z]; rfl))
    (case z_list => k_is)
    (case z_tuple => k_is)
    (case z_len => k_is)
    (case z_all => k_is)
    (case z_enumerate => k_is)
    (case z_range => k_is)
    (case z_int => k_is)
    (case z_str => k_is)
    (case z_isinstance => k_is)
    (case z_repr => k_is)
#print axioms PySem.Challenge.cw_guanaco_k85_covers_of_other_types_holds
