import PyProof.Rows.All
import Wide.All
import OpenK.AllK
import Wide.FinOn
import HandS.ForMost
import HandS.Walk
import HandS.Zip
import HandS.TupAny
import HandS.TupMul
import HandS.Conv
import HandS.More
import HandS.Flow
import HandS.IsInst
import HandS.NoneIn
import HandS.Wide
import HandS.Style
import KE.GoesEnum
import PyProof.ListMulRoad
import PyProof.FactsAll.tuple_2
import HandS.Ends
import HandS.EndBits
import PyProof.ReprRoads
import PyProof.Rows.RegFStrParts
import KE.IntBitsLaws
import PySem.Challenge.RW_hushgrain_k87_matrices
set_option Elab.async false
set_option linter.all false
set_option autoImplicit false
set_option maxRecDepth 100000
set_option maxHeartbeats 4000000
/-! DL1: data over the heap: the state (I, H), slots, and the readings of expressions as data. -/
namespace DL
open PySem PySem.Spec PyProof.Rows L2

def Ex (H H' : Hp) : Prop := ∀ a o, H a = some o → H' a = some o
theorem Ex.refl (H : Hp) : Ex H H := fun _ _ h => h
theorem Ex.trans {H H1 H2 : Hp} (a : Ex H H1) (b : Ex H1 H2) : Ex H H2 := fun x o h => b x o (a x o h)
theorem Ex.non_ {H H' : Hp} {p : Addr} (e : Ex H H') (h : H' p = none) : H p = none := by
  cases q : H p with
  | none => rfl
  | some o => rw [e p o q] at h; cases h
theorem Ex.upd_ {I H : Hp} {p : Addr} {o : HO} (e : Ex I H) (h : I p = none) : Ex I (upd H p o) := fun a u ha => by
  rw [upd_ne (ne_of_none ha h)]; exact e a u ha
theorem Ex.both_ {I H : Hp} {p : Addr} {o : HO} (e : Ex I H) : Ex (L2.upd I p o) (L2.upd H p o) := fun a u ha => by
  by_cases q : a = p
  · subst q; rw [upd_same] at ha ⊢; exact ha
  · rw [upd_ne q] at ha ⊢; exact e a u ha
theorem Ex.at_ {I H : Hp} {p : Addr} {o : HO} (e : Ex I H) (h : H p = some o) : Ex (L2.upd I p o) H := fun a u ha => by
  by_cases q : a = p
  · subst q; rw [upd_same] at ha; cases ha; exact h
  · rw [upd_ne q] at ha; exact e a u ha
theorem Ex.new_ {I : Hp} {p : Addr} {o : HO} (h : I p = none) : Ex I (L2.upd I p o) := (Ex.refl I).upd_ h

theorem sqL_ex {K : PySem.W.Frag} {H H' : Hp} {a : Addr} {xs : List V} (e : Ex H H') (h : SqL K H a xs) : SqL K H' a xs := by
  rcases h with (h | ⟨o, h⟩) | h
  · exact .inl (.inl (e _ _ h))
  · exact .inl (.inr ⟨o, e _ _ h⟩)
  · exact .inr h
theorem sqT_ex {K : PySem.W.Frag} {H H' : Hp} {a : Addr} {xs : List V} (e : Ex H H') (h : SqT K H a xs) : SqT K H' a xs := by
  rcases h with (h | ⟨o, h⟩) | h
  · exact .inl (.inl (e _ _ h))
  · exact .inl (.inr ⟨o, e _ _ h⟩)
  · exact .inr h
mutual
theorem dp_ex {K : PySem.W.Frag} {H H' : Hp} (e : Ex H H') : ∀ (d : PyData) (v : V), Dp K H v d → Dp K H' v d
  | .none, _, h => by cases h; exact .non
  | .bool b, _, h => by cases h; exact .bl b
  | .int i, _, h => by cases h; exact .int i
  | .str x, _, h => by cases h; exact .str x
  | .list ds, _, h => by
    cases h with
    | lst hs ha => exact .lst (sqL_ex e hs) (dpa_ex e ds _ ha)
  | .tuple ds, _, h => by
    cases h with
    | tup hs ha => exact .tup (sqT_ex e hs) (dpa_ex e ds _ ha)
  | .dict _, _, h => by cases h
theorem dpa_ex {K : PySem.W.Frag} {H H' : Hp} (e : Ex H H') : ∀ (ds : List PyData) (vs : List V), DpAll K H vs ds → DpAll K H' vs ds
  | [], _, h => by cases h; exact .nil
  | d :: ds, _, h => by
    cases h with
    | cons h1 h2 => exact .cons (dp_ex e d _ h1) (dpa_ex e ds _ h2)
end
theorem Dp.ex {K : PySem.W.Frag} {H H' : Hp} {v : V} {d : PyData} (h : Dp K H v d) (e : Ex H H') : Dp K H' v d := dp_ex e d v h
theorem Da.ex {K : PySem.W.Frag} {H H' : Hp} {vs : List V} {ds : List PyData} (h : DpAll K H vs ds) (e : Ex H H') : DpAll K H' vs ds := dpa_ex e ds vs h
theorem Da.len {K : PySem.W.Frag} {H : Hp} : ∀ {vs : List V} {ds : List PyData}, DpAll K H vs ds → vs.length = ds.length
  | _, _, .nil => rfl
  | _, _, .cons _ r => by rw [List.length_cons, List.length_cons, Da.len r]
theorem Da.at {K : PySem.W.Frag} {H : Hp} : ∀ {vs : List V} {ds : List PyData} {i : Nat} {d : PyData}, DpAll K H vs ds → ds[i]? = some d → ∃ v, vs[i]? = some v ∧ Dp K H v d
  | _, _, _, _, .nil, e => by simp at e
  | _, _, 0, _, .cons h _, e => by simp at e; subst e; exact ⟨_, rfl, h⟩
  | _, _, i + 1, d, .cons _ r, e => by
    obtain ⟨v, h1, h2⟩ := Da.at (i := i) (d := d) r (by simpa using e)
    exact ⟨v, by simpa using h1, h2⟩
theorem Da.at2 {K : PySem.W.Frag} {H : Hp} {vs : List V} {ds : List PyData} {i : Nat} {v : V} (h : DpAll K H vs ds) (e : vs[i]? = some v) : ∃ d, ds[i]? = some d ∧ Dp K H v d := by
  have hl := Da.len h
  have hi : i < ds.length := by
    obtain ⟨a, _⟩ := List.getElem?_eq_some_iff.mp e
    omega
  obtain ⟨v', e', q⟩ := Da.at h (List.getElem?_eq_getElem hi)
  rw [e] at e'
  cases e'
  exact ⟨_, List.getElem?_eq_getElem hi, q⟩
theorem Da.app {K : PySem.W.Frag} {H : Hp} : ∀ {vs us : List V} {ds es : List PyData}, DpAll K H vs ds → DpAll K H us es → DpAll K H (vs ++ us) (ds ++ es)
  | _, _, _, _, .nil, s => s
  | _, _, _, _, .cons h r, s => .cons h (Da.app r s)
theorem Da.one {K : PySem.W.Frag} {H : Hp} {v : V} {d : PyData} (h : Dp K H v d) : DpAll K H [v] [d] := .cons h .nil
theorem Da.ints {K : PySem.W.Frag} {H : Hp} : ∀ (ns : List Int), DpAll K H (ns.map V.int) (ns.map PyData.int)
  | [] => .nil
  | n :: r => .cons (.int n) (Da.ints r)
theorem Da.of_ints {K : PySem.W.Frag} {H : Hp} : ∀ {ns : List Int} {vs : List V}, DpAll K H vs (ns.map PyData.int) → vs = ns.map V.int
  | [], _, h => by cases h; rfl
  | n :: r, _, h => by
    cases h with
    | cons h1 h2 => cases h1; rw [Da.of_ints h2]; rfl
theorem Da.of_bools {K : PySem.W.Frag} {H : Hp} : ∀ {ns : List Bool} {vs : List V}, DpAll K H vs (ns.map PyData.bool) → vs = ns.map V.bl
  | [], _, h => by cases h; rfl
  | n :: r, _, h => by
    cases h with
    | cons h1 h2 => cases h1; rw [Da.of_bools h2]; rfl
theorem Da.take {K : PySem.W.Frag} {H : Hp} : ∀ {vs : List V} {ds : List PyData} (n : Nat), DpAll K H vs ds → DpAll K H (vs.take n) (ds.take n)
  | _, _, 0, _ => by simp only [List.take_zero]; exact .nil
  | _, _, _ + 1, .nil => .nil
  | _, _, n + 1, .cons h r => .cons h (Da.take n r)
theorem Da.drop {K : PySem.W.Frag} {H : Hp} : ∀ {vs : List V} {ds : List PyData} (n : Nat), DpAll K H vs ds → DpAll K H (vs.drop n) (ds.drop n)
  | _, _, 0, r => r
  | _, _, _ + 1, .nil => .nil
  | _, _, n + 1, .cons _ r => Da.drop n r

/-! ### growth -/
structure Gr (M : Addr → Prop) (I H I' H' : Hp) : Prop where
  i : Ex I I'
  h : ∀ a o, ¬ M a → H a = some o → H' a = some o
  k : ∀ a, H' a = none → H a = none
  s : Ex I' H'
  f : ∀ a, I a = none → H a ≠ none → ¬ M a → I' a = none
abbrev No : Addr → Prop := fun _ => False
theorem Gr.refl {M : Addr → Prop} {I H : Hp} (e : Ex I H) : Gr M I H I H := ⟨Ex.refl I, fun _ _ _ h => h, fun _ h => h, e, fun _ h _ _ => h⟩
theorem Gr.trans {M : Addr → Prop} {I H I1 H1 I2 H2 : Hp} (a : Gr M I H I1 H1) (b : Gr M I1 H1 I2 H2) : Gr M I H I2 H2 :=
  ⟨a.i.trans b.i, fun x o n h => b.h x o n (a.h x o n h), fun x h => a.k x (b.k x h), b.s, fun x h n m => b.f x (a.f x h n m) (fun q => n (a.k x q)) m⟩
theorem Gr.mono {M M' : Addr → Prop} {I H I1 H1 : Hp} (a : Gr M I H I1 H1) (m : ∀ p, M p → M' p) : Gr M' I H I1 H1 :=
  ⟨a.i, fun x o n h => a.h x o (fun q => n (m x q)) h, a.k, a.s, fun x h n q => a.f x h n fun z => q (m x z)⟩
theorem Gr.no {M : Addr → Prop} {I H I1 H1 : Hp} (a : Gr No I H I1 H1) : Gr M I H I1 H1 := a.mono fun _ q => q.elim
/-- a new object, data -/
theorem Gr.new {I H : Hp} {p : Addr} {o : HO} (e : Ex I H) (h : H p = none) : Gr No I H (upd I p o) (upd H p o) :=
  ⟨Ex.new_ (e.non_ h), fun a u _ q => (Ex.refl H).upd_ h a u q, fun a q => by
    by_cases z : a = p
    · subst z; exact h
    · rw [upd_ne z] at q; exact q, e.both_, fun a ha hn _ => by
    by_cases z : a = p
    · subst z; exact absurd h hn
    · rw [upd_ne z]; exact ha⟩
/-- a new object, owned -/
theorem Gr.own {I H : Hp} {p : Addr} {o : HO} (e : Ex I H) (h : H p = none) : Gr No I H I (upd H p o) :=
  ⟨Ex.refl I, fun a u _ q => (Ex.refl H).upd_ h a u q, fun a q => by
    by_cases z : a = p
    · subst z; exact h
    · rw [upd_ne z] at q; exact q, e.upd_ (e.non_ h), fun _ ha _ _ => ha⟩
/-- an owned object changes -/
theorem Gr.mut {M : Addr → Prop} {I H : Hp} {p : Addr} {o u : HO} (e : Ex I H) (m : M p) (hi : I p = none) (h : H p = some u) : Gr M I H I (upd H p o) :=
  ⟨Ex.refl I, fun a v n q => by
    rw [upd_ne (fun z => n (by rw [z]; exact m))]; exact q, fun a q => by
    by_cases z : a = p
    · subst z; rw [upd_same] at q; cases q
    · rw [upd_ne z] at q; exact q, e.upd_ hi, fun _ ha _ _ => ha⟩

/-! ### slots -/
inductive Sl where
  | un
  | dat (d : PyData)
  | lst (ds : List PyData)
  | dic (kvs : List (Int × PyData))
  | stm (cs : List Int) (a b c : Int)
abbrev Ga := List Sl
inductive DK (K : PySem.W.Frag) (I : Hp) : List (Key × V) → List (Int × PyData) → Prop where
  | nil : DK K I [] []
  | cons {k : Int} {v : V} {d : PyData} {r : List (Key × V)} {s : List (Int × PyData)} : Dp K I v d → DK K I r s → DK K I ((.inl k, v) :: r) ((k, d) :: s)
theorem DK.ex {K : PySem.W.Frag} {I I' : Hp} (e : Ex I I') : ∀ {r : List (Key × V)} {s : List (Int × PyData)}, DK K I r s → DK K I' r s
  | _, _, .nil => .nil
  | _, _, .cons h t => .cons (Dp.ex h e) (DK.ex e t)
inductive SR (K : PySem.W.Frag) (I H : Hp) : Option V → Sl → List Addr → Prop where
  | un {o : Option V} : SR K I H o .un []
  | dat {v : V} {d : PyData} : Dp K I v d → SR K I H (some v) (.dat d) []
  | lst {p : Addr} {vs : List V} {ds : List PyData} : H p = some (.lst vs) → DpAll K I vs ds → SR K I H (some (.ref p)) (.lst ds) [p]
  | dic {p : Addr} {kv : List (Key × V)} {kvs : List (Int × PyData)} : H p = some (.dK kv) → DK K I kv kvs → SR K I H (some (.ref p)) (.dic kvs) [p]
  | stm {p q : Addr} {cs : List Int} {a b c : Int} : H p = some (.lst [.ref q, .int a, .int b, .int c]) → H q = some (.lst (cs.map V.int)) → SR K I H (some (.ref p)) (.stm cs a b c) [p, q]
theorem SR.gr {K : PySem.W.Frag} {I H I' H' : Hp} {o : Option V} {sl : Sl} {as : List Addr} (r : SR K I H o sl as) (i : Ex I I') (h : ∀ p ∈ as, ∀ u, H p = some u → H' p = some u) : SR K I' H' o sl as := by
  cases r with
  | un => exact .un
  | dat d => exact .dat (Dp.ex d i)
  | lst a b => exact .lst (h _ (by simp) _ a) (Da.ex b i)
  | dic a b => exact .dic (h _ (by simp) _ a) (b.ex i)
  | stm a b => exact .stm (h _ (by simp) _ a) (h _ (by simp) _ b)
theorem SR.some_ {K : PySem.W.Frag} {I H : Hp} {o : Option V} {sl : Sl} {as : List Addr} (r : SR K I H o sl as) : ∀ p ∈ as, H p ≠ none := by
  cases r with
  | un => intro p h; simp at h
  | dat d => intro p h; simp at h
  | lst a b => intro p h; simp at h; subst h; rw [a]; exact fun z => nomatch z
  | dic a b => intro p h; simp at h; subst h; rw [a]; exact fun z => nomatch z
  | stm a b =>
    intro p h; simp at h
    rcases h with h | h
    · subst h; rw [a]; exact fun z => nomatch z
    · subst h; rw [b]; exact fun z => nomatch z

abbrev Ads := Nat → List Addr
def Own (ad : Ads) (p : Addr) : Prop := ∃ i, p ∈ ad i
structure S1 (K : PySem.W.Frag) (σ : L2.St) (H I : Hp) (Γ : Ga) (ad : Ads) : Prop where
  sub : Ex I H
  len : σ.length = Γ.length
  rel : ∀ i o sl, σ[i]? = some o → Γ[i]? = some sl → SR K I H o sl (ad i)
  out : ∀ i, Γ.length ≤ i → ad i = []
  own : ∀ i p, p ∈ ad i → I p = none
  dis : ∀ i j p, p ∈ ad i → p ∈ ad j → i = j
section
variable {K : PySem.W.Frag} {σ : L2.St} {H I H' I' : Hp} {Γ Γ' : Ga} {ad ad' : Ads}
theorem S1.get (s : S1 K σ H I Γ ad) {i : Nat} {sl : Sl} (h : Γ[i]? = some sl) : ∃ o, σ[i]? = some o ∧ SR K I H o sl (ad i) := by
  have hi : i < Γ.length := (List.getElem?_eq_some_iff.mp h).1
  have hi2 : i < σ.length := by rw [s.len]; exact hi
  exact ⟨σ[i], List.getElem?_eq_getElem hi2, s.rel i _ sl (List.getElem?_eq_getElem hi2) h⟩
theorem S1.some_ (s : S1 K σ H I Γ ad) {i : Nat} {p : Addr} (h : p ∈ ad i) : H p ≠ none := by
  by_cases hi : i < Γ.length
  · obtain ⟨o, _, r⟩ := s.get (List.getElem?_eq_getElem hi)
    exact r.some_ p h
  · rw [s.out i (Nat.le_of_not_lt hi)] at h; simp at h
/-- the heap grows, the slots stand -/
theorem S1.gr (s : S1 K σ H I Γ ad) (g : Gr No I H I' H') : S1 K σ H' I' Γ ad :=
  ⟨g.s, s.len, fun i o sl h1 h2 => (s.rel i o sl h1 h2).gr g.i fun p _ u hu => g.h p u (fun z => z) hu, s.out, fun i p h => g.f p (s.own i p h) (s.some_ h) (fun z => z), s.dis⟩
/-- an object that nobody owns becomes data -/
theorem S1.frz (s : S1 K σ H I Γ ad) {p : Addr} {o : HO} (h : H p = some o) (hi : I p = none) (hn : ¬ Own ad p) : S1 K σ H (upd I p o) Γ ad :=
  ⟨s.sub.at_ h, s.len, fun i u sl h1 h2 => (s.rel i u sl h1 h2).gr (Ex.new_ hi) fun _ _ _ z => z, s.out, fun i q hq => by
    rw [upd_ne (fun z => hn ⟨i, by rw [← z]; exact hq⟩)]; exact s.own i q hq, s.dis⟩
/-- a slot is written -/
def adSet (ad : Ads) (i : Nat) (as : List Addr) : Ads := fun j => if j = i then as else ad j
theorem adSet_same {i : Nat} {as : List Addr} : adSet ad i as i = as := by unfold adSet; rw [if_pos rfl]
theorem adSet_ne {i j : Nat} {as : List Addr} (h : j ≠ i) : adSet ad i as j = ad j := by unfold adSet; rw [if_neg h]
theorem S1.set (s : S1 K σ H I Γ ad) {i : Nat} {o : Option V} {sl : Sl} {as : List Addr} (hi : i < Γ.length) (r : SR K I H o sl as) (ho : ∀ p ∈ as, I p = none) (hd : ∀ j p, j ≠ i → p ∈ as → p ∉ ad j) : S1 K (σ.set i o) H I (Γ.set i sl) (adSet ad i as) := by
  refine ⟨s.sub, by rw [List.length_set, List.length_set]; exact s.len, fun j u sl' h1 h2 => ?_, fun j hj => ?_, fun j p hp => ?_, fun j k p h1 h2 => ?_⟩
  · by_cases e : j = i
    · subst e
      rw [List.getElem?_set_self (by rw [s.len]; exact hi)] at h1
      rw [List.getElem?_set_self hi] at h2
      cases h1; cases h2
      rw [adSet_same]; exact r
    · rw [List.getElem?_set_ne (Ne.symm e)] at h1 h2
      rw [adSet_ne e]; exact s.rel j u sl' h1 h2
  · rw [List.length_set] at hj
    rw [adSet_ne (by omega)]; exact s.out j hj
  · by_cases e : j = i
    · subst e; rw [adSet_same] at hp; exact ho p hp
    · rw [adSet_ne e] at hp; exact s.own j p hp
  · by_cases e : j = i
    · by_cases e2 : k = i
      · rw [e, e2]
      · subst e
        rw [adSet_same] at h1; rw [adSet_ne e2] at h2
        exact absurd h2 (hd k p e2 h1)
    · by_cases e2 : k = i
      · subst e2
        rw [adSet_same] at h2; rw [adSet_ne e] at h1
        exact absurd h1 (hd j p e h2)
      · rw [adSet_ne e] at h1; rw [adSet_ne e2] at h2
        exact s.dis j k p h1 h2
theorem S1.setD (s : S1 K σ H I Γ ad) {i : Nat} {v : V} {d : PyData} (hi : i < Γ.length) (r : Dp K I v d) : S1 K (σ.set i (some v)) H I (Γ.set i (.dat d)) (adSet ad i []) :=
  s.set hi (.dat r) (fun p h => by simp at h) fun j p _ h => by simp at h
theorem S1.setU (s : S1 K σ H I Γ ad) {i : Nat} {o : Option V} (hi : i < Γ.length) : S1 K (σ.set i o) H I (Γ.set i .un) (adSet ad i []) :=
  s.set hi .un (fun p h => by simp at h) fun j p _ h => by simp at h
/-- the object of an owned slot is written -/
theorem S1.put (s : S1 K σ H I Γ ad) {i : Nat} {o : Option V} {sl sl' : Sl} {as : List Addr} (hσ : σ[i]? = some o) (hΓ : Γ[i]? = some sl) (he : ad i = as) (g : Gr (fun p => p ∈ as) I H I' H') (ho : ∀ p ∈ as, I' p = none) (r : SR K I' H' o sl' as) : S1 K σ H' I' (Γ.set i sl') ad := by
  have hi : i < Γ.length := (List.getElem?_eq_some_iff.mp hΓ).1
  refine ⟨g.s, by rw [List.length_set]; exact s.len, fun j u sl2 h1 h2 => ?_, fun j hj => ?_, fun j p hp => ?_, s.dis⟩
  · by_cases e : j = i
    · subst e
      rw [List.getElem?_set_self hi] at h2
      rw [hσ] at h1
      cases h1; cases h2
      rw [he]; exact r
    · rw [List.getElem?_set_ne (Ne.symm e)] at h2
      refine (s.rel j u sl2 h1 h2).gr g.i fun p hp w hw => g.h p w (fun z => ?_) hw
      rw [← he] at z
      exact e (s.dis j i p hp z)
  · rw [List.length_set] at hj; exact s.out j hj
  · by_cases z : p ∈ as
    · exact ho p z
    · exact g.f p (s.own j p hp) (s.some_ hp) z
end
end DL

/-! DL2: readings of expressions as data. -/
namespace DL
open PySem PySem.Spec PyProof.Rows L2

def Sb (ad ad' : Ads) : Prop := ∀ i, ad' i = ad i ∨ ad' i = []
theorem Sb.refl (ad : Ads) : Sb ad ad := fun _ => .inl rfl
theorem Sb.trans {a b c : Ads} (x : Sb a b) (y : Sb b c) : Sb a c := fun i => by
  rcases y i with h | h
  · rw [h]; exact x i
  · exact .inr h
theorem Sb.mem {a b : Ads} (x : Sb a b) {i : Nat} {p : Addr} (h : p ∈ b i) : p ∈ a i := by
  rcases x i with e | e
  · rw [← e]; exact h
  · rw [e] at h; simp at h
theorem Sb.own {a b : Ads} (x : Sb a b) (p : Addr) (h : Own b p) : Own a p := let ⟨i, q⟩ := h; ⟨i, x.mem q⟩
/-- an expression's value is the data d; the slots behind it -/
def RE (K : PySem.W.Frag) (t : TE) (Γ : Ga) (d : PyData) (Γ' : Ga) : Prop :=
  ∀ (σ : L2.St) (H I : Hp) (ad : Ads), S1 K σ H I Γ ad → ∀ Q : VK, (∀ v H' I' ad', S1 K σ H' I' Γ' ad' → Gr (Own ad) I H I' H' → Sb ad ad' → Dp K I' v d → Q v H') → t σ H Q
/-- .. a new list that nobody holds -/
def RL (K : PySem.W.Frag) (t : TE) (Γ : Ga) (ds : List PyData) (Γ' : Ga) : Prop :=
  ∀ (σ : L2.St) (H I : Hp) (ad : Ads), S1 K σ H I Γ ad → ∀ Q : VK, (∀ p vs H' I' ad', S1 K σ H' I' Γ' ad' → Gr (Own ad) I H I' H' → Sb ad ad' → H p = none → I' p = none → H' p = some (.lst vs) → DpAll K I' vs ds → Q (.ref p) H') → t σ H Q
def RT (K : PySem.W.Frag) (t : TT) (Γ : Ga) (b : Bool) (Γ' : Ga) : Prop :=
  ∀ (σ : L2.St) (H I : Hp) (ad : Ads), S1 K σ H I Γ ad → ∀ Q : Bool → Hp → Prop, (∀ H' I' ad', S1 K σ H' I' Γ' ad' → Gr (Own ad) I H I' H' → Sb ad ad' → Q b H') → t σ H Q
def RA (K : PySem.W.Frag) (t : TA) (Γ : Ga) (ds : List PyData) (Γ' : Ga) : Prop :=
  ∀ (σ : L2.St) (H I : Hp) (ad : Ads), S1 K σ H I Γ ad → ∀ Q : List V → Hp → Prop, (∀ vs H' I' ad', S1 K σ H' I' Γ' ad' → Gr (Own ad) I H I' H' → Sb ad ad' → DpAll K I' vs ds → Q vs H') → t σ H Q

theorem S1.free {K : PySem.W.Frag} {σ : L2.St} {H I : Hp} {Γ : Ga} {ad : Ads} (s : S1 K σ H I Γ ad) {p : Addr} (h : H p = none) : ¬ Own ad p := fun ⟨_, q⟩ => s.some_ q h
section
variable {K : PySem.W.Frag} {Γ Γ1 Γ2 Γ3 Γ' : Ga} {ta tb tc te : TE} {t u : TT} {tr : TA} {d d1 d2 d3 : PyData} {ds es : List PyData} {b c : Bool} {r : R2}
/-- a new list becomes data -/
theorem RL.re (h : RL K te Γ ds Γ') : RE K te Γ (.list ds) Γ' := fun σ H I ad s Q q => h σ H I ad s Q fun p vs H' I' ad' s' g sb hp hi hv hd => by
  have no' : ¬ Own ad' p := fun z => s.free hp (sb.own p z)
  refine q (.ref p) H' (upd I' p (.lst vs)) ad' (s'.frz hv hi no') ?_ sb (.lst (.inl (.inl upd_same)) (Da.ex hd (Ex.new_ hi)))
  refine ⟨g.i.trans (Ex.new_ hi), g.h, g.k, s'.sub.at_ hv, fun a ha hn hm => ?_⟩
  rw [upd_ne (fun z => hn (by rw [z]; exact hp))]
  exact g.f a ha hn hm
theorem RE.is (h : RE K te Γ d1 Γ') (e : d1 = d2) : RE K te Γ d2 Γ' := e ▸ h
theorem RL.is (h : RL K te Γ ds Γ') (e : ds = es) : RL K te Γ es Γ' := e ▸ h
theorem RT.is (h : RT K t Γ b Γ') (e : b = c) : RT K t Γ c Γ' := e ▸ h
theorem re_var {i : Nat} (h : Γ[i]? = some (.dat d)) : RE K (tVar i) Γ d Γ := fun σ H I ad s Q q => by
  obtain ⟨o, ho, r⟩ := s.get h
  generalize ad i = as at r
  cases r with
  | dat r => exact ⟨_, ho, q _ H I ad s (Gr.refl s.sub) (Sb.refl ad) r⟩
/-- an owned list is read out: data from here on -/
theorem re_out {i : Nat} (h : Γ[i]? = some (.lst ds)) : RE K (tVar i) Γ (.list ds) (Γ.set i (.dat (.list ds))) := fun σ H I ad s Q q => by
  obtain ⟨o, ho, r⟩ := s.get h
  generalize hx : ad i = as at r
  cases r with
  | @lst p vs _ hv hd =>
    have hi : i < Γ.length := (List.getElem?_eq_some_iff.mp h).1
    have pi : I p = none := s.own i p (by rw [hx]; simp)
    have s2 : S1 K (σ.set i (some (.ref p))) H I (Γ.set i .un) (adSet ad i []) := s.setU hi
    have e2 : σ.set i (some (V.ref p)) = σ := by
      apply List.ext_getElem?
      intro j
      by_cases z : i = j
      · subst z
        rw [List.getElem?_set_self (by rw [s.len]; exact hi), ho]
      · rw [List.getElem?_set_ne z]
    have nop : ¬ Own (adSet ad i []) p := fun ⟨j, hj⟩ => by
      by_cases z : j = i
      · subst z; rw [adSet_same] at hj; simp at hj
      · rw [adSet_ne z] at hj
        exact z (s.dis j i p hj (by rw [hx]; simp))
    have s3 := s2.frz hv pi nop
    have d3 : Dp K (upd I p (.lst vs)) (.ref p) (.list ds) := .lst (.inl (.inl upd_same)) (Da.ex hd (Ex.new_ pi))
    have s4 := s3.setD (i := i) (v := .ref p) (by rw [List.length_set]; exact hi) d3
    rw [List.set_set, List.set_set, e2] at s4
    have ea : adSet (adSet ad i []) i [] = adSet ad i [] := by
      funext j; by_cases z : j = i
      · subst z; rw [adSet_same, adSet_same]
      · rw [adSet_ne z]
    rw [ea] at s4
    refine ⟨_, ho, q _ H _ _ s4 ⟨Ex.new_ pi, fun _ _ _ z => z, fun _ z => z, s.sub.at_ hv, fun a ha hn hm => ?_⟩ (fun j => ?_) d3⟩
    · by_cases z : a = p
      · subst z
        exact absurd ⟨i, by rw [hx]; simp⟩ hm
      · rw [upd_ne z]; exact ha
    · by_cases z : j = i
      · subst z; exact .inr adSet_same
      · exact .inl (adSet_ne z)

theorem re_int {i : Int} : RE K (tC (.int i)) Γ (.int i) Γ := fun σ H I ad s Q q => q _ H I ad s (Gr.refl s.sub) (Sb.refl ad) (.int i)
theorem re_str {x : Str} : RE K (tC (.str x)) Γ (.str x) Γ := fun σ H I ad s Q q => q _ H I ad s (Gr.refl s.sub) (Sb.refl ad) (.str x)
theorem re_non : RE K (tC .non) Γ .none Γ := fun σ H I ad s Q q => q _ H I ad s (Gr.refl s.sub) (Sb.refl ad) .non
theorem re_bl {x : Bool} : RE K (tC (.bl x)) Γ (.bool x) Γ := fun σ H I ad s Q q => q _ H I ad s (Gr.refl s.sub) (Sb.refl ad) (.bl x)

/-! ### operations on two values -/
def OD (K : PySem.W.Frag) (r : R2) (d1 d2 d : PyData) : Prop :=
  ∀ (I H : Hp) (x y : V), Ex I H → Dp K I x d1 → Dp K I y d2 → ∀ Q : VK, (∀ v H' I', Gr No I H I' H' → Dp K I' v d → Q v H') → r x y H Q
def ODL (K : PySem.W.Frag) (r : R2) (d1 d2 : PyData) (ds : List PyData) : Prop :=
  ∀ (I H : Hp) (x y : V), Ex I H → Dp K I x d1 → Dp K I y d2 → ∀ Q : VK, (∀ p vs, H p = none → DpAll K I vs ds → Q (.ref p) (upd H p (.lst vs))) → r x y H Q
theorem re_op (ha : RE K ta Γ d1 Γ1) (hb : RE K tb Γ1 d2 Γ2) (hr : OD K r d1 d2 d) : RE K (tOp r ta tb) Γ d Γ2 := fun σ H I ad s Q q =>
  ha σ H I ad s _ fun x H1 I1 ad1 s1 g1 b1 p1 => hb σ H1 I1 ad1 s1 _ fun y H2 I2 ad2 s2 g2 b2 p2 => hr I2 H2 x y s2.sub (Dp.ex p1 g2.i) p2 Q fun v H3 I3 g3 p3 =>
    q v H3 I3 ad2 (s2.gr g3) (g1.trans ((g2.mono b1.own).trans g3.no)) (b1.trans b2) p3
/-- growth by a new owned list -/
theorem S1.fresh {σ : L2.St} {H I : Hp} {ad : Ads} (s : S1 K σ H I Γ ad) {p : Addr} {o : HO} (h : H p = none) : S1 K σ (upd H p o) I Γ ad ∧ Gr No I H I (upd H p o) := ⟨s.gr (Gr.own s.sub h), Gr.own s.sub h⟩
theorem rl_op (ha : RE K ta Γ d1 Γ1) (hb : RE K tb Γ1 d2 Γ2) (hr : ODL K r d1 d2 ds) : RL K (tOp r ta tb) Γ ds Γ2 := fun σ H I ad s Q q =>
  ha σ H I ad s _ fun x H1 I1 ad1 s1 g1 b1 p1 => hb σ H1 I1 ad1 s1 _ fun y H2 I2 ad2 s2 g2 b2 p2 => hr I2 H2 x y s2.sub (Dp.ex p1 g2.i) p2 Q fun p vs hp hd =>
    q p vs _ I2 ad2 (s2.fresh hp).1 (g1.trans ((g2.mono b1.own).trans (s2.fresh hp).2.no)) (b1.trans b2) (g1.k p (g2.k p hp)) (s2.sub.non_ hp) upd_same hd
theorem od_l {r' : R2} (h : OD K r d1 d2 d) : OD K (fun x y H Q => r x y H Q ∨ r' x y H Q) d1 d2 d := fun I H x y e p1 p2 Q q => .inl (h I H x y e p1 p2 Q q)
theorem od_r {r' : R2} (h : OD K r d1 d2 d) : OD K (fun x y H Q => r' x y H Q ∨ r x y H Q) d1 d2 d := fun I H x y e p1 p2 Q q => .inr (h I H x y e p1 p2 Q q)
theorem od_I0 {g : Int → Int → Int} {i j : Int} : OD K (rI0 fun i j => V.int (g i j)) (.int i) (.int j) (.int (g i j)) := fun I H x y e p1 p2 Q q => by
  cases p1; cases p2
  exact ⟨i, j, rfl, rfl, q _ H I (Gr.refl e) (.int _)⟩
theorem od_I {C : Int → Int → Prop} {g : Int → Int → Int} {i j : Int} (hc : C i j) : OD K (rI C fun i j => V.int (g i j)) (.int i) (.int j) (.int (g i j)) := fun I H x y e p1 p2 Q q => by
  cases p1; cases p2
  exact ⟨i, j, rfl, rfl, hc, q _ H I (Gr.refl e) (.int _)⟩
theorem od_B0 {g : Int → Int → Bool} {i j : Int} : OD K (rI0 fun i j => V.bl (g i j)) (.int i) (.int j) (.bool (g i j)) := fun I H x y e p1 p2 Q q => by
  cases p1; cases p2
  exact ⟨i, j, rfl, rfl, q _ H I (Gr.refl e) (.bl _)⟩
theorem od_add {i j : Int} : OD K (rI0 fun i j => V.int (i + j)) (.int i) (.int j) (.int (i + j)) := od_I0 (g := fun i j => i + j)
theorem od_sub {i j : Int} : OD K (rI0 fun i j => V.int (i - j)) (.int i) (.int j) (.int (i - j)) := od_I0 (g := fun i j => i - j)
theorem od_mul {i j : Int} (h : IntMulOk i j) : OD K (rI IntMulOk fun i j => V.int (i * j)) (.int i) (.int j) (.int (i * j)) := od_I (g := fun i j => i * j) h
theorem od_fdiv {C : Int → Int → Prop} {i j : Int} (h : C i j) : OD K (rI C fun i j => V.int (i.fdiv j)) (.int i) (.int j) (.int (i.fdiv j)) := od_I (g := fun i j => i.fdiv j) h
theorem od_mod {i j : Int} (h : j ≠ 0) : OD K (rI (fun _ j => j ≠ 0) fun i j => V.int (i.fmod j)) (.int i) (.int j) (.int (i.fmod j)) := od_I (g := fun i j => i.fmod j) h
theorem od_pow {i j : Int} (h : CPow i j) : OD K (rI CPow fun i j => V.int (i ^ j.toNat)) (.int i) (.int j) (.int (i ^ j.toNat)) := od_I (g := fun i j => i ^ j.toNat) h
theorem od_lt {i j : Int} : OD K (rI0 fun i j => V.bl (decide (i < j))) (.int i) (.int j) (.bool (decide (i < j))) := od_B0 (g := fun i j => decide (i < j))
theorem od_le {i j : Int} : OD K (rI0 fun i j => V.bl (decide (i ≤ j))) (.int i) (.int j) (.bool (decide (i ≤ j))) := od_B0 (g := fun i j => decide (i ≤ j))
theorem od_gt {i j : Int} : OD K (rI0 fun i j => V.bl (decide (j < i))) (.int i) (.int j) (.bool (decide (j < i))) := od_B0 (g := fun i j => decide (j < i))
theorem od_ge {i j : Int} : OD K (rI0 fun i j => V.bl (decide (j ≤ i))) (.int i) (.int j) (.bool (decide (j ≤ i))) := od_B0 (g := fun i j => decide (j ≤ i))
theorem dec_int {i j : Int} : decide (V.int i = V.int j) = decide (i = j) := by
  by_cases h : i = j
  · subst h; simp
  · rw [decide_eq_false h, decide_eq_false (fun z => h (V.int.inj z))]
theorem od_eqI {i j : Int} : OD K rEq (.int i) (.int j) (.bool (decide (i = j))) := fun I H x y e p1 p2 Q q => by
  cases p1; cases p2
  exact ⟨rfl, q _ H I (Gr.refl e) (by rw [dec_int]; exact .bl _)⟩
theorem od_neI {i j : Int} : OD K rNe (.int i) (.int j) (.bool (!decide (i = j))) := fun I H x y e p1 p2 Q q => by
  cases p1; cases p2
  exact ⟨rfl, q _ H I (Gr.refl e) (by rw [dec_int]; exact .bl _)⟩
theorem od_eqD (h1 : SeqAt.shaped d1 = true) (h2 : SeqAt.shaped d2 = true) : OD K (rEqD K) d1 d2 (.bool (PyData.eqv d1 d2)) := fun I H x y e p1 p2 Q q =>
  ⟨d1, d2, Dp.ex p1 e, Dp.ex p2 e, h1, h2, q _ H I (Gr.refl e) (.bl _)⟩
theorem od_neD (h1 : SeqAt.shaped d1 = true) (h2 : SeqAt.shaped d2 = true) : OD K (rNeD K) d1 d2 (.bool (!PyData.eqv d1 d2)) := fun I H x y e p1 p2 Q q =>
  ⟨d1, d2, Dp.ex p1 e, Dp.ex p2 e, h1, h2, q _ H I (Gr.refl e) (.bl _)⟩
theorem dp_lst {I : Hp} {x : V} (h : Dp K I x (.list ds)) : ∃ p vs, x = .ref p ∧ SqL K I p vs ∧ DpAll K I vs ds := by
  cases h with
  | lst a b => exact ⟨_, _, rfl, a, b⟩
theorem dp_tup {I : Hp} {x : V} (h : Dp K I x (.tuple ds)) : ∃ p vs, x = .ref p ∧ SqT K I p vs ∧ DpAll K I vs ds := by
  cases h with
  | tup a b => exact ⟨_, _, rfl, a, b⟩
theorem at_dp {I : Hp} {vs : List V} {i : Int} (h : DpAll K I vs ds) (e : atI ds i = some d) : ∃ v, atI vs i = some v ∧ Dp K I v d := by
  unfold atI at e ⊢
  rw [Da.len h]
  cases q : ixN ds.length i with
  | none => rw [q] at e; cases e
  | some j => rw [q] at e; exact Da.at h e
theorem od_ixL {i : Int} (e : atI ds i = some d) : OD K (rIx K) (.list ds) (.int i) d := fun I H x y ex p1 p2 Q q => by
  obtain ⟨p, vs, rfl, hs, hd⟩ := dp_lst p1
  cases p2
  obtain ⟨v, hv, hp⟩ := at_dp hd e
  exact .inl ⟨p, vs, i, v, rfl, rfl, sqL_ex ex hs, hv, q v H I (Gr.refl ex) hp⟩
theorem od_ixT {i : Int} (e : atI ds i = some d) : OD K (rIx K) (.tuple ds) (.int i) d := fun I H x y ex p1 p2 Q q => by
  obtain ⟨p, vs, rfl, hs, hd⟩ := dp_tup p1
  cases p2
  obtain ⟨v, hv, hp⟩ := at_dp hd e
  exact .inr (.inl ⟨p, vs, i, v, rfl, rfl, sqT_ex ex hs, hv, q v H I (Gr.refl ex) hp⟩)
/-- tuple + tuple -/
theorem od_catT (hz : ds.length + es.length ≤ sizeLine) : OD K (rCatA K) (.tuple ds) (.tuple es) (.tuple (ds ++ es)) := fun I H x y e p1 p2 Q q => by
  obtain ⟨a, xs, rfl, h1, d1⟩ := dp_tup p1
  obtain ⟨b, ys, rfl, h2, d2⟩ := dp_tup p2
  refine ⟨a, b, xs, ys, rfl, rfl, sqT_ex e h1, sqT_ex e h2, by rw [Da.len d1, Da.len d2]; exact hz, fun z => ?_, fun _ z => ?_, fun _ _ p hp => ?_⟩
  · subst z
    cases d1
    exact q _ H I (Gr.refl e) p2
  · subst z
    cases d2
    rw [List.append_nil] at q
    exact q _ H I (Gr.refl e) p1
  · exact q _ _ _ (Gr.new e hp) (.tup (.inl (.inl upd_same)) (Da.ex (Da.app d1 d2) (Ex.new_ (e.non_ hp))))
/-- x in a list of ints -/
theorem inV_int {n : Int} : ∀ (ns : List Int), inV (.int n) (ns.map V.int) = decide (n ∈ ns)
  | [] => by rfl
  | m :: r => by
    have ih := inV_int (n := n) r
    unfold inV at ih ⊢
    rw [List.map_cons, List.any_cons, ih]
    show ((m == n) || decide (n ∈ r)) = _
    by_cases h : m = n
    · subst h; simp
    · have h2 : (m == n) = false := by simp [h]
      rw [h2, Bool.false_or]
      simp [Ne.symm h]
theorem flat_ints (ns : List Int) : (ns.map V.int).all flatV = true := by
  rw [List.all_map]; exact List.all_eq_true.mpr fun _ _ => rfl
theorem od_inL {n : Int} {ns : List Int} : OD K (rIn K false) (.int n) (.list (ns.map .int)) (.bool (decide (n ∈ ns))) := fun I H x y e p1 p2 Q q => by
  cases p1
  obtain ⟨a, xs, rfl, h1, d1⟩ := dp_lst p2
  have := Da.of_ints d1; subst this
  exact ⟨a, _, rfl, .inl (sqL_ex e h1), rfl, flat_ints ns, q _ H I (Gr.refl e) (by rw [inV_int]; exact .bl _)⟩
theorem od_niL {n : Int} {ns : List Int} : OD K (rIn K true) (.int n) (.list (ns.map .int)) (.bool (!decide (n ∈ ns))) := fun I H x y e p1 p2 Q q => by
  cases p1
  obtain ⟨a, xs, rfl, h1, d1⟩ := dp_lst p2
  have := Da.of_ints d1; subst this
  exact ⟨a, _, rfl, .inl (sqL_ex e h1), rfl, flat_ints ns, q _ H I (Gr.refl e) (by rw [inV_int]; exact .bl _)⟩
theorem od_inT {n : Int} {ns : List Int} : OD K (rIn K false) (.int n) (.tuple (ns.map .int)) (.bool (decide (n ∈ ns))) := fun I H x y e p1 p2 Q q => by
  cases p1
  obtain ⟨a, xs, rfl, h1, d1⟩ := dp_tup p2
  have := Da.of_ints d1; subst this
  exact ⟨a, _, rfl, .inr (sqT_ex e h1), rfl, flat_ints ns, q _ H I (Gr.refl e) (by rw [inV_int]; exact .bl _)⟩
theorem od_niT {n : Int} {ns : List Int} : OD K (rIn K true) (.int n) (.tuple (ns.map .int)) (.bool (!decide (n ∈ ns))) := fun I H x y e p1 p2 Q q => by
  cases p1
  obtain ⟨a, xs, rfl, h1, d1⟩ := dp_tup p2
  have := Da.of_ints d1; subst this
  exact ⟨a, _, rfl, .inr (sqT_ex e h1), rfl, flat_ints ns, q _ H I (Gr.refl e) (by rw [inV_int]; exact .bl _)⟩
/-- -x -/
theorem re_neg {i : Int} (h : RE K ta Γ (.int i) Γ1) : RE K (tUn (rU fun i => V.int (-i)) ta) Γ (.int (-i)) Γ1 := fun σ H I ad s Q q =>
  h σ H I ad s _ fun x H1 I1 ad1 s1 g1 b1 p1 => by
    cases p1
    exact ⟨i, rfl, q _ H1 I1 ad1 s1 g1 b1 (.int _)⟩
/-! ### arguments, displays -/
theorem ra_nil : RA K tNil Γ [] Γ := fun σ H I ad s Q q => q [] H I ad s (Gr.refl s.sub) (Sb.refl ad) .nil
theorem ra_cons (h : RE K ta Γ d Γ1) (hr : RA K tr Γ1 ds Γ2) : RA K (tCons ta tr) Γ (d :: ds) Γ2 := fun σ H I ad s Q q =>
  h σ H I ad s _ fun x H1 I1 ad1 s1 g1 b1 p1 => hr σ H1 I1 ad1 s1 _ fun vs H2 I2 ad2 s2 g2 b2 p2 =>
    q (x :: vs) H2 I2 ad2 s2 (g1.trans (g2.mono b1.own)) (b1.trans b2) (.cons (Dp.ex p1 g2.i) p2)
theorem re_tup (h : RA K tr Γ ds Γ1) (hz : ds.length ≤ sizeLine := by (show _ ≤ 16777216; simp)) : RE K (tTup tr) Γ (.tuple ds) Γ1 := fun σ H I ad s Q q =>
  h σ H I ad s _ fun vs H1 I1 ad1 s1 g1 b1 p1 => ⟨by rw [Da.len p1]; exact hz, fun p hp =>
    q _ _ _ ad1 (s1.gr (Gr.new s1.sub hp)) (g1.trans (Gr.new s1.sub hp).no) b1 (.tup (.inl (.inl upd_same)) (Da.ex p1 (Ex.new_ (s1.sub.non_ hp))))⟩
theorem rl_lst (h : RA K tr Γ ds Γ1) (hz : ds.length ≤ sizeLine := by (show _ ≤ 16777216; simp)) : RL K (tLst tr) Γ ds Γ1 := fun σ H I ad s Q q =>
  h σ H I ad s _ fun vs H1 I1 ad1 s1 g1 b1 p1 => ⟨by rw [Da.len p1]; exact hz, fun p hp =>
    q p vs _ I1 ad1 (s1.fresh hp).1 (g1.trans (s1.fresh hp).2.no) b1 (g1.k p hp) (s1.sub.non_ hp) upd_same p1⟩
/-! ### tests -/
theorem rt_test (h : RE K te Γ (.bool b) Γ1) : RT K (tTest te) Γ b Γ1 := fun σ H I ad s Q q => h σ H I ad s _ fun x H1 I1 ad1 s1 g1 b1 p1 => by
  cases p1
  exact ⟨b, rfl, q H1 I1 ad1 s1 g1 b1⟩
theorem rt_B (h : RE K te Γ (.bool b) Γ1) : RT K (tB te) Γ b Γ1 := fun σ H I ad s Q q => h σ H I ad s _ fun x H1 I1 ad1 s1 g1 b1 p1 => by
  cases p1
  exact ⟨b, rfl, q H1 I1 ad1 s1 g1 b1⟩
theorem rt_not (h : RT K t Γ b Γ1) : RT K (tNot t) Γ (!b) Γ1 := fun σ H I ad s Q q => h σ H I ad s _ fun H1 I1 ad1 s1 g1 b1 => q H1 I1 ad1 s1 g1 b1
theorem rt_and (h : RT K t Γ b Γ1) (h0 : b = false → Γ1 = Γ2) (h1 : b = true → RT K u Γ1 c Γ2) : RT K (tAnd t u) Γ (b && c) Γ2 := fun σ H I ad s Q q => h σ H I ad s _ fun H1 I1 ad1 s1 g1 b1 => by
  cases b with
  | true =>
    show u σ H1 Q
    exact h1 rfl σ H1 I1 ad1 s1 Q fun H2 I2 ad2 s2 g2 b2 => q H2 I2 ad2 s2 (g1.trans (g2.mono b1.own)) (b1.trans b2)
  | false =>
    show Q false H1
    cases h0 rfl
    exact q H1 I1 ad1 s1 g1 b1
theorem rt_or (h : RT K t Γ b Γ1) (h0 : b = true → Γ1 = Γ2) (h1 : b = false → RT K u Γ1 c Γ2) : RT K (tOr t u) Γ (b || c) Γ2 := fun σ H I ad s Q q => h σ H I ad s _ fun H1 I1 ad1 s1 g1 b1 => by
  cases b with
  | false =>
    show u σ H1 Q
    exact h1 rfl σ H1 I1 ad1 s1 Q fun H2 I2 ad2 s2 g2 b2 => q H2 I2 ad2 s2 (g1.trans (g2.mono b1.own)) (b1.trans b2)
  | true =>
    show Q true H1
    cases h0 rfl
    exact q H1 I1 ad1 s1 g1 b1
theorem re_isN (h : RE K te Γ d Γ1) (hb : b = (match d with | .none => true | _ => false)) : RE K (tIsN te) Γ (.bool b) Γ1 := fun σ H I ad s Q q => h σ H I ad s _ fun x H1 I1 ad1 s1 g1 b1 p1 => by
  refine q _ H1 I1 ad1 s1 g1 b1 ?_
  subst hb
  cases p1 <;> exact .bl _
theorem re_notN (h : RE K te Γ d Γ1) (hb : b = (match d with | .none => false | _ => true)) : RE K (tNotN te) Γ (.bool b) Γ1 := fun σ H I ad s Q q => h σ H I ad s _ fun x H1 I1 ad1 s1 g1 b1 p1 => by
  refine q _ H1 I1 ad1 s1 g1 b1 ?_
  subst hb
  cases p1 <;> exact .bl _
theorem re_andV (h : RE K ta Γ (.bool b) Γ1) (h0 : b = false → Γ1 = Γ2) (h1 : b = true → RE K tb Γ1 (.bool c) Γ2) : RE K (tAndV ta tb) Γ (.bool (b && c)) Γ2 := fun σ H I ad s Q q => h σ H I ad s _ fun x H1 I1 ad1 s1 g1 b1 p1 => by
  cases p1
  refine ⟨b, rfl, ?_⟩
  cases b with
  | true =>
    rw [if_pos rfl]
    exact h1 rfl σ H1 I1 ad1 s1 Q fun v H2 I2 ad2 s2 g2 b2 p2 => q v H2 I2 ad2 s2 (g1.trans (g2.mono b1.own)) (b1.trans b2) p2
  | false =>
    rw [if_neg Bool.false_ne_true]
    cases h0 rfl
    exact q _ H1 I1 ad1 s1 g1 b1 (.bl _)
theorem re_orV (h : RE K ta Γ (.bool b) Γ1) (h0 : b = true → Γ1 = Γ2) (h1 : b = false → RE K tb Γ1 (.bool c) Γ2) : RE K (tOrV ta tb) Γ (.bool (b || c)) Γ2 := fun σ H I ad s Q q => h σ H I ad s _ fun x H1 I1 ad1 s1 g1 b1 p1 => by
  cases p1
  refine ⟨b, rfl, ?_⟩
  cases b with
  | false =>
    rw [if_neg Bool.false_ne_true]
    exact h1 rfl σ H1 I1 ad1 s1 Q fun v H2 I2 ad2 s2 g2 b2 p2 => q v H2 I2 ad2 s2 (g1.trans (g2.mono b1.own)) (b1.trans b2) p2
  | true =>
    rw [if_pos rfl]
    cases h0 rfl
    exact q _ H1 I1 ad1 s1 g1 b1 (.bl _)
theorem re_notV (h : RE K ta Γ (.bool b) Γ1) : RE K (tNotV ta) Γ (.bool (!b)) Γ1 := fun σ H I ad s Q q => h σ H I ad s _ fun x H1 I1 ad1 s1 g1 b1 p1 => by
  cases p1
  exact ⟨b, rfl, q _ H1 I1 ad1 s1 g1 b1 (.bl _)⟩
theorem re_if (h : RT K t Γ b Γ1) (h1 : b = true → RE K ta Γ1 d Γ2) (h2 : b = false → RE K tb Γ1 d Γ2) : RE K (tIf t ta tb) Γ d Γ2 := fun σ H I ad s Q q => h σ H I ad s _ fun H1 I1 ad1 s1 g1 b1 => by
  cases b with
  | true =>
    rw [if_pos rfl]
    exact h1 rfl σ H1 I1 ad1 s1 Q fun v H2 I2 ad2 s2 g2 b2 p2 => q v H2 I2 ad2 s2 (g1.trans (g2.mono b1.own)) (b1.trans b2) p2
  | false =>
    rw [if_neg Bool.false_ne_true]
    exact h2 rfl σ H1 I1 ad1 s1 Q fun v H2 I2 ad2 s2 g2 b2 p2 => q v H2 I2 ad2 s2 (g1.trans (g2.mono b1.own)) (b1.trans b2) p2
/-! ### calls of built-ins by values -/
def CD (K : PySem.W.Frag) (r : List V → Hp → VK → Prop) (ds : List PyData) (d : PyData) : Prop :=
  ∀ (I H : Hp) (vs : List V), Ex I H → DpAll K I vs ds → ∀ Q : VK, (∀ v H' I', Gr No I H I' H' → Dp K I' v d → Q v H') → r vs H Q
def CDL (K : PySem.W.Frag) (r : List V → Hp → VK → Prop) (ds es : List PyData) : Prop :=
  ∀ (I H : Hp) (vs : List V), Ex I H → DpAll K I vs ds → ∀ Q : VK, (∀ p us, H p = none → DpAll K I us es → Q (.ref p) (upd H p (.lst us))) → r vs H Q
variable {rc rc' : List V → Hp → VK → Prop}
theorem re_cb (h : RA K tr Γ ds Γ1) (hr : CD K rc ds d) : RE K (tCB rc tr) Γ d Γ1 := fun σ H I ad s Q q =>
  h σ H I ad s _ fun vs H1 I1 ad1 s1 g1 b1 p1 => hr I1 H1 vs s1.sub p1 Q fun v H2 I2 g2 p2 => q v H2 I2 ad1 (s1.gr g2) (g1.trans g2.no) b1 p2
theorem rl_cb (h : RA K tr Γ ds Γ1) (hr : CDL K rc ds es) : RL K (tCB rc tr) Γ es Γ1 := fun σ H I ad s Q q =>
  h σ H I ad s _ fun vs H1 I1 ad1 s1 g1 b1 p1 => hr I1 H1 vs s1.sub p1 Q fun p us hp hd =>
    q p us _ I1 ad1 (s1.fresh hp).1 (g1.trans (s1.fresh hp).2.no) b1 (g1.k p hp) (s1.sub.non_ hp) upd_same hd
theorem cd_l (h : CD K rc ds d) : CD K (fun x H Q => rc x H Q ∨ rc' x H Q) ds d := fun I H vs e p Q q => .inl (h I H vs e p Q q)
theorem cd_r (h : CD K rc ds d) : CD K (fun x H Q => rc' x H Q ∨ rc x H Q) ds d := fun I H vs e p Q q => .inr (h I H vs e p Q q)
abbrev rLen (K : PySem.W.Frag) : List V → Hp → VK → Prop := fun xs H Q => ∃ x n, xs = [x] ∧ LenV K x H n ∧ Q (.int n) H
theorem da1 {I : Hp} {vs : List V} (h : DpAll K I vs [d]) : ∃ v, vs = [v] ∧ Dp K I v d := by
  cases h with
  | cons a b => cases b; exact ⟨_, rfl, a⟩
theorem da2 {I : Hp} {vs : List V} (h : DpAll K I vs [d1, d2]) : ∃ v w, vs = [v, w] ∧ Dp K I v d1 ∧ Dp K I w d2 := by
  cases h with
  | cons a b => obtain ⟨w, rfl, c⟩ := da1 b; exact ⟨_, w, rfl, a, c⟩
theorem cd_lenL : CD K (rLen K) [.list ds] (.int (ds.length : Int)) := fun I H vs e p Q q => by
  obtain ⟨v, rfl, h⟩ := da1 p
  obtain ⟨a, xs, rfl, h1, h2⟩ := dp_lst h
  exact ⟨_, ds.length, rfl, .inl ⟨xs, sqL_ex e h1, (Da.len h2).symm⟩, q _ H I (Gr.refl e) (.int _)⟩
theorem cd_lenT : CD K (rLen K) [.tuple ds] (.int (ds.length : Int)) := fun I H vs e p Q q => by
  obtain ⟨v, rfl, h⟩ := da1 p
  obtain ⟨a, xs, rfl, h1, h2⟩ := dp_tup h
  exact ⟨_, ds.length, rfl, .inr ⟨xs, sqT_ex e h1, (Da.len h2).symm⟩, q _ H I (Gr.refl e) (.int _)⟩
abbrev rInt1 : List V → Hp → VK → Prop := fun xs H Q => (∃ i, xs = [.int i] ∧ Q (.int i) H) ∨ ∃ k, xs = [.bl k] ∧ Q (.int (if k then 1 else 0)) H
theorem cd_intB : CD K rInt1 [.bool b] (.int (if b then 1 else 0)) := fun I H vs e p Q q => by
  obtain ⟨v, rfl, h⟩ := da1 p
  cases h
  exact .inr ⟨b, rfl, q _ H I (Gr.refl e) (.int _)⟩
theorem cd_sum {ns : List Int} : CD K (rSum K) [.list (ns.map .int)] (.int ns.sum) := fun I H vs e p Q q => by
  obtain ⟨v, rfl, h⟩ := da1 p
  obtain ⟨a, xs, rfl, h1, h2⟩ := dp_lst h
  have := Da.of_ints h2; subst this
  exact ⟨a, ns, rfl, sqL_ex e h1, q _ H I (Gr.refl e) (.int _)⟩
theorem cd_all {bs : List Bool} : CD K (rAll K) [.list (bs.map .bool)] (.bool (bs.all id)) := fun I H vs e p Q q => by
  obtain ⟨v, rfl, h⟩ := da1 p
  obtain ⟨a, xs, rfl, h1, h2⟩ := dp_lst h
  have := Da.of_bools h2; subst this
  exact ⟨a, bs, rfl, sqL_ex e h1, q _ H I (Gr.refl e) (.bl _)⟩
theorem cd_any {bs : List Bool} : CD K (rAny K) [.list (bs.map .bool)] (.bool (bs.any id)) := fun I H vs e p Q q => by
  obtain ⟨v, rfl, h⟩ := da1 p
  obtain ⟨a, xs, rfl, h1, h2⟩ := dp_lst h
  have := Da.of_bools h2; subst this
  exact ⟨a, bs, rfl, sqL_ex e h1, q _ H I (Gr.refl e) (.bl _)⟩
abbrev rMin2 : List V → Hp → VK → Prop := fun xs H Q => ∃ i j, xs = [.int i, .int j] ∧ Q (.int (if j < i then j else i)) H
abbrev rMax2 : List V → Hp → VK → Prop := fun xs H Q => ∃ i j, xs = [.int i, .int j] ∧ Q (.int (if j > i then j else i)) H
theorem cd_min2 {i j : Int} : CD K rMin2 [.int i, .int j] (.int (if j < i then j else i)) := fun I H vs e p Q q => by
  obtain ⟨v, w, rfl, h1, h2⟩ := da2 p
  cases h1; cases h2
  exact ⟨i, j, rfl, q _ H I (Gr.refl e) (.int _)⟩
theorem cd_max2 {i j : Int} : CD K rMax2 [.int i, .int j] (.int (if j > i then j else i)) := fun I H vs e p Q q => by
  obtain ⟨v, w, rfl, h1, h2⟩ := da2 p
  cases h1; cases h2
  exact ⟨i, j, rfl, q _ H I (Gr.refl e) (.int _)⟩
abbrev rListOf (K : PySem.W.Frag) : List V → Hp → VK → Prop := fun xs H Q => ∃ p ys, xs = [.ref p] ∧ (SqL K H p ys ∨ SqT K H p ys) ∧ ∀ l, H l = none → Q (.ref l) (upd H l (.lst ys))
theorem cdl_listL : CDL K (rListOf K) [.list ds] ds := fun I H vs e p Q q => by
  obtain ⟨v, rfl, h⟩ := da1 p
  obtain ⟨a, xs, rfl, h1, h2⟩ := dp_lst h
  exact ⟨a, xs, rfl, .inl (sqL_ex e h1), fun l hl => q l xs hl h2⟩
theorem cdl_listT : CDL K (rListOf K) [.tuple ds] ds := fun I H vs e p Q q => by
  obtain ⟨v, rfl, h⟩ := da1 p
  obtain ⟨a, xs, rfl, h1, h2⟩ := dp_tup h
  exact ⟨a, xs, rfl, .inr (sqT_ex e h1), fun l hl => q l xs hl h2⟩
/-- tuple(x) of a list, of a tuple -/
theorem re_tupleL (h : RE K te Γ (.list ds) Γ1) : RE K (tThen te (kTup K)) Γ (.tuple ds) Γ1 := fun σ H I ad s Q q =>
  h σ H I ad s _ fun v H1 I1 ad1 s1 g1 b1 p1 => by
    obtain ⟨a, xs, rfl, h1, h2⟩ := dp_lst p1
    exact .inl ⟨a, xs, rfl, sqL_ex s1.sub h1, fun p hp => q _ _ _ ad1 (s1.gr (Gr.new s1.sub hp)) (g1.trans (Gr.new s1.sub hp).no) b1 (.tup (.inl (.inl upd_same)) (Da.ex h2 (Ex.new_ (s1.sub.non_ hp))))⟩
theorem re_tupleT (h : RE K te Γ (.tuple ds) Γ1) : RE K (tThen te (kTup K)) Γ (.tuple ds) Γ1 := fun σ H I ad s Q q =>
  h σ H I ad s _ fun v H1 I1 ad1 s1 g1 b1 p1 => by
    obtain ⟨a, xs, rfl, h1, h2⟩ := dp_tup p1
    exact .inr ⟨a, xs, rfl, sqT_ex s1.sub h1, q _ H1 I1 ad1 s1 g1 b1 p1⟩
/-- sorted(list of ints) -/
theorem cdl_sorted {ns ms : List Int} (hl : ns.length < 64) (hm : ∀ ys : List Int, ys.Perm ns → ys.Pairwise (· ≤ ·) → ys = ms) : CDL K (rSorted K) [.list (ns.map .int)] (ms.map .int) := fun I H vs e p Q q => by
  obtain ⟨v, rfl, h⟩ := da1 p
  obtain ⟨a, xs, rfl, h1, h2⟩ := dp_lst h
  have := Da.of_ints h2; subst this
  refine ⟨a, ns, rfl, sqL_ex e h1, hl, fun ys p hp hs hn => ?_⟩
  have := hm ys hp hs; subst this
  exact q p _ hn (Da.ints ys)
/-! ### slices -/
def RO (K : PySem.W.Frag) (t : TO) (Γ : Ga) (o : Option Int) (Γ' : Ga) : Prop :=
  ∀ (σ : L2.St) (H I : Hp) (ad : Ads), S1 K σ H I Γ ad → ∀ Q : Option Int → Hp → Prop, (∀ H' I' ad', S1 K σ H' I' Γ' ad' → Gr (Own ad) I H I' H' → Sb ad ad' → Q o H') → t σ H Q
theorem ro_no : RO K tNoPart Γ none Γ := fun σ H I ad s Q q => q H I ad s (Gr.refl s.sub) (Sb.refl ad)
theorem ro_some {i : Int} (h : RE K te Γ (.int i) Γ1) : RO K (tPart te) Γ (some i) Γ1 := fun σ H I ad s Q q => h σ H I ad s _ fun x H1 I1 ad1 s1 g1 b1 p1 => by
  cases p1
  exact ⟨i, rfl, q H1 I1 ad1 s1 g1 b1⟩
def cutD (xs : List PyData) (lo hi : Option Int) : List PyData := (xs.drop (HT.sIx xs.length 0 lo)).take (HT.sIx xs.length xs.length hi - HT.sIx xs.length 0 lo)
theorem cut_dp {I : Hp} {vs : List V} {lo hi : Option Int} (h : DpAll K I vs ds) : DpAll K I (cutV vs lo hi) (cutD ds lo hi) := by
  unfold cutV cutD
  rw [Da.len h]
  exact Da.take _ (Da.drop _ h)
abbrev rSlAny (K : PySem.W.Frag) : V → Option Int → Option Int → Hp → VK → Prop := fun x lo hi H Q => rSlL K x lo hi H Q ∨ rSlA K x lo hi H Q
theorem rl_slice {tl th : TO} {lo hi : Option Int} (h : RE K te Γ (.list ds) Γ1) (hl : RO K tl Γ1 lo Γ2) (hh : RO K th Γ2 hi Γ3) : RL K (tSl (rSlAny K) te tl th) Γ (cutD ds lo hi) Γ3 := fun σ H I ad s Q q =>
  h σ H I ad s _ fun v H1 I1 ad1 s1 g1 b1 p1 => hl σ H1 I1 ad1 s1 _ fun H2 I2 ad2 s2 g2 b2 => hh σ H2 I2 ad2 s2 _ fun H3 I3 ad3 s3 g3 b3 => by
    obtain ⟨a, xs, rfl, h1, h2⟩ := dp_lst p1
    exact .inl ⟨a, xs, rfl, sqL_ex s3.sub (sqL_ex (g2.i.trans g3.i) h1), fun p hp =>
      q p _ _ I3 ad3 (s3.fresh hp).1 (g1.trans ((g2.mono b1.own).trans ((g3.mono (b1.trans b2).own).trans (s3.fresh hp).2.no))) (b1.trans (b2.trans b3)) (g1.k p (g2.k p (g3.k p hp))) (s3.sub.non_ hp) upd_same (cut_dp (Da.ex h2 (g2.i.trans g3.i)))⟩
theorem re_slice {tl th : TO} {lo hi : Option Int} (h : RE K te Γ (.tuple ds) Γ1) (hl : RO K tl Γ1 lo Γ2) (hh : RO K th Γ2 hi Γ3) : RE K (tSl (rSlAny K) te tl th) Γ (.tuple (cutD ds lo hi)) Γ3 := fun σ H I ad s Q q =>
  h σ H I ad s _ fun v H1 I1 ad1 s1 g1 b1 p1 => hl σ H1 I1 ad1 s1 _ fun H2 I2 ad2 s2 g2 b2 => hh σ H2 I2 ad2 s2 _ fun H3 I3 ad3 s3 g3 b3 => by
    obtain ⟨a, xs, rfl, h1, h2⟩ := dp_tup p1
    have hs := sqT_ex s3.sub (sqT_ex (g2.i.trans g3.i) h1)
    have hd := Da.ex h2 (g2.i.trans g3.i)
    have gg := g1.trans ((g2.mono b1.own).trans (g3.mono (b1.trans b2).own))
    refine .inr ⟨a, xs, rfl, hs, fun hw => ?_, fun _ p hp => ?_⟩
    · have e : cutD ds lo hi = ds := by
        unfold cutD
        rw [← Da.len h2, hw.1, hw.2, List.drop_zero, Nat.sub_zero, Da.len h2, List.take_length]
      rw [e] at q
      exact q _ H3 I3 ad3 s3 gg (b1.trans (b2.trans b3)) (Dp.ex p1 (g2.i.trans g3.i))
    · exact q _ _ _ ad3 (s3.gr (Gr.new s3.sub hp)) (gg.trans (Gr.new s3.sub hp).no) (b1.trans (b2.trans b3)) (.tup (.inl (.inl upd_same)) (Da.ex (cut_dp hd) (Ex.new_ (s3.sub.non_ hp))))
/-! ### + and * of new lists -/
theorem rl_cat {xs ys : List PyData} (ha : RL K ta Γ xs Γ1) (hb : RL K tb Γ1 ys Γ2) (hz : xs.length + ys.length ≤ sizeLine) : RL K (tOp rCat ta tb) Γ (xs ++ ys) Γ2 := fun σ H I ad s Q q =>
  ha σ H I ad s _ fun p us H1 I1 ad1 s1 g1 b1 hp hi hu hd => hb σ H1 I1 ad1 s1 _ fun p2 ws H2 I2 ad2 s2 g2 b2 hp2 hi2 hw hd2 => by
    have no1 : ¬ Own ad1 p := fun z => s.free hp (b1.own p z)
    refine ⟨p, p2, us, ws, rfl, rfl, g2.h p _ no1 hu, hw, by rw [Da.len hd, Da.len hd2]; exact hz, fun l hl => ?_⟩
    exact q l _ _ I2 ad2 (s2.fresh hl).1 (g1.trans ((g2.mono b1.own).trans (s2.fresh hl).2.no)) (b1.trans b2) (g1.k l (g2.k l hl)) (s2.sub.non_ hl) upd_same (Da.app (Da.ex hd g2.i) hd2)
theorem da_rep {I : Hp} {vs : List V} (h : DpAll K I vs ds) : ∀ n : Nat, DpAll K I (List.replicate n vs).flatten (List.replicate n ds).flatten
  | 0 => .nil
  | n + 1 => by
    rw [List.replicate_succ, List.replicate_succ, List.flatten_cons, List.flatten_cons]
    exact Da.app h (da_rep h n)
end
end DL

/-! DL3: targets, walks, comprehensions, calls of defs, dicts. -/
namespace DL
open PySem PySem.Spec PyProof.Rows L2
section
variable {K : PySem.W.Frag} {σ : L2.St} {H I H' I' : Hp} {Γ Γ1 Γ2 Γ3 Γ' Γa : Ga} {ad ad' : Ads} {d d1 d2 : PyData} {ds es : List PyData}
theorem S1.setU' (s : S1 K σ H I Γ ad) (i : Nat) (o : Option V) : S1 K (σ.set i o) H I (Γ.set i .un) (adSet ad i []) := by
  by_cases hi : i < Γ.length
  · exact s.setU hi
  · have e1 : σ.set i o = σ := List.set_eq_of_length_le (by rw [s.len]; omega)
    have e2 : Γ.set i .un = Γ := List.set_eq_of_length_le (by omega)
    have e3 : adSet ad i [] = ad := by
      funext j; by_cases z : j = i
      · subst z; rw [adSet_same, s.out j (by omega)]
      · rw [adSet_ne z]
    rw [e1, e2, e3]; exact s
/-- an object that nobody owns and that is no data changes -/
theorem S1.other (s : S1 K σ H I Γ ad) {p : Addr} {o u : HO} (hp : H p = some u) (hi : I p = none) (hn : ¬ Own ad p) : S1 K σ (upd H p o) I Γ ad :=
  ⟨s.sub.upd_ hi, s.len, fun i v sl h1 h2 => (s.rel i v sl h1 h2).gr (Ex.refl I) fun q hq w hw => by
    rw [upd_ne (fun z => hn ⟨i, by rw [← z]; exact hq⟩)]; exact hw, s.out, s.own, s.dis⟩
def wipeG (Γ : Ga) : List Nat → Ga
  | [] => Γ
  | v :: vs => (wipeG Γ vs).set v .un
def wipeA (ad : Ads) : List Nat → Ads
  | [] => ad
  | v :: vs => adSet (wipeA ad vs) v []
theorem S1.wiped (s : S1 K σ H I Γ ad) : ∀ vs : List Nat, S1 K (wipe σ vs) H I (wipeG Γ vs) (wipeA ad vs)
  | [] => s
  | v :: vs => (s.wiped vs).setU' v none
theorem wipeA_sb (ad : Ads) : ∀ vs : List Nat, Sb ad (wipeA ad vs)
  | [] => Sb.refl ad
  | v :: vs => fun i => by
    show adSet (wipeA ad vs) v [] i = _ ∨ _
    by_cases z : i = v
    · subst z; exact .inr adSet_same
    · show adSet (wipeA ad vs) v [] i = ad i ∨ adSet (wipeA ad vs) v [] i = []
      rw [adSet_ne z]; exact wipeA_sb ad vs i
theorem wipeA_in {j : Nat} : ∀ {vs : List Nat}, j ∈ vs → wipeA ad vs j = []
  | [], h => by simp at h
  | v :: vs, h => by
    show adSet (wipeA ad vs) v [] j = []
    by_cases z : j = v
    · subst z; exact adSet_same
    · rw [adSet_ne z]; exact wipeA_in (by simpa [z] using h)
theorem wipe_in {j : Nat} : ∀ {vs : List Nat}, j ∈ vs → j < σ.length → (wipe σ vs)[j]? = some none
  | [], h, _ => by simp at h
  | v :: vs, h, hl => by
    show ((wipe σ vs).set v none)[j]? = _
    by_cases z : v = j
    · subst z; rw [List.getElem?_set_self (by rw [wipe_length]; exact hl)]
    · rw [List.getElem?_set_ne z]; exact wipe_in (by simpa [Ne.symm z] using h) hl
theorem wipe_eq {σ' : L2.St} {ws vs : List Nat} (hl : σ'.length = (wipe σ vs).length) (h : ∀ j, j ∉ ws → σ'[j]? = (wipe σ vs)[j]?) (hs : ∀ j ∈ ws, j ∈ vs) : wipe σ' vs = wipe σ vs := by
  apply List.ext_getElem?
  intro j
  rw [wipe_length] at hl
  by_cases hj : j ∈ vs
  · by_cases hb : j < σ.length
    · rw [wipe_in hj hb, wipe_in hj (by omega)]
    · rw [List.getElem?_eq_none (by rw [wipe_length]; omega), List.getElem?_eq_none (by rw [wipe_length]; omega)]
  · rw [wipe_out hj]
    exact h j fun z => hj (hs j z)
theorem wipeG_out {j : Nat} : ∀ {vs : List Nat}, j ∉ vs → (wipeG Γ vs)[j]? = Γ[j]?
  | [], _ => rfl
  | v :: vs, h => by
    show ((wipeG Γ vs).set v .un)[j]? = _
    rw [List.getElem?_set_ne (fun e => h (by rw [e]; exact List.mem_cons_self))]
    exact wipeG_out fun m => h (List.mem_cons_of_mem _ m)
theorem wipeG_length : ∀ vs : List Nat, (wipeG Γ vs).length = Γ.length
  | [] => rfl
  | v :: vs => by
    show ((wipeG Γ vs).set v .un).length = _
    rw [List.length_set]; exact wipeG_length vs
theorem wipeG_in {j : Nat} : ∀ {vs : List Nat}, j ∈ vs → j < Γ.length → (wipeG Γ vs)[j]? = some .un
  | [], h, _ => by simp at h
  | v :: vs, h, hl => by
    show ((wipeG Γ vs).set v .un)[j]? = _
    by_cases z : v = j
    · subst z; rw [List.getElem?_set_self (by rw [wipeG_length]; exact hl)]
    · rw [List.getElem?_set_ne z]; exact wipeG_in (by simpa [Ne.symm z] using h) hl
def Sl.flat : Sl → Bool
  | .un => true
  | .dat _ => true
  | _ => false
/-- behind a block: the block's names as they were -/
theorem S1.back {vs : List Nat} {ad1 : Ads} (s0 : S1 K σ H I Γ1 ad1) (s : S1 K (wipe σ vs) H' I' (wipeG Γ' vs) ad') (hI : Ex I I') (hf : ∀ j ∈ vs, ∃ sl, Γ1[j]? = some sl ∧ sl.flat = true ∧ Γ'[j]? = some sl) : S1 K σ H' I' Γ' ad' := by
  have hl : σ.length = Γ'.length := by have := s.len; rw [wipe_length, wipeG_length] at this; exact this
  refine ⟨s.sub, hl, fun i o sl h1 h2 => ?_, fun i hi => s.out i (by rw [wipeG_length]; exact hi), s.own, s.dis⟩
  have hi : i < σ.length := (List.getElem?_eq_some_iff.mp h1).1
  by_cases hv : i ∈ vs
  · obtain ⟨sl1, g1, g2, g3⟩ := hf i hv
    rw [h2] at g3
    have e3 : sl = sl1 := Option.some.inj g3
    subst e3
    have r := s0.rel i o sl h1 g1
    have e : ad' i = [] := by
      have r2 := s.rel i none .un (wipe_in hv hi) (wipeG_in hv (by omega))
      generalize ad' i = as at r2
      cases r2; rfl
    rw [e]
    generalize ad1 i = as at r
    cases r with
    | un => exact .un
    | dat a => exact .dat (Dp.ex a hI)
    | _ => simp [Sl.flat] at g2
  · exact s.rel i o sl (by rw [wipe_out hv]; exact h1) (by rw [wipeG_out hv]; exact h2)

/-! ### targets -/
def RG (K : PySem.W.Frag) (g : TG) (d : PyData) (Γ Γ' : Ga) (ws : List Nat) : Prop :=
  ∀ (σ : L2.St) (H I : Hp) (ad : Ads) (x : V) (Q : L2.St → Hp → Prop), S1 K σ H I Γ ad → Dp K I x d →
    (∀ σ' H' I' ad', S1 K σ' H' I' Γ' ad' → Gr No I H I' H' → Sb ad ad' → (∀ j, j ∉ ws → σ'[j]? = σ[j]?) → σ'.length = σ.length → Q σ' H') → g x σ H Q
def RGs (K : PySem.W.Frag) (g : TGs) (ds : List PyData) (Γ Γ' : Ga) (ws : List Nat) : Prop :=
  ∀ (σ : L2.St) (H I : Hp) (ad : Ads) (xs : List V) (Q : L2.St → Hp → Prop), S1 K σ H I Γ ad → DpAll K I xs ds →
    (∀ σ' H' I' ad', S1 K σ' H' I' Γ' ad' → Gr No I H I' H' → Sb ad ad' → (∀ j, j ∉ ws → σ'[j]? = σ[j]?) → σ'.length = σ.length → Q σ' H') → g xs σ H Q
theorem adSet_sb (i : Nat) : Sb ad (adSet ad i []) := fun j => by
  by_cases z : j = i
  · subst z; exact .inr adSet_same
  · exact .inl (adSet_ne z)
theorem rg_name {i : Nat} (hi : i < Γ.length := by (simp; done)) : RG K (gName i) d Γ (Γ.set i (.dat d)) [i] := fun σ H I ad x Q s p q =>
  q _ H I _ (s.setD hi p) (Gr.refl s.sub) (adSet_sb i) (fun j hj => List.getElem?_set_ne (fun z => hj (by rw [z]; simp))) (List.length_set ..)
theorem rgs_nil : RGs K gNil [] Γ Γ [] := fun σ H I ad xs Q s p q => by
  cases p
  exact ⟨rfl, q σ H I ad s (Gr.refl s.sub) (Sb.refl ad) (fun _ _ => rfl) rfl⟩
theorem rgs_cons {g : TG} {gs : TGs} {ws us : List Nat} (h1 : RG K g d Γ Γ1 ws) (h2 : RGs K gs ds Γ1 Γ2 us) : RGs K (gCons g gs) (d :: ds) Γ Γ2 (ws ++ us) := fun σ H I ad xs Q s p q => by
  cases p with
  | cons p1 p2 =>
    refine ⟨_, _, rfl, h1 σ H I ad _ _ s p1 fun σ1 H1 I1 ad1 s1 g1 b1 e1 l1 => h2 σ1 H1 I1 ad1 _ _ s1 (Da.ex p2 g1.i) fun σ2 H2 I2 ad2 s2 g2 b2 e2 l2 => ?_⟩
    exact q σ2 H2 I2 ad2 s2 (g1.trans g2) (b1.trans b2) (fun j hj => by
      rw [List.mem_append, not_or] at hj
      rw [e2 j hj.2, e1 j hj.1]) (l2.trans l1)
theorem rg_tup {gs : TGs} {n : Nat} {ws : List Nat} (h : RGs K gs ds Γ Γ1 ws) (hn : ds.length = n := by rfl) : RG K (gTup K n gs) (.tuple ds) Γ Γ1 ws := fun σ H I ad x Q s p q => by
  obtain ⟨a, xs, rfl, h1, h2⟩ := dp_tup p
  exact ⟨a, xs, rfl, sqT_ex s.sub h1, by rw [Da.len h2]; exact hn, h σ H I ad xs Q s h2 q⟩
theorem rg_unl {gs : TGs} {n : Nat} {ws : List Nat} (h : RGs K gs ds Γ Γ1 ws) (hn : ds.length = n := by rfl) : RG K (gUnl K n gs) (.list ds) Γ Γ1 ws := fun σ H I ad x Q s p q => by
  obtain ⟨a, xs, rfl, h1, h2⟩ := dp_lst p
  exact ⟨a, xs, rfl, sqL_ex s.sub h1, by rw [Da.len h2]; exact hn, h σ H I ad xs Q s h2 q⟩

/-! ### walks -/
structure WD (K : PySem.W.Frag) (J : It) (ds : List PyData) (I : Hp) : Prop where
  goes : ∀ i H, i < ds.length → Ex I H → J.go i H
  stops : ∀ H, Ex I H → J.stop ds.length H
  yields : ∀ i d H I1 x H', ds[i]? = some d → Ex I I1 → Ex I1 H → J.yld i H x H' → ∃ I', Gr No I1 H I' H' ∧ Dp K I' x d
theorem WD.mono {J : It} (w : WD K J ds I) (e : Ex I I') : WD K J ds I' :=
  ⟨fun i H h x => w.goes i H h (e.trans x), fun H x => w.stops H (e.trans x), fun i d H I1 x H' h a b => w.yields i d H I1 x H' h (e.trans a) b⟩
def RI (K : PySem.W.Frag) (wi : TI) (Γ : Ga) (ds : List PyData) (Γ' : Ga) : Prop :=
  ∀ (σ : L2.St) (H I : Hp) (ad : Ads), S1 K σ H I Γ ad → ∀ R : It → Hp → Prop, (∀ J H' I' ad', S1 K σ H' I' Γ' ad' → Gr (Own ad) I H I' H' → Sb ad ad' → WD K J ds I' → R J H') → wi σ H R
variable {te : TE} {tr : TA}
theorem wd_list {p : Addr} {vs : List V} (h : SqL K I p vs) (hd : DpAll K I vs ds) : WD K (Itl K p) ds I := by
  have hl := Da.len hd
  refine ⟨fun i H hi e => ⟨vs, vs[i], sqL_ex e h, by simp [hl, hi]⟩, fun H e => ⟨vs, sqL_ex e h, by omega⟩, fun i d H I1 x H' e a b y => ?_⟩
  obtain ⟨rfl, f⟩ := y
  obtain ⟨v, hv, hp⟩ := Da.at hd e
  have := f vs (sqL_ex (a.trans b) h)
  rw [hv] at this; cases this
  exact ⟨I1, Gr.refl b, Dp.ex hp a⟩
theorem wd_tup {p : Addr} {vs : List V} (h : SqT K I p vs) (hd : DpAll K I vs ds) : WD K (Itt K p) ds I := by
  have hl := Da.len hd
  refine ⟨fun i H hi e => ⟨vs, vs[i], sqT_ex e h, by simp [hl, hi]⟩, fun H e => ⟨vs, sqT_ex e h, by omega⟩, fun i d H I1 x H' e a b y => ?_⟩
  obtain ⟨rfl, f⟩ := y
  obtain ⟨v, hv, hp⟩ := Da.at hd e
  have := f vs (sqT_ex (a.trans b) h)
  rw [hv] at this; cases this
  exact ⟨I1, Gr.refl b, Dp.ex hp a⟩
theorem ri_list (h : RE K te Γ (.list ds) Γ1) : RI K (iList K te) Γ ds Γ1 := fun σ H I ad s R q => h σ H I ad s _ fun v H1 I1 ad1 s1 g1 b1 p1 => by
  obtain ⟨a, xs, rfl, h1, h2⟩ := dp_lst p1
  exact ⟨a, rfl, ⟨xs, sqL_ex s1.sub h1⟩, q _ H1 I1 ad1 s1 g1 b1 (wd_list h1 h2)⟩
theorem ri_tup (h : RE K te Γ (.tuple ds) Γ1) : RI K (iTup K te) Γ ds Γ1 := fun σ H I ad s R q => h σ H I ad s _ fun v H1 I1 ad1 s1 g1 b1 p1 => by
  obtain ⟨a, xs, rfl, h1, h2⟩ := dp_tup p1
  exact ⟨a, rfl, ⟨xs, sqT_ex s1.sub h1⟩, q _ H1 I1 ad1 s1 g1 b1 (wd_tup h1 h2)⟩
/-- a list or a tuple -/
abbrev iSeq (K : PySem.W.Frag) (tl : TE) : TI := fun σ H R => iList K tl σ H R ∨ iTup K tl σ H R
theorem PI.or {X : Cx} {tg l : Expr} {w1 w2 : TI} (h1 : PI X tg l w1) (h2 : PI X tg l w2) : PI X tg l (fun σ H R => w1 σ H R ∨ w2 σ H R) :=
  ⟨fun pins s σ H R I h => h.elim (h1.run pins s σ H R I) (h2.run pins s σ H R I)⟩
theorem pi_seq {X : Cx} {tg l : Expr} {tl : TE} (hl : PE X l tl) : PI X tg l (iSeq X.K tl) := PI.or (pi_list hl) (pi_tup hl)
theorem ri_seqL (h : RE K te Γ (.list ds) Γ1) : RI K (iSeq K te) Γ ds Γ1 := fun σ H I ad s R q => .inl (ri_list h σ H I ad s R q)
theorem ri_seqT (h : RE K te Γ (.tuple ds) Γ1) : RI K (iSeq K te) Γ ds Γ1 := fun σ H I ad s R q => .inr (ri_tup h σ H I ad s R q)
/-- range(n), range(a, b) -/
def rgD (lo : Int) (n : Nat) : List PyData := (List.range n).map fun (i : Nat) => PyData.int (lo + (i : Int))
theorem wd_range {lo : Int} {n : Nat} : WD K (Itr lo n) (rgD lo n) I := by
  have hl : (rgD lo n).length = n := by simp [rgD]
  refine ⟨fun i H hi e => by rw [hl] at hi; exact hi, fun H e => by rw [hl]; exact Nat.le_refl _, fun i d H I1 x H' e a b y => ?_⟩
  obtain ⟨rfl, rfl⟩ := y
  refine ⟨I1, Gr.refl b, ?_⟩
  unfold rgD at e
  rw [List.getElem?_map] at e
  cases q : (List.range n)[i]? with
  | none => rw [q] at e; cases e
  | some j =>
    have hj : i = j := by
      obtain ⟨h1, h2⟩ := List.getElem?_eq_some_iff.mp q
      simpa using h2
    rw [q] at e; cases e
    rw [hj]; exact .int _
theorem ri_range1 {n : Int} (h : RA K tr Γ [.int n] Γ1) (hn : n < 2 ^ 62) (h0 : 0 ≤ n) : RI K (iRng1 tr) Γ (rgD 0 n.toNat) Γ1 := fun σ H I ad s R q => h σ H I ad s _ fun vs H1 I1 ad1 s1 g1 b1 p1 => by
  obtain ⟨v, rfl, h1⟩ := da1 p1
  cases h1
  exact ⟨n, rfl, by omega, hn, q _ H1 I1 ad1 s1 g1 b1 wd_range⟩
theorem ri_range2 {m n : Int} (h : RA K tr Γ [.int m, .int n] Γ1) (hm : -(2 ^ 62) ≤ m ∧ m < 2 ^ 62) (hn : -(2 ^ 62) ≤ n ∧ n < 2 ^ 62) : RI K (iRng2 tr) Γ (rgD m (n - m).toNat) Γ1 := fun σ H I ad s R q => h σ H I ad s _ fun vs H1 I1 ad1 s1 g1 b1 p1 => by
  obtain ⟨v, w, rfl, h1, h2⟩ := da2 p1
  cases h1; cases h2
  exact ⟨m, n, rfl, ⟨hm.1, hm.2, hn.1, hn.2⟩, q _ H1 I1 ad1 s1 g1 b1 wd_range⟩
/-- zip: pairs -/
def zipD (xs ys : List PyData) : List PyData := List.zipWith (fun a b => .tuple [a, b]) xs ys
theorem zip_at {xs ys : List PyData} {i : Nat} (h : (zipD xs ys)[i]? = some d) : ∃ a b, xs[i]? = some a ∧ ys[i]? = some b ∧ d = .tuple [a, b] := by
  unfold zipD at h
  rw [List.getElem?_zipWith] at h
  cases e1 : xs[i]? with
  | none => rw [e1] at h; simp at h
  | some a =>
    cases e2 : ys[i]? with
    | none => rw [e1, e2] at h; simp at h
    | some b => rw [e1, e2] at h; simp at h; exact ⟨a, b, rfl, rfl, h.symm⟩
theorem zip_len {xs ys : List PyData} : (zipD xs ys).length = min xs.length ys.length := by simp [zipD]
theorem pair_dp {I1 : Hp} {T : Addr} {x y : V} (a : Dp K I1 x d1) (b : Dp K I1 y d2) (e : Ex I1 H) (h : H T = none) : Gr No I1 H (upd I1 T (.tup [x, y])) (upd H T (.tup [x, y])) ∧ Dp K (upd I1 T (.tup [x, y])) (.ref T) (.tuple [d1, d2]) :=
  ⟨Gr.new e h, .tup (.inl (.inl upd_same)) (Da.ex (.cons a (.cons b .nil)) (Ex.new_ (e.non_ h)))⟩
theorem wd_zipL {a b : Addr} {xs ys : List PyData} {vs ws : List V} (ha : SqL K I a vs) (hb : SqL K I b ws) (da : DpAll K I vs xs) (db : DpAll K I ws ys) : WD K (Itz K a b) (zipD xs ys) I := by
  have l1 := Da.len da
  have l2 := Da.len db
  refine ⟨fun i H hi e => ?_, fun H e => ⟨vs, ws, sqL_ex e ha, sqL_ex e hb, ?_⟩, fun i d H I1 x H' e u v y => ?_⟩
  · rw [zip_len] at hi
    exact ⟨vs, ws, vs[i]'(by omega), ws[i]'(by omega), sqL_ex e ha, sqL_ex e hb, List.getElem?_eq_getElem _, List.getElem?_eq_getElem _⟩
  · rw [zip_len]; omega
  · obtain ⟨T, p, q, rfl, hT, rfl, f1, f2⟩ := y
    obtain ⟨d1, d2, e1, e2, rfl⟩ := zip_at e
    obtain ⟨v1, q1, r1⟩ := Da.at da e1
    obtain ⟨v2, q2, r2⟩ := Da.at db e2
    have z1 := f1 vs (sqL_ex (u.trans v) ha)
    have z2 := f2 ws (sqL_ex (u.trans v) hb)
    rw [q1] at z1; rw [q2] at z2; cases z1; cases z2
    exact ⟨_, (pair_dp (Dp.ex r1 u) (Dp.ex r2 u) v hT).1, (pair_dp (Dp.ex r1 u) (Dp.ex r2 u) v hT).2⟩
theorem wd_zipT {a b : Addr} {xs ys : List PyData} {vs ws : List V} (ha : SqT K I a vs) (hb : SqT K I b ws) (da : DpAll K I vs xs) (db : DpAll K I ws ys) : WD K (RZ.ItzT K a b) (zipD xs ys) I := by
  have l1 := Da.len da
  have l2 := Da.len db
  refine ⟨fun i H hi e => ?_, fun H e => ⟨vs, ws, sqT_ex e ha, sqT_ex e hb, ?_⟩, fun i d H I1 x H' e u v y => ?_⟩
  · rw [zip_len] at hi
    exact ⟨vs, ws, vs[i]'(by omega), ws[i]'(by omega), sqT_ex e ha, sqT_ex e hb, List.getElem?_eq_getElem _, List.getElem?_eq_getElem _⟩
  · rw [zip_len]; omega
  · obtain ⟨T, p, q, rfl, hT, rfl, f1, f2⟩ := y
    obtain ⟨d1, d2, e1, e2, rfl⟩ := zip_at e
    obtain ⟨v1, q1, r1⟩ := Da.at da e1
    obtain ⟨v2, q2, r2⟩ := Da.at db e2
    have z1 := f1 vs (sqT_ex (u.trans v) ha)
    have z2 := f2 ws (sqT_ex (u.trans v) hb)
    rw [q1] at z1; rw [q2] at z2; cases z1; cases z2
    exact ⟨_, (pair_dp (Dp.ex r1 u) (Dp.ex r2 u) v hT).1, (pair_dp (Dp.ex r1 u) (Dp.ex r2 u) v hT).2⟩

/-! ### comprehensions -/
variable {wi : TI} {g : TG} {tt : TT} {vs ws : List Nat}
theorem rl_lc (h : RI K wi Γ ds Γ1) (Gf : Nat → Ga) (res : Nat → List PyData) (hlen : ds.length ≤ 1000000) (h0 : Gf 0 = wipeG Γ1 vs) (hr : res 0 = []) (hn : Gf ds.length = wipeG Γ' vs)
    (hf : ∀ j ∈ vs, ∃ sl, Γ1[j]? = some sl ∧ sl.flat = true ∧ Γ'[j]? = some sl) (hws : ∀ j ∈ ws, j ∈ vs)
    (turn : ∀ i d, ds[i]? = some d → ∃ (Γa Γb : Ga) (b : Bool), RG K g d (Gf i) Γa ws ∧ RT K tt Γa b Γb ∧
      (b = true → ∃ (d' : PyData) (Γc : Ga), RE K te Γb d' Γc ∧ wipeG Γc vs = Gf (i + 1) ∧ res (i + 1) = res i ++ [d']) ∧ (b = false → wipeG Γb vs = Gf (i + 1) ∧ res (i + 1) = res i)) :
    RL K (tLc wi g tt te vs) Γ (res ds.length) Γ' := fun σ H I ad s Q q => h σ H I ad s _ fun J H1 I1 ad1 s1 g1 b1 W D hD => by
  have hID : I1 D = none := s1.sub.non_ hD
  have reslen : ∀ i, i ≤ ds.length → (res i).length ≤ i := by
    intro i
    induction i with
    | zero => intro _; rw [hr]; simp
    | succ i ih =>
      intro hi
      obtain ⟨_, _, b, _, _, t1, t2⟩ := turn i _ (List.getElem?_eq_getElem (show i < ds.length by omega))
      have := ih (by omega)
      cases b with
      | true => obtain ⟨d', _, _, _, e⟩ := t1 rfl; rw [e, List.length_append]; simp; omega
      | false => rw [(t2 rfl).2]; omega
  -- the state ahead of turn i
  let St : Nat → Hp → Prop := fun i H2 => ∃ I2 ad2 acc, S1 K (L2.wipe σ vs) H2 I2 (Gf i) ad2 ∧ Gr (fun p => Own ad1 p ∨ p = D) I1 (upd H1 D (.lst [])) I2 H2 ∧ Sb (wipeA ad1 vs) ad2 ∧ I2 D = none ∧ H2 D = some (.lst acc) ∧ DpAll K I2 acc (res i)
  have noD : ∀ ad2, Sb (wipeA ad1 vs) ad2 → ¬ Own ad2 D := fun ad2 b z => s1.free hD ((wipeA_sb ad1 vs).own D (b.own D z))
  refine lc_it (n := ds.length) (G := fun H2 => Ex I1 H2) (Y := fun i H2 x H3 => J.yld i H2 x H3) ⟨fun i H2 hi e => W.goes i H2 hi e, fun H2 e => W.stops H2 e, fun _ _ _ _ _ _ y => y⟩ St ?_ ?_ ?_ ?_
  · refine ⟨I1, wipeA ad1 vs, [], ?_, Gr.refl (s1.sub.upd_ hID), Sb.refl _, hID, upd_same, by rw [hr]; exact .nil⟩
    rw [h0]
    exact ((s1.fresh hD).1).wiped vs
  · rintro i H2 _ ⟨I2, ad2, acc, t, gr, _⟩
    exact gr.i.trans t.sub
  · rintro i x H2 H3 hi ⟨I2, ad2, acc, t, gr, sb, hI2, hacc, hd⟩ y
    obtain ⟨Γa, Γb, b, tg, tb, t1, t2⟩ := turn i _ (List.getElem?_eq_getElem hi)
    obtain ⟨I3, g3, p3⟩ := W.yields i _ H2 I2 x H3 (List.getElem?_eq_getElem hi) gr.i t.sub y
    have nD2 := noD ad2 sb
    have h2D : H2 D ≠ none := by rw [hacc]; exact fun z => nomatch z
    refine tg _ _ _ _ x _ (t.gr g3) p3 fun σ4 H4 I4 ad4 s4 g4 b4 e4 l4 => ⟨wipe_eq l4 e4 hws, ?_⟩
    have ewi : L2.wipe σ4 vs = L2.wipe σ vs := wipe_eq l4 e4 hws
    have g24 : Gr No I2 H2 I4 H4 := g3.trans g4
    refine tb σ4 H4 I4 ad4 s4 _ fun H5 I5 ad5 s5 g5 b5 => ?_
    have sb5 : Sb (wipeA ad1 vs) ad5 := sb.trans (b4.trans b5)
    have m4 : ∀ p, Own ad4 p → (Own ad1 p ∨ p = D) := fun p z => .inl ((wipeA_sb ad1 vs).own p ((sb.trans b4).own p z))
    have nD4 : ¬ Own ad4 D := noD ad4 (sb.trans b4)
    have g25 : Gr (fun p => Own ad1 p ∨ p = D) I2 H2 I5 H5 := (g24.no).trans (g5.mono m4)
    have a4 : H4 D = some (.lst acc) := g24.h D _ (fun z => z) hacc
    have a5 : H5 D = some (.lst acc) := g5.h D _ nD4 a4
    have i4 : I4 D = none := g24.f D hI2 h2D fun z => z
    have i5 : I5 D = none := g5.f D i4 (by rw [a4]; exact fun z => nomatch z) nD4
    cases b with
    | false =>
      rw [if_neg Bool.false_ne_true]
      obtain ⟨e1, e2⟩ := t2 rfl
      refine ⟨I5, wipeA ad5 vs, acc, ?_, gr.trans g25, sb5.trans (wipeA_sb ad5 vs), i5, a5, by rw [e2]; exact Da.ex hd g25.i⟩
      have := s5.wiped vs
      rw [ewi, e1] at this; exact this
    | true =>
      rw [if_pos rfl]
      obtain ⟨d', Γc, te', e1, e2⟩ := t1 rfl
      refine te' σ4 H5 I5 ad5 s5 _ fun v H6 I6 ad6 s6 g6 b6 p6 => ?_
      have nD5 : ¬ Own ad5 D := noD ad5 sb5
      have m5 : ∀ p, Own ad5 p → (Own ad1 p ∨ p = D) := fun p z => .inl ((wipeA_sb ad1 vs).own p (sb5.own p z))
      have a6 : H6 D = some (.lst acc) := g6.h D _ nD5 a5
      have i6 : I6 D = none := g6.f D i5 (by rw [a5]; exact fun z => nomatch z) nD5
      have la : acc.length ≤ i := by rw [Da.len hd]; exact reslen i (by omega)
      refine ⟨acc, a6, by show acc.length < 16777216; omega, I6, wipeA ad6 vs, acc ++ [v], ?_, ?_, (sb5.trans b6).trans (wipeA_sb ad6 vs), i6, upd_same, ?_⟩
      · have s7 := (s6.other (o := .lst (acc ++ [v])) a6 i6 (noD ad6 (sb5.trans b6))).wiped vs
        rw [ewi, e1] at s7; exact s7
      · exact (gr.trans (g25.trans (g6.mono m5))).trans (Gr.mut s6.sub (.inr rfl) i6 a6)
      · rw [e2]
        exact Da.app (Da.ex (Da.ex hd g25.i) g6.i) (Da.one p6)
  · rintro H2 ⟨I2, ad2, acc, t, gr, sb, hI2, hacc, hd⟩
    rw [hn] at t
    refine q D acc H2 I2 ad2 (S1.back s1 t gr.i hf) ?_ (b1.trans ((wipeA_sb ad1 vs).trans sb)) (g1.k D hD) hI2 hacc hd
    refine g1.trans ⟨gr.i, fun a o na ha => ?_, fun a ha => ?_, t.sub, fun a ha hna nma => ?_⟩
    · have ne : a ≠ D := fun z => by rw [z, hD] at ha; cases ha
      refine gr.h a o (fun z => ?_) (by rw [upd_ne ne]; exact ha)
      rcases z with z | z
      · exact na (b1.own a z)
      · exact ne z
    · by_cases z : a = D
      · rw [z]; exact hD
      · have := gr.k a ha
        rw [upd_ne z] at this; exact this
    · have ne : a ≠ D := fun z => hna (by rw [z]; exact hD)
      refine gr.f a ha (by rw [upd_ne ne]; exact hna) fun z => ?_
      rcases z with z | z
      · exact nma (b1.own a z)
      · exact ne z
end
end DL

/-! DL4: calls of defs, owned dicts and lists, the law's stream, statements, defs. -/
namespace DL
open PySem PySem.Spec PyProof.Rows L2
section
variable {K : PySem.W.Frag} {σ : L2.St} {H I H' I' : Hp} {Γ Γ1 Γ2 Γ3 Γ' Γa : Ga} {ad ad' : Ads} {d d1 d2 : PyData} {ds es : List PyData} {sl sl' : Sl}
variable {te ta tb : TE} {tr : TA} {t u : TS} {tt : TT} {E : XK} {i j : Nat}

/-! ### promises -/
def PR (K : PySem.W.Frag) (F : List PyData → PyData → Prop) : Sp := fun vs H Q _ => ∃ (I : Hp) (ds : List PyData) (d : PyData), Ex I H ∧ DpAll K I vs ds ∧ F ds d ∧ ∀ v H' I', Gr No I H I' H' → Dp K I' v d → Q v H'
def PO (K : PySem.W.Frag) (F : Sl → List PyData → PyData → Sl → Prop) : Sp := fun vs H Q _ => ∃ (I : Hp) (v0 : V) (ws : List V) (sl : Sl) (as : List Addr) (ds : List PyData) (d : PyData) (sl' : Sl),
  vs = v0 :: ws ∧ Ex I H ∧ SR K I H (some v0) sl as ∧ (∀ p ∈ as, I p = none) ∧ DpAll K I ws ds ∧ F sl ds d sl' ∧
  ∀ v H' I', Gr (fun p => p ∈ as) I H I' H' → SR K I' H' (some v0) sl' as → (∀ p ∈ as, I' p = none) → Dp K I' v d → Q v H'
theorem re_call {F : List PyData → PyData → Prop} (h : RA K tr Γ ds Γ1) (hf : F ds d) : RE K (tCall (PR K F) [] E tr) Γ d Γ1 := fun σ H I ad s Q q =>
  h σ H I ad s _ fun vs H1 I1 ad1 s1 g1 b1 p1 => by
    show PR K F (vs ++ []) H1 Q E
    rw [List.append_nil]
    exact ⟨I1, ds, d, s1.sub, p1, hf, fun v H2 I2 g2 p2 => q v H2 I2 ad1 (s1.gr g2) (g1.trans g2.no) b1 p2⟩
theorem SR.own_ne {o : Option V} {as : List Addr} (r : SR K I H o sl as) (h : sl.flat = false) : as ≠ [] := by
  cases r <;> simp [Sl.flat] at h ⊢
theorem SR.flat_nil {o : Option V} {as : List Addr} (r : SR K I H o sl as) (h : sl.flat = true) : as = [] := by
  cases r <;> simp [Sl.flat] at h ⊢
theorem re_callO {F : Sl → List PyData → PyData → Sl → Prop} (h : Γ[i]? = some sl) (hr : RA K tr Γ ds Γ1) (h1 : Γ1[i]? = some sl) (ho : sl.flat = false) (hf : F sl ds d sl') :
    RE K (tCall (PO K F) [] E (tCons (tVar i) tr)) Γ d (Γ1.set i sl') := fun σ H I ad s Q q => by
  obtain ⟨o, eo, _⟩ := s.get h
  have hv : ∃ v, o = some v := by
    have r := s.rel i o sl eo h
    generalize ad i = as at r
    cases r <;> first | exact ⟨_, rfl⟩ | simp [Sl.flat] at ho
  obtain ⟨v0, rfl⟩ := hv
  refine ⟨v0, eo, hr σ H I ad s _ fun vs H1 I1 ad1 s1 g1 b1 p1 => ?_⟩
  show PO K F ((v0 :: vs) ++ []) H1 Q E
  rw [List.append_nil]
  refine ⟨I1, v0, vs, sl, ad1 i, ds, d, sl', rfl, s1.sub, s1.rel i _ _ eo h1, fun p hp => s1.own i p hp, p1, hf, fun v H2 I2 g2 r2 o2 p2 => ?_⟩
  exact q v H2 I2 ad1 (s1.put eo h1 rfl g2 o2 r2) (g1.trans (g2.mono fun p hp => b1.own p ⟨i, hp⟩)) b1 p2

/-! ### owned dicts -/
def getD (kvs : List (Int × PyData)) (k : Int) : Option PyData := (kvs.find? fun p => decide (p.1 = k)).map (·.2)
def putD (kvs : List (Int × PyData)) (k : Int) (d : PyData) : List (Int × PyData) :=
  if (kvs.any fun p => decide (p.1 = k)) = true then kvs.map (fun p => if p.1 = k then (p.1, d) else p) else kvs ++ [(k, d)]
theorem key_inl {k j : Int} : decide ((Sum.inl j : Key) = Sum.inl k) = decide (j = k) := by
  by_cases h : j = k
  · subst h; simp
  · rw [decide_eq_false h, decide_eq_false (fun z => h (Sum.inl.inj z))]
theorem DK.get {kv : List (Key × V)} {kvs : List (Int × PyData)} (h : DK K I kv kvs) (k : Int) : (∀ d, getD kvs k = some d → ∃ v, valV kv (.inl k) = some v ∧ Dp K I v d) ∧ (getD kvs k = none → valV kv (.inl k) = none) := by
  induction h with
  | nil => exact ⟨fun d e => (nomatch e), fun _ => rfl⟩
  | @cons j v d r s p _ ih =>
    unfold getD valV
    rw [List.find?_cons, List.find?_cons]
    show (∀ d', Option.map _ (match decide (j = k) with | true => some (j, d) | false => s.find? _) = some d' → ∃ v', Option.map _ (match decide ((Sum.inl j : Key) = Sum.inl k) with | true => some (Sum.inl j, v) | false => r.find? _) = some v' ∧ _) ∧ _
    rw [key_inl]
    cases decide (j = k) with
    | true => exact ⟨fun d' e => by cases e; exact ⟨v, rfl, p⟩, fun e => nomatch e⟩
    | false => exact ih
theorem DK.any {kv : List (Key × V)} {kvs : List (Int × PyData)} (h : DK K I kv kvs) (k : Int) : (kv.any fun p => decide (p.1 = (Sum.inl k : Key))) = kvs.any fun p => decide (p.1 = k) := by
  induction h with
  | nil => rfl
  | cons p _ ih =>
    rw [List.any_cons, List.any_cons, ih]
    show (decide (_ = _) || _) = _
    rw [key_inl]
theorem DK.map_ {kv : List (Key × V)} {kvs : List (Int × PyData)} (h : DK K I kv kvs) (k : Int) {v : V} (p : Dp K I v d) : DK K I (kv.map fun q => if q.1 = (Sum.inl k : Key) then (q.1, v) else q) (kvs.map fun q => if q.1 = k then (q.1, d) else q) := by
  induction h with
  | nil => exact .nil
  | @cons j w e r s p' _ ih =>
    rw [List.map_cons, List.map_cons]
    by_cases z : j = k
    · subst z
      rw [if_pos rfl, if_pos rfl]
      exact .cons p ih
    · rw [if_neg (show ¬ (Sum.inl j : Key) = Sum.inl k from fun q => z (Sum.inl.inj q)), if_neg z]
      exact .cons p' ih
theorem DK.snoc {kv : List (Key × V)} {kvs : List (Int × PyData)} (h : DK K I kv kvs) (k : Int) {v : V} (p : Dp K I v d) : DK K I (kv ++ [(.inl k, v)]) (kvs ++ [(k, d)]) := by
  induction h with
  | nil => exact .cons p .nil
  | cons p' _ ih => exact .cons p' ih
theorem DK.put {kv : List (Key × V)} {kvs : List (Int × PyData)} (h : DK K I kv kvs) (k : Int) {v : V} (p : Dp K I v d) : DK K I (putK kv (.inl k) v) (putD kvs k d) := by
  unfold putK putD
  rw [h.any k]
  by_cases z : (kvs.any fun p => decide (p.1 = k)) = true
  · rw [if_pos z, if_pos z]; exact h.map_ k p
  · rw [if_neg z, if_neg z]; exact h.snoc k p
theorem DK.len {kv : List (Key × V)} {kvs : List (Int × PyData)} (h : DK K I kv kvs) : kv.length = kvs.length := by
  induction h with
  | nil => rfl
  | cons _ _ ih => rw [List.length_cons, List.length_cons, ih]
theorem DK.keys {kv : List (Key × V)} {kvs : List (Int × PyData)} (h : DK K I kv kvs) : kv.map (·.1) = (kvs.map (·.1)).map Sum.inl := by
  induction h with
  | nil => rfl
  | cons _ _ ih => rw [List.map_cons, List.map_cons, List.map_cons, ih]
theorem SR.dic_ {o : Option V} {as : List Addr} {kvs : List (Int × PyData)} (r : SR K I H o (.dic kvs) as) : ∃ p kv, o = some (.ref p) ∧ as = [p] ∧ H p = some (.dK kv) ∧ DK K I kv kvs := by
  cases r with
  | dic a b => exact ⟨_, _, rfl, rfl, a, b⟩
theorem SR.lst_ {o : Option V} {as : List Addr} (r : SR K I H o (.lst ds) as) : ∃ p vs, o = some (.ref p) ∧ as = [p] ∧ H p = some (.lst vs) ∧ DpAll K I vs ds := by
  cases r with
  | lst a b => exact ⟨_, _, rfl, rfl, a, b⟩
theorem re_dget {kvs : List (Int × PyData)} {k : Int} (h : Γ[i]? = some (.dic kvs)) (ht : RE K te Γ (.int k) Γ1) (h1 : Γ1[i]? = some (.dic kvs)) (hg : getD kvs k = some d) : RE K (tDGet (tVar i) te) Γ d Γ1 := fun σ H I ad s Q q => by
  obtain ⟨o, eo, r⟩ := s.get h
  obtain ⟨p, kv, rfl, _, _, _⟩ := r.dic_
  refine ⟨_, eo, ht σ H I ad s _ fun x H1 I1 ad1 s1 g1 b1 p1 => ?_⟩
  cases p1
  obtain ⟨p', kv', e1, _, hp, hk⟩ := (s1.rel i _ _ eo h1).dic_
  cases e1
  obtain ⟨v, hv, hd⟩ := (hk.get k).1 d hg
  exact ⟨p, v, rfl, .inl ⟨kv', .inl k, .inl hp, rfl, hv.symm⟩, q v H1 I1 ad1 s1 g1 b1 hd⟩
theorem re_dnotin {kvs : List (Int × PyData)} {k : Int} (ht : RE K te Γ (.int k) Γ1) (h1 : Γ1[i]? = some (.dic kvs)) : RE K (tDNotIn te (tVar i)) Γ (.bool (!(getD kvs k).isSome)) Γ1 := fun σ H I ad s Q q => by
  refine ht σ H I ad s _ fun x H1 I1 ad1 s1 g1 b1 p1 => ?_
  cases p1
  obtain ⟨o, eo, r⟩ := s1.get h1
  obtain ⟨p, kv, rfl, _, hp, hk⟩ := r.dic_
  refine ⟨_, eo, p, _, rfl, .inl ⟨kv, .inl k, .inl hp, rfl, rfl⟩, q _ H1 I1 ad1 s1 g1 b1 ?_⟩
  have e : (valV kv (.inl k)).isSome = (getD kvs k).isSome := by
    cases z : getD kvs k with
    | none => rw [(hk.get k).2 z]; rfl
    | some d => obtain ⟨v, hv, _⟩ := (hk.get k).1 d z; rw [hv]; rfl
  rw [e]; exact .bl _
theorem re_din {kvs : List (Int × PyData)} {k : Int} (ht : RE K te Γ (.int k) Γ1) (h1 : Γ1[i]? = some (.dic kvs)) : RE K (tDIn te (tVar i)) Γ (.bool ((getD kvs k).isSome)) Γ1 := fun σ H I ad s Q q => by
  refine ht σ H I ad s _ fun x H1 I1 ad1 s1 g1 b1 p1 => ?_
  cases p1
  obtain ⟨o, eo, r⟩ := s1.get h1
  obtain ⟨p, kv, rfl, _, hp, hk⟩ := r.dic_
  refine ⟨_, eo, p, _, rfl, .inl ⟨kv, .inl k, .inl hp, rfl, rfl⟩, q _ H1 I1 ad1 s1 g1 b1 ?_⟩
  have e : (valV kv (.inl k)).isSome = (getD kvs k).isSome := by
    cases z : getD kvs k with
    | none => rw [(hk.get k).2 z]; rfl
    | some d => obtain ⟨v, hv, _⟩ := (hk.get k).1 d z; rw [hv]; rfl
  rw [e]; exact .bl _
abbrev rSortD : List V → Hp → VK → Prop := fun xs H Q => ∃ (a : Addr) (kvs : List (Key × V)) (ks : List Int), xs = [.ref a] ∧ Rd H a (.dK kvs) ∧ kvs.map (·.1) = ks.map Sum.inl ∧ ks.length < 64 ∧
    ∀ (ys : List Int) (p : Addr), ys.Perm ks → ys.Pairwise (· ≤ ·) → H p = none → Q (.ref p) (upd H p (.lst (ys.map V.int)))
theorem rl_sortedD {kvs : List (Int × PyData)} {ms : List Int} (h : Γ[i]? = some (.dic kvs)) (hl : kvs.length < 64) (hm : ∀ ys : List Int, ys.Perm (kvs.map (·.1)) → ys.Pairwise (· ≤ ·) → ys = ms) : RL K (tCB rSortD (tCons (tVar i) tNil)) Γ (ms.map .int) Γ := fun σ H I ad s Q q => by
  obtain ⟨o, eo, r⟩ := s.get h
  obtain ⟨p, kv, rfl, _, hp, hk⟩ := r.dic_
  refine ⟨_, eo, p, kv, kvs.map (·.1), rfl, .inl hp, hk.keys, by rw [List.length_map]; exact hl, fun ys l hpm hs hn => ?_⟩
  have := hm ys hpm hs; subst this
  exact q l _ _ I ad (s.fresh hn).1 (s.fresh hn).2.no (Sb.refl ad) hn (s.sub.non_ hn) upd_same (Da.ints _)

/-! ### the stream -/
theorem SR.stm_ {o : Option V} {as : List Addr} {cs : List Int} {a b c : Int} (r : SR K I H o (.stm cs a b c) as) : ∃ p q, o = some (.ref p) ∧ as = [p, q] ∧ H p = some (.lst [.ref q, .int a, .int b, .int c]) ∧ H q = some (.lst (cs.map V.int)) := by
  cases r with
  | stm a b => exact ⟨_, _, rfl, rfl, a, b⟩
theorem re_stm {cs : List Int} {a b c x : Int} {k : Nat} (h : Γ[i]? = some (.stm cs a b c)) (hk : [a, b, c][k]? = some x) : RE K (tOp (rIx K) (tVar i) (tC (.int ((k + 1 : Nat) : Int)))) Γ (.int x) Γ := fun σ H I ad s Q q => by
  obtain ⟨o, eo, r⟩ := s.get h
  obtain ⟨p, l, rfl, _, hp, hq⟩ := r.stm_
  refine ⟨_, eo, .inl ⟨p, _, _, .int x, rfl, rfl, .inl (.inl hp), atI_nat (j := k + 1) ?_, q _ H I ad s (Gr.refl s.sub) (Sb.refl ad) (.int _)⟩⟩
  have : ([V.ref l, .int a, .int b, .int c] : List V)[k + 1]? = ([a, b, c][k]?).map V.int := by
    match k with
    | 0 => rfl
    | 1 => rfl
    | 2 => rfl
    | k + 3 => simp
  rw [this, hk]; rfl
theorem re_stmNe {cs : List Int} {a b c : Int} (h : Γ[i]? = some (.stm cs a b c)) : RE K (tOp (fun x y H Q => rNe x y H Q ∨ rNeD K x y H Q) (tOp (rIx K) (tVar i) (tC (.int 0))) (tLst tNil)) Γ (.bool (!cs.isEmpty)) Γ := fun σ H I ad s Q q => by
  obtain ⟨o, eo, r⟩ := s.get h
  obtain ⟨p, l, rfl, _, hp, hq⟩ := r.stm_
  refine ⟨_, eo, .inl ⟨p, _, _, .ref l, rfl, rfl, .inl (.inl hp), atI_nat (j := 0) rfl, Nat.zero_le _, fun z hz => ?_⟩⟩
  have s2 := (s.fresh (o := .lst []) hz).1
  have hq2 : (upd H z (.lst [])) l = some (.lst (cs.map V.int)) := (s.fresh hz).2.h l _ (fun z => z) hq
  refine .inr ⟨.list (cs.map .int), .list [], .lst (.inl (.inl hq2)) (Da.ints cs), .lst (.inl (.inl upd_same)) .nil, ?_, rfl, ?_⟩
  · have hc : ∀ cs : List Int, PyData.canLay0 (.list (cs.map .int)) = true := fun cs => by
      induction cs with
      | nil => rfl
      | cons x r ih => simpa [PyData.canLay0, PyData.canLayAll0] using ih
    have hdp : ∀ cs : List Int, PyData.depthAll (cs.map .int) ≤ 1 := fun cs => by
      induction cs with
      | nil => decide
      | cons x r ih => simp only [List.map_cons, PyData.depthAll, PyData.depth]; omega
    unfold SeqAt.shaped
    rw [hc, Bool.true_and]
    have := hdp cs
    have e : PyData.depth (.list (cs.map .int)) = PyData.depthAll (cs.map .int) + 1 := by simp only [PyData.depth, Nat.add_comm]
    exact decide_eq_true (by rw [e]; omega)
  · have : (!PyData.eqv (.list (cs.map .int)) (.list [])) = !cs.isEmpty := by
      cases cs with
      | nil => rfl
      | cons x r => rfl
    rw [this]
    exact q _ _ I ad s2 (s.fresh hz).2.no (Sb.refl ad) (.bl _)
theorem stm_ne {p l : Addr} {cs : List Int} {a b c : Int} (hp : H p = some (.lst [.ref l, .int a, .int b, .int c])) (hq : H l = some (.lst (cs.map V.int))) : p ≠ l := fun z => by
  subst z
  rw [hp] at hq
  injection hq with hq
  injection hq with hq
  cases cs with
  | nil => cases hq
  | cons x r => injection hq with h1 _; cases h1
theorem re_stmPop {cs : List Int} {a b c x : Int} (h : Γ[i]? = some (.stm (x :: cs) a b c)) : RE K (tBM K "list" rPopAt (tOp (rIx K) (tVar i) (tC (.int 0))) (tCons (tC (.int 0)) tNil)) Γ (.int x) (Γ.set i (.stm cs a b c)) := fun σ H I ad s Q q => by
  obtain ⟨o, eo, r⟩ := s.get h
  generalize hx : ad i = as at r
  obtain ⟨p, l, rfl, rfl, hp, hq⟩ := r.stm_
  refine ⟨_, eo, .inl ⟨p, _, _, .ref l, rfl, rfl, .inl (.inl hp), atI_nat (j := 0) rfl, .inl ⟨rfl, _, .inl (.inl hq)⟩, ?_⟩⟩
  refine ⟨l, _, 0, 0, .int x, rfl, rfl, hq, by decide, by decide, by simp [seqIndex?], rfl, ?_⟩
  have pl := stm_ne hp hq
  have il : I l = none := s.own i l (by rw [hx]; simp)
  have g : Gr (fun p' => p' ∈ [p, l]) I H I (upd H l (.lst (((x :: cs).map V.int).eraseIdx 0))) := Gr.mut s.sub (by simp) il hq
  refine q _ _ I ad (s.put (sl' := .stm cs a b c) eo h hx g (fun z hz => s.own i z (by rw [hx]; exact hz)) (.stm (by rw [upd_ne pl]; exact hp) (by rw [upd_same]; rfl))) (g.mono fun z hz => ⟨i, by rw [hx]; exact hz⟩) (Sb.refl ad) (.int _)
end
end DL

/-! DL5: statements and defs over data. -/
namespace DL
open PySem PySem.Spec PyProof.Rows L2

structure Bs where
  o : Option V
  as : List Addr
  M : Addr → Prop
  H : Hp
  I : Hp
structure S2 (K : PySem.W.Frag) (an : Bool) (B : Bs) (σ : L2.St) (H I : Hp) (Γ : Ga) (ad : Ads) : Prop where
  s : S1 K σ H I Γ ad
  gr : Gr B.M B.I B.H I H
  fr : ∀ p, Own ad p → B.M p ∨ B.H p = none
  anc : an = true → σ[0]? = some B.o ∧ (ad 0 = B.as ∨ ad 0 = [])
/-- what is wanted behind a statement, over data -/
structure Po where
  nx : Ga → Prop
  rt : PyData → Ga → Prop
  bk : Ga → Prop := fun _ => False
  ct : Ga → Prop := fun _ => False
structure En (K : PySem.W.Frag) (an : Bool) (B : Bs) (P : Po) (D : Ends) : Prop where
  nx : ∀ Γ σ H I ad, P.nx Γ → S2 K an B σ H I Γ ad → D.nx σ H
  rt : ∀ d Γ v σ H I ad, P.rt d Γ → S2 K an B σ H I Γ ad → Dp K I v d → D.rt v H
  bk : ∀ Γ σ H I ad, P.bk Γ → S2 K an B σ H I Γ ad → D.bk σ H
  ct : ∀ Γ σ H I ad, P.ct Γ → S2 K an B σ H I Γ ad → D.ct σ H
def RS (K : PySem.W.Frag) (an : Bool) (t : TS) (Γ : Ga) (P : Po) : Prop :=
  ∀ (B : Bs) (σ : L2.St) (H I : Hp) (ad : Ads) (D : Ends), S2 K an B σ H I Γ ad → En K an B P D → t D σ H
section
variable {K : PySem.W.Frag} {an : Bool} {B : Bs} {σ σ' : L2.St} {H I H' I' : Hp} {Γ Γ1 Γ2 Γ3 Γ' Γa : Ga} {ad ad' : Ads} {d d1 d2 : PyData} {ds es : List PyData} {sl sl' : Sl}
variable {te ta tb : TE} {tr : TA} {t u : TS} {tt : TT} {g : TG} {wi : TI} {E : XK} {i j : Nat} {P P' : Po} {b : Bool} {ws : List Nat}
/-- behind an expression -/
theorem S2.go (s : S2 K an B σ H I Γ ad) (h : S1 K σ H' I' Γ' ad') (g : Gr (Own ad) I H I' H') (b : Sb ad ad') : S2 K an B σ H' I' Γ' ad' :=
  ⟨h, ⟨s.gr.i.trans g.i, fun a o n ha => g.h a o (fun z => by
      rcases s.fr a z with q | q
      · exact n q
      · rw [q] at ha; cases ha) (s.gr.h a o n ha), fun a ha => s.gr.k a (g.k a ha), g.s, fun a ha hn nm => g.f a (s.gr.f a ha hn nm) (fun z => hn (s.gr.k a z)) fun z => by
      rcases s.fr a z with q | q
      · exact nm q
      · exact hn q⟩, fun p z => s.fr p (b.own p z), fun z => ⟨(s.anc z).1, by
      rcases b 0 with q | q
      · rw [q]; exact (s.anc z).2
      · exact .inr q⟩⟩
/-- a slot gets data -/
theorem S2.setD (s : S2 K an B σ H I Γ ad) {v : V} (hi : i < Γ.length) (p : Dp K I v d) (h0 : an = true → i ≠ 0) : S2 K an B (σ.set i (some v)) H I (Γ.set i (.dat d)) (adSet ad i []) :=
  ⟨s.s.setD hi p, s.gr, fun p z => s.fr p ((adSet_sb i).own p z), fun z => ⟨by rw [List.getElem?_set_ne (h0 z)]; exact (s.anc z).1, by rw [adSet_ne (Ne.symm (h0 z))]; exact (s.anc z).2⟩⟩
/-- a slot gets a new list or dict -/
theorem S2.setO (s : S2 K an B σ H I Γ ad) {p : Addr} (hi : i < Γ.length) (r : SR K I H (some (.ref p)) sl [p]) (hp : I p = none) (hn : ¬ Own ad p) (hB : B.H p = none) (h0 : an = true → i ≠ 0) : S2 K an B (σ.set i (some (.ref p))) H I (Γ.set i sl) (adSet ad i [p]) :=
  ⟨s.s.set hi r (fun q hq => by rw [List.mem_singleton.mp hq]; exact hp) (fun j q _ hq z => hn ⟨j, by rw [← List.mem_singleton.mp hq]; exact z⟩), s.gr, fun q ⟨j, z⟩ => by
    by_cases e : j = i
    · subst e; rw [adSet_same, List.mem_singleton] at z; subst z; exact .inr hB
    · rw [adSet_ne e] at z; exact s.fr q ⟨j, z⟩, fun z => ⟨by rw [List.getElem?_set_ne (h0 z)]; exact (s.anc z).1, by rw [adSet_ne (Ne.symm (h0 z))]; exact (s.anc z).2⟩⟩
/-- an owned object is written -/
theorem S2.put (s : S2 K an B σ H I Γ ad) {o : Option V} {as : List Addr} (hσ : σ[i]? = some o) (hΓ : Γ[i]? = some sl) (he : ad i = as) (g : Gr (fun p => p ∈ as) I H I' H') (ho : ∀ p ∈ as, I' p = none) (r : SR K I' H' o sl' as) : S2 K an B σ H' I' (Γ.set i sl') ad :=
  s.go (s.s.put hσ hΓ he g ho r) (g.mono fun p hp => ⟨i, by rw [he]; exact hp⟩) (Sb.refl ad)
theorem En.sub {D : Ends} (e : En K an B P D) (h1 : ∀ Γ, P'.nx Γ → P.nx Γ) (h2 : ∀ d Γ, P'.rt d Γ → P.rt d Γ) (h3 : ∀ Γ, P'.bk Γ → P.bk Γ) (h4 : ∀ Γ, P'.ct Γ → P.ct Γ) : En K an B P' D :=
  ⟨fun Γ σ H I ad p => e.nx Γ σ H I ad (h1 Γ p), fun d Γ v σ H I ad p => e.rt d Γ v σ H I ad (h2 d Γ p), fun Γ σ H I ad p => e.bk Γ σ H I ad (h3 Γ p), fun Γ σ H I ad p => e.ct Γ σ H I ad (h4 Γ p)⟩
theorem RS.imp (h : RS K an t Γ P') (h1 : ∀ Γ, P'.nx Γ → P.nx Γ) (h2 : ∀ d Γ, P'.rt d Γ → P.rt d Γ) (h3 : ∀ Γ, P'.bk Γ → P.bk Γ) (h4 : ∀ Γ, P'.ct Γ → P.ct Γ) : RS K an t Γ P :=
  fun B σ H I ad D s e => h B σ H I ad D s (e.sub h1 h2 h3 h4)
theorem rs_seq (h : RS K an t Γ ⟨fun Γ1 => RS K an u Γ1 P, P.rt, P.bk, P.ct⟩) : RS K an (tSeq t u) Γ P := fun B σ H I ad D s e =>
  h B σ H I ad { D with nx := u D } s ⟨fun Γ1 σ1 H1 I1 ad1 p s1 => p B σ1 H1 I1 ad1 D s1 e, e.rt, e.bk, e.ct⟩
theorem rs_nx (h : P.nx Γ) : RS K an tNext Γ P := fun B σ H I ad D s e => e.nx Γ σ H I ad h s
theorem rs_break (h : P.bk Γ) : RS K an tBreak Γ P := fun B σ H I ad D s e => e.bk Γ σ H I ad h s
theorem rs_cont (h : P.ct Γ) : RS K an tCont Γ P := fun B σ H I ad D s e => e.ct Γ σ H I ad h s
theorem rs_ret (h : RE K te Γ d Γ1) (hr : P.rt d Γ1) : RS K an (tRet te) Γ P := fun B σ H I ad D s e =>
  h σ H I ad s.s _ fun v H1 I1 ad1 s1 g1 b1 p1 => e.rt d Γ1 v σ H1 I1 ad1 hr (s.go s1 g1 b1) p1
theorem rs_retN (hr : P.rt .none Γ) : RS K an tRetN Γ P := fun B σ H I ad D s e => e.rt .none Γ .non σ H I ad hr s .non
theorem rs_set (h : RE K te Γ d Γ1) (hr : P.nx (Γ1.set i (.dat d))) (hi : i < Γ1.length := by (simp; done)) (h0 : an = true → i ≠ 0 := by decide) : RS K an (tAsg te (gName i)) Γ P := fun B σ H I ad D s e =>
  h σ H I ad s.s _ fun v H1 I1 ad1 s1 g1 b1 p1 => e.nx _ _ H1 I1 _ hr ((s.go s1 g1 b1).setD hi p1 h0)
theorem rs_setG (h : RE K te Γ d Γ1) (hg : RG K g d Γ1 Γ2 ws) (hr : P.nx Γ2) (h0 : an = true → 0 ∉ ws := by decide) : RS K an (tAsg te g) Γ P := fun B σ H I ad D s e =>
  h σ H I ad s.s _ fun v H1 I1 ad1 s1 g1 b1 p1 => hg σ H1 I1 ad1 v _ s1 p1 fun σ2 H2 I2 ad2 s2 g2 b2 e2 l2 => by
    have z := s.go s1 g1 b1
    have w := z.go (z.s.gr g2) g2.no (Sb.refl ad1)
    refine e.nx _ σ2 H2 I2 ad2 hr ⟨s2, w.gr, fun p q => w.fr p (b2.own p q), fun q => ⟨by rw [e2 0 (h0 q)]; exact (w.anc q).1, ?_⟩⟩
    rcases b2 0 with k | k
    · rw [k]; exact (w.anc q).2
    · exact .inr k
theorem rs_setL (h : RL K te Γ ds Γ1) (hr : P.nx (Γ1.set i (.lst ds))) (hi : i < Γ1.length := by (simp; done)) (h0 : an = true → i ≠ 0 := by decide) : RS K an (tAsg te (gName i)) Γ P := fun B σ H I ad D s e =>
  h σ H I ad s.s _ fun p vs H1 I1 ad1 s1 g1 b1 hp hi1 hv hd =>
    e.nx _ _ H1 I1 _ hr ((s.go s1 g1 b1).setO hi (.lst hv hd) hi1 (fun z => s.s.free hp (b1.own p z)) (s.gr.k p hp) h0)
theorem rs_setK (hr : P.nx (Γ.set i (.dic []))) (hi : i < Γ.length := by (simp; done)) (h0 : an = true → i ≠ 0 := by decide) : RS K an (tAsg tDNewK (gName i)) Γ P := fun B σ H I ad D s e p hp =>
  e.nx _ _ _ I _ hr ((s.go (s.s.fresh hp).1 (s.s.fresh hp).2.no (Sb.refl ad)).setO hi (.dic upd_same .nil) (s.s.sub.non_ hp) (s.s.free hp) (s.gr.k p hp) h0)
/-- a, b = x, y -/
theorem rs_par (h : RA K tr Γ [d1, d2] Γ1) (hr : P.nx ((Γ1.set i (.dat d1)).set j (.dat d2))) (hi : i < Γ1.length := by (simp; done)) (hj : j < Γ1.length := by (simp; done)) (h0 : an = true → i ≠ 0 := by decide) (h1 : an = true → j ≠ 0 := by decide) : RS K an (tPar i j tr) Γ P := fun B σ H I ad D s e =>
  h σ H I ad s.s _ fun vs H1 I1 ad1 s1 g1 b1 p1 => by
    obtain ⟨v, w, rfl, q1, q2⟩ := da2 p1
    exact ⟨v, w, rfl, e.nx _ _ H1 I1 _ hr (((s.go s1 g1 b1).setD hi q1 h0).setD (by rw [List.length_set]; exact hj) q2 h1)⟩
theorem rs_if (h : RT K tt Γ b Γ1) (h1 : b = true → RS K an t Γ1 P) (h2 : b = false → RS K an u Γ1 P) : RS K an (tIfS tt t u) Γ P := fun B σ H I ad D s e =>
  h σ H I ad s.s _ fun H1 I1 ad1 s1 g1 b1 => by
    cases b with
    | true => rw [if_pos rfl]; exact h1 rfl B σ H1 I1 ad1 D (s.go s1 g1 b1) e
    | false => rw [if_neg Bool.false_ne_true]; exact h2 rfl B σ H1 I1 ad1 D (s.go s1 g1 b1) e
theorem rs_drop (h : RE K te Γ d Γ1) (hr : P.nx Γ1) : RS K an (tDrop te) Γ P := fun B σ H I ad D s e =>
  h σ H I ad s.s _ fun v H1 I1 ad1 s1 g1 b1 p1 => e.nx _ σ H1 I1 ad1 hr (s.go s1 g1 b1)
theorem rs_aug {f : Int → Int → Int} {x y : Int} (hx : Γ[i]? = some (.dat (.int x))) (h : RE K te Γ (.int y) Γ1) (hr : P.nx (Γ1.set i (.dat (.int (f x y))))) (hi : i < Γ1.length := by (simp; done)) (h0 : an = true → i ≠ 0 := by decide) : RS K an (tAug i te (ipI f)) Γ P := fun B σ H I ad D s e => by
  obtain ⟨o, eo, r⟩ := s.s.get hx
  generalize ad i = as at r
  cases r with
  | dat q =>
    cases q
    refine ⟨_, eo, h σ H I ad s.s _ fun v H1 I1 ad1 s1 g1 b1 p1 => ?_⟩
    cases p1
    exact ⟨x, y, rfl, rfl, e.nx _ _ H1 I1 _ hr ((s.go s1 g1 b1).setD hi (.int _) h0)⟩
/-- xs.append(e) of an owned list -/
theorem rs_app (h : Γ[i]? = some (.lst ds)) (ht : RE K te Γ d Γ1) (h1 : Γ1[i]? = some (.lst ds)) (hz : ds.length < sizeLine) (hr : P.nx (Γ1.set i (.lst (ds ++ [d])))) : RS K an (tDrop (tBM K "list" rAppend (tVar i) (tCons te tNil))) Γ P := fun B σ H I ad D s e => by
  obtain ⟨o, eo, r⟩ := s.s.get h
  obtain ⟨p, vs, rfl, _, hp, hd⟩ := r.lst_
  refine ⟨_, eo, .inl ⟨rfl, vs, .inl (.inl hp)⟩, ht σ H I ad s.s _ fun v H1 I1 ad1 s1 g1 b1 p1 => ?_⟩
  have r1 := s1.rel i _ _ eo h1
  obtain ⟨p', ws, e1, ha, hp1, hd1⟩ := r1.lst_
  cases e1
  have pi : I1 p = none := s1.own i p (by rw [ha]; simp)
  refine ⟨p, ws, v, rfl, rfl, hp1, by rw [Da.len hd1]; exact hz, ?_⟩
  exact e.nx _ σ _ I1 ad1 hr ((s.go s1 g1 b1).put eo h1 ha (Gr.mut s1.sub (by simp) pi hp1) (fun q hq => by rw [List.mem_singleton.mp hq]; exact pi) (.lst upd_same (Da.app hd1 (Da.one p1))))
/-- xs.insert(k, e) of an owned list -/
abbrev rInsert : V → List V → Hp → VK → Prop := fun x vs H Q => ∃ (l : Addr) (xs : List V) (i : Int) (y : V), x = .ref l ∧ vs = [.int i, y] ∧ H l = some (.lst xs) ∧ xs.length < sizeLine ∧ 0 ≤ i ∧ i < 2 ^ 63 ∧
    Q .non (upd H l (.lst (xs.take i.toNat ++ [y] ++ xs.drop i.toNat)))
theorem rs_ins {k : Int} (h : Γ[i]? = some (.lst ds)) (ht : RA K tr Γ [.int k, d] Γ1) (h1 : Γ1[i]? = some (.lst ds)) (hz : ds.length < sizeLine) (hk : 0 ≤ k ∧ k < 2 ^ 63) (hr : P.nx (Γ1.set i (.lst (ds.take k.toNat ++ [d] ++ ds.drop k.toNat)))) : RS K an (tDrop (tBM K "list" rInsert (tVar i) tr)) Γ P := fun B σ H I ad D s e => by
  obtain ⟨o, eo, r⟩ := s.s.get h
  obtain ⟨p, vs, rfl, _, hp, hd⟩ := r.lst_
  refine ⟨_, eo, .inl ⟨rfl, vs, .inl (.inl hp)⟩, ht σ H I ad s.s _ fun v H1 I1 ad1 s1 g1 b1 p1 => ?_⟩
  have r1 := s1.rel i _ _ eo h1
  obtain ⟨p', ws, e1, ha, hp1, hd1⟩ := r1.lst_
  cases e1
  obtain ⟨x, y, rfl, q1, q2⟩ := da2 p1
  cases q1
  have pi : I1 p = none := s1.own i p (by rw [ha]; simp)
  refine ⟨p, ws, k, y, rfl, rfl, hp1, by rw [Da.len hd1]; exact hz, hk.1, hk.2, ?_⟩
  exact e.nx _ σ _ I1 ad1 hr ((s.go s1 g1 b1).put eo h1 ha (Gr.mut s1.sub (by simp) pi hp1) (fun q hq => by rw [List.mem_singleton.mp hq]; exact pi) (.lst upd_same (Da.app (Da.app (Da.take _ hd1) (Da.one q2)) (Da.drop _ hd1))))
/-- xs.extend(new list) of an owned list -/
theorem rs_ext (h : Γ[i]? = some (.lst ds)) (ht : RL K te Γ es Γ1) (h1 : Γ1[i]? = some (.lst ds)) (hz : ds.length + es.length ≤ sizeLine) (hr : P.nx (Γ1.set i (.lst (ds ++ es)))) : RS K an (tDrop (tBM K "list" rExtend (tVar i) (tCons te tNil))) Γ P := fun B σ H I ad D s e => by
  obtain ⟨o, eo, r⟩ := s.s.get h
  obtain ⟨p, vs, rfl, _, hp, hd⟩ := r.lst_
  refine ⟨_, eo, .inl ⟨rfl, vs, .inl (.inl hp)⟩, ht σ H I ad s.s _ fun l us H1 I1 ad1 s1 g1 b1 hl hl1 hu hdu => ?_⟩
  have r1 := s1.rel i _ _ eo h1
  obtain ⟨p', ws, e1, ha, hp1, hd1⟩ := r1.lst_
  cases e1
  have pi : I1 p = none := s1.own i p (by rw [ha]; simp)
  refine ⟨p, l, ws, us, rfl, rfl, hp1, hu, by rw [Da.len hd1, Da.len hdu]; exact hz, ?_⟩
  exact e.nx _ σ _ I1 ad1 hr ((s.go s1 g1 b1).put eo h1 ha (Gr.mut s1.sub (by simp) pi hp1) (fun q hq => by rw [List.mem_singleton.mp hq]; exact pi) (.lst upd_same (Da.app hd1 hdu)))
/-- d[k] = e of an owned dict -/
theorem rs_dput {kvs : List (Int × PyData)} {k : Int} {tk : TE} (hv : RE K te Γ d Γ1) (h : Γ1[i]? = some (.dic kvs)) (hk : RE K tk Γ1 (.int k) Γ1) (hz : kvs.length < sizeLine) (hr : P.nx (Γ1.set i (.dic (putD kvs k d)))) : RS K an (sDPut (tVar i) tk te) Γ P := fun B σ H I ad D s e =>
  hv σ H I ad s.s _ fun v H1 I1 ad1 s1 g1 b1 p1 => by
    obtain ⟨o, eo, r⟩ := s1.get h
    obtain ⟨p, kv, rfl, _, _, _⟩ := r.dic_
    refine ⟨_, eo, hk σ H1 I1 ad1 s1 _ fun x H2 I2 ad2 s2 g2 b2 p2 => ?_⟩
    cases p2
    obtain ⟨p', kv2, e1, ha, hp, hd⟩ := (s2.rel i _ _ eo h).dic_
    cases e1
    have pi : I2 p = none := s2.own i p (by rw [ha]; simp)
    refine ⟨p, _, rfl, .inl ⟨kv2, .inl k, hp, rfl, by rw [hd.len]; exact hz, rfl⟩, ?_⟩
    exact e.nx _ σ _ I2 ad2 hr (((s.go s1 g1 b1).go s2 g2 b2).put eo h ha (Gr.mut s2.sub (by simp) pi hp) (fun q hq => by rw [List.mem_singleton.mp hq]; exact pi) (.dic upd_same (hd.put k (Dp.ex p1 g2.i))))
/-- stream[k] = e -/
theorem rs_stm {cs : List Int} {a b c x : Int} {k : Nat} (hv : RE K te Γ (.int x) Γ1) (h : Γ1[i]? = some (.stm cs a b c)) (sl' : Sl) (hs : (k = 0 ∧ sl' = .stm cs x b c) ∨ (k = 1 ∧ sl' = .stm cs a x c) ∨ (k = 2 ∧ sl' = .stm cs a b x)) (hr : P.nx (Γ1.set i sl')) : RS K an (tAsg te (gSub (tVar i) (tC (.int ((k + 1 : Nat) : Int))) rSetL)) Γ P := fun B σ H I ad D s e =>
  hv σ H I ad s.s _ fun v H1 I1 ad1 s1 g1 b1 p1 => by
    cases p1
    obtain ⟨o, eo, r⟩ := s1.get h
    obtain ⟨p, l, rfl, ha, hp, hq⟩ := r.stm_
    have pl := stm_ne hp hq
    have pi : I1 p = none := s1.own i p (by rw [ha]; simp)
    have hk : k < 3 := by rcases hs with z | z | z <;> omega
    refine ⟨_, eo, p, _, _, k + 1, rfl, rfl, hp, ?_, ?_⟩
    · unfold ixN
      rw [if_pos (by omega), if_pos (by simp; omega)]
      simp
    refine e.nx _ σ _ I1 ad1 hr ((s.go s1 g1 b1).put eo h ha (Gr.mut s1.sub (by simp) pi hp) (fun q hq => s1.own i q (by rw [ha]; exact hq)) ?_)
    rcases hs with ⟨rfl, rfl⟩ | ⟨rfl, rfl⟩ | ⟨rfl, rfl⟩ <;> exact .stm upd_same (by rw [upd_ne (Ne.symm pl)]; exact hq)
/-- the same base, told from here -/
theorem S2.re (s : S2 K an B σ H I Γ ad) : S2 K an ⟨B.o, B.as, Own ad, H, I⟩ σ H I Γ ad := ⟨s.s, Gr.refl s.s.sub, fun _ z => .inl z, s.anc⟩
theorem S2.un (s : S2 K an B σ H I Γ ad) (h : S2 K an ⟨B.o, B.as, Own ad, H, I⟩ σ' H' I' Γ' ad') : S2 K an B σ' H' I' Γ' ad' :=
  ⟨h.s, ⟨s.gr.i.trans h.gr.i, fun a o n ha => h.gr.h a o (fun z => by
      rcases s.fr a z with q | q
      · exact n q
      · rw [q] at ha; cases ha) (s.gr.h a o n ha), fun a ha => s.gr.k a (h.gr.k a ha), h.gr.s, fun a ha hn nm => h.gr.f a (s.gr.f a ha hn nm) (fun z => hn (s.gr.k a z)) fun z => by
      rcases s.fr a z with q | q
      · exact nm q
      · exact hn q⟩, fun p z => by
      rcases h.fr p z with q | q
      · exact s.fr p q
      · exact .inr (s.gr.k p q), h.anc⟩
theorem RS.run (h : RS K an t Γ P) (s : S2 K an B σ H I Γ ad) (D : Ends) (nx : ∀ Γ' σ' H' I' ad', P.nx Γ' → S2 K an B σ' H' I' Γ' ad' → Ex I I' → D.nx σ' H')
    (rt : ∀ d Γ' v σ' H' I' ad', P.rt d Γ' → S2 K an B σ' H' I' Γ' ad' → Ex I I' → Dp K I' v d → D.rt v H')
    (bk : ∀ Γ' σ' H' I' ad', P.bk Γ' → S2 K an B σ' H' I' Γ' ad' → Ex I I' → D.bk σ' H') (ct : ∀ Γ' σ' H' I' ad', P.ct Γ' → S2 K an B σ' H' I' Γ' ad' → Ex I I' → D.ct σ' H') : t D σ H :=
  h _ σ H I ad D s.re ⟨fun Γ' σ' H' I' ad' p z => nx Γ' σ' H' I' ad' p (s.un z) z.gr.i, fun d Γ' v σ' H' I' ad' p z => rt d Γ' v σ' H' I' ad' p (s.un z) z.gr.i,
    fun Γ' σ' H' I' ad' p z => bk Γ' σ' H' I' ad' p (s.un z) z.gr.i, fun Γ' σ' H' I' ad' p z => ct Γ' σ' H' I' ad' p (s.un z) z.gr.i⟩
/-- while -/
theorem rs_while (W : Nat → Ga → Prop) (m0 : Nat) (h0 : W m0 Γ) (turn : ∀ m Γ2, W m Γ2 → ∃ Γ3 b, RT K tt Γ2 b Γ3 ∧ (b = true → RS K an t Γ3 ⟨fun Γ4 => ∃ m', m' < m ∧ W m' Γ4, P.rt, P.nx, fun Γ4 => ∃ m', m' < m ∧ W m' Γ4⟩) ∧ (b = false → P.nx Γ3)) :
    RS K an (tWhile tt t) Γ P := fun B σ H I ad D s e => by
  refine ⟨fun m σ2 H2 => ∃ Γ2 I2 ad2, W m Γ2 ∧ S2 K an B σ2 H2 I2 Γ2 ad2, ⟨m0, Γ, I, ad, h0, s⟩, ?_⟩
  rintro m σ2 H2 ⟨Γ2, I2, ad2, hw, z⟩
  obtain ⟨Γ3, b, ht, t1, t2⟩ := turn m Γ2 hw
  refine ht σ2 H2 I2 ad2 z.s _ fun H3 I3 ad3 s3 g3 b3 => ?_
  have z3 := z.go s3 g3 b3
  cases b with
  | true =>
    rw [if_pos rfl]
    refine ⟨fun σ4 H4 => ∃ m', m' < m ∧ ∃ Γ4 I4 ad4, W m' Γ4 ∧ S2 K an B σ4 H4 I4 Γ4 ad4, fun σ4 H4 q => q, ?_⟩
    exact t1 rfl B σ2 H3 I3 ad3 _ z3 ⟨fun Γ4 σ4 H4 I4 ad4 p s4 => by
      obtain ⟨m', hm, w⟩ := p
      exact ⟨m', hm, Γ4, I4, ad4, w, s4⟩, e.rt, e.nx, fun Γ4 σ4 H4 I4 ad4 p s4 => by
      obtain ⟨m', hm, w⟩ := p
      exact ⟨m', hm, Γ4, I4, ad4, w, s4⟩⟩
  | false =>
    rw [if_neg Bool.false_ne_true]
    exact e.nx Γ3 σ2 H3 I3 ad3 (t2 rfl) z3
/-- for -/
theorem rs_for (h : RI K wi Γ ds Γ1) (W : Nat → Ga → Prop) (h0 : W 0 Γ1) (turn : ∀ i d Γ2, ds[i]? = some d → W i Γ2 → ∃ Γ3 ws, RG K g d Γ2 Γ3 ws ∧ (an = true → 0 ∉ ws) ∧ RS K an t Γ3 ⟨W (i + 1), P.rt, P.nx, W (i + 1)⟩) (hn : ∀ Γ2, W ds.length Γ2 → P.nx Γ2) : RS K an (tFor wi g t) Γ P := fun B σ H I ad D s e =>
  h σ H I ad s.s _ fun J H1 I1 ad1 s1 g1 b1 w => by
    refine for_it (n := ds.length) (G := fun H2 => Ex I1 H2) (Y := fun i H2 x H3 => J.yld i H2 x H3) ⟨fun i H2 hi e => w.goes i H2 hi e, fun H2 e => w.stops H2 e, fun _ _ _ _ _ _ y => y⟩
      (fun i σ2 H2 => ∃ Γ2 I2 ad2, W i Γ2 ∧ S2 K an B σ2 H2 I2 Γ2 ad2 ∧ Ex I1 I2) ⟨Γ1, I1, ad1, h0, s.go s1 g1 b1, Ex.refl I1⟩ ?_ ?_ ?_
    · rintro i σ2 H2 _ ⟨Γ2, I2, ad2, _, z, x⟩
      exact x.trans z.s.sub
    · rintro i x σ2 H2 H3 hi ⟨Γ2, I2, ad2, hw, z, x1⟩ y
      obtain ⟨I3, g3, p3⟩ := w.yields i _ H2 I2 x H3 (List.getElem?_eq_getElem hi) x1 z.s.sub y
      obtain ⟨Γ3, ws, hg, h00, hb⟩ := turn i _ Γ2 (List.getElem?_eq_getElem hi) hw
      have z3 := z.go (z.s.gr g3) g3.no (Sb.refl ad2)
      refine hg σ2 H3 I3 ad2 x _ z3.s p3 fun σ4 H4 I4 ad4 s4 g4 b4 e4 l4 => ?_
      have z4 := z3.go (z3.s.gr g4) g4.no (Sb.refl ad2)
      have z5 : S2 K an B σ4 H4 I4 Γ3 ad4 := ⟨s4, z4.gr, fun p q => z4.fr p (b4.own p q), fun q => ⟨by rw [e4 0 (h00 q)]; exact (z4.anc q).1, by
        rcases b4 0 with k | k
        · rw [k]; exact (z4.anc q).2
        · exact .inr k⟩⟩
      have x4 : Ex I1 I4 := x1.trans (g3.i.trans g4.i)
      exact hb.run z5 _ (fun Γ5 σ5 H5 I5 ad5 w5 s5 x5 => ⟨Γ5, I5, ad5, w5, s5, x4.trans x5⟩) (fun d5 Γ5 v5 σ5 H5 I5 ad5 w5 s5 _ p5 => e.rt d5 Γ5 v5 σ5 H5 I5 ad5 w5 s5 p5)
        (fun Γ5 σ5 H5 I5 ad5 w5 s5 _ => e.nx Γ5 σ5 H5 I5 ad5 w5 s5) (fun Γ5 σ5 H5 I5 ad5 w5 s5 x5 => ⟨Γ5, I5, ad5, w5, s5, x4.trans x5⟩)
    · rintro σ2 H2 ⟨Γ2, I2, ad2, hw, z, _⟩
      exact e.nx Γ2 σ2 H2 I2 ad2 (hn Γ2 hw) z
end
/-! ### defs -/
def gst (N : List Str) (ds : List PyData) : Ga := ds.map Sl.dat ++ List.replicate (N.length - ds.length) .un
section
variable {P : Program} {w : World} {K : PySem.W.Frag} {mg : Str → Option Value} {base : Heap}
theorem start_at {N : List Str} {vs : List V} {i : Nat} {o : Option V} (h : (start N vs)[i]? = some o) : (∃ v, vs[i]? = some v ∧ o = some v) ∨ (vs.length ≤ i ∧ o = none) := by
  unfold L2.start at h
  by_cases hi : i < vs.length
  · rw [List.getElem?_append_left (by simpa using hi), List.getElem?_map] at h
    cases e : vs[i]? with
    | none => rw [e] at h; cases h
    | some v => rw [e] at h; cases h; exact .inl ⟨v, rfl, rfl⟩
  · rw [List.getElem?_append_right (by simpa using hi), List.getElem?_replicate] at h
    split at h
    · cases h; exact .inr ⟨by omega, rfl⟩
    · cases h
theorem gst_at {N : List Str} {ds : List PyData} {i : Nat} {sl : Sl} (h : (gst N ds)[i]? = some sl) : (∃ d, ds[i]? = some d ∧ sl = .dat d) ∨ (ds.length ≤ i ∧ sl = .un) := by
  unfold gst at h
  by_cases hi : i < ds.length
  · rw [List.getElem?_append_left (by simpa using hi), List.getElem?_map] at h
    cases e : ds[i]? with
    | none => rw [e] at h; cases h
    | some v => rw [e] at h; cases h; exact .inl ⟨v, rfl, rfl⟩
  · rw [List.getElem?_append_right (by simpa using hi), List.getElem?_replicate] at h
    split at h
    · cases h; exact .inr ⟨by omega, rfl⟩
    · cases h
theorem s1_start {N : List Str} {vs : List V} {ds : List PyData} {H I : Hp} (hs : Ex I H) (hd : DpAll K I vs ds) : S1 K (start N vs) H I (gst N ds) (fun _ => []) := by
  have hl := Da.len hd
  refine ⟨hs, ?_, fun i o sl h1 h2 => ?_, fun _ _ => rfl, fun i p h => by simp at h, fun i j p h => by simp at h⟩
  · unfold L2.start gst
    rw [List.length_append, List.length_append, List.length_map, List.length_map, List.length_replicate, List.length_replicate, hl]
  · rcases gst_at h2 with ⟨d, h3, rfl⟩ | ⟨_, rfl⟩
    · rcases start_at h1 with ⟨v, h4, rfl⟩ | ⟨h4, _⟩
      · obtain ⟨d', h5, p⟩ := Da.at2 hd h4
        rw [h3] at h5; cases h5
        exact .dat p
      · have := (List.getElem?_eq_some_iff.mp h3).1
        omega
    · exact .un
/-- THE RULE for a def of data -/
theorem fn_pure {x qual : Str} {st : Stmt} {f : Addr} {fd : FuncData} {N ps : List Str} {k : Nat} {F : List PyData → PyData → Prop} (Fn : Fun K x qual st f fd) (S : FnScope N ps (defScope st)) (len : ∀ ds d, F ds d → ds.length = ps.length)
    (body : ∀ (cdv : Value) (A : Around) (outer : List Env) (s : Shared) (H : Hp) (E : XK), Room k (A.deeper (envOfC qual (defScope st) s.heap.objs.size f cdv)) →
      ∃ t, PSs (cxOf CX0 P w K mg base N qual (defScope st) f cdv A outer s H E).nox (defBody st) t ∧ ∀ ds d, F ds d → RS K false t (gst N ds) ⟨fun _ => d = .none, fun d' _ => d' = d, fun _ => False, fun _ => False⟩) :
    FnOk P w K mg base CX0 (k + 1) f fd ps (PR K F) := by
  refine Fn.ok S (fun vs H Q E h => ?_) (fun cdv A outer s H vs Q E hr h => ?_)
  · obtain ⟨I, ds, d, _, hd, hF, _⟩ := h
    rw [Da.len hd]; exact len ds d hF
  · obtain ⟨I, ds, d, hs, hd, hF, q⟩ := h
    obtain ⟨t, ht, hR⟩ := body cdv A outer s H E hr
    refine ⟨t, ht, ?_⟩
    refine hR ds d hF ⟨none, [], No, H, I⟩ (start N vs) H I (fun _ => []) _ ⟨s1_start hs hd, Gr.refl hs, fun p ⟨i, z⟩ => by simp at z, fun z => by cases z⟩ ⟨?_, ?_, ?_, ?_⟩
    · intro Γ σ H' I' ad hd' s'
      exact q .non H' I' s'.gr (by rw [hd']; exact .non)
    · intro d' Γ v σ H' I' ad hd' s' p
      exact q v H' I' s'.gr (by rw [← hd']; exact p)
    · intro Γ σ H' I' ad z; exact z.elim
    · intro Γ σ H' I' ad z; exact z.elim
def gstO (N : List Str) (sl : Sl) (ds : List PyData) : Ga := (gst N (.none :: ds)).set 0 sl
/-- .. whose first parameter is an owned object -/
theorem fn_own {x qual : Str} {st : Stmt} {f : Addr} {fd : FuncData} {N ps : List Str} {k : Nat} {F : Sl → List PyData → PyData → Sl → Prop} (Fn : Fun K x qual st f fd) (S : FnScope N ps (defScope st)) (len : ∀ sl ds d sl', F sl ds d sl' → ds.length + 1 = ps.length ∧ sl'.flat = false)
    (body : ∀ (cdv : Value) (A : Around) (outer : List Env) (s : Shared) (H : Hp) (E : XK), Room k (A.deeper (envOfC qual (defScope st) s.heap.objs.size f cdv)) →
      ∃ t, PSs (cxOf CX0 P w K mg base N qual (defScope st) f cdv A outer s H E).nox (defBody st) t ∧ ∀ sl ds d sl', F sl ds d sl' → RS K true t (gstO N sl ds) ⟨fun Γ => d = .none ∧ Γ[0]? = some sl', fun d' Γ => d' = d ∧ Γ[0]? = some sl', fun _ => False, fun _ => False⟩) :
    FnOk P w K mg base CX0 (k + 1) f fd ps (PO K F) := by
  refine Fn.ok S (fun vs H Q E h => ?_) (fun cdv A outer s H vs Q E hr h => ?_)
  · obtain ⟨I, v0, ws, sl, as, ds, d, sl', rfl, _, _, _, hd, hF, _⟩ := h
    rw [List.length_cons, Da.len hd]; exact (len sl ds d sl' hF).1
  · obtain ⟨I, v0, ws, sl, as, ds, d, sl', rfl, hs, hr0, ho, hd, hF, q⟩ := h
    obtain ⟨t, ht, hR⟩ := body cdv A outer s H E hr
    refine ⟨t, ht, ?_⟩
    have fl := (len sl ds d sl' hF).2
    have hd0 : DpAll K I (.non :: ws) (.none :: ds) := .cons .non hd
    have s0 := s1_start (N := N) hs hd0
    have hN : 0 < (gst N (.none :: ds)).length := by unfold gst; rw [List.length_append, List.map_cons, List.length_cons]; omega
    have s1 := s0.set (i := 0) (o := some v0) (sl := sl) (as := as) hN hr0 ho (fun j p _ _ z => by simp at z)
    have e0 : (start N (V.non :: ws)).set 0 (some v0) = start N (v0 :: ws) := by
      unfold L2.start
      rw [List.map_cons, List.cons_append, List.set_cons_zero, List.map_cons, List.cons_append]
      rfl
    rw [e0] at s1
    have ad0 : adSet (fun _ => []) 0 as 0 = as := adSet_same
    refine hR sl ds d sl' hF ⟨some v0, as, fun p => p ∈ as, H, I⟩ (start N (v0 :: ws)) H I (adSet (fun _ => []) 0 as) _ ⟨s1, Gr.refl hs, fun p ⟨i, z⟩ => ?_, fun _ => ⟨?_, .inl ad0⟩⟩ ⟨?_, ?_, ?_, ?_⟩
    · by_cases e : i = 0
      · subst e; rw [ad0] at z; exact .inl z
      · rw [adSet_ne e] at z; simp at z
    · unfold L2.start; rw [List.map_cons]; rfl
    · intro Γ σ H' I' ad ⟨hd', hΓ⟩ s'
      obtain ⟨z1, z2⟩ := s'.anc rfl
      have r := s'.s.rel 0 _ _ z1 hΓ
      have e : ad 0 = as := z2.resolve_right (r.own_ne fl)
      rw [e] at r
      exact q .non H' I' s'.gr r (fun p hp => s'.s.own 0 p (by rw [e]; exact hp)) (by rw [hd']; exact .non)
    · intro d' Γ v σ H' I' ad ⟨hd', hΓ⟩ s' p
      obtain ⟨z1, z2⟩ := s'.anc rfl
      have r := s'.s.rel 0 _ _ z1 hΓ
      have e : ad 0 = as := z2.resolve_right (r.own_ne fl)
      rw [e] at r
      exact q v H' I' s'.gr r (fun p hp => s'.s.own 0 p (by rw [e]; exact hp)) (by rw [← hd']; exact p)
    · intro Γ σ H' I' ad z; exact z.elim
    · intro Γ σ H' I' ad z; exact z.elim
end
end DL

/-! DL6: more operations: products and floors of ints of any size, zip of any mix, tuple times int. -/
namespace DL
open PySem PySem.Spec PyProof.Rows L2

/-! ### ints of any size -/
theorem op_mulX {X : Cx} : OpR X (binaryOp .Mult) (rI IntMulOk fun i j => .int (i * j)) := opI fun _ _ _ _ _ _ _ hc q => mul_int q hc
/-- the interpreter's own division module may be asked for: what must be known of the heap and the stack -/
structure PyOk (X : Cx) : Prop where
  seer : X.base.NoSeer
  tree : X.prog.given.tree = none
  top : ∃ env l, X.stack = env :: l ∧ env.scope.isGenerator = false ∧ env.scope.isCoroutine = false ∧ env.builtins = builtinsNs ∧ env.globals = mainGlobals
  room : X.A.depth + Builtin.pylongFrames < recursionLimit
theorem PyOk.run {X : Cx} (h : PyOk X) {pins : List (Addr × Obj)} {σ : L2.St} {H : Hp} {s : Shared} (I : Inv X pins σ H s) : PylongRoom (model X.prog X.w) X.A s := by
  obtain ⟨env, l, h1, h2, h3, h4, h5⟩ := h.top
  exact PylongRoom.of I.nolimit h.room (SeerAt.of (h.seer.keeps I.bk) h.tree (I.ok.frames.trans (by rw [h1])) h2 h3 h4 h5)
theorem op_fdivX {X : Cx} (hp : PyOk X) : OpR X (binaryOp .FloorDiv) (rI (fun _ j => j ≠ 0) fun i j => .int (i.fdiv j)) := by
  intro pins s σ H x y v u Q I rx ry h
  obtain ⟨i, j, rfl, rfl, hc, q⟩ := h
  obtain ⟨t, rfl⟩ := rx
  obtain ⟨t', rfl⟩ := ry
  exact floordiv_int hc ⟨.int (i.fdiv j), H, I.tok _, ⟨_, rfl⟩, q⟩ (.inr (hp.run I))
theorem py_of {X : Cx} {k : Nat} {env : Env} {l : List Env} (hN : X.base.NoSeer) (ht : X.prog.given.tree = none) (hr : Room k X.A) (hk : 33 ≤ k := by decide) (hs : X.stack = env :: l := by rfl)
    (h2 : env.scope.isGenerator = false := by rfl) (h3 : env.scope.isCoroutine = false := by rfl) (h4 : env.builtins = builtinsNs := by rfl) (h5 : env.globals = mainGlobals := by rfl) : PyOk X :=
  ⟨hN, ht, ⟨env, l, hs, h2, h3, h4, h5⟩, by have := hr.dp; show X.A.depth + 100 < recursionLimit; omega⟩

/-! ### zip of any two lists, tuples -/
/-- k: a list (true), a tuple (false) -/
def SqK (k : Bool) (K : PySem.W.Frag) (H : Hp) (a : Addr) (xs : List V) : Prop := if k = true then SqL K H a xs else SqT K H a xs
def IsK (k : Bool) (h : Heap) (a : Addr) (its : Array Value) : Prop := if k = true then h.IsList a its else h.IsTuple a its
def ItK (k : Bool) (h : Heap) (it a : Addr) (i : Nat) : Prop := if k = true then h.IsListIter it a i else h.IsTupleIter it a i
theorem sqK_ex {k : Bool} {K : PySem.W.Frag} {H H' : Hp} {a : Addr} {xs : List V} (e : Ex H H') (h : SqK k K H a xs) : SqK k K H' a xs := by
  cases k with
  | true => exact sqL_ex e h
  | false => exact sqT_ex e h
section
variable {X : Cx} {pins : List (Addr × Obj)} {σ : L2.St} {H : Hp} {s : Shared} {k : Bool} {a : Addr} {xs ys : List V}
theorem inv_seq (I : Inv X pins σ H s) (h : SqK k X.K H a xs) : ∃ its : List Value, Vals xs its ∧ IsK k s.heap a its.toArray ∧ a < s.heap.objs.size := by
  cases k with
  | true =>
    obtain ⟨its, rv, p, _⟩ := I.list h
    have q := p.isList
    exact ⟨its, rv, q, by obtain ⟨o, e, _⟩ := q; exact Heap.lt_size e⟩
  | false =>
    obtain ⟨its, rv, p, _⟩ := I.tuple h
    exact ⟨its, rv, p, by obtain ⟨o, e, _⟩ := p; exact Heap.lt_size e⟩
theorem inv_inj (I : Inv X pins σ H s) (h : SqK k X.K H a xs) (h' : SqK k X.K H a ys) : xs = ys := by
  cases k with
  | true => exact I.list_inj h h'
  | false => exact I.tuple_inj h h'
end
theorem draws_k {prog : Program} {w : World} {A : Around} (k : Bool) (hh : A.handled = none) (it l : Addr) (hne : l ≠ it) (its : Array Value) : Draws prog w A it [it, l] its.size (fun i v => its[i]? = some v) (fun i h => ItK k h it l i ∧ IsK k h l its) := by
  cases k with
  | true => exact Draws.list hh it l hne its
  | false => exact Draws.tuple hh it l hne its
theorem itK_obj {k : Bool} {h : Heap} {it a : Addr} {i : Nat} (x : ItK k h it a i) : ∃ o, h.get? it = some o ∧ ∀ v, o.data ≠ .cell v := by
  cases k with
  | true => obtain ⟨o, e, _, d⟩ := x; exact ⟨o, e, fun v q => by rw [d] at q; cases q⟩
  | false => obtain ⟨o, e, _, d⟩ := x; exact ⟨o, e, fun v q => by rw [d] at q; cases q⟩
theorem itK_keep {k : Bool} {h h' : Heap} {it a : Addr} {i : Nat} (x : ItK k h it a i) (e : ∀ o, h.get? it = some o → h'.get? it = some o) : ItK k h' it a i := by
  cases k with
  | true => exact Heap.IsListIter.at x e
  | false => exact Heap.IsTupleIter.at x e
/-- what the five cells of a zip are -/
structure Sep (z TI TO i1 i2 a b : Addr) : Prop where
  zs : ZipSep2 z TI TO i1 i2 [i1, a] [i2, b]
  n1 : a ≠ i1
  n2 : b ≠ i2
def ItX (K : PySem.W.Frag) (k1 k2 : Bool) (a b : Addr) : It :=
  ⟨fun i H => ∃ (xs ys : List V) (x y : V), SqK k1 K H a xs ∧ SqK k2 K H b ys ∧ xs[i]? = some x ∧ ys[i]? = some y,
    fun i H v H' => ∃ T x y, v = .ref T ∧ H T = none ∧ H' = upd H T (.tup [x, y]) ∧ (∀ xs, SqK k1 K H a xs → xs[i]? = some x) ∧ ∀ ys, SqK k2 K H b ys → ys[i]? = some y,
    fun i H => ∃ xs ys : List V, SqK k1 K H a xs ∧ SqK k2 K H b ys ∧ i ≤ xs.length ∧ i ≤ ys.length ∧ (i = xs.length ∨ i = ys.length)⟩
theorem turn_zipX {P : Program} {w : World} {K : PySem.W.Frag} {elts : List Expr} {kk : Nat} {tpos : Pos} {k1 k2 : Bool} {a b z TI TO i1 i2 : Addr} (D : Sep z TI TO i1 i2 a b) :
    Turn P w K (.Tuple elts kk tpos) (ItX K k1 k2 a b) [z, TI, TO, i1, i2] z (fun i h => IsZip h z TI TO .none ∧ IsTupOf2 h TI (.ref i1) (.ref i2) ∧ (∃ x y, IsTupOf2 h TO x y) ∧ ItK k1 h i1 a i ∧ ItK k2 h i2 b i) where
  mem := by simp
  obj := fun i h st c hc => by
    obtain ⟨hz, hTI, ⟨x, y, hTO⟩, h1, h2⟩ := st
    simp only [List.mem_cons, List.not_mem_nil, or_false] at hc
    rcases hc with q | q | q | q | q
    · rw [q]; exact ⟨_, hz, fun v q => nomatch q⟩
    · rw [q]; exact ⟨_, hTI, fun v q => nomatch q⟩
    · rw [q]; exact ⟨_, hTO, fun v q => nomatch q⟩
    · rw [q]; exact itK_obj h1
    · rw [q]; exact itK_obj h2
  keep := fun i h h' st e => by
    obtain ⟨hz, hTI, ⟨x, y, hTO⟩, h1, h2⟩ := st
    exact ⟨e z (by simp) _ hz, e TI (by simp) _ hTI, ⟨x, y, e TO (by simp) _ hTO⟩, itK_keep h1 (e i1 (by simp)), itK_keep h2 (e i2 (by simp))⟩
  item := by
    intro X hP hw hK hc i pins s σ H E I hf st hg
    subst hP hw hK
    obtain ⟨hz, hTI, ⟨x0, y0, hTO⟩, h1, h2⟩ := st
    obtain ⟨xs, ys, x, y, hqx, hqy, hx, hy⟩ := hg
    obtain ⟨its, rv, p, la⟩ := inv_seq I hqx
    obtain ⟨its2, rv2, p2, lb⟩ := inv_seq I hqy
    obtain ⟨u, hu, ru⟩ := rv.get hx
    obtain ⟨u2, hu2, ru2⟩ := rv2.get hy
    have hh : X.A.in1.handled = none := I.ok.hd hc
    have lx := (List.getElem?_eq_some_iff.mp hu).1
    have ly := (List.getElem?_eq_some_iff.mp hu2).1
    have hzl : z < s.heap.objs.size := Heap.lt_size hz
    refine wpAny_pyNext_zipD2_item D.zs (draws_k k1 hh i1 a D.n1 its.toArray) (draws_k k2 hh i2 b D.n2 its2.toArray) hz hTI hTO ⟨h1, p⟩ ⟨h2, p2⟩ (by simpa using lx) (by simpa using ly)
      fun v1 v2 h' tk e1 e2 z' TO' st1 st2 hT hsz hk => ?_
    have ev1 : v1 = u := by
      have q : its[i]? = some v1 := by simpa using e1
      rw [hu] at q; exact (Option.some.inj q).symm
    have ev2 : v2 = u2 := by
      have q : its2[i]? = some v2 := by simpa using e2
      rw [hu2] at q; exact (Option.some.inj q).symm
    subst ev1 ev2
    refine ⟨_, rfl, wpAny_letOwnedTupleGo_zip (s := { s with heap := h', toks := tk }) z' fun h'' z'' sb => ?_⟩
    have hT2 : h''.get? s.heap.objs.size = some { cls := .type "tuple", data := .seq #[v1, v2] } := (sb.2 _ (Nat.ne_of_gt hzl)).trans hT
    have new : ObjOk X.prog X.w (upd H s.heap.objs.size (.tup [x, y])) h'' s.heap.objs.size (.tup [x, y]) :=
      ⟨by show 2 ≤ sizeLine; decide, [v1, v2], .cons ru (.cons ru2 .nil), ⟨_, hT2, rfl, _, rfl⟩⟩
    have I1 : Inv X pins σ (upd H s.heap.objs.size (.tup [x, y])) { s with heap := h'', toks := tk } :=
      I.turnedNew (t' := tk) (ch := [z, TI, TO, i1, i2]) (fun c o hb q => (sb.2 c (fun q' => hb (by simp [q']))).trans (hk c o (fun q' => hb (by simp [q'])) (fun q' => hb (by simp [q'])) (fun q' => hb (by simp [q'])) (fun q' => hb (by simp [q'])) q)) hf (Nat.le_refl _) new
    refine ⟨.ref s.heap.objs.size, _, I1, rfl, ⟨_, x, y, rfl, I.hok.fresh (Nat.le_refl _), rfl, fun l hl => by rw [inv_inj I hl hqx]; exact hx, fun l hl => by rw [inv_inj I hl hqy]; exact hy⟩, ⟨z'', ?_, ⟨v1, v2, ?_⟩, ?_, ?_⟩, fun c hcm => ?_⟩
    · exact (sb.2 _ D.zs.TIz).trans (hk _ _ D.zs.TIz D.zs.TITO D.zs.TIi1 D.zs.TIi2 hTI)
    · exact (sb.2 _ D.zs.TOz).trans TO'
    · exact itK_keep st1.1 fun o q => (sb.2 _ (Ne.symm D.zs.zi1)).trans q
    · exact itK_keep st2.1 fun o q => (sb.2 _ (Ne.symm D.zs.zi2)).trans q
    · have hlt : c < s.heap.objs.size := by
        simp only [List.mem_cons, List.not_mem_nil, or_false] at hcm
        rcases hcm with q | q | q | q | q
        · rw [q]; exact hzl
        · rw [q]; exact Heap.lt_size hTI
        · rw [q]; exact Heap.lt_size hTO
        · rw [q]; obtain ⟨_, e1, _⟩ := itK_obj h1; exact Heap.lt_size e1
        · rw [q]; obtain ⟨_, e2, _⟩ := itK_obj h2; exact Heap.lt_size e2
      rw [upd_ne (Nat.ne_of_lt hlt)]
      exact (hf c hcm).1
  done := by
    intro X hP hw hK hc i pins s σ H E I hf st hg
    subst hP hw hK
    obtain ⟨hz, hTI, ⟨x0, y0, hTO⟩, h1, h2⟩ := st
    obtain ⟨xs, ys, hqx, hqy, e1, e2, e3⟩ := hg
    obtain ⟨its, rv, p, la⟩ := inv_seq I hqx
    obtain ⟨its2, rv2, p2, lb⟩ := inv_seq I hqy
    have hh : X.A.in1.handled = none := I.ok.hd hc
    have l1 := rv.length
    have l2 := rv2.length
    exact wpAny_pyNext_zipD2_end D.zs (draws_k k1 hh i1 a D.n1 its.toArray) (draws_k k2 hh i2 b D.n2 its2.toArray) hz hTI hTO ⟨h1, p⟩ ⟨h2, p2⟩ (by simp; omega) (by simp; omega) (by simp; omega)
      fun h' tk hk => ⟨rfl, I.turnedL (t' := tk) (ch := [z, TI, TO, i1, i2]) (fun c o hb q =>
        hk c o (fun q' => hb (by simp [q'])) (fun q' => hb (by simp [q'])) (fun q' => hb (by simp [q'])) (fun q' => hb (by simp [q'])) q) hf⟩
  self := fun A i s Q E st h => wpAny_pyIter_zip st.1 h
def itObj (k : Bool) (a : Addr) : Obj := if k = true then { cls := .type "list_iterator", data := .fields #[.ref a, .int 0 0] } else { cls := .type "tuple_iterator", data := .fields #[.ref a, .int 0 0] }
theorem begins_k (k : Bool) (a : Addr) (its : Array Value) : Begins (.ref a) (itObj k a) (fun h => IsK k h a its) := by
  cases k with
  | true => exact begins_list a its
  | false => exact begins_tuple a its
theorem itK_new {k : Bool} {h : Heap} {it a : Addr} (e : h.get? it = some (itObj k a)) : ItK k h it a 0 := by
  cases k with
  | true => exact ⟨_, e, rfl, rfl⟩
  | false => exact ⟨_, e, rfl, rfl⟩
def iZipX (K : PySem.W.Frag) (ta : TA) : TI := fun σ H R => ta σ H fun vs H1 => ∃ k1 k2 a b xs ys, vs = [.ref a, .ref b] ∧ SqK k1 K H1 a xs ∧ SqK k2 K H1 b ys ∧ R (ItX K k1 k2 a b) H1
theorem pi_zipX {X : Cx} {e e2 : Expr} {ta : TA} {p pos tpos : Pos} {elts : List Expr} {kk : Nat} (hg : Gl X "zip") (hm : X.mg "zip" = none) (ha : PA X [e, e2] ta)
    (hs : starEach [e, e2] X.env = (false, eval e X.env) :: starEach [e2] X.env := by rfl) (hpl : (backTo pos (starEach [e2] X.env)).any (·.1) = false := by rfl) :
    PI X (.Tuple elts kk tpos) (.Call (.Name "zip" p) [e, e2] [] pos) (iZipX X.K ta) := by
  refine ⟨fun pins s σ H R I h => ?_⟩
  refine Call_ (ld_blt I hg hm PyProof.Rows.boot_zip (PyProof.Rows.callWith_type1 (thn (ha.run pos pins s σ H _ I h) fun us s1 ⟨vs, H1, I1, r1, q1⟩ => ?_) hs hpl))
  obtain ⟨k1, k2, a, b, xs, ys, ex, hx, hy, q⟩ := q1
  subst ex
  cases r1 with
  | cons r rr =>
    cases rr with
    | cons r' rr =>
      cases rr
      cases r
      cases r'
      obtain ⟨its, rv, p1, la⟩ := inv_seq I1 hx
      obtain ⟨its2, rv2, p2, lb⟩ := inv_seq I1 hy
      refine zip_begins2 (begins_k k1 a its.toArray) (begins_k k2 b its2.toArray) p1 p2 fun h' z TI TO o1 o2 hsz hk => wpAny_pyIter_zip z ?_
      have sep : ZipSep2 (s1.heap.objs.size + 4) (s1.heap.objs.size + 2) (s1.heap.objs.size + 3) s1.heap.objs.size (s1.heap.objs.size + 1) [s1.heap.objs.size, a] [s1.heap.objs.size + 1, b] :=
        zip_sep2 (fp1 := [a]) (fp2 := [b]) (fun c hc => by rw [List.mem_singleton.mp hc]; exact la) (fun c hc => by rw [List.mem_singleton.mp hc]; exact lb)
      refine ⟨s1.heap.objs.size + 4, [s1.heap.objs.size + 4, s1.heap.objs.size + 2, s1.heap.objs.size + 3, s1.heap.objs.size, s1.heap.objs.size + 1], _, _, H1, rfl, I1.kept (t' := s1.toks) hk,
        turn_zipX ⟨sep, Nat.ne_of_lt la, Nat.ne_of_lt (Nat.lt_succ_of_lt lb)⟩, ⟨z, TI, ⟨_, _, TO⟩, itK_new o1, itK_new o2⟩, fun c hc => ?_, q⟩
      have hle : s1.heap.objs.size ≤ c := by
        simp only [List.mem_cons, List.not_mem_nil, or_false] at hc
        rcases hc with z | z | z | z | z <;> rw [z] <;> first | exact Nat.le_refl _ | exact Nat.le_add_right _ _
      exact I1.fpOk hle (I1.hok.fresh hle)
section
variable {K : PySem.W.Frag} {Γ Γ1 : Ga} {tr : TA} {ds es : List PyData} {I : Hp}
/-- the items of a list or a tuple -/
def seqD : PyData → Option (List PyData)
  | .list ds => some ds
  | .tuple ds => some ds
  | _ => none
theorem dp_seq {x : V} {d : PyData} (h : Dp K I x d) (e : seqD d = some ds) : ∃ k p vs, x = .ref p ∧ SqK k K I p vs ∧ DpAll K I vs ds := by
  cases h with
  | lst a b => cases e; exact ⟨true, _, _, rfl, a, b⟩
  | tup a b => cases e; exact ⟨false, _, _, rfl, a, b⟩
  | _ => cases e
theorem wd_zipX {k1 k2 : Bool} {a b : Addr} {xs ys : List PyData} {vs ws : List V} (ha : SqK k1 K I a vs) (hb : SqK k2 K I b ws) (da : DpAll K I vs xs) (db : DpAll K I ws ys) : WD K (ItX K k1 k2 a b) (zipD xs ys) I := by
  have l1 := Da.len da
  have l2 := Da.len db
  refine ⟨fun i H hi e => ?_, fun H e => ⟨vs, ws, sqK_ex e ha, sqK_ex e hb, ?_⟩, fun i d H I1 x H' e u v y => ?_⟩
  · rw [zip_len] at hi
    exact ⟨vs, ws, vs[i]'(by omega), ws[i]'(by omega), sqK_ex e ha, sqK_ex e hb, List.getElem?_eq_getElem _, List.getElem?_eq_getElem _⟩
  · rw [zip_len]; omega
  · obtain ⟨T, p, q, rfl, hT, rfl, f1, f2⟩ := y
    obtain ⟨d1, d2, e1, e2, rfl⟩ := zip_at e
    obtain ⟨v1, q1, r1⟩ := Da.at da e1
    obtain ⟨v2, q2, r2⟩ := Da.at db e2
    have z1 := f1 vs (sqK_ex (u.trans v) ha)
    have z2 := f2 ws (sqK_ex (u.trans v) hb)
    rw [q1] at z1; rw [q2] at z2; cases z1; cases z2
    exact ⟨_, (pair_dp (Dp.ex r1 u) (Dp.ex r2 u) v hT).1, (pair_dp (Dp.ex r1 u) (Dp.ex r2 u) v hT).2⟩
theorem ri_zip {d1 d2 : PyData} (h : RA K tr Γ [d1, d2] Γ1) (h1 : seqD d1 = some ds) (h2 : seqD d2 = some es) : RI K (iZipX K tr) Γ (zipD ds es) Γ1 := fun σ H I ad s R q => h σ H I ad s _ fun vs H1 I1 ad1 s1 g1 b1 p1 => by
  obtain ⟨v, w, rfl, q1, q2⟩ := da2 p1
  obtain ⟨k1, a, xs, rfl, ha, da⟩ := dp_seq q1 h1
  obtain ⟨k2, b, ys, rfl, hb, db⟩ := dp_seq q2 h2
  exact ⟨k1, k2, a, b, xs, ys, rfl, sqK_ex s1.sub ha, sqK_ex s1.sub hb, q _ H1 I1 ad1 s1 g1 b1 (wd_zipX ha hb da db)⟩
end

/-! ### tuple * 1 -/
theorem tuple_mul1 (l : Addr) (items : Array Value) (n : Nat) (dd : Option Addr) (sl : Array (Option Value)) (u : Tok) :
    Meets (Builtin.«tuple.__mul__» ⟨[.ref l, .int 1 u], []⟩) (fun _ R s => s.heap.get? l = some { cls := .type "tuple", dict := dd, data := .seq items n, slots := sl } ∧ R (.ok (.ret (Value.ref l))) s) :=
  .of_wp fun prog w A R s h => by
    obtain ⟨hp, g, d, tk, os⟩ := s
    obtain ⟨hl, h⟩ := h
    have f1 := AutoSeq1.idx_int
    have c1 : (items.isEmpty || (1 : Int) == 1) = true := by simp
    wp_walk using wpAny_loadPart' hl
    exact ⟨_, rfl, h⟩
def rRep1 (K : PySem.W.Frag) : R2 := fun x y H Q => ∃ l xs, x = .ref l ∧ y = .int 1 ∧ SqT K H l xs ∧ Q (.ref l) H
theorem op_rep1 {X : Cx} : OpR X (binaryOp .Mult) (rRep1 X.K) := by
  intro pins s σ H x y v u Q I rx ry h
  obtain ⟨l, xs, rfl, rfl, hT, q⟩ := h
  cases rx
  obtain ⟨t, rfl⟩ := ry
  obtain ⟨its, r, ⟨⟨cls, dd, data, sl⟩, ho, hc, n, hd⟩, hs⟩ := I.tuple hT
  simp only at hc hd
  subst hc hd
  refine wpAny_binaryOp_repeat_ref (T := "tuple") (U := "int") (by decide) ⟨_, ho, rfl⟩ (fun s' => typeIs_int s' 1 t) noFill_tuple_mul F.fills_int_mul F.slot_int_rmul repeat_tuple F.slot_int_index.lookup
    (call_meets F.slot_int_rmul (typeIs_int s 1 t) F.entry_int_rmul (F.args_int_rmul_2 _ _) (int_rmul_tuple 1 t l its.toArray n dd sl)
      ⟨ho, rfl, ⟨_, ho, rfl⟩, call_meets F.slot_tuple_mul ⟨_, ho, rfl⟩ F.entry_tuple_mul (F.args_tuple_mul_2 _ _) (tuple_mul1 l its.toArray n dd sl t) ⟨ho, ?_⟩⟩)
  exact ⟨.ref l, H, I, rfl, q⟩

/-! ### + and *, whatever the operands are -/
abbrev rAddX (K : PySem.W.Frag) : R2 := fun x y H Q => rI0 (fun i j => V.int (i + j)) x y H Q ∨ (rCatA K x y H Q ∨ rCat x y H Q)
theorem op_addX {X : Cx} : OpR X (binaryOp .Add) (rAddX X.K) := op_add.or (op_catA.or op_cat)
abbrev rMulX (K : PySem.W.Frag) : R2 := fun x y H Q => rI IntMulOk (fun i j => V.int (i * j)) x y H Q ∨ (rRep x y H Q ∨ (rRep1 K x y H Q ∨ rRepT K x y H Q))
theorem op_mulA {X : Cx} : OpR X (binaryOp .Mult) (rMulX X.K) := op_mulX.or (op_rep.or (op_rep1.or op_repT))
abbrev rEqX (K : PySem.W.Frag) : R2 := fun x y H Q => rEq x y H Q ∨ rEqD K x y H Q
abbrev rNeX (K : PySem.W.Frag) : R2 := fun x y H Q => rNe x y H Q ∨ rNeD K x y H Q
theorem op_eqX {X : Cx} (hu : X.A.units + 64 < cLine) : OpR X (compareOp .Eq) (rEqX X.K) := op_eq.or (op_eqD hu)
theorem op_neX {X : Cx} (hu : X.A.units + 64 < cLine) : OpR X (compareOp .NotEq) (rNeX X.K) := op_ne.or (op_neD hu)
theorem sl_any {X : Cx} : SlR X (rSlAny X.K) := SlR.or sl_list sl_tupA
section
variable {K : PySem.W.Frag} {Γ Γ1 Γ2 : Ga} {ta tb te : TE} {d d1 d2 : PyData} {ds es : List PyData} {i j : Int}
theorem re_addI (ha : RE K ta Γ (.int i) Γ1) (hb : RE K tb Γ1 (.int j) Γ2) : RE K (tOp (rAddX K) ta tb) Γ (.int (i + j)) Γ2 := re_op ha hb (od_l od_add)
theorem re_addT (ha : RE K ta Γ (.tuple ds) Γ1) (hb : RE K tb Γ1 (.tuple es) Γ2) (hz : ds.length + es.length ≤ sizeLine) : RE K (tOp (rAddX K) ta tb) Γ (.tuple (ds ++ es)) Γ2 := re_op ha hb (od_r (od_l (od_catT hz)))
theorem rl_addL (ha : RL K ta Γ ds Γ1) (hb : RL K tb Γ1 es Γ2) (hz : ds.length + es.length ≤ sizeLine) : RL K (tOp (rAddX K) ta tb) Γ (ds ++ es) Γ2 := fun σ H I ad s Q q =>
  ha σ H I ad s _ fun p us H1 I1 ad1 s1 g1 b1 hp hi hu hd => hb σ H1 I1 ad1 s1 _ fun p2 ws H2 I2 ad2 s2 g2 b2 hp2 hi2 hw hd2 => by
    have no1 : ¬ Own ad1 p := fun z => s.free hp (b1.own p z)
    refine .inr (.inr ⟨p, p2, us, ws, rfl, rfl, g2.h p _ no1 hu, hw, by rw [Da.len hd, Da.len hd2]; exact hz, fun l hl => ?_⟩)
    exact q l _ _ I2 ad2 (s2.fresh hl).1 (g1.trans ((g2.mono b1.own).trans (s2.fresh hl).2.no)) (b1.trans b2) (g1.k l (g2.k l hl)) (s2.sub.non_ hl) upd_same (Da.app (Da.ex hd g2.i) hd2)
theorem re_subI (ha : RE K ta Γ (.int i) Γ1) (hb : RE K tb Γ1 (.int j) Γ2) : RE K (tOp (rI0 fun i j => V.int (i - j)) ta tb) Γ (.int (i - j)) Γ2 := re_op ha hb od_sub
theorem re_mulI (ha : RE K ta Γ (.int i) Γ1) (hb : RE K tb Γ1 (.int j) Γ2) (hm : IntMulOk i j) : RE K (tOp (rMulX K) ta tb) Γ (.int (i * j)) Γ2 := re_op ha hb (od_l (od_mul hm))
theorem rl_mulL (ha : RL K ta Γ ds Γ1) (hb : RE K tb Γ1 (.int j) Γ2) (h0 : 0 ≤ j ∧ j ≤ 1000000) (hz : ds.length * j.toNat ≤ sizeLine) : RL K (tOp (rMulX K) ta tb) Γ (List.replicate j.toNat ds).flatten Γ2 := fun σ H I ad s Q q =>
  ha σ H I ad s _ fun p us H1 I1 ad1 s1 g1 b1 hp hi hu hd => hb σ H1 I1 ad1 s1 _ fun y H2 I2 ad2 s2 g2 b2 p2 => by
    cases p2
    have no1 : ¬ Own ad1 p := fun z => s.free hp (b1.own p z)
    refine .inr (.inl ⟨p, j, us, rfl, rfl, g2.h p _ no1 hu, by omega, by omega, by rw [Da.len hd]; exact hz, fun l hl => ?_⟩)
    exact q l _ _ I2 ad2 (s2.fresh hl).1 (g1.trans ((g2.mono b1.own).trans (s2.fresh hl).2.no)) (b1.trans b2) (g1.k l (g2.k l hl)) (s2.sub.non_ hl) upd_same (da_rep (Da.ex hd g2.i) _)
/-- (x,) * n, n from 1 on -/
theorem re_mulT (ha : RE K ta Γ (.tuple [d]) Γ1) (hb : RE K tb Γ1 (.int j) Γ2) (h0 : 1 ≤ j ∧ j ≤ 1000) : RE K (tOp (rMulX K) ta tb) Γ (.tuple (List.replicate j.toNat d)) Γ2 := fun σ H I ad s Q q =>
  ha σ H I ad s _ fun x H1 I1 ad1 s1 g1 b1 p1 => hb σ H1 I1 ad1 s1 _ fun y H2 I2 ad2 s2 g2 b2 p2 => by
    cases p2
    have p1' := Dp.ex p1 g2.i
    obtain ⟨a, xs, rfl, h1, h2⟩ := dp_tup p1'
    have gg := g1.trans (g2.mono b1.own)
    by_cases hj : j = 1
    · subst hj
      exact .inr (.inr (.inl ⟨a, xs, rfl, rfl, sqT_ex s2.sub h1, q _ H2 I2 ad2 s2 gg (b1.trans b2) p1'⟩))
    · obtain ⟨v, rfl, hv⟩ := da1 h2
      refine .inr (.inr (.inr ⟨a, j, [v], rfl, rfl, sqT_ex s2.sub h1, by simp, by omega, h0.2, by simp, fun p hp => ?_⟩))
      have e : ∀ n : Nat, DpAll K I2 (List.replicate n [v]).flatten (List.replicate n d) := fun n => by
        induction n with
        | zero => exact .nil
        | succ n ih => rw [List.replicate_succ, List.replicate_succ, List.flatten_cons]; exact .cons hv ih
      exact q _ _ _ ad2 (s2.gr (Gr.new s2.sub hp)) (gg.trans (Gr.new s2.sub hp).no) (b1.trans b2) (.tup (.inl (.inl upd_same)) (Da.ex (e _) (Ex.new_ (s2.sub.non_ hp))))
theorem re_eqI (ha : RE K ta Γ (.int i) Γ1) (hb : RE K tb Γ1 (.int j) Γ2) : RE K (tOp (rEqX K) ta tb) Γ (.bool (decide (i = j))) Γ2 := re_op ha hb (od_l od_eqI)
theorem re_neI (ha : RE K ta Γ (.int i) Γ1) (hb : RE K tb Γ1 (.int j) Γ2) : RE K (tOp (rNeX K) ta tb) Γ (.bool (!decide (i = j))) Γ2 := re_op ha hb (od_l od_neI)
theorem re_eqD (ha : RE K ta Γ d1 Γ1) (hb : RE K tb Γ1 d2 Γ2) (h1 : SeqAt.shaped d1 = true) (h2 : SeqAt.shaped d2 = true) : RE K (tOp (rEqX K) ta tb) Γ (.bool (PyData.eqv d1 d2)) Γ2 := re_op ha hb (od_r (od_eqD h1 h2))
theorem re_neD (ha : RE K ta Γ d1 Γ1) (hb : RE K tb Γ1 d2 Γ2) (h1 : SeqAt.shaped d1 = true) (h2 : SeqAt.shaped d2 = true) : RE K (tOp (rNeX K) ta tb) Γ (.bool (!PyData.eqv d1 d2)) Γ2 := re_op ha hb (od_r (od_neD h1 h2))
theorem re_fdivI {C : Int → Int → Prop} (ha : RE K ta Γ (.int i) Γ1) (hb : RE K tb Γ1 (.int j) Γ2) (h : C i j) : RE K (tOp (rI C fun i j => V.int (i.fdiv j)) ta tb) Γ (.int (i.fdiv j)) Γ2 := re_op ha hb (od_fdiv h)
theorem re_modI (ha : RE K ta Γ (.int i) Γ1) (hb : RE K tb Γ1 (.int j) Γ2) (h : j ≠ 0) : RE K (tOp (rI (fun _ j => j ≠ 0) fun i j => V.int (i.fmod j)) ta tb) Γ (.int (i.fmod j)) Γ2 := re_op ha hb (od_mod h)
theorem re_powI (ha : RE K ta Γ (.int i) Γ1) (hb : RE K tb Γ1 (.int j) Γ2) (h : CPow i j) : RE K (tOp (rI CPow fun i j => V.int (i ^ j.toNat)) ta tb) Γ (.int (i ^ j.toNat)) Γ2 := re_op ha hb (od_pow h)
theorem re_ixL (ha : RE K ta Γ (.list ds) Γ1) (hb : RE K tb Γ1 (.int i) Γ2) (e : atI ds i = some d) : RE K (tOp (rIx K) ta tb) Γ d Γ2 := re_op ha hb (od_ixL e)
theorem re_ixT (ha : RE K ta Γ (.tuple ds) Γ1) (hb : RE K tb Γ1 (.int i) Γ2) (e : atI ds i = some d) : RE K (tOp (rIx K) ta tb) Γ d Γ2 := re_op ha hb (od_ixT e)
theorem re_ixS (ha : RE K ta Γ d1 Γ1) (hs : seqD d1 = some ds) (hb : RE K tb Γ1 (.int i) Γ2) (e : atI ds i = some d) : RE K (tOp (rIx K) ta tb) Γ d Γ2 := by
  cases d1 <;> first | cases hs | skip
  · exact re_ixL ha hb e
  · exact re_ixT ha hb e
/-- isinstance(e, T), T a built-in class -/
theorem re_isi {T : String} {b : Bool} (h : RE K te Γ d Γ1) (hb : (match d with
    | .none => PySem.W.kitOne K (.type "NoneType") (.type T) | .bool _ => PySem.W.kitOne K (.type "bool") (.type T) | .int _ => PySem.W.kitOne K (.type "int") (.type T) | .str _ => PySem.W.kitOne K (.type "str") (.type T)
    | .list _ => PySem.W.kitOne K (.type "list") (.type T) | .tuple _ => PySem.W.kitOne K (.type "tuple") (.type T) | .dict _ => none) = some b) : RE K (tCB (rIsi K) (tCons te (tCons (tC (.ty T)) tNil))) Γ (.bool b) Γ1 := fun σ H I ad s Q q =>
  h σ H I ad s _ fun v H1 I1 ad1 s1 g1 b1 p1 => by
    have fin := q (.bl b) H1 I1 ad1 s1 g1 b1 (.bl b)
    cases p1 with
    | non => exact ⟨_, _, _, _, b, rfl, .ty T, .base .non, hb, fin⟩
    | bl x => exact ⟨_, _, _, _, b, rfl, .ty T, .base (.bl x), hb, fin⟩
    | int x => exact ⟨_, _, _, _, b, rfl, .ty T, .base (.int x), hb, fin⟩
    | str x => exact ⟨_, _, _, _, b, rfl, .ty T, .base (.str x), hb, fin⟩
    | lst a _ =>
      rcases sqL_ex s1.sub a with (a | ⟨o, a⟩) | ⟨o, its, n, a, c, _⟩
      · exact ⟨_, _, _, _, b, rfl, .ty T, .base (.lst a), hb, fin⟩
      · exact ⟨_, _, _, _, b, rfl, .ty T, .base (.frz a), hb, fin⟩
      · exact ⟨_, _, _, _, b, rfl, .ty T, .kList a c, hb, fin⟩
    | tup a _ =>
      rcases sqT_ex s1.sub a with (a | ⟨o, a⟩) | ⟨o, its, n, a, c, _⟩
      · exact ⟨_, _, _, _, b, rfl, .ty T, .base (.tup a), hb, fin⟩
      · exact ⟨_, _, _, _, b, rfl, .ty T, .fTuple a, hb, fin⟩
      · exact ⟨_, _, _, _, b, rfl, .ty T, .kTuple a c, hb, fin⟩
end
end DL

/-! DL7: defs that are called by name, the surroundings, targets of any kind. -/
namespace DL
open PySem PySem.Spec PyProof.Rows L2

structure Sur (P : Program) (mg : Str → Option Value) (base : Heap) : Prop where
  no : ∀ x ∈ (["range", "zip", "len", "sum", "tuple", "list", "int", "sorted", "all", "any", "min", "max", "isinstance", "enumerate", "bool", "abs", "repr", "set", "dict", "str", "reversed"] : List Str), mg x = none
  seer : base.NoSeer
  tree : P.given.tree = none
structure Cal (P : Program) (w : World) (K : PySem.W.Frag) (mg : Str → Option Value) (base : Heap) (x : Str) (k : Nat) (ps : List Str) (sp : Sp) : Prop where
  ex : ∃ f fd, FnOk P w K mg base CX0 k f fd ps sp ∧ mg x = some (.ref f) ∧ PySem.W.keepIn K (.ref f) = true ∧ Binds K fd ps []
structure FunAt (K : PySem.W.Frag) (mg : Str → Option Value) (x : Str) (st : Stmt) : Prop where
  ex : ∃ f fd, Fun K x x st f fd ∧ mg x = some (.ref f)
theorem pe_own {X : Cx} {x : Str} {k : Nat} {ps : List Str} {sp : Sp} {p pos : Pos} {e : Expr} {es : List Expr} {t : TA} (C : Cal X.prog X.w X.K X.mg X.base x k ps sp) (hr : Room k X.A) (hg : Gl X x) (ha : PA X (e :: es) t) (hdb : (x == ("__debug__" : Str)) = false := by decide) (he : starEach (e :: es) X.env = (false, eval e X.env) :: starEach es X.env := by rfl) (hpl : (backTo pos (starEach es X.env)).any (·.1) = false := by rfl) :
    PE X (.Call (.Name x p) (e :: es) [] pos) (tCall sp [] E0 t) := by
  obtain ⟨f, fd, G, hm, hk, hb⟩ := C.ex
  exact pe_call G hr hg hm hk hb .nil pass0 ha hdb he hpl
section
variable {P : Program} {w : World} {K : PySem.W.Frag} {mg : Str → Option Value} {base : Heap}
theorem cal_pure {x : Str} {st : Stmt} {N ps : List Str} {k : Nat} {F : List PyData → PyData → Prop} (A : FunAt K mg x st) (S : FnScope N ps (defScope st))
    (bnd : ∀ (kV doc pm : Value) (an : Option Addr) (cdv ct : Value) (us : List Value), us.length = ps.length → bindArgs (PySem.W.fnOf x x (defArgs st) (defBody st) (defScope st) .none kV doc pm an cdv ct) ⟨us, []⟩ = pure (ps.zip us))
    (len : ∀ ds d, F ds d → ds.length = ps.length)
    (body : ∀ (f : Addr) (cdv : Value) (A : Around) (outer : List Env) (s : Shared) (H : Hp) (E : XK), Room k (A.deeper (envOfC x (defScope st) s.heap.objs.size f cdv)) →
      ∃ t, PSs (cxOf CX0 P w K mg base N x (defScope st) f cdv A outer s H E).nox (defBody st) t ∧ ∀ ds d, F ds d → RS K false t (gst N ds) ⟨fun _ => d = .none, fun d' _ => d' = d, fun _ => False, fun _ => False⟩) :
    Cal P w K mg base x (k + 1) ps (PR K F) := by
  obtain ⟨f, fd, Fn, hm⟩ := A.ex
  exact ⟨f, fd, fn_pure Fn S len (body f), hm, Fn.kp, Fn.binds bnd⟩
theorem cal_own {x : Str} {st : Stmt} {N ps : List Str} {k : Nat} {F : Sl → List PyData → PyData → Sl → Prop} (A : FunAt K mg x st) (S : FnScope N ps (defScope st))
    (bnd : ∀ (kV doc pm : Value) (an : Option Addr) (cdv ct : Value) (us : List Value), us.length = ps.length → bindArgs (PySem.W.fnOf x x (defArgs st) (defBody st) (defScope st) .none kV doc pm an cdv ct) ⟨us, []⟩ = pure (ps.zip us))
    (len : ∀ sl ds d sl', F sl ds d sl' → ds.length + 1 = ps.length ∧ sl'.flat = false)
    (body : ∀ (f : Addr) (cdv : Value) (A : Around) (outer : List Env) (s : Shared) (H : Hp) (E : XK), Room k (A.deeper (envOfC x (defScope st) s.heap.objs.size f cdv)) →
      ∃ t, PSs (cxOf CX0 P w K mg base N x (defScope st) f cdv A outer s H E).nox (defBody st) t ∧ ∀ sl ds d sl', F sl ds d sl' → RS K true t (gstO N sl ds) ⟨fun Γ => d = .none ∧ Γ[0]? = some sl', fun d' Γ => d' = d ∧ Γ[0]? = some sl', fun _ => False, fun _ => False⟩) :
    Cal P w K mg base x (k + 1) ps (PO K F) := by
  obtain ⟨f, fd, Fn, hm⟩ := A.ex
  exact ⟨f, fd, fn_own Fn S len (body f), hm, Fn.kp, Fn.binds bnd⟩
end
/-- a, b = a tuple or a list -/
abbrev gAny (K : PySem.W.Frag) (n : Nat) (t : TGs) : TG := fun v σ H Q => gTup K n t v σ H Q ∨ gUnl K n t v σ H Q
theorem PG.or {X : Cx} {e : Expr} {g h : TG} (a : PG X e g) (b : PG X e h) : PG X e (fun v σ H Q => g v σ H Q ∨ h v σ H Q) :=
  ⟨fun pins s σ H v u Q I r q => q.elim (a.run pins s σ H v u Q I r) (b.run pins s σ H v u Q I r)⟩
theorem pg_any {X : Cx} {pos : Pos} {es : List Expr} {k : Nat} {t : TGs} {n : Nat} (hc : X.calm = true) (h : PGs X es t)
    (hn : (assignEach es X.env).length = n := by rfl) (hst : (assignEach es X.env).findIdx? (·.1) = none := by rfl) : PG X (.Tuple es k pos) (gAny X.K n t) := PG.or (pg_tup hc h hn hst) (pg_unl hc h hn hst)
section
variable {K : PySem.W.Frag} {Γ Γ1 : Ga} {gs : TGs} {ds : List PyData} {n : Nat} {ws : List Nat}
theorem rg_anyT (h : RGs K gs ds Γ Γ1 ws) (hn : ds.length = n := by rfl) : RG K (gAny K n gs) (.tuple ds) Γ Γ1 ws := fun σ H I ad x Q s p q => .inl (rg_tup h hn σ H I ad x Q s p q)
theorem rg_anyL (h : RGs K gs ds Γ Γ1 ws) (hn : ds.length = n := by rfl) : RG K (gAny K n gs) (.list ds) Γ Γ1 ws := fun σ H I ad x Q s p q => .inr (rg_unl h hn σ H I ad x Q s p q)
end

/-! ### the rules with the written part named (in a block X.K is not yet reduced) -/
section
variable {X : Cx} {e e2 a b o l tg : Expr} {es : List Expr} {te ta tb tl to : TE} {t : TA} {p pos tpos cpos apos p2 : Pos} {name : Str}
theorem kAdd (K : PySem.W.Frag) (h : X.K = K := by rfl) : OpR X (binaryOp .Add) (rAddX K) := by subst h; exact op_addX
theorem kMul (K : PySem.W.Frag) (h : X.K = K := by rfl) : OpR X (binaryOp .Mult) (rMulX K) := by subst h; exact op_mulA
theorem kEq (K : PySem.W.Frag) (hu : X.A.units + 64 < cLine) (h : X.K = K := by rfl) : OpR X (compareOp .Eq) (rEqX K) := by subst h; exact op_eqX hu
theorem kNe (K : PySem.W.Frag) (hu : X.A.units + 64 < cLine) (h : X.K = K := by rfl) : OpR X (compareOp .NotEq) (rNeX K) := by subst h; exact op_neX hu
theorem kIn (K : PySem.W.Frag) (h : X.K = K := by rfl) : OpR X (compareOp .In) (rIn K false) := by subst h; exact op_in_seq
theorem kNotIn (K : PySem.W.Frag) (h : X.K = K := by rfl) : OpR X (compareOp .NotIn) (rIn K true) := by subst h; exact op_notIn_seq
theorem kIx (K : PySem.W.Frag) (h : X.K = K := by rfl) : IxR X (rIx K) := by subst h; exact ix_seq
theorem kSl (K : PySem.W.Frag) (h : X.K = K := by rfl) : SlR X (rSlAny K) := by subst h; exact sl_any
theorem kSeq (K : PySem.W.Frag) (hl : PE X l tl) (h : X.K = K := by rfl) : PI X tg l (iSeq K tl) := by subst h; exact pi_seq hl
theorem kZip (K : PySem.W.Frag) {elts : List Expr} {kk : Nat} (hg : Gl X "zip") (hm : X.mg "zip" = none) (ha : PA X [e, e2] t)
    (hs : starEach [e, e2] X.env = (false, eval e X.env) :: starEach [e2] X.env := by rfl) (hpl : (backTo pos (starEach [e2] X.env)).any (·.1) = false := by rfl) (h : X.K = K := by rfl) :
    PI X (.Tuple elts kk tpos) (.Call (.Name "zip" p) [e, e2] [] pos) (iZipX K t) := by subst h; exact pi_zipX hg hm ha hs hpl
theorem kAny (K : PySem.W.Frag) {k : Nat} {gs : TGs} {n : Nat} (hc : X.calm = true) (h0 : PGs X es gs)
    (hn : (assignEach es X.env).length = n := by rfl) (hst : (assignEach es X.env).findIdx? (·.1) = none := by rfl) (h : X.K = K := by rfl) : PG X (.Tuple es k pos) (gAny K n gs) := by subst h; exact pg_any hc h0 hn hst
theorem kTuple (K : PySem.W.Frag) (hg : Gl X "tuple") (hm : X.mg "tuple" = none) (ha : PE X a ta) (na : starEach [a] X.env = (false, eval a X.env) :: starEach [] X.env := by rfl) (h : X.K = K := by rfl) :
    PE X (.Call (.Name "tuple" p) [a] [] pos) (tThen ta (kTup K)) := by subst h; exact pe_tupleOf hg hm ha na
theorem kLen (K : PySem.W.Frag) (h : X.K = K := by rfl) : CallR X (.builtin "len") (rLen K) := by subst h; exact call_len
theorem kSum (K : PySem.W.Frag) (hc : X.calm = true) (h : X.K = K := by rfl) : CallR X (.builtin "sum") (rSum K) := by subst h; exact cr_sum hc
theorem kAll (K : PySem.W.Frag) (hc : X.calm = true) (h : X.K = K := by rfl) : CallR X (.builtin "all") (rAll K) := by subst h; exact cr_all hc
theorem kAnyB (K : PySem.W.Frag) (hc : X.calm = true) (h : X.K = K := by rfl) : CallR X (.builtin "any") (rAny K) := by subst h; exact cr_any hc
theorem kSorted (K : PySem.W.Frag) (h : X.K = K := by rfl) : CallR X (.builtin "sorted") (rSorted K) := by subst h; exact cr_sorted
theorem kList (K : PySem.W.Frag) (h : X.K = K := by rfl) : CallR X (.type "list") (rListOf K) := by subst h; exact call_list_of
theorem kIsi (K : PySem.W.Frag) (h : X.K = K := by rfl) : CallR X (.builtin "isinstance") (rIsi K) := by subst h; exact call_isi
theorem kIndex (K : PySem.W.Frag) (h : X.K = K := by rfl) : MtR X "list.index" (rIndex K) := by subst h; exact mt_index
theorem kMeth (K : PySem.W.Frag) {T id : String} {r : V → List V → Hp → VK → Prop} (pa : PlainAttrs T) (slot : Slot T name id) (hty : typeOf (.builtin id) = pure (.type "method_descriptor")) (hm : MtR X id r) (ho : PE X o to) (ha : PA X (e :: es) t)
    (hbase : attributeBase o name X.env (eval o X.env) = eval o X.env := by rfl)
    (hfew : ((backTo cpos (starEach (e :: es) X.env)).all (fun x => !x.1) && (backToKw cpos (keywordEach [] X.env)).all (fun x => x.1.isSome)
      && decide ((e :: es).length + ([] : List Keyword).length + (if ([] : List Keyword).isEmpty then 0 else 1) < 30)) = true := by rfl)
    (hline : (apos.endLine == cpos.line) = true := by rfl) (hs : starEach (e :: es) X.env = (false, eval e X.env) :: starEach es X.env := by rfl) (hplain : (backTo cpos (starEach es X.env)).any (·.1) = false := by rfl) (h : X.K = K := by rfl) :
    PE X (.Call (.Attribute o name apos) (e :: es) [] cpos) (tBM K T r to t) := by subst h; exact pe_bm pa slot hty hm ho ha hbase hfew hline hs hplain
end
end DL

/-! DL8: comprehensions in short: pure ones, by a list of any type and what each item gives. -/
namespace DL
open PySem PySem.Spec PyProof.Rows L2
def flatAt (Γ : Ga) (vs : List Nat) : Bool := vs.all fun j => match Γ[j]? with
  | some sl => sl.flat
  | none => false
section
variable {K : PySem.W.Frag} {Γ Γ1 Γ2 Γ' : Ga} {d d1 d2 : PyData} {ds es : List PyData} {te : TE} {tr : TA} {wi : TI} {tt : TT} {i j : Nat} {α β : Type}
theorem flat_of {vs : List Nat} (h : flatAt Γ vs = true) : ∀ j ∈ vs, ∃ sl, Γ[j]? = some sl ∧ sl.flat = true ∧ Γ[j]? = some sl := fun j hj => by
  have := List.all_eq_true.mp h j hj
  cases e : Γ[j]? with
  | none => rw [e] at this; cases this
  | some sl => rw [e] at this; exact ⟨sl, rfl, this, rfl⟩
theorem flat_lt {vs : List Nat} (h : flatAt Γ vs = true) {j : Nat} (hj : j ∈ vs) : j < Γ.length := by
  obtain ⟨sl, e, _⟩ := flat_of h j hj
  exact (List.getElem?_eq_some_iff.mp e).1
theorem set_un {j : Nat} (h : j < Γ.length) (hu : Γ[j]? = some .un) : Γ.set j .un = Γ := by
  apply List.ext_getElem?
  intro k
  by_cases z : j = k
  · subst z; rw [List.getElem?_set_self h, hu]
  · rw [List.getElem?_set_ne z]
theorem wipe_set {vs : List Nat} {sl : Sl} (hj : j ∈ vs) : wipeG ((wipeG Γ vs).set j sl) vs = wipeG Γ vs := by
  apply List.ext_getElem?
  intro k
  by_cases hk : k ∈ vs
  · by_cases hb : k < Γ.length
    · rw [wipeG_in hk (by rw [List.length_set, wipeG_length]; exact hb), wipeG_in hk hb]
    · rw [List.getElem?_eq_none (by rw [wipeG_length, List.length_set, wipeG_length]; omega), List.getElem?_eq_none (by rw [wipeG_length]; omega)]
  · rw [wipeG_out hk, List.getElem?_set_ne (fun z => hk (by rw [← z]; exact hj))]
theorem rt_yes : RT K tYes Γ true Γ := fun σ H I ad s Q q => q H I ad s (Gr.refl s.sub) (Sb.refl ad)
/-- [e for x in xs] -/
theorem rl_map (xs : List α) (en out : α → PyData) (h : RI K wi Γ (xs.map en) Γ1) (hl : xs.length ≤ 1000000) (elt : ∀ x ∈ xs, RE K te ((wipeG Γ1 [j]).set j (.dat (en x))) (out x) ((wipeG Γ1 [j]).set j (.dat (en x))))
    (hf : flatAt Γ1 [j] = true := by rfl) : RL K (tLc wi (gName j) tYes te [j]) Γ (xs.map out) Γ1 := by
  have key := rl_lc (Γ' := Γ1) (vs := [j]) (ws := [j]) (g := gName j) (tt := tYes) (te := te) h (fun _ => wipeG Γ1 [j]) (fun n => (xs.take n).map out) (by rw [List.length_map]; exact hl) rfl (by simp) rfl (flat_of hf) (fun k hk => hk) fun n d e => by
    rw [List.getElem?_map] at e
    cases q : xs[n]? with
    | none => rw [q] at e; cases e
    | some x =>
      rw [q] at e; cases e
      have hj : j < (wipeG Γ1 [j]).length := by rw [wipeG_length]; exact flat_lt hf (by simp)
      refine ⟨_, _, true, rg_name hj, rt_yes, fun _ => ⟨out x, _, elt x (List.mem_of_getElem? q), wipe_set (by simp), ?_⟩, fun z => by cases z⟩
      rw [List.take_add_one, q, List.map_append]; rfl
  rw [List.length_map, List.take_length] at key
  exact key
/-- [e for a, b in xs] -/
theorem rl_mapP (xs : List α) (e1 e2 out : α → PyData) (h : RI K wi Γ (xs.map fun x => .tuple [e1 x, e2 x]) Γ1) (hl : xs.length ≤ 1000000)
    (elt : ∀ x ∈ xs, RE K te (((wipeG Γ1 [i, j]).set i (.dat (e1 x))).set j (.dat (e2 x))) (out x) (((wipeG Γ1 [i, j]).set i (.dat (e1 x))).set j (.dat (e2 x))))
    (hf : flatAt Γ1 [i, j] = true := by rfl) : RL K (tLc wi (gAny K 2 (gCons (gName i) (gCons (gName j) gNil))) tYes te [i, j]) Γ (xs.map out) Γ1 := by
  have key := rl_lc (Γ' := Γ1) (vs := [i, j]) (ws := [i] ++ ([j] ++ [])) (g := gAny K 2 (gCons (gName i) (gCons (gName j) gNil))) (tt := tYes) (te := te) h (fun _ => wipeG Γ1 [i, j]) (fun n => (xs.take n).map out) (by rw [List.length_map]; exact hl) rfl (by simp) rfl (flat_of hf) (fun k hk => by simpa using hk) fun n d e => by
    rw [List.getElem?_map] at e
    cases q : xs[n]? with
    | none => rw [q] at e; cases e
    | some x =>
      rw [q] at e; cases e
      have hi : i < (wipeG Γ1 [i, j]).length := by rw [wipeG_length]; exact flat_lt hf (by simp)
      have hj : j < ((wipeG Γ1 [i, j]).set i (.dat (e1 x))).length := by rw [List.length_set, wipeG_length]; exact flat_lt hf (by simp)
      refine ⟨_, _, true, rg_anyT (rgs_cons (rg_name hi) (rgs_cons (rg_name hj) rgs_nil)), rt_yes, fun _ => ⟨out x, _, elt x (List.mem_of_getElem? q), ?_, ?_⟩, fun z => by cases z⟩
      · apply List.ext_getElem?
        intro k
        by_cases hk : k ∈ [i, j]
        · by_cases hb : k < Γ1.length
          · rw [wipeG_in hk (by rw [List.length_set, List.length_set, wipeG_length]; exact hb), wipeG_in hk hb]
          · rw [List.getElem?_eq_none (by rw [wipeG_length, List.length_set, List.length_set, wipeG_length]; omega), List.getElem?_eq_none (by rw [wipeG_length]; omega)]
        · rw [wipeG_out hk, List.getElem?_set_ne (fun z => hk (by rw [← z]; simp)), List.getElem?_set_ne (fun z => hk (by rw [← z]; simp))]
      · rw [List.take_add_one, q, List.map_append]; rfl
  rw [List.length_map, List.take_length] at key
  exact key
/-- [e for x in xs if c] -/
theorem rl_filt (xs : List α) (en out : α → PyData) (c : α → Bool) (h : RI K wi Γ (xs.map en) Γ1) (hl : xs.length ≤ 1000000)
    (tst : ∀ x ∈ xs, RT K tt ((wipeG Γ1 [j]).set j (.dat (en x))) (c x) ((wipeG Γ1 [j]).set j (.dat (en x))))
    (elt : ∀ x ∈ xs, c x = true → RE K te ((wipeG Γ1 [j]).set j (.dat (en x))) (out x) ((wipeG Γ1 [j]).set j (.dat (en x))))
    (hf : flatAt Γ1 [j] = true := by rfl) : RL K (tLc wi (gName j) tt te [j]) Γ ((xs.filter c).map out) Γ1 := by
  have key := rl_lc (Γ' := Γ1) (vs := [j]) (ws := [j]) (g := gName j) (tt := tt) (te := te) h (fun _ => wipeG Γ1 [j]) (fun n => ((xs.take n).filter c).map out) (by rw [List.length_map]; exact hl) rfl (by simp) rfl (flat_of hf) (fun k hk => hk) fun n d e => by
    rw [List.getElem?_map] at e
    cases q : xs[n]? with
    | none => rw [q] at e; cases e
    | some x =>
      rw [q] at e; cases e
      have hj : j < (wipeG Γ1 [j]).length := by rw [wipeG_length]; exact flat_lt hf (by simp)
      have hm := List.mem_of_getElem? q
      refine ⟨_, _, c x, rg_name hj, tst x hm, fun z => ⟨out x, _, elt x hm z, wipe_set (by simp), ?_⟩, fun z => ⟨wipe_set (by simp), ?_⟩⟩
      · rw [List.take_add_one, q, List.filter_append, List.map_append]
        show _ ++ List.map out (List.filter c [x]) = _
        rw [List.filter_cons, if_pos z]; rfl
      · rw [List.take_add_one, q, List.filter_append, List.map_append]
        show _ ++ List.map out (List.filter c [x]) = _
        rw [List.filter_cons, if_neg (by rw [z]; exact Bool.false_ne_true)]
        simp
  rw [List.length_map, List.take_length] at key
  exact key
theorem zipD_map (a : α → PyData) (b : β → PyData) : ∀ (xs : List α) (ys : List β), zipD (xs.map a) (ys.map b) = (List.zip xs ys).map fun p => .tuple [a p.1, b p.2]
  | [], _ => by simp [zipD]
  | _ :: _, [] => by simp [zipD]
  | x :: xs, y :: ys => by
    have ih := zipD_map a b xs ys
    unfold zipD at ih ⊢
    simp only [List.map_cons, List.zipWith_cons_cons, List.zip_cons_cons, ih]
theorem ri_zip2 {xs : List α} {ys : List β} {a : α → PyData} {b : β → PyData} (h : RA K tr Γ [d1, d2] Γ1) (h1 : seqD d1 = some (xs.map a)) (h2 : seqD d2 = some (ys.map b)) : RI K (iZipX K tr) Γ ((List.zip xs ys).map fun p => .tuple [a p.1, b p.2]) Γ1 := by
  rw [← zipD_map]; exact ri_zip h h1 h2
theorem ri_seq {xs : List α} {a : α → PyData} (h : RE K te Γ d Γ1) (h1 : seqD d = some (xs.map a)) : RI K (iSeq K te) Γ (xs.map a) Γ1 := by
  cases d <;> first | cases h1 | skip
  · exact ri_seqL h
  · exact ri_seqT h
theorem ri_range {n : Nat} (h : RA K tr Γ [.int (n : Int)] Γ1) (hn : n ≤ 1000000) : RI K (iRng1 tr) Γ ((List.range n).map fun (i : Nat) => .int (i : Int)) Γ1 := by
  have := ri_range1 h (by omega) (by omega)
  unfold rgD at this
  simpa using this
theorem cd_sumM {xs : List α} {g : α → Int} : CD K (rSum K) [.list (xs.map fun x => .int (g x))] (.int (xs.map g).sum) := by
  have := cd_sum (K := K) (ns := xs.map g)
  rw [List.map_map] at this; exact this
theorem cd_allM {xs : List α} {g : α → Bool} : CD K (rAll K) [.list (xs.map fun x => .bool (g x))] (.bool (xs.all g)) := by
  have := cd_all (K := K) (bs := xs.map g)
  rw [List.map_map, List.all_map] at this; exact this
theorem cd_anyM {xs : List α} {g : α → Bool} : CD K (rAny K) [.list (xs.map fun x => .bool (g x))] (.bool (xs.any g)) := by
  have := cd_any (K := K) (bs := xs.map g)
  rw [List.map_map, List.any_map] at this; exact this
theorem cd_len (h : seqD d = some ds) : CD K (rLen K) [d] (.int (ds.length : Int)) := by
  cases d <;> first | cases h | skip
  · exact cd_lenL
  · exact cd_lenT
theorem re_tupleS (h : RE K te Γ d Γ1) (hs : seqD d = some ds) : RE K (tThen te (kTup K)) Γ (.tuple ds) Γ1 := by
  cases d <;> first | cases hs | skip
  · exact re_tupleL h
  · exact re_tupleT h
theorem cdl_list (h : seqD d = some ds) : CDL K (rListOf K) [d] ds := by
  cases d <;> first | cases h | skip
  · exact cdl_listL
  · exact cdl_listT
theorem at_nat {xs : List PyData} {k : Nat} (h : xs[k]? = some d) : atI xs (k : Int) = some d := atI_nat h
variable {an : Bool} {t u : TS} {P : Po}
/-- a statement, then the rest, with a word between them -/
theorem rs_cut (M : Ga → Prop) (h : RS K an t Γ ⟨M, P.rt, P.bk, P.ct⟩) (k : ∀ Γ1, M Γ1 → RS K an u Γ1 P) : RS K an (tSeq t u) Γ P :=
  rs_seq (h.imp k (fun _ _ z => z) (fun _ z => z) (fun _ z => z))
end
end DL

/-! DL9: equality of data by what they hold, the index of a number in a list. -/
namespace DL
open PySem PySem.Spec PyProof.Rows L2
/-- data that may be compared, of a depth -/
def Shp (n : Nat) (d : PyData) : Prop := d.canLay0 = true ∧ d.depth ≤ n
theorem Shp.sh {n : Nat} {d : PyData} (h : Shp n d) (hn : n ≤ 64 := by decide) : SeqAt.shaped d = true := by
  unfold SeqAt.shaped
  rw [h.1, Bool.true_and]
  exact decide_eq_true (Nat.le_trans h.2 hn)
theorem shp_all {n : Nat} : ∀ {ds : List PyData}, (∀ d ∈ ds, Shp n d) → PyData.canLayAll0 ds = true ∧ PyData.depthAll ds ≤ n
  | [], _ => ⟨rfl, Nat.zero_le _⟩
  | d :: ds, h => by
    have a := h d (by simp)
    have b := shp_all (ds := ds) fun x hx => h x (by simp [hx])
    simp only [PyData.canLayAll0, PyData.depthAll, a.1, b.1]
    exact ⟨rfl, Nat.max_le.mpr ⟨a.2, b.2⟩⟩
theorem shp_int {i : Int} {n : Nat} : Shp n (.int i) := ⟨rfl, Nat.zero_le _⟩
theorem shp_bool {b : Bool} {n : Nat} : Shp n (.bool b) := ⟨rfl, Nat.zero_le _⟩
theorem shp_none {n : Nat} : Shp n .none := ⟨rfl, Nat.zero_le _⟩
theorem shp_tup {n : Nat} {ds : List PyData} (h : ∀ d ∈ ds, Shp n d) : Shp (n + 1) (.tuple ds) := by
  obtain ⟨a, b⟩ := shp_all h
  exact ⟨by simp only [PyData.canLay0]; exact a, by simp only [PyData.depth]; omega⟩
theorem shp_lst {n : Nat} {ds : List PyData} (h : ∀ d ∈ ds, Shp n d) : Shp (n + 1) (.list ds) := by
  obtain ⟨a, b⟩ := shp_all h
  exact ⟨by simp only [PyData.canLay0]; exact a, by simp only [PyData.depth]; omega⟩
theorem shp_mapT {n : Nat} {α : Type} {f : α → PyData} {xs : List α} (h : ∀ x ∈ xs, Shp n (f x)) : Shp (n + 1) (.tuple (xs.map f)) := shp_tup fun d hd => by
  obtain ⟨x, hx, rfl⟩ := List.mem_map.mp hd
  exact h x hx
theorem shp_mapL {n : Nat} {α : Type} {f : α → PyData} {xs : List α} (h : ∀ x ∈ xs, Shp n (f x)) : Shp (n + 1) (.list (xs.map f)) := shp_lst fun d hd => by
  obtain ⟨x, hx, rfl⟩ := List.mem_map.mp hd
  exact h x hx
theorem eqv_int (i j : Int) : PyData.eqv (.int i) (.int j) = decide (i = j) := by
  simp only [PyData.eqv]
  by_cases h : i = j
  · subst h; simp
  · simp [h]
theorem eqvAll_map {α : Type} [DecidableEq α] {f : α → PyData} (h : ∀ a b, PyData.eqv (f a) (f b) = decide (a = b)) : ∀ xs ys : List α, PyData.eqvAll (xs.map f) (ys.map f) = decide (xs = ys)
  | [], [] => by simp [PyData.eqvAll]
  | [], _ :: _ => by simp [PyData.eqvAll]
  | _ :: _, [] => by simp [PyData.eqvAll]
  | x :: xs, y :: ys => by
    simp only [List.map_cons, PyData.eqvAll, h, eqvAll_map h xs ys]
    by_cases a : x = y
    · subst a; simp
    · simp [a]
theorem eqv_tup {α : Type} [DecidableEq α] {f : α → PyData} (h : ∀ a b, PyData.eqv (f a) (f b) = decide (a = b)) (xs ys : List α) : PyData.eqv (.tuple (xs.map f)) (.tuple (ys.map f)) = decide (xs = ys) := by
  simp only [PyData.eqv]; exact eqvAll_map h xs ys
theorem eqv_lst {α : Type} [DecidableEq α] {f : α → PyData} (h : ∀ a b, PyData.eqv (f a) (f b) = decide (a = b)) (xs ys : List α) : PyData.eqv (.list (xs.map f)) (.list (ys.map f)) = decide (xs = ys) := by
  simp only [PyData.eqv]; exact eqvAll_map h xs ys
section
variable {K : PySem.W.Frag} {Γ Γ1 Γ2 : Ga} {d : PyData} {ds : List PyData} {te ta tb : TE} {an : Bool} {P : Po}
/-- xs.index(n) -/
theorem re_index {ns : List Int} {n : Int} {j : Nat} (h : RE K ta Γ (.list (ns.map .int)) Γ1) (hb : RE K tb Γ1 (.int n) Γ2) (hj : ns[j]? = some n) (hno : ∀ m, m < j → ns[m]? ≠ some n) : RE K (tBM K "list" (rIndex K) ta (tCons tb tNil)) Γ (.int (j : Int)) Γ2 := fun σ H I ad s Q q =>
  h σ H I ad s _ fun x H1 I1 ad1 s1 g1 b1 p1 => by
    obtain ⟨a, xs, rfl, h1, h2⟩ := dp_lst p1
    have := Da.of_ints h2; subst this
    refine ⟨.inl ⟨rfl, _, sqL_ex s1.sub h1⟩, hb σ H1 I1 ad1 s1 _ fun y H2 I2 ad2 s2 g2 b2 p2 => ?_⟩
    cases p2
    refine ⟨a, ns.map V.int, .int n, j, .int n, rfl, rfl, sqL_ex s2.sub (sqL_ex g2.i h1), rfl, flat_ints ns, by rw [List.getElem?_map, hj]; rfl, by simp [eqV], fun m z' hm hz => ?_, q _ H2 I2 ad2 s2 (g1.trans (g2.mono b1.own)) (b1.trans b2) (.int _)⟩
    rw [List.getElem?_map] at hz
    obtain ⟨w, hw, rfl⟩ := Option.map_eq_some_iff.mp hz
    have : w ≠ n := fun e => hno m hm (by rw [hw, e])
    simpa [eqV] using this
end
end DL
namespace DL
open PySem PySem.Spec PyProof.Rows L2
section
variable {K : PySem.W.Frag} {Γ Γ1 Γ2 : Ga} {d : PyData} {ds : List PyData} {te ta tb : TE}
theorem re_inS {n : Int} {ns : List Int} (ha : RE K ta Γ (.int n) Γ1) (hb : RE K tb Γ1 d Γ2) (hs : seqD d = some (ns.map .int)) : RE K (tOp (rIn K false) ta tb) Γ (.bool (decide (n ∈ ns))) Γ2 := by
  cases d <;> first | cases hs | skip
  · exact re_op ha hb od_inL
  · exact re_op ha hb od_inT
theorem re_niS {n : Int} {ns : List Int} (ha : RE K ta Γ (.int n) Γ1) (hb : RE K tb Γ1 d Γ2) (hs : seqD d = some (ns.map .int)) : RE K (tOp (rIn K true) ta tb) Γ (.bool (!decide (n ∈ ns))) Γ2 := by
  cases d <;> first | cases hs | skip
  · exact re_op ha hb od_niL
  · exact re_op ha hb od_niT
/-- .. of a number that is there -/
theorem re_indexI {ns : List Int} {n : Int} (h : RE K ta Γ (.list (ns.map .int)) Γ1) (hb : RE K tb Γ1 (.int n) Γ2) (hm : n ∈ ns) : RE K (tBM K "list" (rIndex K) ta (tCons tb tNil)) Γ (.int ((ns.idxOf n : Nat) : Int)) Γ2 :=
  re_index h hb (by
    have := List.idxOf_lt_length_of_mem hm
    rw [List.getElem?_eq_getElem this, List.getElem_idxOf]) fun m hlt e => by
    have h1 := (List.getElem?_eq_some_iff.mp e)
    obtain ⟨h2, h3⟩ := h1
    have := List.not_of_lt_findIdx (p := fun x => x == n) (xs := ns) (i := m) hlt
    rw [h3] at this
    simp at this
end
end DL

/-! DL10: xs[a:c] = ys. -/
namespace DL
open PySem PySem.Spec PyProof.Rows L2
def gSlc (to : TE) (tl th : TO) : TG := fun v σ H Q => to σ H fun o H1 => tl σ H1 fun l H2 => th σ H2 fun u H3 => ∃ (p b : Addr) (xs ys : List V) (a c : Int), o = .ref p ∧ v = .ref b ∧ l = some a ∧ u = some c ∧ H3 p = some (.lst xs) ∧ H3 b = some (.lst ys) ∧ p ≠ b ∧
  0 ≤ a ∧ a ≤ c ∧ c ≤ xs.length ∧ xs.length + ys.length ≤ sizeLine ∧ Q σ (upd H3 p (.lst (xs.take a.toNat ++ ys ++ xs.drop c.toNat)))
theorem part_rel {v : Value} {a : Int} (h : IsPart v (some a)) : RelV (.int a) v := by
  cases h with
  | int i t => exact ⟨t, rfl⟩
theorem pg_slc {X : Cx} {o : Expr} {lo hi : Option Expr} {to : TE} {tl th : TO} {pos p2 : Pos} (ho : PE X o to) (hl : L2.PO X lo tl) (hh : L2.PO X hi th)
    (ha : ∀ v, assign (.Subscript o (.Slice lo hi none p2) pos) X.env v = (do
      let ov ← holding [v] (eval o X.env)
      let iv ← holding [v, ov] (eval (.Slice lo hi none p2) X.env)
      standAt pos
      holding [v, ov, iv] (setItem ov iv v)
      release [iv, v, ov] []) := by intro _; rfl) : PG X (.Subscript o (.Slice lo hi none p2) pos) (gSlc to tl th) := by
  refine ⟨fun pins s σ H v u Q I r h => ?_⟩
  rw [ha]
  refine wpAny_bind (wpAny_holding (thn (ho.run pins s σ H _ I h) fun ov s1 ⟨x, H1, I1, r1, q1⟩ => ?_))
  refine wpAny_bind (wpAny_holding (wpAny_Slice (thn (hl.run pins s1 σ H1 _ I1 q1) fun vl s2 ⟨l, H2, I2, pl, q2⟩ => thn (hh.run pins s2 σ H2 _ I2 q2) fun vu s3 ⟨m, H3, I3, pu, q3⟩ => ?_)))
  rw [evalPart_none]
  refine wpAny_pure ?_
  have I4 : Inv X pins σ H3 { s3 with heap := s3.heap.push { cls := .type "slice", data := .fields #[vl, vu, .none] } } := I3.kept (t' := s3.toks) fun b ob q => Heap.get?_push_of_some _ q
  obtain ⟨p, b, xs, ys, a, c, rfl, rfl, rfl, rfl, hp, hb, hne, h0, hac, hc, hz, q⟩ := q3
  cases r1
  cases r
  refine wpAny_bind (wpAny_standAt (wpAny_bind (wpAny_holding ?_)))
  exact set_slice I4 hp hb hne (Heap.IsSliceOf.new ..) (part_rel pl) (part_rel pu) h0 hac hc hz fun s' I5 => wpAny_release ⟨σ, _, I5, q⟩
section
variable {K : PySem.W.Frag} {Γ Γ1 : Ga} {ds es : List PyData} {te : TE} {tl th : TO} {an : Bool} {P : Po} {i : Nat} {a c : Int}
theorem rs_slc (h : RL K te Γ es Γ1) (h1 : Γ1[i]? = some (.lst ds)) (hl : RO K tl Γ1 (some a) Γ1) (hh : RO K th Γ1 (some c) Γ1) (h0 : 0 ≤ a) (hac : a ≤ c) (hc : c ≤ ds.length) (hz : ds.length + es.length ≤ sizeLine)
    (hr : P.nx (Γ1.set i (.lst (ds.take a.toNat ++ es ++ ds.drop c.toNat)))) : RS K an (tAsg te (gSlc (tVar i) tl th)) Γ P := fun B σ H I ad D s e =>
  h σ H I ad s.s _ fun q us H1 I1 ad1 s1 g1 b1 hq hq1 hu hdu => by
    have z1 := s.go s1 g1 b1
    obtain ⟨o, eo, r⟩ := s1.get h1
    obtain ⟨p, vs, rfl, _, _, _⟩ := r.lst_
    refine ⟨_, eo, hl σ H1 I1 ad1 s1 _ fun H2 I2 ad2 s2 g2 b2 => hh σ H2 I2 ad2 s2 _ fun H3 I3 ad3 s3 g3 b3 => ?_⟩
    have z3 := (z1.go s2 g2 b2).go s3 g3 b3
    obtain ⟨p', ws, e1, ha, hp3, hd3⟩ := (s3.rel i _ _ eo h1).lst_
    cases e1
    have no1 : ¬ Own ad1 q := fun z => s.s.free hq (b1.own q z)
    have q3 : H3 q = some (.lst us) := g3.h q _ (fun z => no1 (b2.own q z)) (g2.h q _ no1 hu)
    have pi : I3 p = none := s3.own i p (by rw [ha]; simp)
    have ne : p ≠ q := fun z => no1 ((b2.trans b3).own q ⟨i, by rw [ha, z]; simp⟩)
    refine ⟨p, q, ws, us, a, c, rfl, rfl, rfl, rfl, hp3, q3, ne, h0, hac, by rw [Da.len hd3]; exact hc, by rw [Da.len hd3, Da.len hdu]; exact hz, ?_⟩
    have gi : Ex I1 I3 := g2.i.trans g3.i
    exact e.nx _ σ _ I3 ad3 hr (z3.put eo h1 ha (Gr.mut s3.sub (by simp) pi hp3) (fun q hq => by rw [List.mem_singleton.mp hq]; exact pi) (.lst upd_same (Da.app (Da.app (Da.take _ hd3) (Da.ex hdu gi)) (Da.drop _ hd3))))
end
end DL

/-! DL11: comprehensions whose turns change the state, slices by numbers. -/
namespace DL
open PySem PySem.Spec PyProof.Rows L2
section
variable {K : PySem.W.Frag} {Γ : Ga} {te : TE} {wi : TI} {tt : TT} {j : Nat} {α : Type}
/-- [e for x in xs], turn n leads from the state G n to G (n + 1) -/
theorem rl_mapS (xs : List α) (en : α → PyData) (G : Nat → Ga) (out : Nat → PyData) (sl : Sl) (h : RI K wi Γ (xs.map en) (G 0)) (hl : xs.length ≤ 1000000)
    (elt : ∀ n x, xs[n]? = some x → RE K te ((wipeG (G n) [j]).set j (.dat (en x))) (out n) ((wipeG (G (n + 1)) [j]).set j (.dat (en x))))
    (hf : ∀ n, (G n)[j]? = some sl := by (intro _; rfl)) (hs : sl.flat = true := by rfl) : RL K (tLc wi (gName j) tYes te [j]) Γ ((List.range xs.length).map out) (G xs.length) := by
  have key := rl_lc (Γ' := G xs.length) (vs := [j]) (ws := [j]) (g := gName j) (tt := tYes) (te := te) h (fun n => wipeG (G n) [j]) (fun n => (List.range n).map out) (by rw [List.length_map]; exact hl) rfl (by simp) (by rw [List.length_map]) (fun k hk => by
    rw [List.mem_singleton] at hk; subst hk; exact ⟨sl, hf _, hs, hf _⟩) (fun k hk => hk) fun n d e => by
    rw [List.getElem?_map] at e
    obtain ⟨x, q, rfl⟩ := Option.map_eq_some_iff.mp e
    have hj : j < (wipeG (G n) [j]).length := by rw [wipeG_length]; exact (List.getElem?_eq_some_iff.mp (hf n)).1
    refine ⟨_, _, true, rg_name hj, rt_yes, fun _ => ⟨out n, _, elt n x q, wipe_set (by simp), ?_⟩, fun z => by cases z⟩
    rw [List.range_succ, List.map_append]; rfl
  rw [List.length_map] at key
  exact key
/-- [e for x in xs if c], the test of turn n leads from the state G n to G (n + 1) -/
theorem rl_filtS (xs : List α) (en : α → PyData) (G : Nat → Ga) (out : Nat → PyData) (c : Nat → Bool) (sl : Sl) (h : RI K wi Γ (xs.map en) (G 0)) (hl : xs.length ≤ 1000000)
    (tst : ∀ n x, xs[n]? = some x → RT K tt ((wipeG (G n) [j]).set j (.dat (en x))) (c n) ((wipeG (G (n + 1)) [j]).set j (.dat (en x))))
    (elt : ∀ n x, xs[n]? = some x → RE K te ((wipeG (G (n + 1)) [j]).set j (.dat (en x))) (out n) ((wipeG (G (n + 1)) [j]).set j (.dat (en x))))
    (hf : ∀ n, (G n)[j]? = some sl := by (intro _; rfl)) (hs : sl.flat = true := by rfl) : RL K (tLc wi (gName j) tt te [j]) Γ (((List.range xs.length).filter c).map out) (G xs.length) := by
  have key := rl_lc (Γ' := G xs.length) (vs := [j]) (ws := [j]) (g := gName j) (tt := tt) (te := te) h (fun n => wipeG (G n) [j]) (fun n => ((List.range n).filter c).map out) (by rw [List.length_map]; exact hl) rfl (by simp) (by rw [List.length_map]) (fun k hk => by
    rw [List.mem_singleton] at hk; subst hk; exact ⟨sl, hf _, hs, hf _⟩) (fun k hk => hk) fun n d e => by
    rw [List.getElem?_map] at e
    obtain ⟨x, q, rfl⟩ := Option.map_eq_some_iff.mp e
    have hj : j < (wipeG (G n) [j]).length := by rw [wipeG_length]; exact (List.getElem?_eq_some_iff.mp (hf n)).1
    refine ⟨_, _, c n, rg_name hj, tst n x q, fun z => ⟨out n, _, elt n x q, wipe_set (by simp), ?_⟩, fun z => ⟨wipe_set (by simp), ?_⟩⟩
    · rw [List.range_succ, List.filter_append, List.map_append, List.filter_cons, if_pos z]; rfl
    · rw [List.range_succ, List.filter_append, List.map_append, List.filter_cons, if_neg (by rw [z]; exact Bool.false_ne_true)]; simp
  rw [List.length_map] at key
  exact key
end
theorem cut_to (ds : List PyData) (k : Nat) : cutD ds none (some (k : Int)) = ds.take k := by
  unfold cutD
  rw [HT.sIx_none, HT.sIx_nat, List.drop_zero, Nat.sub_zero]
  by_cases h : k ≤ ds.length
  · rw [Nat.min_eq_left h]
  · rw [Nat.min_eq_right (by omega), List.take_length, List.take_of_length_le (by omega)]
theorem cut_from (ds : List PyData) (k : Nat) : cutD ds (some (k : Int)) none = ds.drop k := by
  unfold cutD
  rw [HT.sIx_none, HT.sIx_nat]
  by_cases h : k ≤ ds.length
  · rw [Nat.min_eq_left h, List.take_of_length_le (by rw [List.length_drop]; omega)]
  · rw [Nat.min_eq_right (by omega), List.drop_length, List.drop_eq_nil_of_le (by omega)]; simp
end DL
namespace DL
open PySem PySem.Spec PyProof.Rows L2
section
variable {K : PySem.W.Frag} {Γ : Ga} {i : Nat} {ds : List PyData}
/-- len of an owned list -/
theorem re_lenO (h : Γ[i]? = some (.lst ds)) : RE K (tCB (rLen K) (tCons (tVar i) tNil)) Γ (.int (ds.length : Int)) Γ := fun σ H I ad s Q q => by
  obtain ⟨o, eo, r⟩ := s.get h
  obtain ⟨p, vs, rfl, _, hp, hd⟩ := r.lst_
  exact ⟨_, eo, .ref p, ds.length, rfl, .inl ⟨vs, .inl (.inl hp), (Da.len hd).symm⟩, q _ H I ad s (Gr.refl s.sub) (Sb.refl ad) (.int _)⟩
end
end DL

/-! DL12: repr of data, a new stream, the entry of a law. -/
namespace DL
open PySem PySem.Spec PyProof.Rows L2
/-! ### repr -/
def rRepr (K : PySem.W.Frag) : List V → Hp → VK → Prop := fun xs H Q => ∃ (x : V) (d : PyData), xs = [x] ∧ Dp K H x d ∧ (∃ ds, seqD d = some ds) ∧ d.showable = true ∧ d.hasDict = false ∧ d.depth ≤ 64 ∧ d.shown.length ≤ sizeLine ∧ Q (.str d.shown) H
theorem cr_repr {X : Cx} (hg : X.A.guards = some []) (hu : X.A.units + 70 < cLine) : CallR X (.builtin "repr") (rRepr X.K) := by
  intro pins s σ H xs us Q I r h
  obtain ⟨x, d, rfl, hd, ⟨ds, hs⟩, h1, h2, h3, h4, q⟩ := h
  cases r with
  | cons rx rr =>
    cases rr
    obtain ⟨as, hr⟩ := Dp.reads I d x _ hd rx
    have hp : ∃ p, x = .ref p := by
      obtain ⟨_, p, _, e, _⟩ := dp_seq hd hs
      exact ⟨p, e⟩
    obtain ⟨p, rfl⟩ := hp
    cases rx
    exact repr_of_reads' hr h1 (fun z => by rw [h2] at z; cases z) hg (by omega) (fun _ _ e => e) (fun h' u tk hk => ⟨.str d.shown, H, I.kept hk, ⟨u, rfl⟩, q⟩) h4
section
variable {K : PySem.W.Frag} {Γ Γ1 : Ga} {d : PyData} {ds : List PyData} {te : TE} {tr : TA} {an : Bool} {P : Po} {i j : Nat}
theorem cd_repr (hs : seqD d = some ds) (h1 : d.showable = true) (h2 : d.hasDict = false) (h3 : d.depth ≤ 64) (h4 : d.shown.length ≤ sizeLine) : CD K (rRepr K) [d] (.str d.shown) := fun I H vs e p Q q => by
  obtain ⟨v, rfl, h⟩ := da1 p
  exact ⟨v, d, rfl, Dp.ex h e, ⟨ds, hs⟩, h1, h2, h3, h4, q _ H I (Gr.refl e) (.str _)⟩
/-- two texts -/
theorem od_neS {x y : Str} : OD K rNe (.str x) (.str y) (.bool (!decide (x = y))) := fun I H u v e p1 p2 Q q => by
  cases p1; cases p2
  have : decide ((V.str x) = (V.str y)) = decide (x = y) := by
    by_cases h : x = y
    · subst h; simp
    · rw [decide_eq_false h, decide_eq_false (fun z => h (V.str.inj z))]
  have e2 := q (.bl (!decide (V.str x = V.str y))) H I (Gr.refl e) (by rw [this]; exact .bl _)
  exact ⟨rfl, e2⟩
/-! ### a new stream -/
theorem rs_newStm {cs : List Int} {a b c : Int} (h : Γ[j]? = some (.dat (.list (cs.map .int)))) (hr : P.nx (Γ.set i (.stm cs a b c))) (hi : i < Γ.length := by (simp; done)) (h0 : an = true → i ≠ 0 := by decide) :
    RS K an (tAsg (tLst (tCons (tCB (rListOf K) (tCons (tVar j) tNil)) (tCons (tC (.int a)) (tCons (tC (.int b)) (tCons (tC (.int c)) tNil))))) (gName i)) Γ P := fun B σ H I ad D s e => by
  have key : RL K (tCB (rListOf K) (tCons (tVar j) tNil)) Γ (cs.map .int) Γ := rl_cb (ra_cons (re_var h) ra_nil) cdl_listL
  refine key σ H I ad s.s _ fun l vs H1 I1 ad1 s1 g1 b1 hl hl1 hv hd => ?_
  have := Da.of_ints hd; subst this
  refine ⟨by show 4 ≤ 16777216; omega, fun p hp => ?_⟩
  have z := s.go s1 g1 b1
  have ne : p ≠ l := fun q => by rw [q, hv] at hp; cases hp
  have z2 := z.go (s1.fresh (o := .lst [.ref l, .int a, .int b, .int c]) hp).1 (s1.fresh hp).2.no (Sb.refl ad1)
  have nl : ¬ Own ad1 l := fun q => s.s.free hl (b1.own l q)
  have np : ¬ Own ad1 p := s1.free hp
  have ip : I1 p = none := s1.sub.non_ hp
  have r : SR K I1 (upd H1 p (.lst [.ref l, .int a, .int b, .int c])) (some (.ref p)) (.stm cs a b c) [p, l] := .stm upd_same (by rw [upd_ne (Ne.symm ne)]; exact hv)
  have own : ∀ q ∈ [p, l], I1 q = none := fun q hq => by
    rcases List.mem_cons.mp hq with rfl | hq
    · exact ip
    · rw [List.mem_singleton.mp hq]; exact hl1
  refine e.nx _ _ _ I1 (adSet ad1 i [p, l]) hr ⟨z2.s.set hi r own (fun k q _ hq hk => ?_), z2.gr, fun q ⟨k, hk⟩ => ?_, fun hh => ⟨by rw [List.getElem?_set_ne (h0 hh)]; exact (z2.anc hh).1, by rw [adSet_ne (Ne.symm (h0 hh))]; exact (z2.anc hh).2⟩⟩
  · rcases List.mem_cons.mp hq with rfl | hq
    · exact np ⟨k, hk⟩
    · rw [List.mem_singleton.mp hq] at hk; exact nl ⟨k, hk⟩
  · by_cases hki : k = i
    · subst hki
      rw [adSet_same] at hk
      rcases List.mem_cons.mp hk with rfl | hk
      · exact .inr (z.gr.k _ hp)
      · rw [List.mem_singleton.mp hk]; exact .inr (s.gr.k _ hl)
    · rw [adSet_ne hki] at hk; exact z2.fr q ⟨k, hk⟩
end
/-! ### the entry -/
def scH (K : PySem.W.Frag) (a : Addr) (o : Obj) (ns : List Int) : Hp := fun b => if b = a ∧ K.lookup a = none then some (.frz o (.lst (ns.map V.int))) else none
theorem scH_some {K : PySem.W.Frag} {a b : Addr} {o : Obj} {ns : List Int} {u : HO} (h : scH K a o ns b = some u) : b = a ∧ K.lookup a = none ∧ u = .frz o (.lst (ns.map V.int)) := by
  unfold scH at h
  split at h
  · rename_i z; cases h; exact ⟨z.1, z.2, rfl⟩
  · cases h
theorem scH_ne {K : PySem.W.Frag} {a b : Addr} {o : Obj} {ns : List Int} (h : b ≠ a) : scH K a o ns b = none := by
  unfold scH; rw [if_neg fun z => h z.1]
section
variable {P : Program} {w : World} {K : PySem.W.Frag} {mg mb : Str → Option Value} {fa a : Addr} {fd : FuncData} {x x0 : Str} {st : Stmt} {N : List Str} {s₁ : Shared} {vs : List Value} {ns : List Int} {k : Nat}
theorem law_at (KX : K.In s₁.heap) (hns : s₁.heap.Ns mainGlobals mg) (hb : s₁.heap.Ns builtinsNs mb) (hbb : ∀ x : Str, x ≠ "__name__" → mb x = bootBuiltins x) (hlim : s₁.heap.NoLimit) (hseer : s₁.heap.NoSeer) (hg : s₁.gens = #[])
    (ha : s₁.heap.get? a = some { cls := .type "list", data := .seq vs.toArray }) (hi : IntsAre vs ns) (hl : ns.length ≤ sizeLine) (hr : Room (k + 1) callerA)
    (Fn : Fun K x x st fa fd) (S : FnScope N [x0] (defScope st)) (hbind : ∀ (s : Shared) (u : Value), BindsTo s fd ⟨[u], []⟩ [(x0, u)])
    (body : ∀ (base : Heap) (cdv : Value) (H : Hp), base.NoSeer → K.In base → base.Ns mainGlobals mg →
      ∃ t, PSs (cxOf CX0 P w K mg base N x (defScope st) fa cdv callerA [] s₁ H (fun _ _ _ => False)).nox (defBody st) t ∧
        RS K false t (gst N [.list (ns.map .int)]) ⟨fun _ => False, fun d' _ => d' = .bool true, fun _ => False, fun _ => False⟩) :
    codeAny (model P w) callerA (.call (.ref fa) ⟨[.ref a], []⟩) (fun r s' => r = .ok (.ret (.bool true)) ∧ OldK s₁.heap s'.heap ∧ s'.os = s₁.os ∧ AllBare s'.gens) s₁ := by
  have rv := vals_ints hi
  have lenV := hi.length
  -- the script alone is tracked, unless it is an object of the written part
  generalize hH : scH K a { cls := .type "list", data := .seq vs.toArray } ns = H
  have Hs : ∀ {b u}, H b = some u → b = a ∧ K.lookup a = none ∧ u = .frz { cls := .type "list", data := .seq vs.toArray } (.lst (ns.map V.int)) := fun {b u} h => by rw [← hH] at h; exact scH_some h
  have Hn : ∀ {b}, b ≠ a → H b = none := fun {b} h => by rw [← hH]; exact scH_ne h
  have notA : ∀ {b : Addr} {o : Obj}, s₁.heap.get? b = some o → o.cls ≠ .type "list" ∨ (∃ es ep, o.data = .dict es ep) → b ≠ a := fun {b o} e h z => by
    subst z
    rw [ha] at e
    cases e
    rcases h with h | ⟨es, ep, h⟩
    · exact h rfl
    · have h' : Data.seq vs.toArray _ = Data.dict es ep := h
      cases h'
  have there : ∀ {b : Addr} {o : Obj}, s₁.heap.get? b = some o → b ≠ a → (hidT s₁.heap H).get? b = some o := fun e n => hidT_get e (Hn n)
  have ns_ : ∀ {b : Addr} {m : Str → Option Value}, s₁.heap.Ns b m → (hidT s₁.heap H).Ns b m := fun {b m} h => by
    obtain ⟨o, es, ep, e, d, r⟩ := h
    exact ⟨o, es, ep, there e (notA e (.inr ⟨es, ep, d⟩)), d, r⟩
  have hK : K.In (hidT s₁.heap H) := fun b o e => hidT_get (KX b o e) (by
    cases q : H b with
    | none => rfl
    | some u =>
      obtain ⟨rfl, z, _⟩ := Hs q
      rw [z] at e; cases e)
  have hM : L2.Mod K mg (hidT s₁.heap H) := ⟨hK, ns_ hns, ⟨mb, ns_ hb, hbb⟩, let ⟨mc, h1, h2⟩ := hlim; ⟨mc, ns_ h1, h2⟩⟩
  have seer : (hidT s₁.heap H).NoSeer := by
    obtain ⟨⟨mc, a1, a2⟩, ⟨mm, b1, b2⟩, ⟨mb', c1, c2⟩, ⟨mg', bm, ob, d1, d2, d3, d4, d5⟩⟩ := hseer
    exact ⟨⟨mc, ns_ a1, a2⟩, ⟨mm, ns_ b1, b2⟩, ⟨mb', ns_ c1, c2⟩, ⟨mg', bm, ob, ns_ d1, d2, there d3 (notA d3 (.inl (by rw [d4]; decide))), d4, d5⟩⟩
  have hok : HOk P w H s₁.heap := fun b u h => by
    obtain ⟨rfl, _, rfl⟩ := Hs h
    exact ⟨ha, by rw [List.length_map]; exact hl, vs, _, rv, ha⟩
  have e0 : Env0 P w K mg (hidT s₁.heap H) callerA [] s₁ H := ⟨rfl, hM, fun b o e => of_hidT e, Nat.le_of_eq (hidT_size _ _), trivial, fun b hb => absurd hb List.not_mem_nil, hok, .of_eq hg⟩
  have sq : SqL K H a (ns.map V.int) := by
    cases hk : K.lookup a with
    | none => exact .inl (.inr ⟨{ cls := .type "list", data := .seq vs.toArray }, by rw [← hH]; unfold scH; rw [if_pos ⟨rfl, hk⟩]⟩)
    | some o =>
      have e := KX a o hk
      rw [ha] at e
      cases e
      exact .inr ⟨_, vs.toArray, _, hk, rfl, rfl, rfl, by rw [List.size_toArray, lenV]; exact hl, by simpa using rv⟩
  have hE : Ex H H := Ex.refl H
  have hd : DpAll K H [.ref a] [.list (ns.map .int)] := .cons (.lst sq (Da.ints ns)) .nil
  obtain ⟨oc, od, kV, doc, pm, an, cdv, ct, osl, rfl, lk, hcd⟩ := Fn.ex
  have hkind : ∀ y ∈ [x0].zip [Value.ref a], (defScope st).names.lookup y.1 = some .local ∨ ((defScope st).names.lookup y.1 = some .cell ∧ ((cellsFrom (s₁.heap.objs.size + 1) (defScope st).names []).lookup y.1).isSome = true) := fun y hy => by
    rcases S.par y.1 (List.of_mem_zip (a := y.1) (b := y.2) hy).1 with q | q
    · exact .inl q
    · exact .inr ⟨q, PySem.W.cellsFrom_some _ _ _ (.inl q)⟩
  obtain ⟨t, ht, hR⟩ := body (hidT s₁.heap H) cdv H seer hK (ns_ hns)
  refine codeAny_call_function hr.depth (KX _ _ lk) rfl S.co S.gen rfl (PySem.W.codeRec_of KX hcd) (hbind s₁ (.ref a) _ _ _ _ ?_)
  refine wpAny_newFunctionEnv_cells S.kind hkind fun env he s1 y => ?_
  subst he
  refine ⟨hlim.keeps y.toInCall.keep, codeAny_func ?_⟩
  have I0 := inv_start (CX := CX0) (N := N) (E := fun _ _ _ => False) S hr.hd e0 (vs := [.ref a]) (us := [.ref a]) rfl (.cons rfl .nil) y
  have hq : t { nx := fun _ _ => False, rt := fun v H' => v = .bl true ∧ Ex H H' } (start N [.ref a]) H := by
    refine hR ⟨none, [], No, H, H⟩ (start N [.ref a]) H H (fun _ => []) _ ⟨s1_start hE hd, Gr.refl hE, fun p ⟨i, z⟩ => by simp at z, fun z => by cases z⟩ ⟨?_, ?_, ?_, ?_⟩
    · intro Γ σ H' I' ad z; exact z.elim
    · intro d' Γ v σ H' I' ad z s' p
      have z' : d' = .bool true := z
      subst z'
      cases p
      exact ⟨rfl, fun q o hq => s'.gr.h q o (fun z => z) hq⟩
    · intro Γ σ H' I' ad z; exact z.elim
    · intro Γ σ H' I' ad z; exact z.elim
  refine wpAny_mono (ht.nox.run [] s1 (start N [.ref a]) H _ I0 hq) (fun fl s' hs => ?_) fun e s' hs => ?_
  · cases fl with
    | ret u =>
      obtain ⟨v, σ', H', J, rv', hv, hex⟩ := hs
      subst hv
      obtain rfl : u = Value.bool true := rv'
      refine ⟨rfl, OldK.of_keep fun b o e => ?_, J.os, J.bare⟩
      cases q : H b with
      | none => exact J.base.keep b o e q (fun z => absurd z List.not_mem_nil) (fun z => absurd z List.not_mem_nil)
      | some u =>
        obtain ⟨_, _, rfl⟩ := Hs q
        obtain ⟨e1, _⟩ := hok b _ q
        obtain ⟨e2, _⟩ := J.hok b _ (hex b _ q)
        rw [e] at e1; cases e1
        exact e2
    | next =>
      obtain ⟨_, _, _, q⟩ := hs
      exact False.elim q
    | brk =>
      obtain ⟨_, _, _, q⟩ := hs
      exact False.elim q
    | cont =>
      obtain ⟨_, _, _, q⟩ := hs
      exact False.elim q
  · exact wpAny_mono hs (fun _ _ z => False.elim z) (fun _ _ z => False.elim z)
end
end DL
namespace DL
open PySem PySem.Spec PyProof.Rows L2
theorem kRepr {X : Cx} (K : PySem.W.Frag) (hg : X.A.guards = some []) (hu : X.A.units + 70 < cLine) (h : X.K = K := by rfl) : CallR X (.builtin "repr") (rRepr K) := by subst h; exact cr_repr hg hu
/-! ### what may be shown -/
structure Sh (k : Nat) (d : PyData) : Prop where
  shp : Shp k d
  shb : d.showable = true
  dic : d.hasDict = false
  int : d.intsShort 13 = true
theorem sh_int {i : Int} (h : i.natAbs < 10 ^ 12) {k : Nat} : Sh k (.int i) := ⟨shp_int, by
  simp only [PyData.showable]
  refine decide_eq_true ?_
  by_cases z : i.natAbs = 0
  · rw [z]; decide
  · rw [Nat.log2_lt z]
    exact Nat.lt_of_lt_of_le h (Nat.le_trans (show (10 : Nat) ^ 12 ≤ 2 ^ 40 by decide) (Nat.pow_le_pow_right (by decide) (by decide))), rfl, by
  simp only [PyData.intsShort]
  exact decide_eq_true (PyData.shown_int_le h)⟩
theorem sh_all {k : Nat} : ∀ {ds : List PyData}, (∀ d ∈ ds, Sh k d) → PyData.showableAll ds = true ∧ PyData.hasDictAll ds = false ∧ PyData.intsShortAll 13 ds = true
  | [], _ => ⟨rfl, rfl, rfl⟩
  | d :: ds, h => by
    have a := h d (by simp)
    obtain ⟨b1, b2, b3⟩ := sh_all (ds := ds) fun x hx => h x (by simp [hx])
    simp only [PyData.showableAll, PyData.hasDictAll, PyData.intsShortAll, a.shb, a.dic, a.int, b1, b2, b3]
    exact ⟨rfl, rfl, rfl⟩
theorem sh_lst {k : Nat} {ds : List PyData} (h : ∀ d ∈ ds, Sh k d) : Sh (k + 1) (.list ds) := by
  obtain ⟨b1, b2, b3⟩ := sh_all h
  exact ⟨shp_lst fun d hd => (h d hd).shp, by simp only [PyData.showable]; exact b1, by simp only [PyData.hasDict]; exact b2, by simp only [PyData.intsShort]; exact b3⟩
theorem sh_tup {k : Nat} {ds : List PyData} (h : ∀ d ∈ ds, Sh k d) : Sh (k + 1) (.tuple ds) := by
  obtain ⟨b1, b2, b3⟩ := sh_all h
  exact ⟨shp_tup fun d hd => (h d hd).shp, by simp only [PyData.showable]; exact b1, by simp only [PyData.hasDict]; exact b2, by simp only [PyData.intsShort]; exact b3⟩
theorem wt_all {W : Nat} : ∀ {ds : List PyData}, (∀ d ∈ ds, d.weight ≤ W) → PyData.weightAll ds ≤ (W + 1) * ds.length
  | [], _ => Nat.zero_le _
  | d :: ds, h => by
    have a := h d (by simp)
    have b := wt_all (ds := ds) fun x hx => h x (by simp [hx])
    simp only [PyData.weightAll, List.length_cons, Nat.mul_succ]
    omega
theorem wt_int {i : Int} (h : i.natAbs < 10 ^ 12) : (PyData.int i).weight ≤ 40 := by
  simp only [PyData.weight]
  split
  · omega
  · rename_i z
    have z' : i.natAbs ≠ 0 := by
      intro q
      apply z
      have : i = 0 := by omega
      subst this; rfl
    have : i.natAbs.log2 < 40 := (Nat.log2_lt z').mpr (Nat.lt_of_lt_of_le h (by decide))
    omega
theorem Sh.fits {k : Nat} {d : PyData} (h : Sh k d) (hk : k ≤ 64) (hw : d.weight ≤ 2 ^ 20) : d.shown.length ≤ sizeLine := by
  have hl : PyData.layable0 d = true := by
    unfold PyData.layable0
    rw [h.shp.1, decide_eq_true (Nat.le_trans h.shp.2 hk), decide_eq_true hw]; rfl
  exact Nat.le_trans (shown_le13 hl h.int) (by show _ ≤ 16777216; omega)
end DL

namespace K87
open PySem PySem.Spec PyProof.Rows L2 DL
def topS (i : Nat) : Stmt := PySem.Challenge.pw_hushgrain_k87_matrices.main.body.getD i (.Pass ⟨0, 0, 0, 0⟩)
variable {P : Program} {w : World} {K : PySem.W.Frag} {mg : Str → Option Value} {base : Heap}
/-- a list or tuple of ints -/
def Sq (d : PyData) (xs : List Int) : Prop := seqD d = some (xs.map .int)
def vec (xs : List Int) : PyData := .tuple (xs.map .int)
theorem sq_vec (xs : List Int) : Sq (vec xs) xs := rfl
def dotL (f v : List Int) : Int := ((List.zip f v).map fun p => p.1 * p.2).sum
abbrev s_dot : Stmt := topS 3
abbrev nm_dot : List Str := ["form", "vector", "weight", "entry"]
theorem sc_dot : FnScope nm_dot ["form", "vector"] (defScope s_dot) := ⟨rfl, rfl, rfl, by decide +kernel, rfl, by decide +kernel, by decide +kernel⟩
def F_dot (ds : List PyData) (d : PyData) : Prop := ∃ a b f v, ds = [a, b] ∧ Sq a f ∧ Sq b v ∧ f.length ≤ 1000 ∧ (∀ p ∈ List.zip f v, IntMulOk p.1 p.2) ∧ d = .int (dotL f v)
abbrev T_dot (P : Program) (w : World) (K : PySem.W.Frag) (mg : Str → Option Value) (base : Heap) : Prop := Cal P w K mg base "dot" 41 ["form", "vector"] (PR K F_dot)
theorem ok_dot (S : Sur P mg base) (A : FunAt K mg "dot" s_dot) : T_dot P w K mg base := by
  refine cal_pure A sc_dot (fun _ _ _ _ _ _ us hl => match us, hl with | [_, _], _ => rfl) ?_ (fun f cdv A outer s H E hr => ⟨_, (pss_one (ps_ret (pe_callB (kSum K rfl) (by rfl) (S.no "sum" (by decide)) boot_sum (pa_cons (pe_lc (own := [("weight", 2), ("entry", 3)]) rfl sc_dot.nd (kZip K (by rfl) (S.no "zip" (by decide)) (pa_cons (pv 0) (pa_cons (pv 1) pa_nil))) (blkOk_by (N := nm_dot) (sc := defScope s_dot) (by decide +kernel)) (fun _ _ _ _ _ => (kAny K (n := 2) rfl (pgs_cons (pg_name (i := 2) sc_dot.nd rfl (by first | exact .inl rfl | exact .inr rfl)) (pgs_cons (pg_name (i := 3) sc_dot.nd rfl (by first | exact .inl rfl | exact .inr rfl)) pgs_nil)))) (fun _ _ _ _ _ => pts_nil) (fun _ _ _ _ _ => (pe_op (kMul K) (pv 2) (pv 3)))) pa_nil)))), ?_⟩)
  · rintro _ _ ⟨_, _, _, _, rfl, _⟩; rfl
  · rintro _ _ ⟨a, b, f, v, rfl, ha, hb, hl, hm, rfl⟩
    show RS K false _ [.dat a, .dat b, .un, .un] _
    exact rs_ret (re_cb (ra_cons (RL.re (rl_mapP (List.zip f v) (fun p => .int p.1) (fun p => .int p.2) (fun p => .int (p.1 * p.2)) (ri_zip2 (ra_cons (re_var rfl) (ra_cons (re_var rfl) ra_nil)) ha hb)
      (by rw [List.length_zip]; omega) (fun p hp => re_mulI (re_var rfl) (re_var rfl) (hm p hp)))) ra_nil) cd_sumM) rfl
def scaleL (k : Int) (f : List Int) : List Int := f.map fun x => k * x
abbrev s_scale_form : Stmt := topS 4
abbrev nm_scale_form : List Str := ["factor", "form", "entry"]
theorem sc_scale_form : FnScope nm_scale_form ["factor", "form"] (defScope s_scale_form) := ⟨rfl, rfl, rfl, by decide +kernel, rfl, by decide +kernel, by decide +kernel⟩
def F_scale_form (ds : List PyData) (d : PyData) : Prop := ∃ k b f, ds = [.int k, b] ∧ Sq b f ∧ f.length ≤ 1000 ∧ (∀ x ∈ f, IntMulOk k x) ∧ d = vec (scaleL k f)
abbrev T_scale_form (P : Program) (w : World) (K : PySem.W.Frag) (mg : Str → Option Value) (base : Heap) : Prop := Cal P w K mg base "scale_form" 41 ["factor", "form"] (PR K F_scale_form)
theorem ok_scale_form (S : Sur P mg base) (A : FunAt K mg "scale_form" s_scale_form) : T_scale_form P w K mg base := by
  refine cal_pure A sc_scale_form (fun _ _ _ _ _ _ us hl => match us, hl with | [_, _], _ => rfl) ?_ (fun f cdv A outer s H E hr => ⟨_, (pss_one (ps_ret (kTuple K (by rfl) (S.no "tuple" (by decide)) (pe_lc (own := [("entry", 2)]) rfl sc_scale_form.nd (kSeq K (pv 1)) (blkOk_by (N := nm_scale_form) (sc := defScope s_scale_form) (by decide +kernel)) (fun _ _ _ _ _ => (pg_name (i := 2) sc_scale_form.nd rfl (by first | exact .inl rfl | exact .inr rfl))) (fun _ _ _ _ _ => pts_nil) (fun _ _ _ _ _ => (pe_op (kMul K) (pv 0) (pv 2))))))), ?_⟩)
  · rintro _ _ ⟨_, _, _, rfl, _⟩; rfl
  · rintro _ _ ⟨k, b, f, rfl, hb, hl, hm, rfl⟩
    show RS K false _ [.dat (.int k), .dat b, .un] _
    exact rs_ret (re_tupleL (RL.re (rl_map f .int (fun x => .int (k * x)) (ri_seq (re_var rfl) hb) (by omega) (fun x hx => re_mulI (re_var rfl) (re_var rfl) (hm x hx))))) (by simp [vec, scaleL])
def combL (k : Int) (f : List Int) (l : Int) (g : List Int) : List Int := (List.zip f g).map fun p => k * p.1 + l * p.2
abbrev s_combined : Stmt := topS 5
abbrev nm_combined : List Str := ["factor", "one", "other_factor", "other", "a", "b"]
theorem sc_combined : FnScope nm_combined ["factor", "one", "other_factor", "other"] (defScope s_combined) := ⟨rfl, rfl, rfl, by decide +kernel, rfl, by decide +kernel, by decide +kernel⟩
def F_combined (ds : List PyData) (d : PyData) : Prop := ∃ k a f l b g, ds = [.int k, a, .int l, b] ∧ Sq a f ∧ Sq b g ∧ f.length ≤ 1000 ∧ (∀ x ∈ f, IntMulOk k x) ∧ (∀ x ∈ g, IntMulOk l x) ∧ d = vec (combL k f l g)
abbrev T_combined (P : Program) (w : World) (K : PySem.W.Frag) (mg : Str → Option Value) (base : Heap) : Prop := Cal P w K mg base "combined" 41 ["factor", "one", "other_factor", "other"] (PR K F_combined)
theorem ok_combined (S : Sur P mg base) (A : FunAt K mg "combined" s_combined) : T_combined P w K mg base := by
  refine cal_pure A sc_combined (fun _ _ _ _ _ _ us hl => match us, hl with | [_, _, _, _], _ => rfl) ?_ (fun f cdv A outer s H E hr => ⟨_, (pss_one (ps_ret (kTuple K (by rfl) (S.no "tuple" (by decide)) (pe_lc (own := [("a", 4), ("b", 5)]) rfl sc_combined.nd (kZip K (by rfl) (S.no "zip" (by decide)) (pa_cons (pv 1) (pa_cons (pv 3) pa_nil))) (blkOk_by (N := nm_combined) (sc := defScope s_combined) (by decide +kernel)) (fun _ _ _ _ _ => (kAny K (n := 2) rfl (pgs_cons (pg_name (i := 4) sc_combined.nd rfl (by first | exact .inl rfl | exact .inr rfl)) (pgs_cons (pg_name (i := 5) sc_combined.nd rfl (by first | exact .inl rfl | exact .inr rfl)) pgs_nil)))) (fun _ _ _ _ _ => pts_nil) (fun _ _ _ _ _ => (pe_op (kAdd K) (pe_op (kMul K) (pv 0) (pv 4)) (pe_op (kMul K) (pv 2) (pv 5)))))))), ?_⟩)
  · rintro _ _ ⟨_, _, _, _, _, _, rfl, _⟩; rfl
  · rintro _ _ ⟨k, a, f, l, b, g, rfl, ha, hb, hl, hm, hn, rfl⟩
    show RS K false _ [.dat (.int k), .dat a, .dat (.int l), .dat b, .un, .un] _
    exact rs_ret (re_tupleL (RL.re (rl_mapP (List.zip f g) (fun p => .int p.1) (fun p => .int p.2) (fun p => .int (k * p.1 + l * p.2)) (ri_zip2 (ra_cons (re_var rfl) (ra_cons (re_var rfl) ra_nil)) ha hb)
      (by rw [List.length_zip]; omega) (fun p hp => re_addI (re_mulI (re_var rfl) (re_var rfl) (hm _ (List.of_mem_zip hp).1)) (re_mulI (re_var rfl) (re_var rfl) (hn _ (List.of_mem_zip hp).2)))))) (by simp [vec, combL])
def unitL (n : Nat) (k : Int) : List Int := (List.range n).map fun (i : Nat) => if (i : Int) = k then 1 else 0
abbrev s_unit_form : Stmt := topS 6
abbrev nm_unit_form : List Str := ["size", "place", "at"]
theorem sc_unit_form : FnScope nm_unit_form ["size", "place"] (defScope s_unit_form) := ⟨rfl, rfl, rfl, by decide +kernel, rfl, by decide +kernel, by decide +kernel⟩
def F_unit_form (ds : List PyData) (d : PyData) : Prop := ∃ (n : Nat) (k : Int), ds = [.int n, .int k] ∧ n ≤ 1000 ∧ d = vec (unitL n k)
abbrev T_unit_form (P : Program) (w : World) (K : PySem.W.Frag) (mg : Str → Option Value) (base : Heap) : Prop := Cal P w K mg base "unit_form" 41 ["size", "place"] (PR K F_unit_form)
theorem ok_unit_form (S : Sur P mg base) (A : FunAt K mg "unit_form" s_unit_form) : T_unit_form P w K mg base := by
  refine cal_pure A sc_unit_form (fun _ _ _ _ _ _ us hl => match us, hl with | [_, _], _ => rfl) ?_ (fun f cdv A outer s H E hr => ⟨_, (pss_one (ps_ret (kTuple K (by rfl) (S.no "tuple" (by decide)) (pe_lc (own := [("at", 2)]) rfl sc_unit_form.nd (pi_range1 (by rfl) (S.no "range" (by decide)) (pa_cons (pv 0) pa_nil)) (blkOk_by (N := nm_unit_form) (sc := defScope s_unit_form) (by decide +kernel)) (fun _ _ _ _ _ => (pg_name (i := 2) sc_unit_form.nd rfl (by first | exact .inl rfl | exact .inr rfl))) (fun _ _ _ _ _ => pts_nil) (fun _ _ _ _ _ => (pe_callTy call_int1 (by rfl) (S.no "int" (by decide)) boot_int (pa_cons (pe_cmpR (kEq K hr.units) (pv 2) (pv 1) (nomark _)) pa_nil))))))), ?_⟩)
  · rintro _ _ ⟨_, _, rfl, _⟩; rfl
  · rintro _ _ ⟨n, k, rfl, hl, rfl⟩
    show RS K false _ [.dat (.int n), .dat (.int k), .un] _
    exact rs_ret (re_tupleL (RL.re (rl_map (List.range n) (fun (i : Nat) => .int (i : Int)) (fun (i : Nat) => .int (if decide ((i : Int) = k) = true then 1 else 0)) (ri_range (ra_cons (re_var rfl) ra_nil) (by omega)) (by simp; omega) (fun x hx => re_cb (ra_cons (re_eqI (re_var rfl) (re_var rfl)) ra_nil) cd_intB)))) (by simp [vec, unitL, Function.comp_def])
/-! ### bezout -/
abbrev T3 := Int × Int × Int
def trip (z : T3) : PyData := .tuple [.int z.1, .int z.2.1, .int z.2.2]
def sub3 (q : Int) (l r : T3) : T3 := (l.1 - q * r.1, l.2.1 - q * r.2.1, l.2.2 - q * r.2.2)
inductive BzRun : Nat → T3 → T3 → T3 → Prop where
  | stop {l r : T3} : r.1 = 0 → BzRun 0 l r l
  | step {n : Nat} {l r z : T3} : r.1 ≠ 0 → IntMulOk (l.1.fdiv r.1) r.1 → IntMulOk (l.1.fdiv r.1) r.2.1 → IntMulOk (l.1.fdiv r.1) r.2.2 → BzRun n r (sub3 (l.1.fdiv r.1) l r) z → BzRun (n + 1) l r z
def bzStart (a b : Int) : T3 := if a ≠ 0 ∧ b.fmod a = 0 then (0, 0, 1) else (b, 0, 1)
def neg3 (z : T3) : T3 := if z.1 < 0 then (-z.1, -z.2.1, -z.2.2) else z
abbrev s_bezout : Stmt := topS 1
abbrev nm_bezout : List Str := ["one", "other", "left", "right", "factor", "number", "a", "b"]
theorem sc_bezout : FnScope nm_bezout ["one", "other"] (defScope s_bezout) := ⟨rfl, rfl, rfl, by decide +kernel, rfl, by decide +kernel, by decide +kernel⟩
def F_bezout (ds : List PyData) (d : PyData) : Prop := ∃ a b z n, ds = [.int a, .int b] ∧ BzRun n (a, 1, 0) (bzStart a b) z ∧ d = trip (neg3 z)
abbrev T_bezout (P : Program) (w : World) (K : PySem.W.Frag) (mg : Str → Option Value) (base : Heap) : Prop := Cal P w K mg base "bezout" 41 ["one", "other"] (PR K F_bezout)
theorem ok_bezout (S : Sur P mg base) (A : FunAt K mg "bezout" s_bezout) : T_bezout P w K mg base := by
  refine cal_pure A sc_bezout (fun _ _ _ _ _ _ us hl => match us, hl with | [_, _], _ => rfl) ?_ (fun f cdv A outer s H E hr => ⟨_, (pss_cons (ps_par (i := 2) (j := 3) rfl sc_bezout.nd rfl rfl (by decide) rfl rfl (pa_cons (pe_tup (pa_cons (pv 0) (pa_cons pe_int (pa_cons pe_int pa_nil)))) (pa_cons (pe_tup (pa_cons (pv 1) (pa_cons pe_int (pa_cons pe_int pa_nil)))) pa_nil)) rfl) (pss_cons (ps_if (PW.pt (pw_and (pt_cmpR (kNe K hr.units) (pv 0) pe_int (nomark _)) (pw_and1 (pt_cmpR (kEq K hr.units) (pe_op op_modN (pv 1) (pv 0)) pe_int (nomark _))))) (pss_one (ps_set (i := 3) sc_bezout.nd rfl (by first | exact .inl rfl | exact .inr rfl) (pe_tup (pa_cons pe_int (pa_cons pe_int (pa_cons pe_int pa_nil)))))) pss_nil) (pss_cons (ps_while PassesOwn.never (pt_cmpR (kNe K hr.units) (pe_ix (kIx K) (pv 3) pe_int (fun _ _ => rfl)) pe_int (nomark _)) (pss_cons (ps_set (i := 4) sc_bezout.nd rfl (by first | exact .inl rfl | exact .inr rfl) (pe_op (op_fdivX (py_of S.seer S.tree hr)) (pe_ix (kIx K) (pv 2) pe_int (fun _ _ => rfl)) (pe_ix (kIx K) (pv 3) pe_int (fun _ _ => rfl)))) (pss_one (ps_par (i := 2) (j := 3) rfl sc_bezout.nd rfl rfl (by decide) rfl rfl (pa_cons (pv 3) (pa_cons (kTuple K (by rfl) (S.no "tuple" (by decide)) (pe_lc (own := [("a", 6), ("b", 7)]) rfl sc_bezout.nd (kZip K (by rfl) (S.no "zip" (by decide)) (pa_cons (pv 2) (pa_cons (pv 3) pa_nil))) (blkOk_by (N := nm_bezout) (sc := defScope s_bezout) (by decide +kernel)) (fun _ _ _ _ _ => (kAny K (n := 2) rfl (pgs_cons (pg_name (i := 6) sc_bezout.nd rfl (by first | exact .inl rfl | exact .inr rfl)) (pgs_cons (pg_name (i := 7) sc_bezout.nd rfl (by first | exact .inl rfl | exact .inr rfl)) pgs_nil)))) (fun _ _ _ _ _ => pts_nil) (fun _ _ _ _ _ => (pe_op op_sub (pv 6) (pe_op (kMul K) (pv 4) (pv 7)))))) pa_nil)) rfl)))) (pss_cons (ps_if (pt_cmpR op_lt (pe_ix (kIx K) (pv 2) pe_int (fun _ _ => rfl)) pe_int (nomark _)) (pss_one (ps_set (i := 2) sc_bezout.nd rfl (by first | exact .inl rfl | exact .inr rfl) (kTuple K (by rfl) (S.no "tuple" (by decide)) (pe_lc (own := [("number", 5)]) rfl sc_bezout.nd (kSeq K (pv 2)) (blkOk_by (N := nm_bezout) (sc := defScope s_bezout) (by decide +kernel)) (fun _ _ _ _ _ => (pg_name (i := 5) sc_bezout.nd rfl (by first | exact .inl rfl | exact .inr rfl))) (fun _ _ _ _ _ => pts_nil) (fun _ _ _ _ _ => (pe_un un_neg (pv 5))))))) pss_nil) (pss_one (ps_ret (pv 2))))))), ?_⟩)
  · rintro _ _ ⟨_, _, _, _, rfl, _⟩; rfl
  · rintro _ _ ⟨a, b, z, n, rfl, run, rfl⟩
    show RS K false _ [.dat (.int a), .dat (.int b), .un, .un, .un, .un, .un, .un] _
    refine rs_seq (rs_par (ra_cons (re_tup (ra_cons (re_var rfl) (ra_cons re_int (ra_cons re_int ra_nil)))) (ra_cons (re_tup (ra_cons (re_var rfl) (ra_cons re_int (ra_cons re_int ra_nil)))) ra_nil)) ?_)
    show RS K false _ [.dat (.int a), .dat (.int b), .dat (trip (a, 1, 0)), .dat (trip (b, 0, 1)), .un, .un, .un, .un] _
    refine rs_cut (fun Γ => ∃ r : T3, Γ = [.dat (.int a), .dat (.int b), .dat (trip (a, 1, 0)), .dat (trip r), .un, .un, .un, .un] ∧ BzRun n (a, 1, 0) r z) ?_ ?_
    · by_cases ha : a = 0
      · have e : bzStart a b = (b, 0, 1) := by unfold bzStart; rw [if_neg (fun q => q.1 ha)]
        rw [e] at run
        refine rs_if (b := false) ((rt_and (c := true) (rt_test (re_neI (re_var rfl) re_int)) (fun _ => rfl) (fun hh => by subst ha; cases hh)).is (by subst ha; rfl)) (fun z => by cases z) (fun _ => rs_nx ⟨_, rfl, run⟩)
      · refine rs_if (rt_and (rt_test (re_neI (re_var rfl) re_int)) (fun _ => rfl) (fun _ => rt_test (re_eqI (re_modI (re_var rfl) (re_var rfl) ha) re_int))) (fun hb => ?_) (fun hb => rs_nx ?_)
        · refine rs_set (re_tup (ra_cons re_int (ra_cons re_int (ra_cons re_int ra_nil)))) ?_
          have hb2 : b.fmod a = 0 := by simp at hb; exact hb.2
          have e : bzStart a b = (0, 0, 1) := by unfold bzStart; rw [if_pos ⟨ha, hb2⟩]
          rw [e] at run
          exact ⟨_, rfl, run⟩
        · have hb2 : ¬ b.fmod a = 0 := by simp [ha] at hb; exact hb
          have e : bzStart a b = (b, 0, 1) := by unfold bzStart; rw [if_neg (fun q => hb2 q.2)]
          rw [e] at run
          exact ⟨_, rfl, run⟩
    · rintro _ ⟨r, rfl, run⟩
      refine rs_seq (rs_while (fun m Γ => ∃ l r x, Γ = [.dat (.int a), .dat (.int b), .dat (trip l), .dat (trip r), x, .un, .un, .un] ∧ BzRun m l r z) n ⟨(a, 1, 0), r, .un, rfl, run⟩ fun m Γ hW => ?_)
      obtain ⟨l, r, x, rfl, run⟩ := hW
      refine ⟨_, _, rt_test (re_neI (re_ixT (re_var rfl) re_int rfl) re_int), fun hb => ?_, fun hb => ?_⟩
      · cases run with
        | stop h => rw [h] at hb; cases hb
        | @step m' _ _ _ h m1 m2 m3 run =>
          refine rs_seq (rs_set (re_fdivI (re_ixT (re_var rfl) re_int rfl) (re_ixT (re_var rfl) re_int rfl) h) ?_)
          show RS K false _ [.dat (.int a), .dat (.int b), .dat (trip l), .dat (trip r), .dat (.int (l.1.fdiv r.1)), .un, .un, .un] _
          have hz : RI K (iZipX K (tCons (tVar 2) (tCons (tVar 3) tNil))) [.dat (.int a), .dat (.int b), .dat (trip l), .dat (trip r), .dat (.int (l.1.fdiv r.1)), .un, .un, .un]
            ([(l.1, r.1), (l.2.1, r.2.1), (l.2.2, r.2.2)].map fun p => .tuple [.int p.1, .int p.2]) [.dat (.int a), .dat (.int b), .dat (trip l), .dat (trip r), .dat (.int (l.1.fdiv r.1)), .un, .un, .un] :=
            ri_zip (ds := [.int l.1, .int l.2.1, .int l.2.2]) (es := [.int r.1, .int r.2.1, .int r.2.2]) (ra_cons (d := trip l) (re_var rfl) (ra_cons (d := trip r) (re_var rfl) ra_nil)) rfl rfl
          refine rs_par (ra_cons (re_var rfl) (ra_cons (re_tupleL (RL.re (rl_mapP [(l.1, r.1), (l.2.1, r.2.1), (l.2.2, r.2.2)] (fun p => .int p.1) (fun p => .int p.2) (fun p => .int (p.1 - l.1.fdiv r.1 * p.2))
            hz (by simp) (fun p hp => re_subI (re_var rfl) (re_mulI (re_var rfl) (re_var rfl) ?_))))) ra_nil)) ?_
          · simp only [List.mem_cons, List.not_mem_nil, or_false] at hp
            rcases hp with rfl | rfl | rfl
            · exact m1
            · exact m2
            · exact m3
          · exact ⟨m', Nat.lt_succ_self m', r, sub3 (l.1.fdiv r.1) l r, _, rfl, run⟩
      · cases run with
        | step h _ _ _ _ => rw [decide_eq_false h] at hb; cases hb
        | stop h =>
          show RS K false _ [.dat (.int a), .dat (.int b), .dat (trip z), .dat (trip r), x, .un, .un, .un] _
          refine rs_seq (rs_if (rt_test (re_op (re_ixT (re_var rfl) re_int rfl) re_int od_lt)) (fun hb => ?_) (fun hb => rs_nx ?_))
          · refine rs_set (re_tupleL (RL.re (rl_map [z.1, z.2.1, z.2.2] .int (fun n => .int (-n)) (ri_seq (re_var rfl) rfl) (by simp) (fun n hn => re_neg (re_var rfl))))) ?_
            refine rs_ret (re_var rfl) ?_
            have : z.1 < 0 := of_decide_eq_true hb
            show _ = trip (neg3 z)
            unfold neg3
            rw [if_pos this]
            rfl
          · refine rs_ret (re_var rfl) ?_
            have : ¬ z.1 < 0 := of_decide_eq_false hb
            show _ = trip (neg3 z)
            unfold neg3
            rw [if_neg this]
end K87

namespace K87
open PySem PySem.Spec PyProof.Rows L2 DL
open PySem.Builtin.Int (intBits)
variable {P : Program} {w : World} {K : PySem.W.Frag} {mg : Str → Option Value} {base : Heap}
/-! ### small numbers, vectors, echelons -/
def Sm (x : Int) : Prop := intBits x ≤ 60000000
theorem Sm.mul {x y : Int} (a : Sm x) (b : Sm y) : IntMulOk x y := IntMulOk.of_le a b (by decide)
theorem Sm.one {x : Int} (h : x.natAbs < 2 ^ 64) : Sm x := Nat.le_trans (intBits_le_iff.mpr h) (by decide)
theorem Sm.abs {x y : Int} (a : Sm y) (h : x.natAbs ≤ y.natAbs) : Sm x := intBits_le_of_natAbs h a
theorem Sm.neg {x : Int} (a : Sm x) : Sm (-x) := a.abs (by omega)
theorem Sm.fdiv {x y : Int} (a : Sm x) : Sm (x.fdiv y) := a.abs (natAbs_fdiv_le x y)
abbrev Vc := List Int
def at_ (v : Vc) (j : Nat) : Int := v.getD j 0
def Vn (n : Nat) (v : Vc) : Prop := v.length = n ∧ ∀ x ∈ v, Sm x
theorem at_get {v : Vc} {j : Nat} (h : j < v.length) : v[j]? = some (at_ v j) := by
  unfold at_; rw [List.getD_eq_getElem?_getD, List.getElem?_eq_getElem h]; rfl
theorem at_mem {v : Vc} {j : Nat} (h : j < v.length) : at_ v j ∈ v := List.mem_of_getElem? (at_get h)
theorem at_sm {n : Nat} {v : Vc} {j : Nat} (h : Vn n v) (hj : j < n) : Sm (at_ v j) := h.2 _ (at_mem (by rw [h.1]; exact hj))
theorem at_dat {v : Vc} {j : Nat} (h : j < v.length) : atI (v.map PyData.int) (j : Int) = some (.int (at_ v j)) := at_nat (by rw [List.getElem?_map, at_get h]; rfl)
theorem re_at {te tk : TE} {Γ Γ1 Γ2 : Ga} {d : PyData} {v : Vc} {j : Nat} (ha : RE K te Γ d Γ1) (hs : Sq d v) (hb : RE K tk Γ1 (.int (j : Int)) Γ2) (h : j < v.length) : RE K (tOp (rIx K) te tk) Γ (.int (at_ v j)) Γ2 := re_ixS ha hs hb (at_dat h)
abbrev Ec := List (Nat × Vc)
def gE (E : Ec) (p : Nat) : Option Vc := (E.find? fun q => decide (q.1 = p)).map (·.2)
def pE (E : Ec) (p : Nat) (r : Vc) : Ec := if (E.any fun q => decide (q.1 = p)) = true then E.map (fun q => if q.1 = p then (q.1, r) else q) else E ++ [(p, r)]
def ecD (E : Ec) : List (Int × PyData) := E.map fun p => ((p.1 : Int), vec p.2)
def dicE (E : Ec) : Sl := .dic (ecD E)
theorem dec_nat {p q : Nat} : decide ((p : Int) = (q : Int)) = decide (p = q) := by
  by_cases h : p = q
  · subst h; simp
  · rw [decide_eq_false h, decide_eq_false (by omega)]
theorem getD_E (E : Ec) (p : Nat) : getD (ecD E) (p : Int) = (gE E p).map vec := by
  induction E with
  | nil => rfl
  | cons q r ih =>
    unfold getD gE ecD at ih ⊢
    rw [List.map_cons, List.find?_cons, List.find?_cons]
    show Option.map _ (match decide ((q.1 : Int) = (p : Int)) with | true => some ((q.1 : Int), vec q.2) | false => _) = _
    rw [dec_nat]
    cases decide (q.1 = p) with
    | true => rfl
    | false => exact ih
theorem any_E (E : Ec) (p : Nat) : ((ecD E).any fun q => decide (q.1 = (p : Int))) = E.any fun q => decide (q.1 = p) := by
  unfold ecD
  rw [List.any_map]
  congr 1
  funext q
  exact dec_nat
theorem putD_E (E : Ec) (p : Nat) (r : Vc) : putD (ecD E) (p : Int) (vec r) = ecD (pE E p r) := by
  unfold putD pE
  rw [any_E]
  by_cases z : (E.any fun q => decide (q.1 = p)) = true
  · rw [if_pos z, if_pos z]
    unfold ecD
    rw [List.map_map, List.map_map]
    apply List.map_congr_left
    intro q _
    show (if (q.1 : Int) = (p : Int) then ((q.1 : Int), vec r) else ((q.1 : Int), vec q.2)) = _
    by_cases h : q.1 = p
    · rw [if_pos (by omega)]; simp [h]
    · rw [if_neg (by omega)]; simp [h]
  · rw [if_neg z, if_neg z]
    unfold ecD
    rw [List.map_append]; rfl
theorem gE_any (E : Ec) (p : Nat) : (gE E p).isSome = E.any fun q => decide (q.1 = p) := by
  unfold gE
  rw [Option.isSome_map, Bool.eq_iff_iff, List.find?_isSome, List.any_eq_true]
theorem gE_pE (E : Ec) (p : Nat) (r : Vc) (j : Nat) : gE (pE E p r) j = if j = p then some r else gE E j := by
  unfold pE
  by_cases z : (E.any fun q => decide (q.1 = p)) = true
  · rw [if_pos z]
    induction E with
    | nil => simp at z
    | cons q t ih =>
      unfold gE at ih ⊢
      rw [List.map_cons, List.find?_cons, List.find?_cons]
      by_cases h : q.1 = p
      · by_cases hj : j = p
        · subst hj; simp [h]
        · simp only [h, if_true, if_neg hj]
          rw [decide_eq_false (fun q => hj q.symm)]
          simp only
          by_cases z2 : (t.any fun q => decide (q.1 = p)) = true
          · have := ih z2; rw [if_neg hj] at this; exact this
          · have e : t.map (fun q => if q.1 = p then (q.1, r) else q) = t := by
              conv => rhs; rw [← List.map_id t]
              apply List.map_congr_left
              intro u hu
              rw [if_neg (fun q => z2 (List.any_eq_true.mpr ⟨u, hu, by simpa using q⟩))]; rfl
            rw [e]
      · have z2 : (t.any fun q => decide (q.1 = p)) = true := by simpa [h] using z
        simp only [if_neg h]
        by_cases hj : q.1 = j
        · subst hj; simp [h]
        · simp only [decide_eq_false hj]
          exact ih z2
  · rw [if_neg z]
    unfold gE
    rw [List.find?_append]
    by_cases hj : j = p
    · subst hj
      have : E.find? (fun q => decide (q.1 = j)) = none := by
        rw [List.find?_eq_none]
        intro u hu q
        exact z (List.any_eq_true.mpr ⟨u, hu, q⟩)
      rw [this]; simp
    · have : [(p, r)].find? (fun q => decide (q.1 = j)) = none := by
        rw [List.find?_cons, decide_eq_false (fun q => hj q.symm)]; rfl
      rw [this, if_neg hj]; simp
def KeyOk (n : Nat) (E : Ec) : Prop := (E.map (·.1)).Nodup ∧ ∀ q ∈ E, q.1 < n
theorem keys_pE {E : Ec} {p : Nat} {r : Vc} : (pE E p r).map (·.1) = if (E.any fun q => decide (q.1 = p)) = true then E.map (·.1) else E.map (·.1) ++ [p] := by
  unfold pE
  split
  · rw [List.map_map]
    apply List.map_congr_left
    intro q _
    show (if q.1 = p then (q.1, r) else q).1 = q.1
    split <;> rfl
  · rw [List.map_append]; rfl
theorem KeyOk.put {n : Nat} {E : Ec} {p : Nat} {r : Vc} (h : KeyOk n E) (hp : p < n) : KeyOk n (pE E p r) := by
  have e := keys_pE (E := E) (p := p) (r := r)
  constructor
  · rw [e]
    split
    · exact h.1
    · rename_i z
      rw [List.nodup_append]
      refine ⟨h.1, by simp, fun a ha b hb => ?_⟩
      rw [List.mem_singleton] at hb
      subst hb
      intro hab
      subst hab
      obtain ⟨q, hq, rfl⟩ := List.mem_map.mp ha
      exact z (List.any_eq_true.mpr ⟨q, hq, by simp⟩)
  · intro q hq
    have : q.1 ∈ (pE E p r).map (·.1) := List.mem_map_of_mem hq
    rw [e] at this
    split at this
    · obtain ⟨u, hu, e⟩ := List.mem_map.mp this
      rw [← e]; exact h.2 u hu
    · rcases List.mem_append.mp this with z | z
      · obtain ⟨u, hu, e⟩ := List.mem_map.mp z
        rw [← e]; exact h.2 u hu
      · rw [List.mem_singleton.mp z]; exact hp
def keysE (n : Nat) (E : Ec) : List Nat := (List.range n).filter fun p => (gE E p).isSome
theorem mem_keys {n : Nat} {E : Ec} (h : KeyOk n E) {p : Nat} : p ∈ keysE n E ↔ p ∈ E.map (·.1) := by
  unfold keysE
  rw [List.mem_filter, List.mem_range, gE_any, List.any_eq_true, List.mem_map]
  constructor
  · rintro ⟨_, q, hq, e⟩; exact ⟨q, hq, of_decide_eq_true e⟩
  · rintro ⟨q, hq, rfl⟩; exact ⟨h.2 q hq, q, hq, by simp⟩
theorem keys_pw (n : Nat) (E : Ec) : ((keysE n E).map Int.ofNat).Pairwise (· ≤ ·) := by
  rw [List.pairwise_map]
  refine List.Pairwise.filter _ ?_
  refine List.Pairwise.imp ?_ (List.pairwise_lt_range (n := n))
  intro a b h
  exact Int.ofNat_le.mpr (Nat.le_of_lt h)
theorem keys_perm {n : Nat} {E : Ec} (h : KeyOk n E) : ((keysE n E).map Int.ofNat).Perm ((ecD E).map (·.1)) := by
  have e : (ecD E).map (·.1) = (E.map (·.1)).map Int.ofNat := by
    unfold ecD; rw [List.map_map, List.map_map]; rfl
  rw [e]
  refine List.Perm.map _ ?_
  have nd : (keysE n E).Nodup := List.filter_sublist.nodup List.nodup_range
  rw [List.perm_ext_iff_of_nodup nd h.1]
  intro a
  exact mem_keys h
theorem keys_sorted {n : Nat} {E : Ec} (h : KeyOk n E) : ∀ ys : List Int, ys.Perm ((ecD E).map (·.1)) → ys.Pairwise (· ≤ ·) → ys = (keysE n E).map Int.ofNat := fun ys hp hs =>
  List.Perm.eq_of_pairwise (fun a b _ _ h1 h2 => Int.le_antisymm h1 h2) hs (keys_pw n E) (hp.trans (keys_perm h).symm)
theorem keys_len {n : Nat} {E : Ec} (h : KeyOk n E) : (ecD E).length ≤ n := by
  have : ((ecD E).map (·.1)).length = ((keysE n E).map Int.ofNat).length := (keys_perm h).length_eq.symm
  rw [List.length_map, List.length_map] at this
  rw [this]
  exact Nat.le_trans (List.length_filter_le _ _) (by rw [List.length_range]; exact Nat.le_refl n)
theorem keys_get {n : Nat} {E : Ec} {p : Nat} (h : p ∈ keysE n E) : ∃ r, gE E p = some r := by
  have := (List.mem_filter.mp h).2
  cases e : gE E p with
  | none => rw [e] at this; cases this
  | some r => exact ⟨r, rfl⟩
def EOk (n : Nat) (E : Ec) : Prop := KeyOk n E ∧ ∀ p r, gE E p = some r → p < n ∧ Vn n r ∧ at_ r p ≠ 0
/-! ### lowered -/
def lowStep (E : Ec) (c : Nat) (v : Vc) (p : Nat) : Vc := if c < p then (match gE E p with | some row => combL 1 v (-((at_ v p).fdiv (at_ row p))) row | none => v) else v
def lowF (n : Nat) (E : Ec) (c : Nat) (v : Vc) : Vc := (keysE n E).foldl (lowStep E c) v
def LowOk (n : Nat) (E : Ec) (c : Nat) (v : Vc) : Prop := ∀ i, Vn n (((keysE n E).take i).foldl (lowStep E c) v)
abbrev s_lowered : Stmt := topS 8
abbrev nm_lowered : List Str := ["rows", "column", "vector", "pivot", "row"]
theorem sc_lowered : FnScope nm_lowered ["rows", "column", "vector"] (defScope s_lowered) := ⟨rfl, rfl, rfl, by decide +kernel, rfl, by decide +kernel, by decide +kernel⟩
def F_lowered (sl : Sl) (ds : List PyData) (d : PyData) (sl' : Sl) : Prop := ∃ (n : Nat) (E : Ec) (c : Nat) (v : Vc), sl = dicE E ∧ ds = [.int (c : Int), vec v] ∧ EOk n E ∧ n ≤ 60 ∧ LowOk n E c v ∧ d = vec (lowF n E c v) ∧ sl' = sl
abbrev T_lowered (P : Program) (w : World) (K : PySem.W.Frag) (mg : Str → Option Value) (base : Heap) : Prop := Cal P w K mg base "lowered" 44 ["rows", "column", "vector"] (PO K F_lowered)
theorem ok_lowered (S : Sur P mg base) (A : FunAt K mg "lowered" s_lowered) (C_combined : T_combined P w K mg base) : T_lowered P w K mg base := by
  refine cal_own A sc_lowered (fun _ _ _ _ _ _ us hl => match us, hl with | [_, _, _], _ => rfl) ?_ (fun f cdv A outer s H E hr => ⟨_, (pss_cons (ps_for PassesOwn.never rfl (kSeq K (pe_callB (call_sortedDI rfl) (by rfl) (S.no "sorted" (by decide)) boot_sorted (pa_cons (pv 0) pa_nil))) (pg_name (i := 3) sc_lowered.nd rfl (by first | exact .inl rfl | exact .inr rfl)) (pss_one (ps_if (pt_cmpR op_gt (pv 3) (pv 1) (nomark _)) (pss_cons (ps_set (i := 4) sc_lowered.nd rfl (by first | exact .inl rfl | exact .inr rfl) (pe_dget (hu_of hr) (pv 0) (pv 3) (fun _ _ => rfl))) (pss_one (ps_set (i := 2) sc_lowered.nd rfl (by first | exact .inl rfl | exact .inr rfl) (pe_own C_combined (hr.mono (by decide)) (by rfl) (pa_cons pe_int (pa_cons (pv 2) (pa_cons (pe_un un_neg (pe_op (op_fdivX (py_of S.seer S.tree hr)) (pe_ix (kIx K) (pv 2) (pv 3) (fun _ _ => rfl)) (pe_ix (kIx K) (pv 4) (pv 3) (fun _ _ => rfl)))) (pa_cons (pv 4) pa_nil)))))))) pss_nil))) (pss_one (ps_ret (pv 2)))), ?_⟩)
  · rintro _ _ _ _ ⟨_, _, _, _, rfl, rfl, _, _, _, _, rfl⟩; exact ⟨rfl, rfl⟩
  · rintro _ _ _ _ ⟨n, E, c, v, rfl, rfl, hE, hn, hL, rfl, rfl⟩
    show RS K true _ [dicE E, .dat (.int (c : Int)), .dat (vec v), .un, .un] _
    have hms := keys_sorted hE.1
    refine rs_seq (rs_for (ds := ((keysE n E).map Int.ofNat).map .int) (ri_seqL (RL.re (rl_sortedD rfl (Nat.lt_of_le_of_lt (keys_len hE.1) (by omega)) hms)))
      (fun i Γ => ∃ s3 s4, Γ = [dicE E, .dat (.int (c : Int)), .dat (vec (((keysE n E).take i).foldl (lowStep E c) v)), s3, s4]) ⟨_, _, rfl⟩ (fun i d Γ hd hW => ?_) (fun Γ hW => ?_))
    · obtain ⟨s3, s4, rfl⟩ := hW
      rw [List.getElem?_map, List.getElem?_map] at hd
      obtain ⟨k, hk, rfl⟩ := Option.map_eq_some_iff.mp hd
      obtain ⟨p, hp, rfl⟩ := Option.map_eq_some_iff.mp hk
      refine ⟨_, _, rg_name, by decide, ?_⟩
      obtain ⟨row, hrow⟩ := keys_get (List.mem_of_getElem? hp)
      obtain ⟨hpn, hr, hr0⟩ := hE.2 p row hrow
      have e : ((keysE n E).take (i + 1)).foldl (lowStep E c) v = lowStep E c (((keysE n E).take i).foldl (lowStep E c) v) p := by
        rw [List.take_add_one, hp, List.foldl_append]; rfl
      have hv := hL i
      have hv2 := hL (i + 1)
      generalize ((keysE n E).take i).foldl (lowStep E c) v = u at e hv ⊢
      show RS K true _ [dicE E, .dat (.int (c : Int)), .dat (vec u), .dat (.int (p : Int)), s4] _
      refine rs_if (rt_test (re_op (re_var rfl) (re_var rfl) od_gt)) (fun hb => ?_) (fun hb => rs_nx ⟨.dat (.int (p : Int)), s4, ?_⟩)
      · have hcp : c < p := by have := of_decide_eq_true hb; omega
        refine rs_seq (rs_set (re_dget (i := 0) rfl (re_var rfl) rfl (by rw [getD_E, hrow]; rfl)) ?_)
        refine rs_set (re_call (ra_cons re_int (ra_cons (re_var rfl) (ra_cons (re_neg (re_fdivI (re_at (re_var rfl) (sq_vec u) (re_var rfl) (by rw [hv.1]; exact hpn)) (re_at (re_var rfl) (sq_vec row) (re_var rfl) (by rw [hr.1]; exact hpn)) hr0)) (ra_cons (re_var rfl) ra_nil))))
          ⟨_, _, _, _, _, _, rfl, sq_vec u, sq_vec row, by rw [hv.1]; omega, fun x hx => (Sm.one (by decide)).mul (hv.2 x hx), fun x hx => (at_sm hv hpn).fdiv.neg.mul (hr.2 x hx), rfl⟩) ?_
        refine ⟨.dat (.int (p : Int)), .dat (vec row), ?_⟩
        rw [e]
        unfold lowStep
        rw [if_pos hcp, hrow]
        rfl
      · have hcp : ¬ c < p := by have := of_decide_eq_false hb; omega
        rw [e]
        unfold lowStep
        rw [if_neg hcp]
    · obtain ⟨s3, s4, rfl⟩ := hW
      rw [List.length_map, List.length_map, List.take_length]
      exact rs_ret (re_var rfl) ⟨rfl, rfl⟩
end K87

namespace K87
open PySem PySem.Spec PyProof.Rows L2 DL
open PySem.Builtin.Int (intBits)
variable {P : Program} {w : World} {K : PySem.W.Frag} {mg : Str → Option Value} {base : Heap}
/-! ### add_vector -/
inductive AddRun (n : Nat) : Nat → Ec → Vc → Ec → Prop where
  | stop {E : Ec} {v : Vc} : AddRun n n E v E
  | zero {c : Nat} {E E' : Ec} {v : Vc} : c < n → Vn n v → at_ v c = 0 → AddRun n (c + 1) E v E' → AddRun n c E v E'
  | new {c : Nat} {E : Ec} {v : Vc} : c < n → Vn n v → at_ v c ≠ 0 → gE E c = none → KeyOk n E → AddRun n c E v (pE E c (if at_ v c < 0 then scaleL (-1) v else v))
  | step {c k : Nat} {E E' : Ec} {v row : Vc} {z : T3} {g s t : Int} : c < n → Vn n v → at_ v c ≠ 0 → EOk n E → gE E c = some row → BzRun k (at_ row c, 1, 0) (bzStart (at_ row c) (at_ v c)) z → neg3 z = (g, s, t) → g ≠ 0 → Sm s → Sm t →
      LowOk n E c (combL s row t v) → EOk n (pE E c (lowF n E c (combL s row t v))) → LowOk n (pE E c (lowF n E c (combL s row t v))) c (combL ((at_ row c).fdiv g) v (-((at_ v c).fdiv g)) row) →
      AddRun n (c + 1) (pE E c (lowF n E c (combL s row t v))) (lowF n (pE E c (lowF n E c (combL s row t v))) c (combL ((at_ row c).fdiv g) v (-((at_ v c).fdiv g)) row)) E' → AddRun n c E v E'
abbrev s_add_vector : Stmt := topS 9
abbrev nm_add_vector : List Str := ["rows", "vector", "column", "entry", "row", "better", "rest", "common", "one", "other"]
theorem sc_add_vector : FnScope nm_add_vector ["rows", "vector"] (defScope s_add_vector) := ⟨rfl, rfl, rfl, by decide +kernel, rfl, by decide +kernel, by decide +kernel⟩
def F_add_vector (sl : Sl) (ds : List PyData) (d : PyData) (sl' : Sl) : Prop := ∃ (n : Nat) (E E' : Ec) (v : Vc), sl = dicE E ∧ ds = [vec v] ∧ v.length = n ∧ n ≤ 60 ∧ AddRun n 0 E v E' ∧ d = .none ∧ sl' = dicE E'
abbrev T_add_vector (P : Program) (w : World) (K : PySem.W.Frag) (mg : Str → Option Value) (base : Heap) : Prop := Cal P w K mg base "add_vector" 48 ["rows", "vector"] (PO K F_add_vector)
theorem ok_add_vector (S : Sur P mg base) (A : FunAt K mg "add_vector" s_add_vector) (C_scale_form : T_scale_form P w K mg base) (C_combined : T_combined P w K mg base) (C_bezout : T_bezout P w K mg base) (C_lowered : T_lowered P w K mg base) : T_add_vector P w K mg base := by
  refine cal_own A sc_add_vector (fun _ _ _ _ _ _ us hl => match us, hl with | [_, _], _ => rfl) ?_ (fun f cdv A outer s H E hr => ⟨_, (pss_one (ps_for PassesOwn.never rfl (pi_range1 (by rfl) (S.no "range" (by decide)) (pa_cons (pe_callB (kLen K) (by rfl) (S.no "len" (by decide)) boot_len (pa_cons (pv 1) pa_nil)) pa_nil)) (pg_name (i := 2) sc_add_vector.nd rfl (by first | exact .inl rfl | exact .inr rfl)) (pss_cons (ps_set (i := 3) sc_add_vector.nd rfl (by first | exact .inl rfl | exact .inr rfl) (pe_ix (kIx K) (pv 1) (pv 2) (fun _ _ => rfl))) (pss_cons (ps_if (PW.pt (pw_and (pt_cmpR (kNe K hr.units) (pv 3) pe_int (nomark _)) (pw_and1 (pt_cmp (pc_dnotin (hu_of hr) (pv 2) (pv 0)))))) (pss_cons (ps_dput (hu_of hr) (pv 0) (pv 2) (pe_ifExp (pt_cmpR op_lt (pv 3) pe_int (nomark _)) (pe_own C_scale_form (hr.mono (by decide)) (by rfl) (pa_cons (pe_un un_neg pe_int) (pa_cons (pv 1) pa_nil))) (pv 1)) rfl) (pss_one ps_retN)) pss_nil) (pss_one (ps_if (pt_cmpR (kNe K hr.units) (pv 3) pe_int (nomark _)) (pss_cons (ps_set (i := 4) sc_add_vector.nd rfl (by first | exact .inl rfl | exact .inr rfl) (pe_dget (hu_of hr) (pv 0) (pv 2) (fun _ _ => rfl))) (pss_cons (ps_asg (pe_own C_bezout (hr.mono (by decide)) (by rfl) (pa_cons (pe_ix (kIx K) (pv 4) (pv 2) (fun _ _ => rfl)) (pa_cons (pv 3) pa_nil))) (kAny K (n := 3) rfl (pgs_cons (pg_name (i := 7) sc_add_vector.nd rfl (by first | exact .inl rfl | exact .inr rfl)) (pgs_cons (pg_name (i := 8) sc_add_vector.nd rfl (by first | exact .inl rfl | exact .inr rfl)) (pgs_cons (pg_name (i := 9) sc_add_vector.nd rfl (by first | exact .inl rfl | exact .inr rfl)) pgs_nil))))) (pss_cons (ps_set (i := 5) sc_add_vector.nd rfl (by first | exact .inl rfl | exact .inr rfl) (pe_own C_combined (hr.mono (by decide)) (by rfl) (pa_cons (pv 8) (pa_cons (pv 4) (pa_cons (pv 9) (pa_cons (pv 1) pa_nil)))))) (pss_cons (ps_set (i := 6) sc_add_vector.nd rfl (by first | exact .inl rfl | exact .inr rfl) (pe_own C_combined (hr.mono (by decide)) (by rfl) (pa_cons (pe_op (op_fdivX (py_of S.seer S.tree hr)) (pe_ix (kIx K) (pv 4) (pv 2) (fun _ _ => rfl)) (pv 7)) (pa_cons (pv 1) (pa_cons (pe_un un_neg (pe_op (op_fdivX (py_of S.seer S.tree hr)) (pv 3) (pv 7))) (pa_cons (pv 4) pa_nil)))))) (pss_cons (ps_dput (hu_of hr) (pv 0) (pv 2) (pe_own C_lowered (hr.mono (by decide)) (by rfl) (pa_cons (pv 0) (pa_cons (pv 2) (pa_cons (pv 5) pa_nil)))) rfl) (pss_one (ps_set (i := 1) sc_add_vector.nd rfl (by first | exact .inl rfl | exact .inr rfl) (pe_own C_lowered (hr.mono (by decide)) (by rfl) (pa_cons (pv 0) (pa_cons (pv 2) (pa_cons (pv 6) pa_nil))))))))))) pss_nil)))))), ?_⟩)
  · rintro _ _ _ _ ⟨_, _, _, _, rfl, rfl, _, _, _, _, rfl⟩; exact ⟨rfl, rfl⟩
  · rintro _ _ _ _ ⟨n, E, E', v, rfl, rfl, hv, hn, run, rfl, rfl⟩
    show RS K true _ [dicE E, .dat (vec v), .un, .un, .un, .un, .un, .un, .un, .un] _
    refine rs_for (ds := (List.range n).map fun (i : Nat) => .int (i : Int)) (ri_range (ra_cons (re_cb (ra_cons (re_var rfl) ra_nil) (by have := cd_len (K := K) (sq_vec v); rw [List.length_map, hv] at this; exact this)) ra_nil) (by omega))
      (fun i Γ => ∃ E2 v2 s2 s3 s4 s5 s6 s7 s8 s9, Γ = [dicE E2, .dat (vec v2), s2, s3, s4, s5, s6, s7, s8, s9] ∧ AddRun n i E2 v2 E') ⟨_, _, _, _, _, _, _, _, _, _, rfl, run⟩ (fun i d Γ hd hW => ?_) (fun Γ hW => ?_)
    · obtain ⟨E2, v2, s2, s3, s4, s5, s6, s7, s8, s9, rfl, run⟩ := hW
      rw [List.getElem?_map] at hd
      obtain ⟨c, hc, rfl⟩ := Option.map_eq_some_iff.mp hd
      have hci : c = i := by obtain ⟨_, h2⟩ := List.getElem?_eq_some_iff.mp hc; simpa using h2.symm
      subst hci
      have hcn : c < n := by have := (List.getElem?_eq_some_iff.mp hc).1; simpa using this
      refine ⟨_, _, rg_name, by decide, ?_⟩
      have hv2 : Vn n v2 := by
        cases run with
        | stop => exact absurd hcn (Nat.lt_irrefl _)
        | zero _ h _ _ => exact h
        | new _ h _ _ _ => exact h
        | step _ h => exact h
      refine rs_seq (rs_set (re_at (re_var rfl) (sq_vec v2) (re_var rfl) (by rw [hv2.1]; exact hcn)) ?_)
      show RS K true _ [dicE E2, .dat (vec v2), .dat (.int (c : Int)), .dat (.int (at_ v2 c)), s4, s5, s6, s7, s8, s9] _
      have t1 : RT K _ [dicE E2, .dat (vec v2), .dat (.int (c : Int)), .dat (.int (at_ v2 c)), s4, s5, s6, s7, s8, s9] _ _ := rt_and (rt_test (re_neI (re_var (i := 3) rfl) (re_int (i := 0)))) (fun _ => rfl) (fun _ => rt_test (re_dnotin (i := 0) (kvs := ecD E2) (re_var (i := 2) rfl) rfl))
      have t2 : RT K _ [dicE E2, .dat (vec v2), .dat (.int (c : Int)), .dat (.int (at_ v2 c)), s4, s5, s6, s7, s8, s9] _ _ := rt_test (re_neI (re_var (i := 3) rfl) (re_int (i := 0)))
      have eg := getD_E E2 c
      cases run with
      | stop => exact absurd hcn (Nat.lt_irrefl _)
      | zero _ _ h0 run =>
        refine rs_seq (rs_if (t1.is (show _ = false by rw [h0]; rfl)) (fun z => by cases z) (fun _ => rs_nx ?_))
        exact rs_if (t2.is (show _ = false by rw [h0]; rfl)) (fun z => by cases z) (fun _ => rs_nx ⟨_, _, _, _, _, _, _, _, _, _, rfl, run⟩)
      | new _ _ h0 hg hk =>
        refine rs_seq (rs_if (t1.is (show _ = true by rw [eg, hg, decide_eq_false h0]; rfl)) (fun _ => ?_) (fun z => by cases z))
        refine rs_seq (rs_dput (Γ1 := [dicE E2, .dat (vec v2), .dat (.int (c : Int)), .dat (.int (at_ v2 c)), s4, s5, s6, s7, s8, s9]) (i := 0) (k := (c : Int)) (d := vec (if at_ v2 c < 0 then scaleL (-1) v2 else v2)) (kvs := ecD E2) (re_if (rt_test (re_op (re_var rfl) re_int od_lt)) (fun hb => ?_) (fun hb => ?_)) rfl (re_var rfl) ?_ ?_)
        · exact (re_call (ra_cons (re_neg re_int) (ra_cons (re_var rfl) ra_nil)) ⟨_, _, _, rfl, sq_vec v2, by rw [hv2.1]; omega, fun x hx => (Sm.one (by decide)).mul (hv2.2 x hx), rfl⟩).is (by rw [if_pos (of_decide_eq_true hb)])
        · exact (re_var rfl).is (by rw [if_neg (of_decide_eq_false hb)])
        · exact Nat.lt_of_le_of_lt (keys_len hk) (by show _ < 16777216; omega)
        · exact rs_retN ⟨rfl, by rw [putD_E]; rfl⟩
      | @step _ k _ _ _ row z g s t _ _ h0 hE hg hz e3 g0 hs ht l1 hE2 l2 run =>
        refine rs_seq (rs_if (t1.is (show _ = false by rw [eg, hg, decide_eq_false h0]; rfl)) (fun z => by cases z) (fun _ => rs_nx ?_))
        refine rs_if (t2.is (show _ = true by rw [decide_eq_false h0]; rfl)) (fun _ => ?_) (fun z => by cases z)
        obtain ⟨_, hr, hr0⟩ := hE.2 c row hg
        refine rs_seq (rs_set (re_dget (i := 0) (k := (c : Int)) (kvs := ecD E2) rfl (re_var rfl) rfl (by rw [eg, hg]; rfl)) ?_)
        show RS K true _ [dicE E2, .dat (vec v2), .dat (.int (c : Int)), .dat (.int (at_ v2 c)), .dat (vec row), s5, s6, s7, s8, s9] _
        refine rs_seq (rs_setG (d := .tuple [.int g, .int s, .int t]) (re_call (ra_cons (re_at (re_var rfl) (sq_vec row) (re_var rfl) (by rw [hr.1]; exact hcn)) (ra_cons (re_var rfl) ra_nil)) ⟨_, _, z, k, rfl, hz, by rw [e3]; rfl⟩) (rg_anyT (rgs_cons rg_name (rgs_cons rg_name (rgs_cons rg_name rgs_nil)))) ?_)
        show RS K true _ [dicE E2, .dat (vec v2), .dat (.int (c : Int)), .dat (.int (at_ v2 c)), .dat (vec row), s5, s6, .dat (.int g), .dat (.int s), .dat (.int t)] _
        refine rs_seq (rs_set (re_call (ra_cons (re_var rfl) (ra_cons (re_var rfl) (ra_cons (re_var rfl) (ra_cons (re_var rfl) ra_nil)))) ⟨_, _, _, _, _, _, rfl, sq_vec row, sq_vec v2, by rw [hr.1]; omega, fun x hx => hs.mul (hr.2 x hx), fun x hx => ht.mul (hv2.2 x hx), rfl⟩) ?_)
        refine rs_seq (rs_set (re_call (ra_cons (re_fdivI (re_at (re_var rfl) (sq_vec row) (re_var rfl) (by rw [hr.1]; exact hcn)) (re_var rfl) g0) (ra_cons (re_var rfl) (ra_cons (re_neg (re_fdivI (re_var rfl) (re_var rfl) g0)) (ra_cons (re_var rfl) ra_nil))))
          ⟨_, _, _, _, _, _, rfl, sq_vec v2, sq_vec row, by rw [hv2.1]; omega, fun x hx => (at_sm hr hcn).fdiv.mul (hv2.2 x hx), fun x hx => (at_sm hv2 hcn).fdiv.neg.mul (hr.2 x hx), rfl⟩) ?_)
        show RS K true _ [dicE E2, .dat (vec v2), .dat (.int (c : Int)), .dat (.int (at_ v2 c)), .dat (vec row), .dat (vec (combL s row t v2)), .dat (vec (combL ((at_ row c).fdiv g) v2 (-((at_ v2 c).fdiv g)) row)), .dat (.int g), .dat (.int s), .dat (.int t)] _
        refine rs_seq (rs_dput (i := 0) (k := (c : Int)) (kvs := ecD E2) (re_callO (i := 0) (sl := dicE E2) rfl (ra_cons (re_var rfl) (ra_cons (re_var rfl) ra_nil)) rfl rfl ⟨n, E2, c, _, rfl, rfl, hE, hn, l1, rfl, rfl⟩) rfl (re_var rfl) (Nat.lt_of_le_of_lt (keys_len hE.1) (by show _ < 16777216; omega)) ?_)
        show RS K true _ [.dic (putD (ecD E2) c (vec (lowF n E2 c (combL s row t v2)))), .dat (vec v2), .dat (.int (c : Int)), .dat (.int (at_ v2 c)), .dat (vec row), .dat (vec (combL s row t v2)), .dat (vec (combL ((at_ row c).fdiv g) v2 (-((at_ v2 c).fdiv g)) row)), .dat (.int g), .dat (.int s), .dat (.int t)] _
        rw [putD_E]
        refine rs_set (re_callO (i := 0) (sl := dicE _) rfl (ra_cons (re_var rfl) (ra_cons (re_var rfl) ra_nil)) rfl rfl ⟨n, _, c, _, rfl, rfl, hE2, hn, l2, rfl, rfl⟩) ?_
        exact ⟨_, _, _, _, _, _, _, _, _, _, rfl, run⟩
    · obtain ⟨E2, v2, s2, s3, s4, s5, s6, s7, s8, s9, rfl, run⟩ := hW
      rw [List.length_map, List.length_range] at run
      cases run with
      | stop => exact ⟨rfl, rfl⟩
      | zero h => exact absurd h (Nat.lt_irrefl _)
      | new h => exact absurd h (Nat.lt_irrefl _)
      | step h => exact absurd h (Nat.lt_irrefl _)
end K87

namespace K87
open PySem PySem.Spec PyProof.Rows L2 DL
open PySem.Builtin.Int (intBits)
variable {P : Program} {w : World} {K : PySem.W.Frag} {mg : Str → Option Value} {base : Heap}
/-! ### matrices -/
/-- rows, each a list or a tuple, in a list or a tuple -/
def SqM (d : PyData) (rows : List Vc) : Prop := ∃ rs : List (PyData × Vc), seqD d = some (rs.map (·.1)) ∧ (∀ p ∈ rs, Sq p.1 p.2) ∧ rs.map (·.2) = rows
def matT (rows : List Vc) : PyData := .tuple (rows.map vec)
def lsv (v : Vc) : PyData := .list (v.map .int)
theorem sq_lsv (v : Vc) : Sq (lsv v) v := rfl
theorem sqm_map {d : PyData} {rows : List Vc} {f : Vc → PyData} (hf : ∀ v, Sq (f v) v) (h : seqD d = some (rows.map f)) : SqM d rows :=
  ⟨rows.map fun r => (f r, r), by rw [h, List.map_map]; rfl, fun p hp => by
    obtain ⟨r, _, rfl⟩ := List.mem_map.mp hp
    exact hf r, by rw [List.map_map]; exact List.map_id _⟩
theorem sqm_T (rows : List Vc) : SqM (matT rows) rows := sqm_map sq_vec rfl
theorem shp_vec (v : Vc) : Shp 1 (vec v) := shp_mapT fun _ _ => shp_int
theorem shp_mat (m : List Vc) : Shp 2 (matT m) := shp_mapT fun v _ => shp_vec v
theorem eqv_vec (a b : Vc) : PyData.eqv (vec a) (vec b) = decide (a = b) := eqv_tup eqv_int a b
theorem eqv_mat (a b : List Vc) : PyData.eqv (matT a) (matT b) = decide (a = b) := eqv_tup eqv_vec a b
theorem vec_set {Γ : Ga} {i : Nat} {sl : Sl} (h : Γ[i]? = some sl) : Γ.set i sl = Γ := by
  apply List.ext_getElem?
  intro k
  by_cases z : i = k
  · subst z; rw [List.getElem?_set_self (List.getElem?_eq_some_iff.mp h).1, h]
  · rw [List.getElem?_set_ne z]
/-! ### hermite -/
inductive HRun (n : Nat) : List Vc → Ec → Ec → Prop where
  | nil {E : Ec} : HRun n [] E E
  | cons {r : Vc} {rs : List Vc} {E E1 E2 : Ec} : r.length = n → AddRun n 0 E r E1 → HRun n rs E1 E2 → HRun n (r :: rs) E E2
def hermF (n : Nat) (E : Ec) : List Vc := (keysE n E).map fun p => lowF n E p ((gE E p).getD [])
abbrev s_hermite : Stmt := topS 10
abbrev nm_hermite : List Str := ["rows", "size", "echelon", "row", "column"]
theorem sc_hermite : FnScope nm_hermite ["rows", "size"] (defScope s_hermite) := ⟨rfl, rfl, rfl, by decide +kernel, rfl, by decide +kernel, by decide +kernel⟩
def F_hermite (ds : List PyData) (d : PyData) : Prop := ∃ (rd : PyData) (rows : List Vc) (n : Nat) (m : Int) (E : Ec), ds = [rd, .int m] ∧ SqM rd rows ∧ n ≤ 60 ∧ HRun n rows [] E ∧ EOk n E ∧ (∀ p r, gE E p = some r → LowOk n E p r) ∧ d = matT (hermF n E)
abbrev T_hermite (P : Program) (w : World) (K : PySem.W.Frag) (mg : Str → Option Value) (base : Heap) : Prop := Cal P w K mg base "hermite" 52 ["rows", "size"] (PR K F_hermite)
theorem ok_hermite (S : Sur P mg base) (A : FunAt K mg "hermite" s_hermite) (C_add_vector : T_add_vector P w K mg base) (C_lowered : T_lowered P w K mg base) : T_hermite P w K mg base := by
  refine cal_pure A sc_hermite (fun _ _ _ _ _ _ us hl => match us, hl with | [_, _], _ => rfl) ?_ (fun f cdv A outer s H E hr => ⟨_, (pss_cons (ps_set (i := 2) sc_hermite.nd rfl (by first | exact .inl rfl | exact .inr rfl) pe_dnewK) (pss_cons (ps_for PassesOwn.never rfl (kSeq K (pv 0)) (pg_name (i := 3) sc_hermite.nd rfl (by first | exact .inl rfl | exact .inr rfl)) (pss_one (ps_expr (pe_own C_add_vector (hr.mono (by decide)) (by rfl) (pa_cons (pv 2) (pa_cons (kTuple K (by rfl) (S.no "tuple" (by decide)) (pv 3)) pa_nil)))))) (pss_one (ps_ret (kTuple K (by rfl) (S.no "tuple" (by decide)) (pe_lc (own := [("column", 4)]) rfl sc_hermite.nd (kSeq K (pe_callB (call_sortedDI rfl) (by rfl) (S.no "sorted" (by decide)) boot_sorted (pa_cons (pv 2) pa_nil))) (blkOk_by (N := nm_hermite) (sc := defScope s_hermite) (by decide +kernel)) (fun _ _ _ _ _ => (pg_name (i := 4) sc_hermite.nd rfl (by first | exact .inl rfl | exact .inr rfl))) (fun _ _ _ _ _ => pts_nil) (fun _ _ _ _ _ => (pe_own C_lowered (hr.mono (by decide)) (by rfl) (pa_cons (pv 2) (pa_cons (pv 4) (pa_cons (pe_dget (hu_of hr) (pv 2) (pv 4) (fun _ _ => rfl)) pa_nil))))))))))), ?_⟩)
  · rintro _ _ ⟨_, _, _, _, _, rfl, _⟩; rfl
  · rintro _ _ ⟨rd, rows, n, m, E, rfl, ⟨rs, hrs, hsq, rfl⟩, hn, run, hE, hL, rfl⟩
    show RS K false _ [.dat rd, .dat (.int m), .un, .un, .un] _
    refine rs_seq (rs_setK ?_)
    show RS K false _ [.dat rd, .dat (.int m), dicE [], .un, .un] _
    refine rs_seq (rs_for (ds := rs.map (·.1)) (ri_seq (re_var rfl) hrs)
      (fun i Γ => ∃ E2 s3 s4, Γ = [.dat rd, .dat (.int m), dicE E2, s3, s4] ∧ HRun n ((rs.map Prod.snd).drop i) E2 E ∧ Sl.flat s4 = true) ⟨[], _, _, rfl, run, rfl⟩ (fun i d Γ hd hW => ?_) (fun Γ hW => ?_))
    · obtain ⟨E2, s3, s4, rfl, run, hs4⟩ := hW
      rw [List.getElem?_map] at hd
      obtain ⟨p, hp, rfl⟩ := Option.map_eq_some_iff.mp hd
      refine ⟨_, _, rg_name, by decide, ?_⟩
      have hi := (List.getElem?_eq_some_iff.mp hp).1
      have e : (rs.map Prod.snd).drop i = p.2 :: (rs.map Prod.snd).drop (i + 1) := by
        rw [List.drop_eq_getElem_cons (by rw [List.length_map]; exact hi), List.getElem_map]
        rw [(List.getElem?_eq_some_iff.mp hp).2]
      rw [e] at run
      cases run with
      | cons hr ha run =>
        refine rs_drop (d := .none) (re_callO (i := 2) (sl := dicE E2) rfl (ra_cons (re_tupleS (re_var rfl) (hsq p (List.mem_of_getElem? hp))) ra_nil) rfl rfl ⟨n, E2, _, p.2, rfl, rfl, hr, hn, ha, rfl, rfl⟩) ?_
        exact ⟨_, _, _, rfl, run, hs4⟩
    · obtain ⟨E2, s3, s4, rfl, run, hs4⟩ := hW
      rw [List.length_map, List.drop_eq_nil_of_le (by rw [List.length_map]; exact Nat.le_refl _)] at run
      cases run
      have hms := keys_sorted hE.1
      have key : RL K _ [.dat rd, .dat (.int m), dicE E, s3, s4] _ _ := rl_map (K := K) (j := 4) (te := _) (keysE n E) (fun (p : Nat) => .int (p : Int)) (fun p => vec (lowF n E p ((gE E p).getD []))) (wi := iSeq K (tCB rSortD (tCons (tVar 2) tNil)))
        (by
          have := ri_seqL (K := K) (Γ := [.dat rd, .dat (.int m), dicE E, s3, s4]) (RL.re (rl_sortedD (i := 2) (kvs := ecD E) rfl (Nat.lt_of_le_of_lt (keys_len hE.1) (by omega)) hms))
          rw [List.map_map] at this
          exact this) (by
          unfold keysE
          exact Nat.le_trans (List.length_filter_le _ _) (by rw [List.length_range]; omega)) (fun p hp => by
          obtain ⟨r, hr⟩ := keys_get hp
          have hl := hL p r hr
          have := re_callO (K := K) (E := E0) (i := 2) (sl := dicE E) (sl' := dicE E) (F := F_lowered) (Γ := [.dat rd, .dat (.int m), dicE E, s3, .dat (.int (p : Int))]) (Γ1 := [.dat rd, .dat (.int m), dicE E, s3, .dat (.int (p : Int))]) (tr := tCons (tVar 4) (tCons (tDGet (tVar 2) (tVar 4)) tNil)) rfl
            (ra_cons (re_var rfl) (ra_cons (re_dget (i := 2) (k := (p : Int)) (kvs := ecD E) rfl (re_var rfl) rfl (by rw [getD_E, hr]; rfl)) ra_nil)) rfl rfl ⟨n, E, p, r, rfl, rfl, hE, hn, hl, rfl, rfl⟩
          rw [hr]
          exact this) (by show (Sl.flat s4 && true) = true; rw [hs4]; rfl)
      refine rs_ret (re_tupleL (RL.re key)) ?_
      show _ = PyData.tuple _
      rw [hermF, List.map_map]
      rfl
/-! ### whole, is_forgetting -/
def unitsL (n : Nat) : List Vc := (List.range n).map fun (k : Nat) => unitL n (k : Int)
abbrev s_whole : Stmt := topS 11
abbrev nm_whole : List Str := ["size", "place"]
theorem sc_whole : FnScope nm_whole ["size"] (defScope s_whole) := ⟨rfl, rfl, rfl, by decide +kernel, rfl, by decide +kernel, by decide +kernel⟩
def F_whole (ds : List PyData) (d : PyData) : Prop := ∃ n : Nat, ds = [.int (n : Int)] ∧ n ≤ 1000 ∧ d = matT (unitsL n)
abbrev T_whole (P : Program) (w : World) (K : PySem.W.Frag) (mg : Str → Option Value) (base : Heap) : Prop := Cal P w K mg base "whole" 44 ["size"] (PR K F_whole)
theorem ok_whole (S : Sur P mg base) (A : FunAt K mg "whole" s_whole) (C_unit_form : T_unit_form P w K mg base) : T_whole P w K mg base := by
  refine cal_pure A sc_whole (fun _ _ _ _ _ _ us hl => match us, hl with | [_], _ => rfl) ?_ (fun f cdv A outer s H E hr => ⟨_, (pss_one (ps_ret (kTuple K (by rfl) (S.no "tuple" (by decide)) (pe_lc (own := [("place", 1)]) rfl sc_whole.nd (pi_range1 (by rfl) (S.no "range" (by decide)) (pa_cons (pv 0) pa_nil)) (blkOk_by (N := nm_whole) (sc := defScope s_whole) (by decide +kernel)) (fun _ _ _ _ _ => (pg_name (i := 1) sc_whole.nd rfl (by first | exact .inl rfl | exact .inr rfl))) (fun _ _ _ _ _ => pts_nil) (fun _ _ _ _ _ => (pe_own C_unit_form (hr.mono (by decide)) (by rfl) (pa_cons (pv 0) (pa_cons (pv 1) pa_nil)))))))), ?_⟩)
  · rintro _ _ ⟨_, rfl, _⟩; rfl
  · rintro _ _ ⟨n, rfl, hn, rfl⟩
    show RS K false _ [.dat (.int n), .un] _
    exact rs_ret (re_tupleL (RL.re (rl_map (List.range n) (fun (i : Nat) => .int (i : Int)) (fun (k : Nat) => vec (unitL n (k : Int))) (ri_range (ra_cons (re_var rfl) ra_nil) (by omega)) (by simp; omega) (fun x hx =>
      re_call (ra_cons (re_var rfl) (ra_cons (re_var rfl) ra_nil)) ⟨n, (x : Int), rfl, hn, rfl⟩)))) (by simp [matT, unitsL, Function.comp_def])
abbrev s_is_forgetting : Stmt := topS 20
abbrev nm_is_forgetting : List Str := ["matrix", "size"]
theorem sc_is_forgetting : FnScope nm_is_forgetting ["matrix", "size"] (defScope s_is_forgetting) := ⟨rfl, rfl, rfl, by decide +kernel, rfl, by decide +kernel, by decide +kernel⟩
def F_is_forgetting (ds : List PyData) (d : PyData) : Prop := ∃ (rd : PyData) (n : Nat) (m : List Vc), ds = [rd, .int (n : Int)] ∧ n ≤ 60 ∧ F_hermite [rd, .int (n : Int)] (matT m) ∧ d = .bool (decide (m = unitsL n))
abbrev T_is_forgetting (P : Program) (w : World) (K : PySem.W.Frag) (mg : Str → Option Value) (base : Heap) : Prop := Cal P w K mg base "is_forgetting" 56 ["matrix", "size"] (PR K F_is_forgetting)
theorem ok_is_forgetting (S : Sur P mg base) (A : FunAt K mg "is_forgetting" s_is_forgetting) (C_hermite : T_hermite P w K mg base) (C_whole : T_whole P w K mg base) : T_is_forgetting P w K mg base := by
  refine cal_pure A sc_is_forgetting (fun _ _ _ _ _ _ us hl => match us, hl with | [_, _], _ => rfl) ?_ (fun f cdv A outer s H E hr => ⟨_, (pss_one (ps_ret (pe_cmpR (kEq K hr.units) (pe_own C_hermite (hr.mono (by decide)) (by rfl) (pa_cons (pv 0) (pa_cons (pv 1) pa_nil))) (pe_own C_whole (hr.mono (by decide)) (by rfl) (pa_cons (pv 1) pa_nil)) (nomark _)))), ?_⟩)
  · rintro _ _ ⟨_, _, _, rfl, _⟩; rfl
  · rintro _ _ ⟨rd, n, m, rfl, hn, hh, rfl⟩
    show RS K false _ [.dat rd, .dat (.int n)] _
    exact rs_ret (re_eqD (re_call (ra_cons (re_var rfl) (ra_cons (re_var rfl) ra_nil)) hh) (re_call (ra_cons (re_var rfl) ra_nil) ⟨n, rfl, by omega, rfl⟩) (shp_mat _).sh (shp_mat _).sh) (by rw [eqv_mat])
/-! ### mapped, matrix_product, pulled -/
def mapS (acc : Vc) (p : Int × Vc) : Vc := combL 1 acc p.1 p.2
def mapF (n : Nat) (v : Vc) (rows : List Vc) : Vc := (List.zip v rows).foldl mapS (List.replicate n 0)
def MapOk (n : Nat) (v : Vc) (rows : List Vc) : Prop := (∀ i, Vn n (((List.zip v rows).take i).foldl mapS (List.replicate n 0))) ∧ (∀ x ∈ v, Sm x) ∧ ∀ r ∈ rows, Vn n r
abbrev s_mapped : Stmt := topS 12
abbrev nm_mapped : List Str := ["vector", "matrix", "size", "result", "entry", "row"]
theorem sc_mapped : FnScope nm_mapped ["vector", "matrix", "size"] (defScope s_mapped) := ⟨rfl, rfl, rfl, by decide +kernel, rfl, by decide +kernel, by decide +kernel⟩
def F_mapped (ds : List PyData) (d : PyData) : Prop := ∃ (vd md : PyData) (v : Vc) (rows : List Vc) (n : Nat), ds = [vd, md, .int (n : Int)] ∧ Sq vd v ∧ SqM md rows ∧ 1 ≤ n ∧ n ≤ 1000 ∧ MapOk n v rows ∧ d = vec (mapF n v rows)
abbrev T_mapped (P : Program) (w : World) (K : PySem.W.Frag) (mg : Str → Option Value) (base : Heap) : Prop := Cal P w K mg base "mapped" 44 ["vector", "matrix", "size"] (PR K F_mapped)
theorem ok_mapped (S : Sur P mg base) (A : FunAt K mg "mapped" s_mapped) (C_combined : T_combined P w K mg base) : T_mapped P w K mg base := by
  refine cal_pure A sc_mapped (fun _ _ _ _ _ _ us hl => match us, hl with | [_, _, _], _ => rfl) ?_ (fun f cdv A outer s H E hr => ⟨_, (pss_cons (ps_set (i := 3) sc_mapped.nd rfl (by first | exact .inl rfl | exact .inr rfl) (pe_op (kMul K) (pe_tup (pa_cons pe_int pa_nil)) (pv 2))) (pss_cons (ps_for PassesOwn.never rfl (kZip K (by rfl) (S.no "zip" (by decide)) (pa_cons (pv 0) (pa_cons (pv 1) pa_nil))) (kAny K (n := 2) rfl (pgs_cons (pg_name (i := 4) sc_mapped.nd rfl (by first | exact .inl rfl | exact .inr rfl)) (pgs_cons (pg_name (i := 5) sc_mapped.nd rfl (by first | exact .inl rfl | exact .inr rfl)) pgs_nil))) (pss_one (ps_set (i := 3) sc_mapped.nd rfl (by first | exact .inl rfl | exact .inr rfl) (pe_own C_combined (hr.mono (by decide)) (by rfl) (pa_cons pe_int (pa_cons (pv 3) (pa_cons (pv 4) (pa_cons (pv 5) pa_nil)))))))) (pss_one (ps_ret (pv 3))))), ?_⟩)
  · rintro _ _ ⟨_, _, _, _, _, rfl, _⟩; rfl
  · rintro _ _ ⟨vd, md, v, rows, n, rfl, hv, ⟨rs, hrs, hsq, rfl⟩, h1, hn, ⟨hm, hvs, hrw⟩, rfl⟩
    show RS K false _ [.dat vd, .dat md, .dat (.int n), .un, .un, .un] _
    refine rs_seq (rs_set (re_mulT (re_tup (ra_cons re_int ra_nil)) (re_var rfl) (by omega)) ?_)
    have hz : RI K _ [.dat vd, .dat md, .dat (.int n), .dat (vec (List.replicate n 0)), .un, .un] _ _ := ri_zip2 (xs := v) (ys := rs) (a := .int) (b := fun p => p.1) (ra_cons (re_var (i := 0) rfl) (ra_cons (re_var (i := 1) rfl) ra_nil)) hv hrs
    have e0 : PyData.tuple (List.replicate (n : Int).toNat (.int 0)) = vec (List.replicate n 0) := by
      unfold vec; rw [List.map_replicate]; rfl
    show RS K false _ [.dat vd, .dat md, .dat (.int n), .dat (PyData.tuple (List.replicate (n : Int).toNat (.int 0))), .un, .un] _
    rw [e0]
    have ez : List.zip v (rs.map (·.2)) = (List.zip v rs).map fun p => (p.1, p.2.2) := by
      rw [List.zip_map_right]; rfl
    refine rs_seq (rs_for hz (fun i Γ => ∃ s4 s5, Γ = [.dat vd, .dat md, .dat (.int n), .dat (vec (((List.zip v (rs.map (·.2))).take i).foldl mapS (List.replicate n 0))), s4, s5]) ⟨_, _, rfl⟩ (fun i d Γ hd hW => ?_) (fun Γ hW => ?_))
    · obtain ⟨s4, s5, rfl⟩ := hW
      rw [List.getElem?_map] at hd
      obtain ⟨p, hp, rfl⟩ := Option.map_eq_some_iff.mp hd
      refine ⟨_, _, rg_anyT (rgs_cons (rg_name (i := 4)) (rgs_cons (rg_name (i := 5)) rgs_nil)), by decide, ?_⟩
      have hpm := List.mem_of_getElem? hp
      have m1 := (List.of_mem_zip hpm).1
      have m2 := (List.of_mem_zip hpm).2
      have hr : Vn n p.2.2 := hrw _ (List.mem_map_of_mem m2)
      have e : ((List.zip v (rs.map (·.2))).take (i + 1)).foldl mapS (List.replicate n 0) = combL 1 (((List.zip v (rs.map (·.2))).take i).foldl mapS (List.replicate n 0)) p.1 p.2.2 := by
        rw [List.take_add_one, List.foldl_append, ez, List.getElem?_map, hp]; rfl
      have hu := hm i
      generalize ((List.zip v (rs.map (·.2))).take i).foldl mapS (List.replicate n 0) = u at e hu ⊢
      show RS K false _ [.dat vd, .dat md, .dat (.int n), .dat (vec u), .dat (.int p.1), .dat p.2.1] _
      refine rs_set (re_call (ra_cons re_int (ra_cons (re_var rfl) (ra_cons (re_var rfl) (ra_cons (re_var rfl) ra_nil)))) ⟨_, _, _, _, _, _, rfl, sq_vec u, hsq _ m2, by rw [hu.1]; omega, fun x hx => (Sm.one (by decide)).mul (hu.2 x hx), fun x hx => (hvs _ m1).mul (hr.2 x hx), rfl⟩) ?_
      rw [e]
      exact ⟨_, _, rfl⟩
    · obtain ⟨s4, s5, rfl⟩ := hW
      rw [List.length_map]
      refine rs_ret (re_var rfl) ?_
      have el : (List.zip v rs).length = (List.zip v (rs.map (·.2))).length := by rw [List.length_zip, List.length_zip, List.length_map]
      rw [el, List.take_length]
      rfl
end K87

namespace K87
open PySem PySem.Spec PyProof.Rows L2 DL
open PySem.Builtin.Int (intBits)
variable {P : Program} {w : World} {K : PySem.W.Frag} {mg : Str → Option Value} {base : Heap}
theorem unit_sm {n : Nat} {k : Int} : ∀ x ∈ unitL n k, Sm x := fun x hx => by
  unfold unitL at hx
  obtain ⟨i, _, rfl⟩ := List.mem_map.mp hx
  exact Sm.one (by split <;> decide)
theorem unit_len {n : Nat} {k : Int} : (unitL n k).length = n := by simp [unitL]
/-! ### pulled, rows of units -/
abbrev s_pulled : Stmt := topS 14
abbrev nm_pulled : List Str := ["form", "matrix", "row"]
theorem sc_pulled : FnScope nm_pulled ["form", "matrix"] (defScope s_pulled) := ⟨rfl, rfl, rfl, by decide +kernel, rfl, by decide +kernel, by decide +kernel⟩
def F_pulled (ds : List PyData) (d : PyData) : Prop := ∃ (fd md : PyData) (f : Vc) (rows : List Vc), ds = [fd, md] ∧ Sq fd f ∧ SqM md rows ∧ f.length ≤ 1000 ∧ rows.length ≤ 1000 ∧ (∀ x ∈ f, Sm x) ∧ (∀ r ∈ rows, ∀ x ∈ r, Sm x) ∧ d = vec (rows.map (dotL f))
abbrev T_pulled (P : Program) (w : World) (K : PySem.W.Frag) (mg : Str → Option Value) (base : Heap) : Prop := Cal P w K mg base "pulled" 44 ["form", "matrix"] (PR K F_pulled)
theorem ok_pulled (S : Sur P mg base) (A : FunAt K mg "pulled" s_pulled) (C_dot : T_dot P w K mg base) : T_pulled P w K mg base := by
  refine cal_pure A sc_pulled (fun _ _ _ _ _ _ us hl => match us, hl with | [_, _], _ => rfl) ?_ (fun f cdv A outer s H E hr => ⟨_, (pss_one (ps_ret (kTuple K (by rfl) (S.no "tuple" (by decide)) (pe_lc (own := [("row", 2)]) rfl sc_pulled.nd (kSeq K (pv 1)) (blkOk_by (N := nm_pulled) (sc := defScope s_pulled) (by decide +kernel)) (fun _ _ _ _ _ => (pg_name (i := 2) sc_pulled.nd rfl (by first | exact .inl rfl | exact .inr rfl))) (fun _ _ _ _ _ => pts_nil) (fun _ _ _ _ _ => (pe_own C_dot (hr.mono (by decide)) (by rfl) (pa_cons (pv 0) (pa_cons (pv 2) pa_nil)))))))), ?_⟩)
  · rintro _ _ ⟨_, _, _, _, rfl, _⟩; rfl
  · rintro _ _ ⟨fd, md, f, rows, rfl, hf, ⟨rs, hrs, hsq, rfl⟩, hl, hr, h1, h2, rfl⟩
    show RS K false _ [.dat fd, .dat md, .un] _
    exact rs_ret (re_tupleL (RL.re (rl_map rs (fun p => p.1) (fun p => .int (dotL f p.2)) (ri_seq (re_var rfl) hrs) (by rw [List.length_map] at hr; omega) (fun p hp =>
      re_call (ra_cons (re_var rfl) (ra_cons (re_var rfl) ra_nil)) ⟨fd, p.1, f, p.2, rfl, hf, hsq p hp, hl, fun q hq => (h1 _ (List.of_mem_zip hq).1).mul (h2 p.2 (List.mem_map_of_mem hp) _ (List.of_mem_zip hq).2), rfl⟩)))) (by simp [vec, Function.comp_def])
def urow (n : Nat) (c f : Int) : Vc := scaleL f (unitL n c)
abbrev s_unit_row : Stmt := topS 15
abbrev nm_unit_row : List Str := ["size", "column", "factor"]
theorem sc_unit_row : FnScope nm_unit_row ["size", "column", "factor"] (defScope s_unit_row) := ⟨rfl, rfl, rfl, by decide +kernel, rfl, by decide +kernel, by decide +kernel⟩
def F_unit_row (ds : List PyData) (d : PyData) : Prop := ∃ (n : Nat) (c f : Int), ds = [.int (n : Int), .int c, .int f] ∧ n ≤ 1000 ∧ Sm f ∧ d = vec (urow n c f)
abbrev T_unit_row (P : Program) (w : World) (K : PySem.W.Frag) (mg : Str → Option Value) (base : Heap) : Prop := Cal P w K mg base "unit_row" 44 ["size", "column", "factor"] (PR K F_unit_row)
theorem ok_unit_row (S : Sur P mg base) (A : FunAt K mg "unit_row" s_unit_row) (C_scale_form : T_scale_form P w K mg base) (C_unit_form : T_unit_form P w K mg base) : T_unit_row P w K mg base := by
  refine cal_pure A sc_unit_row (fun _ _ _ _ _ _ us hl => match us, hl with | [_, _, _], _ => rfl) ?_ (fun f cdv A outer s H E hr => ⟨_, (pss_one (ps_ret (pe_own C_scale_form (hr.mono (by decide)) (by rfl) (pa_cons (pv 2) (pa_cons (pe_own C_unit_form (hr.mono (by decide)) (by rfl) (pa_cons (pv 0) (pa_cons (pv 1) pa_nil))) pa_nil))))), ?_⟩)
  · rintro _ _ ⟨_, _, _, rfl, _⟩; rfl
  · rintro _ _ ⟨n, c, f, rfl, hn, hf, rfl⟩
    show RS K false _ [.dat (.int n), .dat (.int c), .dat (.int f)] _
    exact rs_ret (re_call (ra_cons (re_var rfl) (ra_cons (re_call (ra_cons (re_var rfl) (ra_cons (re_var rfl) ra_nil)) ⟨n, c, rfl, hn, rfl⟩) ra_nil)) ⟨f, _, unitL n c, rfl, sq_vec _, by rw [unit_len]; omega, fun x hx => hf.mul (unit_sm x hx), rfl⟩) rfl
theorem sm1 : Sm 1 := Sm.one (by decide)
theorem sm0 : Sm 0 := Sm.one (by decide)
def splitF (n : Nat) (c : Int) (p : Nat) : List Vc := (List.range n).flatMap fun (k : Nat) => List.replicate (if (k : Int) = c then p else 1) (urow n k 1)
theorem rep_one {α : Type} {x : α} : ∀ m : Nat, (List.replicate m [x]).flatten = List.replicate m x
  | 0 => rfl
  | m + 1 => by rw [List.replicate_succ, List.replicate_succ, List.flatten_cons, rep_one m]; rfl
abbrev s_split_matrix : Stmt := topS 16
abbrev nm_split_matrix : List Str := ["size", "cell", "parts", "rows", "at"]
theorem sc_split_matrix : FnScope nm_split_matrix ["size", "cell", "parts"] (defScope s_split_matrix) := ⟨rfl, rfl, rfl, by decide +kernel, rfl, by decide +kernel, by decide +kernel⟩
def F_split_matrix (ds : List PyData) (d : PyData) : Prop := ∃ (n : Nat) (c : Int) (p : Nat), ds = [.int (n : Int), .int c, .int (p : Int)] ∧ n ≤ 100 ∧ p ≤ 100 ∧ d = matT (splitF n c p)
abbrev T_split_matrix (P : Program) (w : World) (K : PySem.W.Frag) (mg : Str → Option Value) (base : Heap) : Prop := Cal P w K mg base "split_matrix" 48 ["size", "cell", "parts"] (PR K F_split_matrix)
theorem ok_split_matrix (S : Sur P mg base) (A : FunAt K mg "split_matrix" s_split_matrix) (C_unit_row : T_unit_row P w K mg base) : T_split_matrix P w K mg base := by
  refine cal_pure A sc_split_matrix (fun _ _ _ _ _ _ us hl => match us, hl with | [_, _, _], _ => rfl) ?_ (fun f cdv A outer s H E hr => ⟨_, (pss_cons (ps_set (i := 3) sc_split_matrix.nd rfl (by first | exact .inl rfl | exact .inr rfl) (pe_lst pa_nil)) (pss_cons (ps_for PassesOwn.never rfl (pi_range1 (by rfl) (S.no "range" (by decide)) (pa_cons (pv 0) pa_nil)) (pg_name (i := 4) sc_split_matrix.nd rfl (by first | exact .inl rfl | exact .inr rfl)) (pss_one (ps_expr (kMeth K PySem.F.plainAttrs_list PySem.F.slot_list_extend PySem.F.type_list_extend mt_extend (pv 3) (pa_cons (pe_op (kMul K) (pe_lst (pa_cons (pe_own C_unit_row (hr.mono (by decide)) (by rfl) (pa_cons (pv 0) (pa_cons (pv 4) (pa_cons pe_int pa_nil)))) pa_nil)) (pe_ifExp (pt_cmpR (kEq K hr.units) (pv 4) (pv 1) (nomark _)) (pv 2) pe_int)) pa_nil))))) (pss_one (ps_ret (kTuple K (by rfl) (S.no "tuple" (by decide)) (pv 3)))))), ?_⟩)
  · rintro _ _ ⟨_, _, _, rfl, _⟩; rfl
  · rintro _ _ ⟨n, c, p, rfl, hn, hp, rfl⟩
    show RS K false _ [.dat (.int n), .dat (.int c), .dat (.int p), .un, .un] _
    refine rs_seq (rs_setL (rl_lst ra_nil) ?_)
    show RS K false _ [.dat (.int n), .dat (.int c), .dat (.int p), .lst [], .un] _
    refine rs_seq (rs_for (ri_range (n := n) (ra_cons (re_var rfl) ra_nil) (by omega))
      (fun i Γ => ∃ s4 rows, Γ = [.dat (.int n), .dat (.int c), .dat (.int p), .lst rows, s4] ∧ rows = (((List.range n).take i).flatMap fun (k : Nat) => List.replicate (if (k : Int) = c then p else 1) (urow n k 1)).map vec ∧ rows.length ≤ i * 101) ⟨_, [], rfl, rfl, by simp⟩ (fun i d Γ hd hW => ?_) (fun Γ hW => ?_))
    · obtain ⟨s4, rows, rfl, er, hl⟩ := hW
      rw [List.getElem?_map] at hd
      obtain ⟨k, hk, rfl⟩ := Option.map_eq_some_iff.mp hd
      have hi : i < n := by have := (List.getElem?_eq_some_iff.mp hk).1; simpa using this
      refine ⟨_, _, rg_name, by decide, ?_⟩
      refine rs_ext (i := 3) (ds := rows) rfl (rl_mulL (j := ((if (k : Int) = c then p else 1 : Nat) : Int)) (rl_lst (ra_cons (re_call (ra_cons (re_var rfl) (ra_cons (re_var rfl) (ra_cons re_int ra_nil))) ⟨n, (k : Int), 1, rfl, by omega, sm1, rfl⟩) ra_nil))
        (re_if (rt_test (re_eqI (re_var rfl) (re_var rfl))) (fun hb => (re_var rfl).is (by rw [if_pos (of_decide_eq_true hb)])) (fun hb => re_int.is (by rw [if_neg (of_decide_eq_false hb)]; rfl))) (by constructor <;> (split <;> omega)) (by show 1 * _ ≤ 16777216; split <;> omega)) rfl ?_ ?_
      · rw [rep_one, List.length_replicate]
        show _ ≤ 16777216
        have : i * 101 ≤ 100 * 101 := Nat.mul_le_mul_right _ (by omega)
        split <;> omega
      · refine ⟨_, _, rfl, ?_, ?_⟩
        · rw [rep_one, List.take_add_one, hk, List.flatMap_append, List.map_append, ← er]
          congr 1
          show _ = List.map vec (List.flatMap _ [k])
          rw [List.flatMap_singleton, List.map_replicate]
          congr 1
        · rw [rep_one, List.length_append, List.length_replicate]
          have : ((if (k : Int) = c then p else 1 : Nat) : Int).toNat ≤ 100 := by split <;> omega
          omega
    · obtain ⟨s4, rows, rfl, er, _⟩ := hW
      rw [List.length_map, List.take_length] at er
      refine rs_ret (re_tupleL (re_out (i := 3) rfl)) ?_
      rw [er]; rfl
def unitMF (n : Nat) (c f : Int) : List Vc := (List.range n).map fun (k : Nat) => urow n k (if (k : Int) = c then f else 1)
abbrev s_unit_matrix : Stmt := topS 17
abbrev nm_unit_matrix : List Str := ["size", "cell", "factor", "at"]
theorem sc_unit_matrix : FnScope nm_unit_matrix ["size", "cell", "factor"] (defScope s_unit_matrix) := ⟨rfl, rfl, rfl, by decide +kernel, rfl, by decide +kernel, by decide +kernel⟩
def F_unit_matrix (ds : List PyData) (d : PyData) : Prop := ∃ (n : Nat) (c f : Int), ds = [.int (n : Int), .int c, .int f] ∧ n ≤ 1000 ∧ Sm f ∧ d = matT (unitMF n c f)
abbrev T_unit_matrix (P : Program) (w : World) (K : PySem.W.Frag) (mg : Str → Option Value) (base : Heap) : Prop := Cal P w K mg base "unit_matrix" 48 ["size", "cell", "factor"] (PR K F_unit_matrix)
theorem ok_unit_matrix (S : Sur P mg base) (A : FunAt K mg "unit_matrix" s_unit_matrix) (C_unit_row : T_unit_row P w K mg base) : T_unit_matrix P w K mg base := by
  refine cal_pure A sc_unit_matrix (fun _ _ _ _ _ _ us hl => match us, hl with | [_, _, _], _ => rfl) ?_ (fun f cdv A outer s H E hr => ⟨_, (pss_one (ps_ret (kTuple K (by rfl) (S.no "tuple" (by decide)) (pe_lc (own := [("at", 3)]) rfl sc_unit_matrix.nd (pi_range1 (by rfl) (S.no "range" (by decide)) (pa_cons (pv 0) pa_nil)) (blkOk_by (N := nm_unit_matrix) (sc := defScope s_unit_matrix) (by decide +kernel)) (fun _ _ _ _ _ => (pg_name (i := 3) sc_unit_matrix.nd rfl (by first | exact .inl rfl | exact .inr rfl))) (fun _ _ _ _ _ => pts_nil) (fun _ _ _ _ _ => (pe_own C_unit_row (hr.mono (by decide)) (by rfl) (pa_cons (pv 0) (pa_cons (pv 3) (pa_cons (pe_ifExp (pt_cmpR (kEq K hr.units) (pv 3) (pv 1) (nomark _)) (pv 2) pe_int) pa_nil))))))))), ?_⟩)
  · rintro _ _ ⟨_, _, _, rfl, _⟩; rfl
  · rintro _ _ ⟨n, c, f, rfl, hn, hf, rfl⟩
    show RS K false _ [.dat (.int n), .dat (.int c), .dat (.int f), .un] _
    exact rs_ret (re_tupleL (RL.re (rl_map (List.range n) (fun (i : Nat) => .int (i : Int)) (fun (k : Nat) => vec (urow n k (if (k : Int) = c then f else 1))) (ri_range (ra_cons (re_var rfl) ra_nil) (by omega)) (by simp; omega) (fun k hk =>
      re_call (ra_cons (re_var rfl) (ra_cons (re_var rfl) (ra_cons (re_if (rt_test (re_eqI (re_var rfl) (re_var rfl))) (fun hb => (re_var rfl).is (d2 := .int (if (k : Int) = c then f else 1)) (by rw [if_pos (of_decide_eq_true hb)])) (fun hb => re_int.is (by rw [if_neg (of_decide_eq_false hb)]))) ra_nil)))
        ⟨n, (k : Int), _, rfl, hn, by split; exact hf; exact sm1, rfl⟩)))) (by simp [matT, unitMF, Function.comp_def])
def orderF (ps : List Int) : List Vc := ps.map fun p => urow ps.length p 1
abbrev s_order_matrix : Stmt := topS 18
abbrev nm_order_matrix : List Str := ["places", "place"]
theorem sc_order_matrix : FnScope nm_order_matrix ["places"] (defScope s_order_matrix) := ⟨rfl, rfl, rfl, by decide +kernel, rfl, by decide +kernel, by decide +kernel⟩
def F_order_matrix (ds : List PyData) (d : PyData) : Prop := ∃ (pd : PyData) (ps : List Int), ds = [pd] ∧ Sq pd ps ∧ ps.length ≤ 1000 ∧ d = matT (orderF ps)
abbrev T_order_matrix (P : Program) (w : World) (K : PySem.W.Frag) (mg : Str → Option Value) (base : Heap) : Prop := Cal P w K mg base "order_matrix" 48 ["places"] (PR K F_order_matrix)
theorem ok_order_matrix (S : Sur P mg base) (A : FunAt K mg "order_matrix" s_order_matrix) (C_unit_row : T_unit_row P w K mg base) : T_order_matrix P w K mg base := by
  refine cal_pure A sc_order_matrix (fun _ _ _ _ _ _ us hl => match us, hl with | [_], _ => rfl) ?_ (fun f cdv A outer s H E hr => ⟨_, (pss_one (ps_ret (kTuple K (by rfl) (S.no "tuple" (by decide)) (pe_lc (own := [("place", 1)]) rfl sc_order_matrix.nd (kSeq K (pv 0)) (blkOk_by (N := nm_order_matrix) (sc := defScope s_order_matrix) (by decide +kernel)) (fun _ _ _ _ _ => (pg_name (i := 1) sc_order_matrix.nd rfl (by first | exact .inl rfl | exact .inr rfl))) (fun _ _ _ _ _ => pts_nil) (fun _ _ _ _ _ => (pe_own C_unit_row (hr.mono (by decide)) (by rfl) (pa_cons (pe_callB (kLen K) (by rfl) (S.no "len" (by decide)) boot_len (pa_cons (pv 0) pa_nil)) (pa_cons (pv 1) (pa_cons pe_int pa_nil))))))))), ?_⟩)
  · rintro _ _ ⟨_, _, rfl, _⟩; rfl
  · rintro _ _ ⟨pd, ps, rfl, hp, hl, rfl⟩
    show RS K false _ [.dat pd, .un] _
    exact rs_ret (re_tupleL (RL.re (rl_map ps .int (fun p => vec (urow ps.length p 1)) (ri_seq (re_var rfl) hp) (by omega) (fun k hk =>
      re_call (ra_cons (re_cb (ra_cons (re_var rfl) ra_nil) (by have := cd_len (K := K) hp; rw [List.length_map] at this; exact this)) (ra_cons (re_var rfl) (ra_cons re_int ra_nil))) ⟨ps.length, k, 1, rfl, hl, sm1, rfl⟩)))) (by simp [matT, orderF, Function.comp_def])
abbrev s_matrix_product : Stmt := topS 19
abbrev nm_matrix_product : List Str := ["first", "second", "row"]
theorem sc_matrix_product : FnScope nm_matrix_product ["first", "second"] (defScope s_matrix_product) := ⟨rfl, rfl, rfl, by decide +kernel, rfl, by decide +kernel, by decide +kernel⟩
def F_matrix_product (ds : List PyData) (d : PyData) : Prop := ∃ (ad bd : PyData) (a b : List Vc) (n : Nat), ds = [ad, bd] ∧ SqM ad a ∧ SqM bd b ∧ b ≠ [] ∧ 1 ≤ n ∧ n ≤ 1000 ∧ a.length ≤ 1000 ∧ (∀ r ∈ a, MapOk n r b) ∧ d = matT (a.map fun r => mapF n r b)
abbrev T_matrix_product (P : Program) (w : World) (K : PySem.W.Frag) (mg : Str → Option Value) (base : Heap) : Prop := Cal P w K mg base "matrix_product" 48 ["first", "second"] (PR K F_matrix_product)
theorem ok_matrix_product (S : Sur P mg base) (A : FunAt K mg "matrix_product" s_matrix_product) (C_mapped : T_mapped P w K mg base) : T_matrix_product P w K mg base := by
  refine cal_pure A sc_matrix_product (fun _ _ _ _ _ _ us hl => match us, hl with | [_, _], _ => rfl) ?_ (fun f cdv A outer s H E hr => ⟨_, (pss_one (ps_ret (kTuple K (by rfl) (S.no "tuple" (by decide)) (pe_lc (own := [("row", 2)]) rfl sc_matrix_product.nd (kSeq K (pv 0)) (blkOk_by (N := nm_matrix_product) (sc := defScope s_matrix_product) (by decide +kernel)) (fun _ _ _ _ _ => (pg_name (i := 2) sc_matrix_product.nd rfl (by first | exact .inl rfl | exact .inr rfl))) (fun _ _ _ _ _ => pts_nil) (fun _ _ _ _ _ => (pe_own C_mapped (hr.mono (by decide)) (by rfl) (pa_cons (pv 2) (pa_cons (pv 1) (pa_cons (pe_callB (kLen K) (by rfl) (S.no "len" (by decide)) boot_len (pa_cons (pe_ix (kIx K) (pv 1) pe_int (fun _ _ => rfl)) pa_nil)) pa_nil))))))))), ?_⟩)
  · rintro _ _ ⟨_, _, _, _, _, rfl, _⟩; rfl
  · rintro _ _ ⟨ad, bd, a, b, n, rfl, ⟨rs, hrs, hsq, rfl⟩, hb, hb0, h1, hn, hal, hm, rfl⟩
    show RS K false _ [.dat ad, .dat bd, .un] _
    obtain ⟨bs, hbs, hbq, hbe⟩ := id hb
    have hlen : ∃ q, bs[0]? = some q ∧ Sq q.1 q.2 ∧ q.2 ∈ b := by
      cases bs with
      | nil => exact absurd hbe.symm hb0
      | cons q t => exact ⟨q, rfl, hbq q (by simp), by rw [← hbe]; simp⟩
    obtain ⟨q, hq, hqs, hqb⟩ := hlen
    exact rs_ret (re_tupleL (RL.re (rl_map rs (fun p => p.1) (fun p => vec (mapF n p.2 b)) (ri_seq (re_var rfl) hrs) (by rw [List.length_map] at hal; omega) (fun p hp => by
      have hmp := hm p.2 (List.mem_map_of_mem hp)
      have hqn : q.2.length = n := (hmp.2.2 _ hqb).1
      exact re_call (ra_cons (re_var rfl) (ra_cons (re_var rfl) (ra_cons (re_cb (ra_cons (re_ixS (re_var rfl) hbs re_int (at_nat (k := 0) (by rw [List.getElem?_map, hq]; rfl))) ra_nil) (by have := cd_len (K := K) hqs; rw [List.length_map, hqn] at this; exact this)) ra_nil)))
        ⟨p.1, bd, p.2, b, n, rfl, hsq p hp, hb, h1, hn, hmp, rfl⟩)))) (by simp [matT, Function.comp_def])
def keptF (n : Nat) (cs : List Int) : List Int := ((List.range n).filter fun (k : Nat) => decide ((k : Int) = cs.headD 0) || !decide ((k : Int) ∈ cs)).map Int.ofNat
def placeF (n : Nat) (cs : List Int) (k : Nat) : Int := if (k : Int) ∈ cs then cs.headD 0 else (k : Int)
def joinF (n : Nat) (cs : List Int) : List Vc := (List.range n).map fun (k : Nat) => urow (keptF n cs).length (((keptF n cs).idxOf (placeF n cs k) : Nat) : Int) 1
abbrev s_join_matrix : Stmt := topS 21
abbrev nm_join_matrix : List Str := ["size", "cells", "kept", "places", "at", "place"]
theorem sc_join_matrix : FnScope nm_join_matrix ["size", "cells"] (defScope s_join_matrix) := ⟨rfl, rfl, rfl, by decide +kernel, rfl, by decide +kernel, by decide +kernel⟩
def F_join_matrix (ds : List PyData) (d : PyData) : Prop := ∃ (n : Nat) (cd : PyData) (cs : List Int), ds = [.int (n : Int), cd] ∧ Sq cd cs ∧ n ≤ 1000 ∧ cs ≠ [] ∧ (∀ c ∈ cs, 0 ≤ c ∧ c < n) ∧ d = matT (joinF n cs)
abbrev T_join_matrix (P : Program) (w : World) (K : PySem.W.Frag) (mg : Str → Option Value) (base : Heap) : Prop := Cal P w K mg base "join_matrix" 48 ["size", "cells"] (PR K F_join_matrix)
theorem ok_join_matrix (S : Sur P mg base) (A : FunAt K mg "join_matrix" s_join_matrix) (C_unit_row : T_unit_row P w K mg base) : T_join_matrix P w K mg base := by
  refine cal_pure A sc_join_matrix (fun _ _ _ _ _ _ us hl => match us, hl with | [_, _], _ => rfl) ?_ (fun f cdv A outer s H E hr => ⟨_, (pss_cons (ps_set (i := 2) sc_join_matrix.nd rfl (by first | exact .inl rfl | exact .inr rfl) (pe_lc (own := [("at", 4)]) rfl sc_join_matrix.nd (pi_range1 (by rfl) (S.no "range" (by decide)) (pa_cons (pv 0) pa_nil)) (blkOk_by (N := nm_join_matrix) (sc := defScope s_join_matrix) (by decide +kernel)) (fun _ _ _ _ _ => (pg_name (i := 4) sc_join_matrix.nd rfl (by first | exact .inl rfl | exact .inr rfl))) (fun _ _ _ _ _ => (pts_one (PW.pt (pw_or (pt_cmpR (kEq K hr.units) (pv 4) (pe_ix (kIx K) (pv 1) pe_int (fun _ _ => rfl)) (nomark _)) (pw_or1 (pt_cmpR (kNotIn K) (pv 4) (pv 1) (by with_unfolding_all rfl))))))) (fun _ _ _ _ _ => (pv 4)))) (pss_cons (ps_setLc (own := [("at", 4)]) (i := 3) rfl sc_join_matrix.nd rfl rfl (sw_true rfl rfl rfl (by decide +kernel)) (pi_range1 (by rfl) (S.no "range" (by decide)) (pa_cons (pv 0) pa_nil)) (blkOk_by (N := nm_join_matrix) (sc := defScope s_join_matrix) (by decide +kernel)) (fun _ _ _ _ _ => (pg_name (i := 4) sc_join_matrix.nd rfl (by first | exact .inl rfl | exact .inr rfl))) (fun _ _ _ _ _ => pts_nil) (fun _ _ _ _ _ => (kMeth K PySem.F.plainAttrs_list PySem.F.slot_list_index PySem.F.type_list_index (kIndex K) (pv 2) (pa_cons (pe_ifExp (pt_cmpR (kIn K) (pv 4) (pv 1) (by with_unfolding_all rfl)) (pe_ix (kIx K) (pv 1) pe_int (fun _ _ => rfl)) (pv 4)) pa_nil)))) (pss_one (ps_ret (kTuple K (by rfl) (S.no "tuple" (by decide)) (pe_lc (own := [("place", 5)]) rfl sc_join_matrix.nd (kSeq K (pv 3)) (blkOk_by (N := nm_join_matrix) (sc := defScope s_join_matrix) (by decide +kernel)) (fun _ _ _ _ _ => (pg_name (i := 5) sc_join_matrix.nd rfl (by first | exact .inl rfl | exact .inr rfl))) (fun _ _ _ _ _ => pts_nil) (fun _ _ _ _ _ => (pe_own C_unit_row (hr.mono (by decide)) (by rfl) (pa_cons (pe_callB (kLen K) (by rfl) (S.no "len" (by decide)) boot_len (pa_cons (pv 2) pa_nil)) (pa_cons (pv 5) (pa_cons pe_int pa_nil))))))))))), ?_⟩)
  · rintro _ _ ⟨_, _, _, rfl, _⟩; rfl
  · rintro _ _ ⟨n, cd, cs, rfl, hc, hn, h0, hb, rfl⟩
    show RS K false _ [.dat (.int n), .dat cd, .un, .un, .un, .un] _
    obtain ⟨c0, ct, rfl⟩ := List.exists_cons_of_ne_nil h0
    have hix : ∀ Γ : Ga, Γ[1]? = some (.dat cd) → RE K (tOp (rIx K) (tVar 1) (tC (.int 0))) Γ (.int c0) Γ := fun Γ h => re_ixS (re_var h) hc re_int (at_nat (k := 0) rfl)
    refine rs_seq (rs_set (RL.re (rl_filt (List.range n) (fun (i : Nat) => .int (i : Int)) (fun (i : Nat) => .int (i : Int)) (fun (k : Nat) => decide ((k : Int) = c0) || !decide ((k : Int) ∈ c0 :: ct)) (ri_range (ra_cons (re_var rfl) ra_nil) (by omega)) (by simp; omega)
      (fun k hk => rt_or (rt_test (re_eqI (re_var rfl) (hix _ rfl))) (fun _ => rfl) (fun _ => rt_test (re_niS (re_var rfl) (re_var rfl) hc))) (fun k hk _ => re_var rfl))) ?_)
    have ek : ((List.range n).filter fun (k : Nat) => decide ((k : Int) = c0) || !decide ((k : Int) ∈ c0 :: ct)).map (fun (i : Nat) => PyData.int (i : Int)) = (keptF n (c0 :: ct)).map .int := by
      unfold keptF; rw [List.map_map]; rfl
    rw [ek]
    show RS K false _ [.dat (.int n), .dat cd, .dat (.list ((keptF n (c0 :: ct)).map .int)), .un, .un, .un] _
    have hc0 := hb c0 (by simp)
    have hin : ∀ k : Nat, k < n → placeF n (c0 :: ct) k ∈ keptF n (c0 :: ct) := fun k hk => by
      unfold placeF keptF
      by_cases z : (k : Int) ∈ c0 :: ct
      · rw [if_pos z]
        refine List.mem_map.mpr ⟨c0.toNat, List.mem_filter.mpr ⟨List.mem_range.mpr (by omega), ?_⟩, by show ((c0.toNat : Nat) : Int) = c0; omega⟩
        have : ((c0.toNat : Nat) : Int) = (c0 :: ct).headD 0 := by show ((c0.toNat : Nat) : Int) = c0; omega
        rw [decide_eq_true this]; rfl
      · rw [if_neg z]
        exact List.mem_map.mpr ⟨k, List.mem_filter.mpr ⟨List.mem_range.mpr hk, by rw [decide_eq_false z]; simp⟩, rfl⟩
    refine rs_seq (rs_set (RL.re (rl_map (List.range n) (fun (i : Nat) => .int (i : Int)) (fun (k : Nat) => .int (((keptF n (c0 :: ct)).idxOf (placeF n (c0 :: ct) k) : Nat) : Int)) (ri_range (ra_cons (re_var rfl) ra_nil) (by omega)) (by simp; omega)
      (fun k hk => re_indexI (ns := keptF n (c0 :: ct)) (n := placeF n (c0 :: ct) k) (re_var rfl) (re_if (rt_test (re_inS (re_var rfl) (re_var rfl) hc)) (fun h => (hix _ rfl).is (by unfold placeF; rw [if_pos (of_decide_eq_true h)]; rfl)) (fun h => (re_var rfl).is (by unfold placeF; rw [if_neg (of_decide_eq_false h)]))) (hin k (List.mem_range.mp hk))))) ?_)
    have e2 : (List.range n).map (fun (k : Nat) => PyData.int (((keptF n (c0 :: ct)).idxOf (placeF n (c0 :: ct) k) : Nat) : Int)) = ((List.range n).map fun (k : Nat) => (((keptF n (c0 :: ct)).idxOf (placeF n (c0 :: ct) k) : Nat) : Int)).map .int := by rw [List.map_map]; rfl
    rw [e2]
    show RS K false _ [.dat (.int n), .dat cd, .dat (.list ((keptF n (c0 :: ct)).map .int)), .dat (.list (((List.range n).map fun (k : Nat) => (((keptF n (c0 :: ct)).idxOf (placeF n (c0 :: ct) k) : Nat) : Int)).map .int)), .un, .un] _
    have hkl : (keptF n (c0 :: ct)).length ≤ 1000 := by
      unfold keptF; rw [List.length_map]
      exact Nat.le_trans (List.length_filter_le _ _) (by rw [List.length_range]; exact hn)
    refine rs_ret (re_tupleL (RL.re (rl_map ((List.range n).map fun (k : Nat) => (((keptF n (c0 :: ct)).idxOf (placeF n (c0 :: ct) k) : Nat) : Int)) .int (fun p => vec (urow (keptF n (c0 :: ct)).length p 1)) (ri_seqL (re_var rfl)) (by simp; omega)
      (fun p hp => re_call (ra_cons (re_cb (ra_cons (re_var rfl) ra_nil) (by have := cd_lenL (K := K) (ds := (keptF n (c0 :: ct)).map .int); rw [List.length_map] at this; exact this)) (ra_cons (re_var rfl) (ra_cons re_int ra_nil))) ⟨_, p, 1, rfl, hkl, sm1, rfl⟩)))) ?_
    rw [List.map_map]
    show _ = matT (joinF n (c0 :: ct))
    unfold matT joinF
    rw [List.map_map]; rfl
def dropF (n : Nat) (c : Int) : List Vc := (List.range n).map fun (k : Nat) => urow (n - 1) ((k : Int) - if (k : Int) > c then 1 else 0) (if (k : Int) = c then 0 else 1)
abbrev s_drop_matrix : Stmt := topS 22
abbrev nm_drop_matrix : List Str := ["size", "cell", "rows", "at"]
theorem sc_drop_matrix : FnScope nm_drop_matrix ["size", "cell"] (defScope s_drop_matrix) := ⟨rfl, rfl, rfl, by decide +kernel, rfl, by decide +kernel, by decide +kernel⟩
def F_drop_matrix (ds : List PyData) (d : PyData) : Prop := ∃ (n : Nat) (c : Int), ds = [.int (n : Int), .int c] ∧ 1 ≤ n ∧ n ≤ 1000 ∧ d = matT (dropF n c)
abbrev T_drop_matrix (P : Program) (w : World) (K : PySem.W.Frag) (mg : Str → Option Value) (base : Heap) : Prop := Cal P w K mg base "drop_matrix" 48 ["size", "cell"] (PR K F_drop_matrix)
theorem ok_drop_matrix (S : Sur P mg base) (A : FunAt K mg "drop_matrix" s_drop_matrix) (C_unit_row : T_unit_row P w K mg base) : T_drop_matrix P w K mg base := by
  refine cal_pure A sc_drop_matrix (fun _ _ _ _ _ _ us hl => match us, hl with | [_, _], _ => rfl) ?_ (fun f cdv A outer s H E hr => ⟨_, (pss_cons (ps_setLc (own := [("at", 3)]) (i := 2) rfl sc_drop_matrix.nd rfl rfl (sw_true rfl rfl rfl (by decide +kernel)) (pi_range1 (by rfl) (S.no "range" (by decide)) (pa_cons (pv 0) pa_nil)) (blkOk_by (N := nm_drop_matrix) (sc := defScope s_drop_matrix) (by decide +kernel)) (fun _ _ _ _ _ => (pg_name (i := 3) sc_drop_matrix.nd rfl (by first | exact .inl rfl | exact .inr rfl))) (fun _ _ _ _ _ => pts_nil) (fun _ _ _ _ _ => (pe_own C_unit_row (hr.mono (by decide)) (by rfl) (pa_cons (pe_op op_sub (pv 0) pe_int) (pa_cons (pe_op op_sub (pv 3) (pe_callTy call_int1 (by rfl) (S.no "int" (by decide)) boot_int (pa_cons (pe_cmpR op_gt (pv 3) (pv 1) (nomark _)) pa_nil))) (pa_cons (pe_callTy call_int1 (by rfl) (S.no "int" (by decide)) boot_int (pa_cons (pe_cmpR (kNe K hr.units) (pv 3) (pv 1) (nomark _)) pa_nil)) pa_nil)))))) (pss_one (ps_ret (kTuple K (by rfl) (S.no "tuple" (by decide)) (pv 2))))), ?_⟩)
  · rintro _ _ ⟨_, _, rfl, _⟩; rfl
  · rintro _ _ ⟨n, c, rfl, h1, hn, rfl⟩
    show RS K false _ [.dat (.int n), .dat (.int c), .un, .un] _
    refine rs_seq (rs_set (RL.re (rl_map (List.range n) (fun (i : Nat) => .int (i : Int)) (fun (k : Nat) => vec (urow (n - 1) ((k : Int) - if (k : Int) > c then 1 else 0) (if (k : Int) = c then 0 else 1))) (ri_range (ra_cons (re_var rfl) ra_nil) (by omega)) (by simp; omega) (fun k hk =>
      re_call (ra_cons ((re_subI (re_var rfl) re_int).is (d2 := .int ((n - 1 : Nat) : Int)) (by congr 1; omega)) (ra_cons ((re_subI (re_var rfl) (re_cb (ra_cons (re_op (re_var rfl) (re_var rfl) od_gt) ra_nil) cd_intB)).is (d2 := .int ((k : Int) - if (k : Int) > c then 1 else 0) ) (by simp))
        (ra_cons ((re_cb (ra_cons (re_neI (re_var rfl) (re_var rfl)) ra_nil) cd_intB).is (d2 := .int (if (k : Int) = c then 0 else 1)) (by by_cases h : (k : Int) = c <;> simp [h])) ra_nil)))
        ⟨n - 1, _, _, rfl, by omega, by split; exact sm0; exact sm1, rfl⟩))) ?_)
    refine rs_ret (re_tupleL (re_var rfl)) ?_
    show _ = matT (dropF n c)
    unfold matT dropF
    rw [List.map_map]; rfl
end K87

namespace K87
open PySem PySem.Spec PyProof.Rows L2 DL
open PySem.Builtin.Int (intBits)
variable {P : Program} {w : World} {K : PySem.W.Frag} {mg : Str → Option Value} {base : Heap}
theorem zip_range {α : Type} (f v : Vc) (g : Int → Int → α) (h : f.length = v.length) : (List.range f.length).map (fun k => g (at_ f k) (at_ v k)) = (List.zip f v).map fun p => g p.1 p.2 := by
  apply List.ext_getElem
  · rw [List.length_map, List.length_map, List.length_zip, List.length_range]; omega
  · intro i h1 h2
    rw [List.length_map, List.length_range] at h1
    rw [List.getElem_map, List.getElem_map, List.getElem_zip, List.getElem_range]
    have a : at_ f i = f[i] := by have := at_get h1; rw [List.getElem?_eq_getElem h1] at this; exact (Option.some.inj this).symm
    have b : at_ v i = v[i]'(by omega) := by have := at_get (v := v) (j := i) (by omega); rw [List.getElem?_eq_getElem (by omega)] at this; exact (Option.some.inj this).symm
    show g _ _ = g _ _
    rw [a, b]
def lstM (rows : List Vc) : PyData := .list (rows.map vec)
abbrev s_law_dot : Stmt := topS 25
abbrev nm_law_dot : List Str := ["form", "vector", "k"]
theorem sc_law_dot : FnScope nm_law_dot ["form", "vector"] (defScope s_law_dot) := ⟨rfl, rfl, rfl, by decide +kernel, rfl, by decide +kernel, by decide +kernel⟩
def F_law_dot (ds : List PyData) (d : PyData) : Prop := ∃ (a b : PyData) (f v : Vc), ds = [a, b] ∧ Sq a f ∧ Sq b v ∧ f.length = v.length ∧ f.length ≤ 1000 ∧ (∀ x ∈ f, Sm x) ∧ (∀ x ∈ v, Sm x) ∧ d = .int (dotL f v)
abbrev T_law_dot (P : Program) (w : World) (K : PySem.W.Frag) (mg : Str → Option Value) (base : Heap) : Prop := Cal P w K mg base "_law_dot" 41 ["form", "vector"] (PR K F_law_dot)
theorem ok_law_dot (S : Sur P mg base) (A : FunAt K mg "_law_dot" s_law_dot) : T_law_dot P w K mg base := by
  refine cal_pure A sc_law_dot (fun _ _ _ _ _ _ us hl => match us, hl with | [_, _], _ => rfl) ?_ (fun f cdv A outer s H E hr => ⟨_, (pss_one (ps_ret (pe_callB (kSum K rfl) (by rfl) (S.no "sum" (by decide)) boot_sum (pa_cons (pe_lc (own := [("k", 2)]) rfl sc_law_dot.nd (pi_range1 (by rfl) (S.no "range" (by decide)) (pa_cons (pe_callB (kLen K) (by rfl) (S.no "len" (by decide)) boot_len (pa_cons (pv 0) pa_nil)) pa_nil)) (blkOk_by (N := nm_law_dot) (sc := defScope s_law_dot) (by decide +kernel)) (fun _ _ _ _ _ => (pg_name (i := 2) sc_law_dot.nd rfl (by first | exact .inl rfl | exact .inr rfl))) (fun _ _ _ _ _ => pts_nil) (fun _ _ _ _ _ => (pe_op (kMul K) (pe_ix (kIx K) (pv 0) (pv 2) (fun _ _ => rfl)) (pe_ix (kIx K) (pv 1) (pv 2) (fun _ _ => rfl))))) pa_nil)))), ?_⟩)
  · rintro _ _ ⟨_, _, _, _, rfl, _⟩; rfl
  · rintro _ _ ⟨a, b, f, v, rfl, ha, hb, hfv, hl, h1, h2, rfl⟩
    show RS K false _ [.dat a, .dat b, .un] _
    have e : (List.range f.length).map (fun k => at_ f k * at_ v k) = (List.zip f v).map fun p => p.1 * p.2 := zip_range f v (fun x y => x * y) hfv
    refine rs_ret (re_cb (ra_cons (RL.re (rl_map (List.range f.length) (fun (i : Nat) => .int (i : Int)) (fun (k : Nat) => .int (at_ f k * at_ v k)) (ri_range (ra_cons (re_cb (ra_cons (re_var rfl) ra_nil) (by have := cd_len (K := K) ha; rw [List.length_map] at this; exact this)) ra_nil) (by omega)) (by simp; omega) (fun k hk => by
      have hk := List.mem_range.mp hk
      exact re_mulI (re_at (re_var rfl) ha (re_var rfl) hk) (re_at (re_var rfl) hb (re_var rfl) (by omega)) ((h1 _ (at_mem hk)).mul (h2 _ (at_mem (by omega))))))) ra_nil) cd_sumM) ?_
    show _ = PyData.int (dotL f v)
    rw [e]; rfl
abbrev s_law_plus : Stmt := topS 26
abbrev nm_law_plus : List Str := ["one", "times", "other", "k"]
theorem sc_law_plus : FnScope nm_law_plus ["one", "times", "other"] (defScope s_law_plus) := ⟨rfl, rfl, rfl, by decide +kernel, rfl, by decide +kernel, by decide +kernel⟩
def F_law_plus (ds : List PyData) (d : PyData) : Prop := ∃ (a b : PyData) (f v : Vc) (t : Int), ds = [a, .int t, b] ∧ Sq a f ∧ Sq b v ∧ f.length = v.length ∧ f.length ≤ 1000 ∧ Sm t ∧ (∀ x ∈ v, Sm x) ∧ d = vec (combL 1 f t v)
abbrev T_law_plus (P : Program) (w : World) (K : PySem.W.Frag) (mg : Str → Option Value) (base : Heap) : Prop := Cal P w K mg base "_law_plus" 41 ["one", "times", "other"] (PR K F_law_plus)
theorem ok_law_plus (S : Sur P mg base) (A : FunAt K mg "_law_plus" s_law_plus) : T_law_plus P w K mg base := by
  refine cal_pure A sc_law_plus (fun _ _ _ _ _ _ us hl => match us, hl with | [_, _, _], _ => rfl) ?_ (fun f cdv A outer s H E hr => ⟨_, (pss_one (ps_ret (kTuple K (by rfl) (S.no "tuple" (by decide)) (pe_lc (own := [("k", 3)]) rfl sc_law_plus.nd (pi_range1 (by rfl) (S.no "range" (by decide)) (pa_cons (pe_callB (kLen K) (by rfl) (S.no "len" (by decide)) boot_len (pa_cons (pv 0) pa_nil)) pa_nil)) (blkOk_by (N := nm_law_plus) (sc := defScope s_law_plus) (by decide +kernel)) (fun _ _ _ _ _ => (pg_name (i := 3) sc_law_plus.nd rfl (by first | exact .inl rfl | exact .inr rfl))) (fun _ _ _ _ _ => pts_nil) (fun _ _ _ _ _ => (pe_op (kAdd K) (pe_ix (kIx K) (pv 0) (pv 3) (fun _ _ => rfl)) (pe_op (kMul K) (pv 1) (pe_ix (kIx K) (pv 2) (pv 3) (fun _ _ => rfl))))))))), ?_⟩)
  · rintro _ _ ⟨_, _, _, _, _, rfl, _⟩; rfl
  · rintro _ _ ⟨a, b, f, v, t, rfl, ha, hb, hfv, hl, h1, h2, rfl⟩
    show RS K false _ [.dat a, .dat (.int t), .dat b, .un] _
    have e : (List.range f.length).map (fun k => at_ f k + t * at_ v k) = combL 1 f t v := by
      unfold combL
      rw [zip_range f v (fun x y => x + t * y) hfv]
      apply List.map_congr_left
      intro p _
      rw [Int.one_mul]
    refine rs_ret (re_tupleL (RL.re (rl_map (List.range f.length) (fun (i : Nat) => .int (i : Int)) (fun (k : Nat) => .int (at_ f k + t * at_ v k)) (ri_range (ra_cons (re_cb (ra_cons (re_var rfl) ra_nil) (by have := cd_len (K := K) ha; rw [List.length_map] at this; exact this)) ra_nil) (by omega)) (by simp; omega) (fun k hk => by
      have hk := List.mem_range.mp hk
      exact re_addI (re_at (re_var rfl) ha (re_var rfl) hk) (re_mulI (re_var rfl) (re_at (re_var rfl) hb (re_var rfl) (by omega)) (h1.mul (h2 _ (at_mem (by omega))))))))) ?_
    show _ = vec (combL 1 f t v)
    rw [← e]
    unfold vec
    rw [List.map_map]; rfl
abbrev s_law_units : Stmt := topS 28
abbrev nm_law_units : List Str := ["size", "k", "j"]
theorem sc_law_units : FnScope nm_law_units ["size"] (defScope s_law_units) := ⟨rfl, rfl, rfl, by decide +kernel, rfl, by decide +kernel, by decide +kernel⟩
def F_law_units (ds : List PyData) (d : PyData) : Prop := ∃ (n : Nat), ds = [.int (n : Int)] ∧ n ≤ 1000 ∧ d = lstM (unitsL n)
abbrev T_law_units (P : Program) (w : World) (K : PySem.W.Frag) (mg : Str → Option Value) (base : Heap) : Prop := Cal P w K mg base "_law_units" 41 ["size"] (PR K F_law_units)
theorem ok_law_units (S : Sur P mg base) (A : FunAt K mg "_law_units" s_law_units) : T_law_units P w K mg base := by
  refine cal_pure A sc_law_units (fun _ _ _ _ _ _ us hl => match us, hl with | [_], _ => rfl) ?_ (fun f cdv A outer s H E hr => ⟨_, (pss_one (ps_ret (pe_lc (own := [("k", 1)]) rfl sc_law_units.nd (pi_range1 (by rfl) (S.no "range" (by decide)) (pa_cons (pv 0) pa_nil)) (blkOk_by (N := nm_law_units) (sc := defScope s_law_units) (by decide +kernel)) (fun _ _ _ _ _ => (pg_name (i := 1) sc_law_units.nd rfl (by first | exact .inl rfl | exact .inr rfl))) (fun _ _ _ _ _ => pts_nil) (fun _ _ _ _ _ => (kTuple K (by rfl) (S.no "tuple" (by decide)) (pe_lc (own := [("j", 2)]) rfl sc_law_units.nd (pi_range1 (by rfl) (S.no "range" (by decide)) (pa_cons (pv 0) pa_nil)) (blkOk_by (N := nm_law_units) (sc := relS _ (defScope s_law_units)) (by decide +kernel)) (fun _ _ _ _ _ => (pg_name (i := 2) sc_law_units.nd rfl (by first | exact .inl rfl | exact .inr rfl))) (fun _ _ _ _ _ => pts_nil) (fun _ _ _ _ _ => (pe_callTy call_int1 (by rfl) (S.no "int" (by decide)) boot_int (pa_cons (pe_cmpR (kEq K hr.units) (pv 2) (pv 1) (nomark _)) pa_nil))))))))), ?_⟩)
  · rintro _ _ ⟨_, rfl, _⟩; rfl
  · rintro _ _ ⟨n, rfl, hn, rfl⟩
    show RS K false _ [.dat (.int n), .un, .un] _
    refine rs_ret (RL.re (rl_map (List.range n) (fun (i : Nat) => .int (i : Int)) (fun (k : Nat) => vec (unitL n (k : Int))) (ri_range (ra_cons (re_var rfl) ra_nil) (by omega)) (by simp; omega) (fun k hk =>
      (re_tupleL (RL.re (rl_map (List.range n) (fun (i : Nat) => .int (i : Int)) (fun (i : Nat) => .int (if decide ((i : Int) = (k : Int)) = true then 1 else 0)) (ri_range (ra_cons (re_var rfl) ra_nil) (by omega)) (by simp; omega) (fun x hx => re_cb (ra_cons (re_eqI (re_var rfl) (re_var rfl)) ra_nil) cd_intB)))).is (by simp [vec, unitL, Function.comp_def])))) ?_
    show _ = lstM (unitsL n)
    unfold lstM unitsL
    rw [List.map_map]; rfl
abbrev s_law_sent : Stmt := topS 29
abbrev nm_law_sent : List Str := ["vector", "matrix", "size", "total", "k"]
theorem sc_law_sent : FnScope nm_law_sent ["vector", "matrix", "size"] (defScope s_law_sent) := ⟨rfl, rfl, rfl, by decide +kernel, rfl, by decide +kernel, by decide +kernel⟩
def F_law_sent (ds : List PyData) (d : PyData) : Prop := ∃ (vd md : PyData) (v : Vc) (rows : List Vc) (n : Nat), ds = [vd, md, .int (n : Int)] ∧ Sq vd v ∧ SqM md rows ∧ v.length ≤ rows.length ∧ v.length ≤ 1000 ∧ 1 ≤ n ∧ n ≤ 1000 ∧ MapOk n v rows ∧ d = vec (mapF n v rows)
abbrev T_law_sent (P : Program) (w : World) (K : PySem.W.Frag) (mg : Str → Option Value) (base : Heap) : Prop := Cal P w K mg base "_law_sent" 44 ["vector", "matrix", "size"] (PR K F_law_sent)
theorem ok_law_sent (S : Sur P mg base) (A : FunAt K mg "_law_sent" s_law_sent) (C_law_plus : T_law_plus P w K mg base) : T_law_sent P w K mg base := by
  refine cal_pure A sc_law_sent (fun _ _ _ _ _ _ us hl => match us, hl with | [_, _, _], _ => rfl) ?_ (fun f cdv A outer s H E hr => ⟨_, (pss_cons (ps_set (i := 3) sc_law_sent.nd rfl (by first | exact .inl rfl | exact .inr rfl) (pe_op (kMul K) (pe_tup (pa_cons pe_int pa_nil)) (pv 2))) (pss_cons (ps_for PassesOwn.never rfl (pi_range1 (by rfl) (S.no "range" (by decide)) (pa_cons (pe_callB (kLen K) (by rfl) (S.no "len" (by decide)) boot_len (pa_cons (pv 0) pa_nil)) pa_nil)) (pg_name (i := 4) sc_law_sent.nd rfl (by first | exact .inl rfl | exact .inr rfl)) (pss_one (ps_set (i := 3) sc_law_sent.nd rfl (by first | exact .inl rfl | exact .inr rfl) (pe_own C_law_plus (hr.mono (by decide)) (by rfl) (pa_cons (pv 3) (pa_cons (pe_ix (kIx K) (pv 0) (pv 4) (fun _ _ => rfl)) (pa_cons (pe_ix (kIx K) (pv 1) (pv 4) (fun _ _ => rfl)) pa_nil))))))) (pss_one (ps_ret (pv 3))))), ?_⟩)
  · rintro _ _ ⟨_, _, _, _, _, rfl, _⟩; rfl
  · rintro _ _ ⟨vd, md, v, rows, n, rfl, hv, ⟨rs, hrs, hsq, rfl⟩, hl, hl2, h1, hn, ⟨hm, hvs, hrw⟩, rfl⟩
    show RS K false _ [.dat vd, .dat md, .dat (.int n), .un, .un] _
    refine rs_seq (rs_set (re_mulT (re_tup (ra_cons re_int ra_nil)) (re_var rfl) (by omega)) ?_)
    have e0 : PyData.tuple (List.replicate (n : Int).toNat (.int 0)) = vec (List.replicate n 0) := by
      unfold vec; rw [List.map_replicate]; rfl
    show RS K false _ [.dat vd, .dat md, .dat (.int n), .dat (PyData.tuple (List.replicate (n : Int).toNat (.int 0))), .un] _
    rw [e0]
    have ez : List.zip v (rs.map (·.2)) = (List.zip v rs).map fun p => (p.1, p.2.2) := by
      rw [List.zip_map_right]; rfl
    refine rs_seq (rs_for (ri_range (n := v.length) (ra_cons (re_cb (ra_cons (re_var rfl) ra_nil) (by have := cd_len (K := K) hv; rw [List.length_map] at this; exact this)) ra_nil) (by omega)) (fun i Γ => ∃ s4, Γ = [.dat vd, .dat md, .dat (.int n), .dat (vec (((List.zip v (rs.map Prod.snd)).take i).foldl mapS (List.replicate n 0))), s4]) ⟨_, rfl⟩ (fun i d Γ hd hW => ?_) (fun Γ hW => ?_))
    · obtain ⟨s4, rfl⟩ := hW
      rw [List.getElem?_map] at hd
      obtain ⟨k, hk, rfl⟩ := Option.map_eq_some_iff.mp hd
      have hki : k = i := by obtain ⟨_, h2⟩ := List.getElem?_eq_some_iff.mp hk; simpa using h2.symm
      subst hki
      have hkn : k < v.length := by have := (List.getElem?_eq_some_iff.mp hk).1; simpa using this
      rw [List.length_map] at hl
      refine ⟨_, _, rg_name, by decide, ?_⟩
      have hp : rs[k]? = some (rs[k]'(by omega)) := List.getElem?_eq_getElem _
      generalize rs[k]'(by omega) = p at hp
      have m2 := List.mem_of_getElem? hp
      have hr : Vn n p.2 := hrw _ (List.mem_map_of_mem m2)
      have hz : (List.zip v (rs.map Prod.snd))[k]? = some (at_ v k, p.2) := by
        rw [List.getElem?_zip_eq_some]
        exact ⟨at_get hkn, by rw [List.getElem?_map, hp]; rfl⟩
      have e : ((List.zip v (rs.map Prod.snd)).take (k + 1)).foldl mapS (List.replicate n 0) = combL 1 (((List.zip v (rs.map Prod.snd)).take k).foldl mapS (List.replicate n 0)) (at_ v k) p.2 := by
        rw [List.take_add_one, List.foldl_append, hz]; rfl
      have hu : Vn n (((List.zip v (rs.map Prod.snd)).take k).foldl mapS (List.replicate n 0)) := hm k
      generalize ((List.zip v (rs.map Prod.snd)).take k).foldl mapS (List.replicate n 0) = u at e hu ⊢
      show RS K false _ [.dat vd, .dat md, .dat (.int n), .dat (vec u), .dat (.int (k : Int))] _
      refine rs_set (re_call (ra_cons (re_var rfl) (ra_cons (re_at (re_var rfl) hv (re_var rfl) hkn) (ra_cons (re_ixS (re_var rfl) hrs (re_var rfl) (at_nat (d := p.1) (by rw [List.getElem?_map, hp]; rfl))) ra_nil)))
        ⟨_, _, _, _, _, rfl, sq_vec u, hsq p m2, by rw [hu.1, hr.1], by rw [hu.1]; exact hn, hvs _ (at_mem hkn), hr.2, rfl⟩) ?_
      rw [e]
      exact ⟨_, rfl⟩
    · obtain ⟨s4, rfl⟩ := hW
      rw [List.length_map, List.length_range]
      refine rs_ret (re_var rfl) ?_
      have el : v.length = (List.zip v (rs.map Prod.snd)).length := by rw [List.length_zip]; simp at hl ⊢; omega
      have et : (List.zip v (rs.map Prod.snd)).take v.length = List.zip v (rs.map Prod.snd) := by
        conv => lhs; rw [el]
        exact List.take_length
      rw [et]; rfl
/-! ### the law's elimination -/
inductive EuRun (n : Nat) (f : Vc) : Nat → Vc → Vc → Vc → Vc → Prop where
  | stop {l r : Vc} : Vn n l → Vn n r → dotL f r = 0 → EuRun n f 0 l r l r
  | step {k : Nat} {l r l' r' : Vc} : Vn n l → Vn n r → dotL f r ≠ 0 → Sm (0 - (dotL f l).fdiv (dotL f r)) → EuRun n f k r (combL 1 l (0 - (dotL f l).fdiv (dotL f r)) r) l' r' → EuRun n f (k + 1) l r l' r'
inductive StRun (n : Nat) (f : Vc) : List Vc → List Vc → Option Vc → List Vc → Option Vc → Prop where
  | nil {lv : List Vc} {ld : Option Vc} : StRun n f [] lv ld lv ld
  | zero {r : Vc} {rs lv lv' : List Vc} {ld' : Option Vc} : Vn n r → dotL f r = 0 → StRun n f rs (lv ++ [r]) none lv' ld' → StRun n f (r :: rs) lv none lv' ld'
  | first {r : Vc} {rs lv lv' : List Vc} {ld' : Option Vc} : Vn n r → dotL f r ≠ 0 → StRun n f rs lv (some r) lv' ld' → StRun n f (r :: rs) lv none lv' ld'
  | go {k : Nat} {r l l2 r2 : Vc} {rs lv lv' : List Vc} {ld' : Option Vc} : EuRun n f k l r l2 r2 → StRun n f rs (lv ++ [r2]) (some l2) lv' ld' → StRun n f (r :: rs) lv (some l) lv' ld'
def ldD : Option Vc → PyData
  | none => .none
  | some v => vec v
theorem EuRun.vn {n k : Nat} {f l r l' r' : Vc} (h : EuRun n f k l r l' r') : Vn n l ∧ Vn n r := by
  cases h with
  | stop a b _ => exact ⟨a, b⟩
  | step a b _ _ _ => exact ⟨a, b⟩
abbrev s_law_step : Stmt := topS 27
abbrev nm_law_step : List Str := ["rows", "form", "level", "lead", "row", "times"]
theorem sc_law_step : FnScope nm_law_step ["rows", "form"] (defScope s_law_step) := ⟨rfl, rfl, rfl, by decide +kernel, rfl, by decide +kernel, by decide +kernel⟩
def F_law_step (ds : List PyData) (d : PyData) : Prop := ∃ (n : Nat) (f : Vc) (rows lv : List Vc) (ld : Option Vc), ds = [lstM rows, vec f] ∧ Vn n f ∧ n ≤ 1000 ∧ rows.length ≤ 1000 ∧ StRun n f rows [] none lv ld ∧ d = .list [lstM lv, ldD ld]
abbrev T_law_step (P : Program) (w : World) (K : PySem.W.Frag) (mg : Str → Option Value) (base : Heap) : Prop := Cal P w K mg base "_law_step" 48 ["rows", "form"] (PR K F_law_step)
theorem ok_law_step (S : Sur P mg base) (A : FunAt K mg "_law_step" s_law_step) (C_law_dot : T_law_dot P w K mg base) (C_law_plus : T_law_plus P w K mg base) : T_law_step P w K mg base := by
  refine cal_pure A sc_law_step (fun _ _ _ _ _ _ us hl => match us, hl with | [_, _], _ => rfl) ?_ (fun f cdv A outer s H E hr => ⟨_, (pss_cons (ps_set (i := 2) sc_law_step.nd rfl (by first | exact .inl rfl | exact .inr rfl) (pe_lst pa_nil)) (pss_cons (ps_set (i := 3) sc_law_step.nd rfl (by first | exact .inl rfl | exact .inr rfl) pe_non) (pss_cons (ps_for PassesOwn.never rfl (kSeq K (pv 0)) (pg_name (i := 4) sc_law_step.nd rfl (by first | exact .inl rfl | exact .inr rfl)) (pss_cons (ps_while PassesOwn.never (PW.pt (pw_and (pt_cmp (pc_notN (pv 3))) (pw_and1 (pt_cmpR (kNe K hr.units) (pe_own C_law_dot (hr.mono (by decide)) (by rfl) (pa_cons (pv 1) (pa_cons (pv 4) pa_nil))) pe_int (nomark _))))) (pss_cons (ps_set (i := 5) sc_law_step.nd rfl (by first | exact .inl rfl | exact .inr rfl) (pe_op (op_fdivX (py_of S.seer S.tree hr)) (pe_own C_law_dot (hr.mono (by decide)) (by rfl) (pa_cons (pv 1) (pa_cons (pv 3) pa_nil))) (pe_own C_law_dot (hr.mono (by decide)) (by rfl) (pa_cons (pv 1) (pa_cons (pv 4) pa_nil))))) (pss_one (ps_par (i := 3) (j := 4) rfl sc_law_step.nd rfl rfl (by decide) rfl rfl (pa_cons (pv 4) (pa_cons (pe_own C_law_plus (hr.mono (by decide)) (by rfl) (pa_cons (pv 3) (pa_cons (pe_op op_sub pe_int (pv 5)) (pa_cons (pv 4) pa_nil)))) pa_nil)) rfl)))) (pss_one (ps_if (pt_cmpR (kEq K hr.units) (pe_own C_law_dot (hr.mono (by decide)) (by rfl) (pa_cons (pv 1) (pa_cons (pv 4) pa_nil))) pe_int (nomark _)) (pss_one (ps_expr (kMeth K PySem.F.plainAttrs_list PySem.F.slot_list_append PySem.F.type_list_append mt_append (pv 2) (pa_cons (pv 4) pa_nil)))) (pss_one (ps_set (i := 3) sc_law_step.nd rfl (by first | exact .inl rfl | exact .inr rfl) (pv 4))))))) (pss_one (ps_ret (pe_lst (pa_cons (pv 2) (pa_cons (pv 3) pa_nil)))))))), ?_⟩)
  · rintro _ _ ⟨_, _, _, _, _, rfl, _⟩; rfl
  · rintro _ _ ⟨n, f, rows, lv, ld, rfl, hf, hn, hrl, run, rfl⟩
    show RS K false _ [.dat (lstM rows), .dat (vec f), .un, .un, .un, .un] _
    refine rs_seq (rs_setL (rl_lst ra_nil) ?_)
    refine rs_seq (rs_set re_non ?_)
    show RS K false _ [.dat (lstM rows), .dat (vec f), .lst [], .dat .none, .un, .un] _
    have hdot : ∀ {Γ Γ1 Γ2 : Ga} {ta tb : TE} {v : Vc}, Vn n v → RE K ta Γ (vec f) Γ1 → RE K tb Γ1 (vec v) Γ2 → RE K (tCall (PR K F_law_dot) [] E0 (tCons ta (tCons tb tNil))) Γ (.int (dotL f v)) Γ2 := fun hv h1 h2 =>
      re_call (ra_cons h1 (ra_cons h2 ra_nil)) ⟨_, _, f, _, rfl, sq_vec f, sq_vec _, by rw [hf.1, hv.1], by rw [hf.1]; exact hn, hf.2, hv.2, rfl⟩
    refine rs_seq (rs_for (ds := rows.map vec) (ri_seqL (re_var rfl))
      (fun i Γ => ∃ s4 s5 lv2 ld2, Γ = [.dat (lstM rows), .dat (vec f), .lst (lv2.map vec), .dat (ldD ld2), s4, s5] ∧ StRun n f (rows.drop i) lv2 ld2 lv ld ∧ lv2.length ≤ i) ⟨_, _, [], none, rfl, run, Nat.le_refl _⟩ (fun i d Γ hd hW => ?_) (fun Γ hW => ?_))
    · obtain ⟨s4, s5, lv2, ld2, rfl, run, hlen⟩ := hW
      rw [List.getElem?_map] at hd
      obtain ⟨r, hr, rfl⟩ := Option.map_eq_some_iff.mp hd
      have hi := (List.getElem?_eq_some_iff.mp hr).1
      refine ⟨_, _, rg_name, by decide, ?_⟩
      have e : rows.drop i = r :: rows.drop (i + 1) := by
        rw [List.drop_eq_getElem_cons hi, (List.getElem?_eq_some_iff.mp hr).2]
      rw [e] at run
      show RS K false _ [.dat (lstM rows), .dat (vec f), .lst (lv2.map vec), .dat (ldD ld2), .dat (vec r), s5] _
      have hsz : (lv2.map vec).length < sizeLine := by rw [List.length_map]; show _ < 16777216; omega
      -- behind the inner loop
      have fin : ∀ (lv3 : List Vc) (ld3 : Option Vc) (r3 : Vc) (s : Sl), Vn n r3 → (dotL f r3 = 0 → StRun n f (rows.drop (i + 1)) (lv3 ++ [r3]) ld3 lv ld) → (dotL f r3 ≠ 0 → StRun n f (rows.drop (i + 1)) lv3 (some r3) lv ld) → lv3.length ≤ i → (lv3.map vec).length < sizeLine →
          RS K false (tIfS (tTest (tOp (rEqX K) (tCall (PR K F_law_dot) [] E0 (tCons (tVar 1) (tCons (tVar 4) tNil))) (tC (V.int 0)))) (tDrop (tBM K "list" rAppend (tVar 2) (tCons (tVar 4) tNil))) (tAsg (tVar 4) (gName 3))) [.dat (lstM rows), .dat (vec f), .lst (lv3.map vec), .dat (ldD ld3), .dat (vec r3), s]
            ⟨fun Γ => ∃ s4 s5 lv2 ld2, Γ = [.dat (lstM rows), .dat (vec f), .lst (lv2.map vec), .dat (ldD ld2), s4, s5] ∧ StRun n f (rows.drop (i + 1)) lv2 ld2 lv ld ∧ lv2.length ≤ i + 1, fun d' _ => d' = .list [lstM lv, ldD ld], fun _ => False, fun _ => False⟩ := by
        intro lv3 ld3 r3 s hv h0 h1 hlen hsz
        refine rs_if (rt_test (re_eqI (hdot hv (re_var rfl) (re_var rfl)) re_int)) (fun hb => ?_) (fun hb => ?_)
        · refine rs_app (i := 2) (ds := lv3.map vec) rfl (re_var rfl) rfl hsz ?_
          exact ⟨_, _, lv3 ++ [r3], ld3, by rw [List.map_append]; rfl, h0 (of_decide_eq_true hb), by rw [List.length_append]; simp; omega⟩
        · exact rs_set (re_var rfl) ⟨_, _, lv3, some r3, rfl, h1 (of_decide_eq_false hb), by omega⟩
      cases run with
      | zero hv h0 run =>
        refine rs_seq (rs_while (fun m Γ => Γ = [.dat (lstM rows), .dat (vec f), .lst (lv2.map vec), .dat .none, .dat (vec r), s5]) 0 rfl fun m Γ hW => ?_)
        subst hW
        refine ⟨_, false, rt_and (b := false) (c := true) (rt_test (re_notN (d := .none) (b := false) (re_var rfl) rfl)) (fun _ => rfl) (fun (z : false = true) => nomatch z), ?_, fun _ => ?_⟩
        · intro z; cases z
        exact (fin lv2 none r s5 hv (fun _ => run) (fun z => absurd h0 z) hlen hsz).imp (fun _ z => z) (fun _ _ z => z) (fun _ z => z.elim) (fun _ z => z.elim)
      | first hv h0 run =>
        refine rs_seq (rs_while (fun m Γ => Γ = [.dat (lstM rows), .dat (vec f), .lst (lv2.map vec), .dat .none, .dat (vec r), s5]) 0 rfl fun m Γ hW => ?_)
        subst hW
        refine ⟨_, false, rt_and (b := false) (c := true) (rt_test (re_notN (d := .none) (b := false) (re_var rfl) rfl)) (fun _ => rfl) (fun (z : false = true) => nomatch z), ?_, fun _ => ?_⟩
        · intro z; cases z
        exact (fin lv2 none r s5 hv (fun z => absurd z h0) (fun _ => run) hlen hsz).imp (fun _ z => z) (fun _ _ z => z) (fun _ z => z.elim) (fun _ z => z.elim)
      | @go k _ l l2 r2 _ _ _ _ eu run =>
        refine rs_seq (rs_while (fun m Γ => ∃ l3 r3 s, Γ = [.dat (lstM rows), .dat (vec f), .lst (lv2.map vec), .dat (vec l3), .dat (vec r3), s] ∧ EuRun n f m l3 r3 l2 r2) k ⟨l, r, s5, rfl, eu⟩ fun m Γ hW => ?_)
        obtain ⟨l3, r3, s, rfl, eu⟩ := hW
        obtain ⟨hv, hr3⟩ := eu.vn
        refine ⟨_, _, rt_and (rt_test (re_notN (re_var rfl) rfl)) (fun _ => rfl) (fun _ => rt_test (re_neI (hdot hr3 (re_var rfl) (re_var rfl)) re_int)), fun hb => ?_, fun hb => ?_⟩
        · cases eu with
          | stop _ _ h => rw [h] at hb; cases hb
          | @step m' _ _ _ _ _ _ h0 hs eu =>
            refine rs_seq (rs_set (re_fdivI (hdot hv (re_var rfl) (re_var rfl)) (hdot hr3 (re_var rfl) (re_var rfl)) h0) ?_)
            show RS K false _ [.dat (lstM rows), .dat (vec f), .lst (lv2.map vec), .dat (vec l3), .dat (vec r3), .dat (.int ((dotL f l3).fdiv (dotL f r3)))] _
            refine rs_par (ra_cons (re_var rfl) (ra_cons (re_call (ra_cons (re_var rfl) (ra_cons (re_subI re_int (re_var rfl)) (ra_cons (re_var rfl) ra_nil))) ⟨_, _, l3, r3, _, rfl, sq_vec l3, sq_vec r3, by rw [hv.1, hr3.1], by rw [hv.1]; exact hn, hs, hr3.2, rfl⟩) ra_nil)) ?_
            exact ⟨m', Nat.lt_succ_self _, _, _, _, rfl, eu⟩
        · cases eu with
          | step _ _ h _ _ => rw [decide_eq_false h] at hb; cases hb
          | stop _ _ h0 =>
            exact (fin lv2 (some l2) r2 s hr3 (fun _ => run) (fun z => absurd h0 z) hlen hsz).imp (fun _ z => z) (fun _ _ z => z) (fun _ z => z.elim) (fun _ z => z.elim)
    · obtain ⟨s4, s5, lv2, ld2, rfl, run, _⟩ := hW
      rw [List.length_map, List.drop_length] at run
      cases run
      refine rs_ret (RL.re (rl_lst (ra_cons (re_out (i := 2) rfl) (ra_cons (re_var rfl) ra_nil)))) rfl
end K87

namespace K87
open PySem PySem.Spec PyProof.Rows L2 DL
open PySem.Builtin.Int (intBits)
variable {P : Program} {w : World} {K : PySem.W.Frag} {mg : Str → Option Value} {base : Heap}
/-! ### membership by the law -/
inductive InRun (n : Nat) : Nat → List Vc → Vc → Bool → Prop where
  | done {rows : List Vc} {v : Vc} : InRun n n rows v true
  | no {k : Nat} {rows lv : List Vc} {ld : Option Vc} {v : Vc} : k < n → rows.length ≤ 1000 → Vn n v → StRun n (unitL n k) rows [] none lv ld → dotL (unitL n k) v ≠ 0 → (∀ l, ld = some l → Vn n l ∧ dotL (unitL n k) l ≠ 0 ∧ (dotL (unitL n k) v).fmod (dotL (unitL n k) l) ≠ 0) → InRun n k rows v false
  | skip {k : Nat} {rows lv : List Vc} {v : Vc} {b : Bool} : k < n → rows.length ≤ 1000 → Vn n v → StRun n (unitL n k) rows [] none lv none → dotL (unitL n k) v = 0 → InRun n (k + 1) lv v b → InRun n k rows v b
  | red {k : Nat} {rows lv : List Vc} {l v : Vc} {b : Bool} : k < n → rows.length ≤ 1000 → Vn n v → StRun n (unitL n k) rows [] none lv (some l) → Vn n l → dotL (unitL n k) l ≠ 0 → (dotL (unitL n k) v).fmod (dotL (unitL n k) l) = 0 → Sm (0 - (dotL (unitL n k) v).fdiv (dotL (unitL n k) l)) →
      InRun n (k + 1) lv (combL 1 v (0 - (dotL (unitL n k) v).fdiv (dotL (unitL n k) l)) l) b → InRun n k rows v b
abbrev s_law_inside : Stmt := topS 31
abbrev nm_law_inside : List Str := ["rows", "vector", "form", "entry", "lead"]
theorem sc_law_inside : FnScope nm_law_inside ["rows", "vector"] (defScope s_law_inside) := ⟨rfl, rfl, rfl, by decide +kernel, rfl, by decide +kernel, by decide +kernel⟩
def F_law_inside (ds : List PyData) (d : PyData) : Prop := ∃ (n : Nat) (rows : List Vc) (v : Vc) (b : Bool), ds = [lstM rows, vec v] ∧ n ≤ 1000 ∧ v.length = n ∧ InRun n 0 rows v b ∧ d = .bool b
abbrev T_law_inside (P : Program) (w : World) (K : PySem.W.Frag) (mg : Str → Option Value) (base : Heap) : Prop := Cal P w K mg base "_law_inside" 52 ["rows", "vector"] (PR K F_law_inside)
theorem unit_vn {n : Nat} {k : Int} : Vn n (unitL n k) := ⟨unit_len, unit_sm⟩
theorem ok_law_inside (S : Sur P mg base) (A : FunAt K mg "_law_inside" s_law_inside) (C_law_units : T_law_units P w K mg base) (C_law_step : T_law_step P w K mg base) (C_law_dot : T_law_dot P w K mg base) (C_law_plus : T_law_plus P w K mg base) : T_law_inside P w K mg base := by
  refine cal_pure A sc_law_inside (fun _ _ _ _ _ _ us hl => match us, hl with | [_, _], _ => rfl) ?_ (fun f cdv A outer s H E hr => ⟨_, (pss_cons (ps_for PassesOwn.never rfl (kSeq K (pe_own C_law_units (hr.mono (by decide)) (by rfl) (pa_cons (pe_callB (kLen K) (by rfl) (S.no "len" (by decide)) boot_len (pa_cons (pv 1) pa_nil)) pa_nil))) (pg_name (i := 2) sc_law_inside.nd rfl (by first | exact .inl rfl | exact .inr rfl)) (pss_cons (ps_asg (pe_own C_law_step (hr.mono (by decide)) (by rfl) (pa_cons (pv 0) (pa_cons (pv 2) pa_nil))) (kAny K (n := 2) rfl (pgs_cons (pg_name (i := 0) sc_law_inside.nd rfl (by first | exact .inl rfl | exact .inr rfl)) (pgs_cons (pg_name (i := 4) sc_law_inside.nd rfl (by first | exact .inl rfl | exact .inr rfl)) pgs_nil)))) (pss_cons (ps_set (i := 3) sc_law_inside.nd rfl (by first | exact .inl rfl | exact .inr rfl) (pe_own C_law_dot (hr.mono (by decide)) (by rfl) (pa_cons (pv 2) (pa_cons (pv 1) pa_nil)))) (pss_one (ps_if (PW.pt (pw_or (pt_cmp (pc_isN (pv 4))) (pw_or1 (pt_cmpR (kNe K hr.units) (pe_op op_modN (pv 3) (pe_own C_law_dot (hr.mono (by decide)) (by rfl) (pa_cons (pv 2) (pa_cons (pv 4) pa_nil)))) pe_int (nomark _))))) (pss_one (ps_if (pt_cmpR (kNe K hr.units) (pv 3) pe_int (nomark _)) (pss_one (ps_ret pe_bl)) pss_nil)) (pss_one (ps_set (i := 1) sc_law_inside.nd rfl (by first | exact .inl rfl | exact .inr rfl) (pe_own C_law_plus (hr.mono (by decide)) (by rfl) (pa_cons (pv 1) (pa_cons (pe_op op_sub pe_int (pe_op (op_fdivX (py_of S.seer S.tree hr)) (pv 3) (pe_own C_law_dot (hr.mono (by decide)) (by rfl) (pa_cons (pv 2) (pa_cons (pv 4) pa_nil))))) (pa_cons (pv 4) pa_nil))))))))))) (pss_one (ps_ret pe_bl))), ?_⟩)
  · rintro _ _ ⟨_, _, _, _, rfl, _⟩; rfl
  · rintro _ _ ⟨n, rows, v, b, rfl, hn, hv, run, rfl⟩
    show RS K false _ [.dat (lstM rows), .dat (vec v), .un, .un, .un] _
    refine rs_seq (rs_for (ds := (unitsL n).map vec) (ri_seqL (re_call (ra_cons (re_cb (ra_cons (re_var rfl) ra_nil) (by have := cd_len (K := K) (sq_vec v); rw [List.length_map, hv] at this; exact this)) ra_nil) ⟨n, rfl, hn, rfl⟩))
      (fun i Γ => ∃ rows2 v2 s2 s3 s4, Γ = [.dat (lstM rows2), .dat (vec v2), s2, s3, s4] ∧ InRun n i rows2 v2 b) ⟨_, _, _, _, _, rfl, run⟩ (fun i d Γ hd hW => ?_) (fun Γ hW => ?_))
    · obtain ⟨rows2, v2, s2, s3, s4, rfl, run⟩ := hW
      unfold unitsL at hd
      rw [List.getElem?_map, List.getElem?_map] at hd
      obtain ⟨u, hu, rfl⟩ := Option.map_eq_some_iff.mp hd
      obtain ⟨c, hc, rfl⟩ := Option.map_eq_some_iff.mp hu
      have hci : c = i := by obtain ⟨_, h2⟩ := List.getElem?_eq_some_iff.mp hc; simpa using h2.symm
      subst hci
      have hcn : c < n := by have := (List.getElem?_eq_some_iff.mp hc).1; simpa using this
      refine ⟨_, _, rg_name, by decide, ?_⟩
      show RS K false _ [.dat (lstM rows2), .dat (vec v2), .dat (vec (unitL n c)), s3, s4] _
      have hdot : ∀ {Γ Γ1 Γ2 : Ga} {ta tb : TE} {v : Vc}, Vn n v → RE K ta Γ (vec (unitL n c)) Γ1 → RE K tb Γ1 (vec v) Γ2 → RE K (tCall (PR K F_law_dot) [] E0 (tCons ta (tCons tb tNil))) Γ (.int (dotL (unitL n c) v)) Γ2 := fun hv h1 h2 =>
        re_call (ra_cons h1 (ra_cons h2 ra_nil)) ⟨_, _, unitL n c, _, rfl, sq_vec _, sq_vec _, by rw [unit_len, hv.1], by rw [unit_len]; exact hn, unit_sm, hv.2, rfl⟩
      have stp : ∀ {lv : List Vc} {ld : Option Vc}, rows2.length ≤ 1000 → StRun n (unitL n c) rows2 [] none lv ld → RE K (tCall (PR K F_law_step) [] E0 (tCons (tVar 0) (tCons (tVar 2) tNil))) [.dat (lstM rows2), .dat (vec v2), .dat (vec (unitL n c)), s3, s4] (.list [lstM lv, ldD ld]) [.dat (lstM rows2), .dat (vec v2), .dat (vec (unitL n c)), s3, s4] := fun hl h =>
        re_call (ra_cons (re_var rfl) (ra_cons (re_var rfl) ra_nil)) ⟨n, _, rows2, _, _, rfl, unit_vn, hn, hl, h, rfl⟩
      cases run with
      | done => exact absurd hcn (Nat.lt_irrefl _)
      | @no _ _ lv ld _ _ hl hv2 st h0 hno =>
        refine rs_seq (rs_setG (stp hl st) (rg_anyL (rgs_cons rg_name (rgs_cons rg_name rgs_nil))) ?_)
        show RS K false _ [.dat (lstM lv), .dat (vec v2), .dat (vec (unitL n c)), s3, .dat (ldD ld)] _
        refine rs_seq (rs_set (hdot hv2 (re_var rfl) (re_var rfl)) ?_)
        show RS K false _ [.dat (lstM lv), .dat (vec v2), .dat (vec (unitL n c)), .dat (.int (dotL (unitL n c) v2)), .dat (ldD ld)] _
        have fin : ∀ u : TS, RS K false (tIfS (tTest (tOp (rNeX K) (tVar 3) (tC (V.int 0)))) (tRet (tC (V.bl false))) u) [.dat (lstM lv), .dat (vec v2), .dat (vec (unitL n c)), .dat (.int (dotL (unitL n c) v2)), .dat (ldD ld)] ⟨fun Γ => ∃ rows2 v2 s2 s3 s4, Γ = [.dat (lstM rows2), .dat (vec v2), s2, s3, s4] ∧ InRun n (c + 1) rows2 v2 false, fun d' _ => d' = .bool false, fun _ => False, fun _ => False⟩ := fun u =>
          rs_if (b := true) ((rt_test (re_neI (re_var (i := 3) rfl) (re_int (i := 0)))).is (by rw [decide_eq_false h0]; rfl)) (fun _ => rs_ret (re_bl (x := false)) rfl) (fun z => nomatch z)
        cases ld with
        | none => exact rs_if (b := true) ((rt_or (b := true) (c := true) (rt_test (re_isN (re_var rfl) rfl)) (fun _ => rfl) (fun z => nomatch z))) (fun _ => (fin _).imp (fun _ z => z) (fun _ _ z => z) (fun _ z => z.elim) (fun _ z => z.elim)) (fun z => nomatch z)
        | some l =>
          obtain ⟨hvl, hl0, hmod⟩ := hno l rfl
          exact rs_if (b := true) ((rt_or (b := false) (c := true) (rt_test (re_isN (re_var rfl) rfl)) (fun z => nomatch z) (fun _ => (rt_test (re_neI (re_modI (re_var rfl) (hdot hvl (re_var rfl) (re_var rfl)) hl0) re_int)).is (by rw [decide_eq_false hmod]; rfl)))) (fun _ => (fin _).imp (fun _ z => z) (fun _ _ z => z) (fun _ z => z.elim) (fun _ z => z.elim)) (fun z => nomatch z)
      | @skip _ _ lv _ _ _ hl hv2 st h0 run =>
        refine rs_seq (rs_setG (stp hl st) (rg_anyL (rgs_cons rg_name (rgs_cons rg_name rgs_nil))) ?_)
        show RS K false _ [.dat (lstM lv), .dat (vec v2), .dat (vec (unitL n c)), s3, .dat .none] _
        refine rs_seq (rs_set (hdot hv2 (re_var rfl) (re_var rfl)) ?_)
        refine rs_if (b := true) ((rt_or (b := true) (c := true) (rt_test (re_isN (re_var rfl) rfl)) (fun _ => rfl) (fun z => nomatch z))) (fun _ => ?_) (fun z => nomatch z)
        exact rs_if ((rt_test (re_neI (re_var rfl) re_int)).is (show _ = false by rw [h0]; rfl)) (fun z => nomatch z) (fun _ => rs_nx ⟨_, _, _, _, _, rfl, run⟩)
      | @red _ _ lv l _ _ _ hl hv2 st hvl hl0 hmod hs run =>
        refine rs_seq (rs_setG (stp hl st) (rg_anyL (rgs_cons rg_name (rgs_cons rg_name rgs_nil))) ?_)
        show RS K false _ [.dat (lstM lv), .dat (vec v2), .dat (vec (unitL n c)), s3, .dat (vec l)] _
        refine rs_seq (rs_set (hdot hv2 (re_var rfl) (re_var rfl)) ?_)
        show RS K false _ [.dat (lstM lv), .dat (vec v2), .dat (vec (unitL n c)), .dat (.int (dotL (unitL n c) v2)), .dat (vec l)] _
        refine rs_if (b := false) ((rt_or (b := false) (c := false) (rt_test (re_isN (re_var rfl) rfl)) (fun z => nomatch z) (fun _ => (rt_test (re_neI (re_modI (re_var rfl) (hdot hvl (re_var rfl) (re_var rfl)) hl0) re_int)).is (by rw [hmod]; rfl)))) (fun z => nomatch z) (fun _ => ?_)
        refine rs_set (re_call (ra_cons (re_var rfl) (ra_cons (re_subI re_int (re_fdivI (re_var rfl) (hdot hvl (re_var rfl) (re_var rfl)) hl0)) (ra_cons (re_var rfl) ra_nil))) ⟨_, _, v2, l, _, rfl, sq_vec _, sq_vec _, by rw [hv2.1, hvl.1], by rw [hv2.1]; exact hn, hs, hvl.2, rfl⟩) ?_
        exact ⟨_, _, _, _, _, rfl, run⟩
    · obtain ⟨rows2, v2, s2, s3, s4, rfl, run⟩ := hW
      rw [List.length_map, unitsL, List.length_map, List.length_range] at run
      cases run with
      | done => exact rs_ret re_bl rfl
      | no h => exact absurd h (Nat.lt_irrefl _)
      | skip h => exact absurd h (Nat.lt_irrefl _)
      | red h => exact absurd h (Nat.lt_irrefl _)
abbrev s_law_same_lattice : Stmt := topS 32
abbrev nm_law_same_lattice : List Str := ["one", "other", "row"]
theorem sc_law_same_lattice : FnScope nm_law_same_lattice ["one", "other"] (defScope s_law_same_lattice) := ⟨rfl, rfl, rfl, by decide +kernel, rfl, by decide +kernel, by decide +kernel⟩
def F_law_same_lattice (ds : List PyData) (d : PyData) : Prop := ∃ (n : Nat) (one other : List Vc) (b1 b2 : Vc → Bool), ds = [lstM one, lstM other] ∧ n ≤ 1000 ∧ one.length ≤ 1000 ∧ other.length ≤ 1000 ∧ (∀ r ∈ one, r.length = n ∧ InRun n 0 other r (b1 r)) ∧ (one.all b1 = true → ∀ r ∈ other, r.length = n ∧ InRun n 0 one r (b2 r)) ∧ d = .bool (one.all b1 && other.all b2)
abbrev T_law_same_lattice (P : Program) (w : World) (K : PySem.W.Frag) (mg : Str → Option Value) (base : Heap) : Prop := Cal P w K mg base "_law_same_lattice" 56 ["one", "other"] (PR K F_law_same_lattice)
theorem ok_law_same_lattice (S : Sur P mg base) (A : FunAt K mg "_law_same_lattice" s_law_same_lattice) (C_law_inside : T_law_inside P w K mg base) : T_law_same_lattice P w K mg base := by
  refine cal_pure A sc_law_same_lattice (fun _ _ _ _ _ _ us hl => match us, hl with | [_, _], _ => rfl) ?_ (fun f cdv A outer s H E hr => ⟨_, (pss_cons (ps_if (pt_not (pt_val (pe_callB (kAll K rfl) (by rfl) (S.no "all" (by decide)) boot_all (pa_cons (pe_lc (own := [("row", 2)]) rfl sc_law_same_lattice.nd (kSeq K (pv 0)) (blkOk_by (N := nm_law_same_lattice) (sc := defScope s_law_same_lattice) (by decide +kernel)) (fun _ _ _ _ _ => (pg_name (i := 2) sc_law_same_lattice.nd rfl (by first | exact .inl rfl | exact .inr rfl))) (fun _ _ _ _ _ => pts_nil) (fun _ _ _ _ _ => (pe_own C_law_inside (hr.mono (by decide)) (by rfl) (pa_cons (pv 1) (pa_cons (pv 2) pa_nil))))) pa_nil)))) (pss_one (ps_ret pe_bl)) pss_nil) (pss_one (ps_ret (pe_callB (kAll K rfl) (by rfl) (S.no "all" (by decide)) boot_all (pa_cons (pe_lc (own := [("row", 2)]) rfl sc_law_same_lattice.nd (kSeq K (pv 1)) (blkOk_by (N := nm_law_same_lattice) (sc := defScope s_law_same_lattice) (by decide +kernel)) (fun _ _ _ _ _ => (pg_name (i := 2) sc_law_same_lattice.nd rfl (by first | exact .inl rfl | exact .inr rfl))) (fun _ _ _ _ _ => pts_nil) (fun _ _ _ _ _ => (pe_own C_law_inside (hr.mono (by decide)) (by rfl) (pa_cons (pv 0) (pa_cons (pv 2) pa_nil))))) pa_nil))))), ?_⟩)
  · rintro _ _ ⟨_, _, _, _, _, rfl, _⟩; rfl
  · rintro _ _ ⟨n, one, other, b1, b2, rfl, hn, h1, h2, r1, r2, rfl⟩
    show RS K false _ [.dat (lstM one), .dat (lstM other), .un] _
    refine rs_seq (rs_if (b := !(one.all b1)) (rt_not (rt_test (re_cb (ra_cons (RL.re (rl_map one vec (fun r => .bool (b1 r)) (ri_seqL (re_var (i := 0) rfl)) (by omega) (fun r hr =>
      re_call (ra_cons (re_var rfl) (ra_cons (re_var rfl) ra_nil)) ⟨n, other, r, b1 r, rfl, hn, (r1 r hr).1, (r1 r hr).2, rfl⟩))) ra_nil) cd_allM))) (fun hb => ?_) (fun hb => rs_nx ?_))
    · have hb2 : one.all b1 = false := by simpa using hb
      exact rs_ret re_bl (by rw [hb2]; rfl)
    · have hb2 : one.all b1 = true := by simpa using hb
      refine rs_ret (re_cb (ra_cons (RL.re (rl_map other vec (fun r => .bool (b2 r)) (ri_seqL (re_var rfl)) (by omega) (fun r hr =>
        re_call (ra_cons (re_var rfl) (ra_cons (re_var rfl) ra_nil)) ⟨n, one, r, b2 r, rfl, hn, (r2 hb2 r hr).1, (r2 hb2 r hr).2, rfl⟩))) ra_nil) cd_allM) ?_
      rw [hb2]; rfl
end K87

namespace K87
open PySem PySem.Spec PyProof.Rows L2 DL
open PySem.Builtin.Int (intBits)
abbrev Fv := Nat → Int
/-! ### sums -/
def sm : Nat → Fv → Int
  | 0, _ => 0
  | n + 1, f => sm n f + f n
theorem sm_congr {f g : Fv} : ∀ {n : Nat}, (∀ p, p < n → f p = g p) → sm n f = sm n g
  | 0, _ => rfl
  | n + 1, h => by
    show sm n f + f n = sm n g + g n
    rw [sm_congr (fun p hp => h p (by omega)), h n (by omega)]
theorem sm_zero {n : Nat} {f : Fv} (h : ∀ p, p < n → f p = 0) : sm n f = 0 := by
  induction n with
  | zero => rfl
  | succ n ih => show sm n f + f n = 0; rw [ih (fun p hp => h p (by omega)), h n (by omega)]; rfl
theorem sm_lin (a b : Int) (f g : Fv) : ∀ n, sm n (fun p => a * f p + b * g p) = a * sm n f + b * sm n g
  | 0 => by simp [sm]
  | n + 1 => by
    show sm n _ + (a * f n + b * g n) = a * (sm n f + f n) + b * (sm n g + g n)
    rw [sm_lin a b f g n]; grind
theorem sm_abs {f : Fv} {B : Nat} : ∀ {n : Nat}, (∀ p, p < n → (f p).natAbs ≤ B) → (sm n f).natAbs ≤ n * B
  | 0, _ => by show (0 : Int).natAbs ≤ _; omega
  | n + 1, h => by
    have h1 := sm_abs (n := n) (fun p hp => h p (by omega))
    have h2 := h n (by omega)
    have h3 : (sm n f + f n).natAbs ≤ (sm n f).natAbs + (f n).natAbs := Int.natAbs_add_le _ _
    show (sm n f + f n).natAbs ≤ (n + 1) * B
    rw [Nat.succ_mul]; omega
theorem sm_one {f : Fv} {c : Nat} : ∀ {n : Nat}, c < n → (∀ p, p < n → p ≠ c → f p = 0) → sm n f = f c
  | 0, h, _ => by omega
  | n + 1, h, hz => by
    show sm n f + f n = f c
    by_cases e : c = n
    · subst e; rw [sm_zero (fun p hp => hz p (by omega) (by omega))]; omega
    · rw [sm_one (n := n) (by omega) (fun p hp => hz p (by omega)), hz n (by omega) (by omega)]; omega
/-! ### lattices -/
inductive Lat (G : Fv → Prop) : Fv → Prop where
  | zero : Lat G fun _ => 0
  | add {u g : Fv} (k : Int) : Lat G u → G g → Lat G fun j => u j + k * g j
theorem Lat.of {G : Fv → Prop} {g : Fv} (h : G g) : Lat G g := by
  have := Lat.add (G := G) 1 Lat.zero h
  have e : (fun j => (0 : Int) + 1 * g j) = g := by funext j; omega
  rw [← e]; exact this
theorem Lat.eq {G : Fv → Prop} {g h : Fv} (a : Lat G g) (e : ∀ j, g j = h j) : Lat G h := by
  have : g = h := funext e
  rw [← this]; exact a
theorem Lat.lin {G : Fv → Prop} {u v : Fv} (a : Lat G u) (b : Lat G v) (k : Int) : Lat G fun j => u j + k * v j := by
  induction b with
  | zero => exact a.eq fun j => by show u j = u j + k * 0; omega
  | @add v g m b hg ih => exact (Lat.add (k * m) ih hg).eq fun j => by grind
theorem Lat.lin2 {G : Fv → Prop} {u v : Fv} (a : Lat G u) (b : Lat G v) (x y : Int) : Lat G fun j => x * u j + y * v j :=
  ((Lat.zero.lin a x).lin b y).eq fun j => by omega
theorem Lat.into {G H : Fv → Prop} {u : Fv} (a : Lat G u) (h : ∀ g, G g → Lat H g) : Lat H u := by
  induction a with
  | zero => exact .zero
  | add k _ hg ih => exact ih.lin (h _ hg) k
theorem Lat.mono {G H : Fv → Prop} {u : Fv} (a : Lat G u) (h : ∀ g, G g → H g) : Lat H u := a.into fun g hg => .of (h g hg)
/-- what holds of the generators and is closed -/
theorem Lat.ind {G : Fv → Prop} {S : Fv → Prop} {u : Fv} (a : Lat G u) (h0 : S fun _ => 0) (h1 : ∀ u g k, S u → G g → S fun j => u j + k * g j) : S u := by
  induction a with
  | zero => exact h0
  | add k _ hg ih => exact h1 _ _ k ih hg
/-! ### vectors -/
theorem comb_len {k l : Int} {f g : Vc} {n : Nat} (hf : f.length = n) (hg : g.length = n) : (combL k f l g).length = n := by
  unfold combL; rw [List.length_map, List.length_zip]; omega
theorem at_out {v : Vc} {j : Nat} (h : v.length ≤ j) : at_ v j = 0 := by
  unfold at_; rw [List.getD_eq_getElem?_getD, List.getElem?_eq_none h]; rfl
theorem at_comb {k l : Int} {f g : Vc} (h : f.length = g.length) (j : Nat) : at_ (combL k f l g) j = k * at_ f j + l * at_ g j := by
  by_cases hj : j < f.length
  · have e1 := at_get hj
    have e2 := at_get (v := g) (j := j) (by omega)
    have hz : (List.zip f g)[j]? = some (at_ f j, at_ g j) := by rw [List.getElem?_zip_eq_some]; exact ⟨e1, e2⟩
    have := at_get (v := combL k f l g) (j := j) (by rw [comb_len rfl h.symm]; exact hj)
    unfold combL at this
    rw [List.getElem?_map, hz] at this
    exact (Option.some.inj this).symm
  · rw [at_out (v := f) (by omega), at_out (v := g) (by omega), at_out (by rw [comb_len rfl h.symm]; omega)]; omega
theorem at_scale {k : Int} {f : Vc} (j : Nat) : at_ (scaleL k f) j = k * at_ f j := by
  by_cases hj : j < f.length
  · have := at_get (v := scaleL k f) (j := j) (by unfold scaleL; rw [List.length_map]; exact hj)
    unfold scaleL at this
    rw [List.getElem?_map, at_get hj] at this
    exact (Option.some.inj this).symm
  · rw [at_out (v := f) (by omega), at_out (by unfold scaleL; rw [List.length_map]; omega)]; omega
theorem scale_len {k : Int} {f : Vc} : (scaleL k f).length = f.length := by simp [scaleL]
theorem at_unit {n k : Nat} (j : Nat) : at_ (unitL n (k : Int)) j = if j < n ∧ j = k then 1 else 0 := by
  by_cases hj : j < n
  · have := at_get (v := unitL n (k : Int)) (j := j) (by rw [unit_len]; exact hj)
    unfold unitL at this
    rw [List.getElem?_map, List.getElem?_range hj] at this
    have := (Option.some.inj this).symm
    unfold unitL
    rw [this]
    by_cases e : j = k
    · subst e; simp [hj]
    · have : ¬ (j : Int) = (k : Int) := by omega
      simp [e, this]
  · rw [at_out (by rw [unit_len]; omega), if_neg (fun h => hj h.1)]
theorem vc_ext {n : Nat} {f g : Vc} (hf : f.length = n) (hg : g.length = n) (h : ∀ j, j < n → at_ f j = at_ g j) : f = g := by
  apply List.ext_getElem?
  intro j
  by_cases hj : j < n
  · rw [at_get (by omega), at_get (by omega), h j hj]
  · rw [List.getElem?_eq_none (by omega), List.getElem?_eq_none (by omega)]
theorem sm_front (f : Fv) : ∀ n, sm (n + 1) f = f 0 + sm n (fun j => f (j + 1))
  | 0 => by show 0 + f 0 = f 0 + 0; omega
  | n + 1 => by
    show sm (n + 1) f + f (n + 1) = f 0 + (sm n _ + f (n + 1))
    rw [sm_front f n]; omega
theorem sum_sm : ∀ (xs : List Int), xs.sum = sm xs.length (fun j => xs.getD j 0)
  | [] => rfl
  | x :: xs => by
    rw [List.sum_cons, List.length_cons, sm_front, sum_sm xs]
    rfl
theorem dot_sm {f v : Vc} {n : Nat} (hf : f.length = n) (hv : v.length = n) : dotL f v = sm n (fun j => at_ f j * at_ v j) := by
  unfold dotL
  rw [sum_sm, List.length_map, List.length_zip, hf, hv, Nat.min_self]
  apply sm_congr
  intro p hp
  rw [List.getD_eq_getElem?_getD, List.getElem?_map]
  have hz : (List.zip f v)[p]? = some (at_ f p, at_ v p) := by rw [List.getElem?_zip_eq_some]; exact ⟨at_get (by omega), at_get (by omega)⟩
  rw [hz]; rfl
theorem dot_unit {n k : Nat} {v : Vc} (hk : k < n) (hv : v.length = n) : dotL (unitL n (k : Int)) v = at_ v k := by
  rw [dot_sm unit_len hv, sm_one hk (fun p hp e => by rw [at_unit, if_neg (fun h => e h.2)]; omega), at_unit, if_pos ⟨hk, rfl⟩]; omega
/-- bounded by B -/
def Bd (n B : Nat) (v : Vc) : Prop := v.length = n ∧ ∀ j, (at_ v j).natAbs ≤ B
theorem Bd.vn {n B : Nat} {v : Vc} (h : Bd n B v) (hB : ∀ x : Int, x.natAbs ≤ B → Sm x) : Vn n v := ⟨h.1, fun x hx => by
  obtain ⟨j, hj, e⟩ := List.getElem_of_mem hx
  have : at_ v j = x := by
    have := at_get hj
    rw [List.getElem?_eq_getElem hj] at this
    rw [← Option.some.inj this]; exact e
  exact hB x (by rw [← this]; exact h.2 j)⟩
theorem Bd.mono {n B C : Nat} {v : Vc} (h : Bd n B v) (hB : B ≤ C) : Bd n C v := ⟨h.1, fun j => Nat.le_trans (h.2 j) hB⟩
theorem natAbs_lin (a b x y : Int) : (a * x + b * y).natAbs ≤ a.natAbs * x.natAbs + b.natAbs * y.natAbs := by
  have h1 := Int.natAbs_add_le (a * x) (b * y)
  rw [Int.natAbs_mul, Int.natAbs_mul] at h1; exact h1
theorem Bd.comb {n B C S T : Nat} {f g : Vc} {k l : Int} (hf : Bd n B f) (hg : Bd n C g) (hk : k.natAbs ≤ S) (hl : l.natAbs ≤ T) : Bd n (S * B + T * C) (combL k f l g) :=
  ⟨comb_len hf.1 hg.1, fun j => by
    rw [at_comb (by rw [hf.1, hg.1])]
    exact Nat.le_trans (natAbs_lin _ _ _ _) (Nat.add_le_add (Nat.mul_le_mul hk (hf.2 j)) (Nat.mul_le_mul hl (hg.2 j)))⟩
/-! ### Euclid -/
/-- what a turn does to the numbers and to what stands by the cofactors -/
theorem eu_sign {x y : Int} (hy : y ≠ 0) : 0 ≤ y * (x - x.fdiv y * y) ∧ (x - x.fdiv y * y).natAbs < y.natAbs := by
  have e : x - x.fdiv y * y = x.fmod y := by rw [Int.fmod_def, Int.mul_comm]
  rw [e]
  rcases Int.lt_or_gt_of_ne hy with h | h
  · have e2 : x.fmod y = -((-x).fmod (-y)) := by rw [Int.neg_fmod_neg]; omega
    have h1 := Int.fmod_nonneg_of_pos (-x) (show 0 < -y by omega)
    have h2 := Int.fmod_lt_of_pos (-x) (show 0 < -y by omega)
    rw [e2]
    refine ⟨?_, by omega⟩
    rw [Int.mul_neg, ← Int.neg_mul]
    exact Int.mul_nonneg (by omega) h1
  · have h1 := Int.fmod_nonneg_of_pos x h
    have h2 := Int.fmod_lt_of_pos x h
    exact ⟨Int.mul_nonneg (by omega) h1, by omega⟩
theorem natAbs_same {x y : Int} (h : 0 ≤ x * y) (q : Int) (hq : q = x.fdiv y) (hy : y ≠ 0) : (x - q * y).natAbs + q.natAbs * y.natAbs ≤ x.natAbs := by
  subst hq
  have e : x - x.fdiv y * y = x.fmod y := by rw [Int.fmod_def, Int.mul_comm]
  have key : ∀ a b : Int, 0 ≤ a → 0 < b → (a - a.fdiv b * b).natAbs + (a.fdiv b).natAbs * b.natAbs ≤ a.natAbs := by
    intro a b ha hb
    have e : a - a.fdiv b * b = a.fmod b := by rw [Int.fmod_def, Int.mul_comm]
    have h1 := Int.fmod_nonneg_of_pos a hb
    have h2 : 0 ≤ a.fdiv b := Int.fdiv_nonneg ha (by omega)
    have h3 : 0 ≤ a.fdiv b * b := Int.mul_nonneg h2 (by omega)
    rw [← Int.natAbs_mul]
    rw [e] at *
    have := Int.mul_fdiv_add_fmod a b
    rw [Int.mul_comm] at this
    omega
  rcases Int.lt_or_gt_of_ne hy with h1 | h1
  · have hx : x ≤ 0 := by
      by_cases z : x ≤ 0
      · exact z
      · have : x * y < 0 := Int.mul_neg_of_pos_of_neg (by omega) h1
        omega
    have := key (-x) (-y) (by omega) (by omega)
    rw [Int.neg_fdiv_neg] at this
    have e3 : -x - x.fdiv y * -y = -(x - x.fdiv y * y) := by rw [Int.mul_neg]; omega
    rw [e3, Int.natAbs_neg, Int.natAbs_neg, Int.natAbs_neg] at this
    exact this
  · have hx : 0 ≤ x := by
      by_cases z : 0 ≤ x
      · exact z
      · have : x * y < 0 := Int.mul_neg_of_neg_of_pos (by omega) h1
        omega
    exact key x y hx h1
/-- the cofactors of one of the two: a of x, c of y; with the same sign -/
structure Cf (K : Nat) (x y a c : Int) : Prop where
  ha : a.natAbs ≤ K
  hc : c.natAbs ≤ K
  hs : x.natAbs * c.natAbs + y.natAbs * a.natAbs ≤ K
theorem Cf.step {K : Nat} {x y a c : Int} (h : Cf K x y a c) (hs : 0 ≤ x * y) (hy : y ≠ 0) : Cf K y (x - x.fdiv y * y) c (a - x.fdiv y * c) := by
  have k := natAbs_same hs _ rfl hy
  generalize x.fdiv y = q at k
  have e : y.natAbs * (a - q * c).natAbs + (x - q * y).natAbs * c.natAbs ≤ K := by
    have h1 : (a - q * c).natAbs ≤ a.natAbs + q.natAbs * c.natAbs := by
      have := Int.natAbs_sub_le a (q * c)
      rw [Int.natAbs_mul] at this; exact this
    have h2 : y.natAbs * (a - q * c).natAbs ≤ y.natAbs * a.natAbs + y.natAbs * (q.natAbs * c.natAbs) := by rw [← Nat.mul_add]; exact Nat.mul_le_mul_left _ h1
    have h3 : ((x - q * y).natAbs + q.natAbs * y.natAbs) * c.natAbs ≤ x.natAbs * c.natAbs := Nat.mul_le_mul_right _ k
    have h4 : y.natAbs * (q.natAbs * c.natAbs) = q.natAbs * y.natAbs * c.natAbs := by rw [← Nat.mul_assoc, Nat.mul_comm y.natAbs]
    rw [Nat.add_mul] at h3
    have := h.hs
    omega
  refine ⟨h.hc, ?_, e⟩
  have hp : 1 ≤ y.natAbs := by omega
  have : (a - q * c).natAbs ≤ y.natAbs * (a - q * c).natAbs := Nat.le_mul_of_pos_left _ hp
  omega
/-- the first turn, from (A, B): behind it x = B, y = A mod B -/
theorem cf_first1 {A B : Int} : Cf (B.natAbs + 1) B (A - A.fdiv B * B) 0 (1 - A.fdiv B * 0) := by
  rw [Int.mul_zero, Int.sub_zero]
  exact ⟨by simp, by simp, by simp⟩
theorem cf_first2 {A B : Int} (hB : B ≠ 0) : Cf (A.natAbs + 2 * B.natAbs) B (A - A.fdiv B * B) 1 (0 - A.fdiv B * 1) := by
  have ⟨_, h⟩ := eu_sign (x := A) hB
  have hq : (A.fdiv B).natAbs * B.natAbs ≤ A.natAbs + (A - A.fdiv B * B).natAbs := by
    rw [← Int.natAbs_mul]; omega
  have hp : 1 ≤ B.natAbs := by omega
  have hq2 : (A.fdiv B).natAbs ≤ (A.fdiv B).natAbs * B.natAbs := Nat.le_mul_of_pos_right _ hp
  have e : (0 - A.fdiv B * 1).natAbs = (A.fdiv B).natAbs := by rw [Int.mul_one]; omega
  refine ⟨by simp; omega, by rw [e]; omega, ?_⟩
  rw [e, Nat.mul_comm B.natAbs]
  simp
  omega
end K87

namespace K87
open PySem PySem.Spec PyProof.Rows L2 DL
open PySem.Builtin.Int (intBits)
/-! ### bezout -/
theorem bz_run {A B : Int} {K : Nat} (hS : ∀ x : Int, x.natAbs ≤ K → Sm x) : ∀ (m : Nat) (x y a b c d : Int), y.natAbs ≤ m → 0 ≤ x * y → Cf K x y a c → Cf K x y b d → x.natAbs ≤ K → y.natAbs ≤ K → x = a * A + b * B → y = c * A + d * B → (x ≠ 0 ∨ y ≠ 0) →
    ∃ (k : Nat) (z : T3), BzRun k (x, a, b) (y, c, d) z ∧ z.2.1.natAbs ≤ K ∧ z.2.2.natAbs ≤ K ∧ z.1 = z.2.1 * A + z.2.2 * B ∧ z.1 ∣ x ∧ z.1 ∣ y ∧ z.1 ≠ 0 := by
  intro m
  induction m with
  | zero =>
    intro x y a b c d hy hs h1 h2 hx hyK ex ey hne
    have : y = 0 := by omega
    subst this
    have hx0 : x ≠ 0 := by rcases hne with h | h; exact h; exact absurd rfl h
    exact ⟨0, _, .stop rfl, h1.ha, h2.ha, ex, Int.dvd_refl x, Int.dvd_zero x, hx0⟩
  | succ m ih =>
    intro x y a b c d hy hs h1 h2 hx hyK ex ey hne
    by_cases y0 : y = 0
    · subst y0
      have hx0 : x ≠ 0 := by rcases hne with h | h; exact h; exact absurd rfl h
      exact ⟨0, _, .stop rfl, h1.ha, h2.ha, ex, Int.dvd_refl x, Int.dvd_zero x, hx0⟩
    · have ⟨sg, lt⟩ := eu_sign (x := x) y0
      have g1 := h1.step hs y0
      have g2 := h2.step hs y0
      have hq : (x.fdiv y).natAbs ≤ K := Nat.le_trans (natAbs_fdiv_le x y) hx
      obtain ⟨k, z, r, z1, z2, z3, z4, z5, z6⟩ := ih y (x - x.fdiv y * y) c d (a - x.fdiv y * c) (b - x.fdiv y * d) (by omega) sg g1 g2 hyK (by omega) ey (by rw [ex, ey]; grind) (.inl y0)
      refine ⟨k + 1, z, .step y0 ((hS _ hq).mul (hS _ hyK)) ((hS _ hq).mul (hS _ h1.hc)) ((hS _ hq).mul (hS _ h2.hc)) r, z1, z2, z3, ?_, z4, z6⟩
      have : x = (x - x.fdiv y * y) + x.fdiv y * y := by omega
      rw [this]
      exact Int.dvd_add z5 (Int.dvd_mul_of_dvd_right z4)
theorem bez_ex {A B : Int} {K : Nat} (hA : 0 < A) (hK : A.natAbs + 2 * B.natAbs + 1 ≤ K) (hS : ∀ x : Int, x.natAbs ≤ K → Sm x) :
    ∃ (k : Nat) (z : T3) (g s t : Int), BzRun k (A, 1, 0) (bzStart A B) z ∧ neg3 z = (g, s, t) ∧ 0 < g ∧ g = s * A + t * B ∧ g ∣ A ∧ g ∣ B ∧ s.natAbs ≤ K ∧ t.natAbs ≤ K := by
  have main : ∃ (k : Nat) (z : T3), BzRun k (A, 1, 0) (bzStart A B) z ∧ z.2.1.natAbs ≤ K ∧ z.2.2.natAbs ≤ K ∧ z.1 = z.2.1 * A + z.2.2 * B ∧ z.1 ∣ A ∧ z.1 ∣ B ∧ z.1 ≠ 0 := by
    unfold bzStart
    by_cases h : A ≠ 0 ∧ B.fmod A = 0
    · rw [if_pos h]
      refine ⟨0, (A, 1, 0), .stop rfl, by show (1 : Int).natAbs ≤ K; simp; omega, by show (0 : Int).natAbs ≤ K; simp, by show A = 1 * A + 0 * B; omega, Int.dvd_refl A, ?_, by show A ≠ 0; omega⟩
      exact Int.dvd_of_fmod_eq_zero h.2
    · rw [if_neg h]
      have hB : B ≠ 0 := fun z => h ⟨by omega, by rw [z]; exact Int.zero_fmod A⟩
      have ⟨sg, lt⟩ := eu_sign (x := A) hB
      have hq : (A.fdiv B).natAbs ≤ K := Nat.le_trans (natAbs_fdiv_le A B) (by omega)
      have c1 := cf_first1 (A := A) (B := B)
      have c2 := cf_first2 (A := A) hB
      have m1 : Cf K B (A - A.fdiv B * B) 0 (1 - A.fdiv B * 0) := ⟨Nat.le_trans c1.ha (by omega), Nat.le_trans c1.hc (by omega), Nat.le_trans c1.hs (by omega)⟩
      have m2 : Cf K B (A - A.fdiv B * B) 1 (0 - A.fdiv B * 1) := ⟨Nat.le_trans c2.ha (by omega), Nat.le_trans c2.hc (by omega), Nat.le_trans c2.hs (by omega)⟩
      obtain ⟨k, z, r, z1, z2, z3, z4, z5, z6⟩ := bz_run (A := A) (B := B) hS _ B (A - A.fdiv B * B) 0 1 (1 - A.fdiv B * 0) (0 - A.fdiv B * 1) (Nat.le_refl _) sg m1 m2 (by omega) (by omega) (by omega) (by grind) (.inl hB)
      refine ⟨k + 1, z, .step hB ((hS _ hq).mul (hS B (by omega))) ((hS _ hq).mul (hS 0 (by simp))) ((hS _ hq).mul (hS 1 (by simp; omega))) r, z1, z2, z3, ?_, z4, z6⟩
      have : A = (A - A.fdiv B * B) + A.fdiv B * B := by omega
      rw [this]
      exact Int.dvd_add z5 (Int.dvd_mul_of_dvd_right z4)
  obtain ⟨k, z, r, z1, z2, z3, z4, z5, z6⟩ := main
  by_cases hn : z.1 < 0
  · refine ⟨k, z, -z.1, -z.2.1, -z.2.2, r, by unfold neg3; rw [if_pos hn], by omega, by grind, Int.neg_dvd.mpr z4, Int.neg_dvd.mpr z5, by omega, by omega⟩
  · refine ⟨k, z, z.1, z.2.1, z.2.2, r, by unfold neg3; rw [if_neg hn], by omega, z3, z4, z5, z1, z2⟩
/-! ### the law's inner loop -/
theorem eu_core {n k : Nat} (hk : k < n) {L R : Vc} {K X W : Nat} (hL : Bd n X L) (hR : Bd n X R) (hS : ∀ x : Int, x.natAbs ≤ K * X + K * X → Sm x) (hSW : ∀ x : Int, x.natAbs ≤ W → Sm x) :
    ∀ (m : Nat) (l r : Vc) (a b c d : Int), (at_ r k).natAbs ≤ m → 0 ≤ at_ l k * at_ r k → Cf K (at_ l k) (at_ r k) a c → Cf K (at_ l k) (at_ r k) b d → (at_ l k).natAbs ≤ W → (at_ r k).natAbs ≤ W → l.length = n → r.length = n →
    (∀ j, at_ l j = a * at_ L j + b * at_ R j) → (∀ j, at_ r j = c * at_ L j + d * at_ R j) → (at_ l k ≠ 0 ∨ at_ r k ≠ 0) →
    ∃ (q : Nat) (l' r' : Vc), EuRun n (unitL n k) q l r l' r' ∧ Bd n (K * X + K * X) l' ∧ Bd n (K * X + K * X) r' ∧ at_ r' k = 0 ∧ at_ l' k ≠ 0 ∧ (at_ l' k).natAbs ≤ W ∧
      (∃ a b c d : Int, (∀ j, at_ l' j = a * at_ L j + b * at_ R j) ∧ ∀ j, at_ r' j = c * at_ L j + d * at_ R j) ∧ (∃ a b c d : Int, (∀ j, at_ l j = a * at_ l' j + b * at_ r' j) ∧ ∀ j, at_ r j = c * at_ l' j + d * at_ r' j) := by
  have bd : ∀ (v : Vc) (a b : Int), v.length = n → a.natAbs ≤ K → b.natAbs ≤ K → (∀ j, at_ v j = a * at_ L j + b * at_ R j) → Bd n (K * X + K * X) v := fun v a b hv ha hb h => ⟨hv, fun j => by
    rw [h j]
    exact Nat.le_trans (natAbs_lin _ _ _ _) (Nat.add_le_add (Nat.mul_le_mul ha (hL.2 j)) (Nat.mul_le_mul hb (hR.2 j)))⟩
  have stop : ∀ (l r : Vc) (a b c d : Int), at_ r k = 0 → Cf K (at_ l k) (at_ r k) a c → Cf K (at_ l k) (at_ r k) b d → (at_ l k).natAbs ≤ W → l.length = n → r.length = n → (∀ j, at_ l j = a * at_ L j + b * at_ R j) → (∀ j, at_ r j = c * at_ L j + d * at_ R j) → at_ l k ≠ 0 →
      ∃ (q : Nat) (l' r' : Vc), EuRun n (unitL n k) q l r l' r' ∧ Bd n (K * X + K * X) l' ∧ Bd n (K * X + K * X) r' ∧ at_ r' k = 0 ∧ at_ l' k ≠ 0 ∧ (at_ l' k).natAbs ≤ W ∧
      (∃ a b c d : Int, (∀ j, at_ l' j = a * at_ L j + b * at_ R j) ∧ ∀ j, at_ r' j = c * at_ L j + d * at_ R j) ∧ (∃ a b c d : Int, (∀ j, at_ l j = a * at_ l' j + b * at_ r' j) ∧ ∀ j, at_ r j = c * at_ l' j + d * at_ r' j) := by
    intro l r a b c d h0 h1 h2 hlW hl hr el er hne
    have b1 := bd l a b hl h1.ha h2.ha el
    have b2 := bd r c d hr h1.hc h2.hc er
    exact ⟨0, l, r, .stop (b1.vn hS) (b2.vn hS) (by rw [dot_unit hk hr]; exact h0), b1, b2, h0, hne, hlW, ⟨a, b, c, d, el, er⟩, ⟨1, 0, 0, 1, fun j => by omega, fun j => by omega⟩⟩
  intro m
  induction m with
  | zero =>
    intro l r a b c d hm hs h1 h2 hlW hrW hl hr el er hne
    have h0 : at_ r k = 0 := by omega
    exact stop l r a b c d h0 h1 h2 hlW hl hr el er (by rcases hne with h | h; exact h; exact absurd h0 h)
  | succ m ih =>
    intro l r a b c d hm hs h1 h2 hlW hrW hl hr el er hne
    by_cases y0 : at_ r k = 0
    · exact stop l r a b c d y0 h1 h2 hlW hl hr el er (by rcases hne with h | h; exact h; exact absurd y0 h)
    · have ⟨sg, lt⟩ := eu_sign (x := at_ l k) y0
      have g1 := h1.step hs y0
      have g2 := h2.step hs y0
      have hq : ((at_ l k).fdiv (at_ r k)).natAbs ≤ W := Nat.le_trans (natAbs_fdiv_le _ _) hlW
      have en : ∀ j, at_ (combL 1 l (0 - (at_ l k).fdiv (at_ r k)) r) j = at_ l j - (at_ l k).fdiv (at_ r k) * at_ r j := fun j => by
        rw [at_comb (by rw [hl, hr])]; grind
      obtain ⟨q, l', r', run, z1, z2, z3, z4, z5, z6, ⟨a', b', c', d', f1, f2⟩⟩ := ih r (combL 1 l (0 - (at_ l k).fdiv (at_ r k)) r) c d (a - (at_ l k).fdiv (at_ r k) * c) (b - (at_ l k).fdiv (at_ r k) * d)
        (by rw [en]; omega) (by rw [en]; exact sg) (by rw [en]; exact g1) (by rw [en]; exact g2) hrW (by rw [en]; omega) hr (comb_len hl hr) er (fun j => by rw [en, el, er]; grind) (.inl y0)
      have d1 := dot_unit hk hl
      have d2 := dot_unit hk hr
      refine ⟨q + 1, l', r', .step ((bd l a b hl h1.ha h2.ha el).vn hS) ((bd r c d hr h1.hc h2.hc er).vn hS) (by rw [d2]; exact y0) (by rw [d1, d2]; exact hSW _ (by omega)) (by rw [d1, d2]; exact run), z1, z2, z3, z4, z5, z6, ?_⟩
      refine ⟨c' + (at_ l k).fdiv (at_ r k) * a', d' + (at_ l k).fdiv (at_ r k) * b', a', b', fun j => ?_, f1⟩
      have e1 := f2 j
      rw [en] at e1
      have e2 := f1 j
      have : at_ l j = (at_ l j - (at_ l k).fdiv (at_ r k) * at_ r j) + (at_ l k).fdiv (at_ r k) * at_ r j := by omega
      rw [this, e1, e2]; grind
theorem eu_ex {n k : Nat} (hk : k < n) {L R : Vc} {B X K : Nat} (hL : Bd n X L) (hR : Bd n X R) (hLB : (at_ L k).natAbs ≤ B) (hRB : (at_ R k).natAbs ≤ B) (hK : 3 * B + 1 ≤ K) (hX : 1 ≤ X) (hS : ∀ x : Int, x.natAbs ≤ K * X + K * X → Sm x) (hne : at_ L k ≠ 0) :
    ∃ (q : Nat) (l' r' : Vc), EuRun n (unitL n k) q L R l' r' ∧ Bd n (K * X + K * X) l' ∧ Bd n (K * X + K * X) r' ∧ at_ r' k = 0 ∧ at_ l' k ≠ 0 ∧ (at_ l' k).natAbs ≤ B ∧
      (∃ a b c d : Int, (∀ j, at_ l' j = a * at_ L j + b * at_ R j) ∧ ∀ j, at_ r' j = c * at_ L j + d * at_ R j) ∧ (∃ a b c d : Int, (∀ j, at_ L j = a * at_ l' j + b * at_ r' j) ∧ ∀ j, at_ R j = c * at_ l' j + d * at_ r' j) := by
  have hKX : K ≤ K * X := Nat.le_mul_of_pos_right _ hX
  have hSB : ∀ x : Int, x.natAbs ≤ B → Sm x := fun x h => hS x (by omega)
  have b1 : Bd n (K * X + K * X) L := hL.mono (by have := Nat.le_mul_of_pos_left X (show 0 < K by omega); omega)
  have b2 : Bd n (K * X + K * X) R := hR.mono (by have := Nat.le_mul_of_pos_left X (show 0 < K by omega); omega)
  by_cases y0 : at_ R k = 0
  · exact ⟨0, L, R, .stop (b1.vn hS) (b2.vn hS) (by rw [dot_unit hk hR.1]; exact y0), b1, b2, y0, hne, hLB, ⟨1, 0, 0, 1, fun j => by omega, fun j => by omega⟩, ⟨1, 0, 0, 1, fun j => by omega, fun j => by omega⟩⟩
  · have ⟨sg, lt⟩ := eu_sign (x := at_ L k) y0
    have c1 := cf_first1 (A := at_ L k) (B := at_ R k)
    have c2 := cf_first2 (A := at_ L k) y0
    have en : ∀ j, at_ (combL 1 L (0 - (at_ L k).fdiv (at_ R k)) R) j = at_ L j - (at_ L k).fdiv (at_ R k) * at_ R j := fun j => by
      rw [at_comb (by rw [hL.1, hR.1])]; grind
    have hq : ((at_ L k).fdiv (at_ R k)).natAbs ≤ B := Nat.le_trans (natAbs_fdiv_le _ _) hLB
    obtain ⟨q, l', r', run, z1, z2, z3, z4, z5, z6, ⟨a', b', c', d', f1, f2⟩⟩ := eu_core hk hL hR hS hSB _ R (combL 1 L (0 - (at_ L k).fdiv (at_ R k)) R) 0 1 (1 - (at_ L k).fdiv (at_ R k) * 0) (0 - (at_ L k).fdiv (at_ R k) * 1) (Nat.le_refl _)
      (by rw [en]; exact sg) (by rw [en]; exact ⟨Nat.le_trans c1.ha (by omega), Nat.le_trans c1.hc (by omega), Nat.le_trans c1.hs (by omega)⟩) (by rw [en]; exact ⟨Nat.le_trans c2.ha (by omega), Nat.le_trans c2.hc (by omega), Nat.le_trans c2.hs (by omega)⟩) hRB (by rw [en]; omega) hR.1 (comb_len hL.1 hR.1) (fun j => by omega) (fun j => by rw [en]; grind) (.inl y0)
    have d1 := dot_unit hk hL.1
    have d2 := dot_unit hk hR.1
    refine ⟨q + 1, l', r', .step (b1.vn hS) (b2.vn hS) (by rw [d2]; exact y0) (by rw [d1, d2]; exact hSB _ (by omega)) (by rw [d1, d2]; exact run), z1, z2, z3, z4, z5, z6, ?_⟩
    refine ⟨c' + (at_ L k).fdiv (at_ R k) * a', d' + (at_ L k).fdiv (at_ R k) * b', a', b', fun j => ?_, f1⟩
    have e1 := f2 j
    rw [en] at e1
    have e2 := f1 j
    have : at_ L j = (at_ L j - (at_ L k).fdiv (at_ R k) * at_ R j) + (at_ L k).fdiv (at_ R k) * at_ R j := by omega
    rw [this, e1, e2]; grind
end K87

namespace K87
open PySem PySem.Spec PyProof.Rows L2 DL
open PySem.Builtin.Int (intBits)
theorem sm_pow {s : Nat} (hs : s < 60000000) {x : Int} (h : x.natAbs ≤ 2 ^ s) : Sm x := by
  have : intBits x ≤ s + 1 := intBits_le_iff.mpr (Nat.lt_of_le_of_lt h (Nat.pow_lt_pow_right (by decide) (by omega)))
  unfold Sm
  omega
theorem pow_mono2 {a b : Nat} (h : a ≤ b) : 2 ^ a ≤ 2 ^ b := Nat.pow_le_pow_right (by decide) h
theorem one_pow2 (a : Nat) : 1 ≤ 2 ^ a := Nat.one_le_two_pow
/-! ### spans -/
structure SpEq (G H : Fv → Prop) : Prop where
  l : ∀ g, G g → Lat H g
  r : ∀ g, H g → Lat G g
theorem SpEq.iff {G H : Fv → Prop} (h : SpEq G H) {u : Fv} : Lat G u ↔ Lat H u := ⟨fun a => a.into h.l, fun a => a.into h.r⟩
theorem SpEq.trans {G H I : Fv → Prop} (a : SpEq G H) (b : SpEq H I) : SpEq G I := ⟨fun g hg => b.iff.mp (a.l g hg), fun g hg => a.iff.mpr (b.r g hg)⟩
theorem SpEq.same {G H : Fv → Prop} (h : ∀ g, G g ↔ H g) : SpEq G H := ⟨fun g hg => .of ((h g).mp hg), fun g hg => .of ((h g).mpr hg)⟩
def Gr (rows : List Vc) : Fv → Prop := fun g => ∃ r ∈ rows, g = at_ r
def Go (ld : Option Vc) : Fv → Prop := fun g => ∃ l, ld = some l ∧ g = at_ l
def Gl (lv : List Vc) (ld : Option Vc) (rs : List Vc) : Fv → Prop := fun g => Gr lv g ∨ Go ld g ∨ Gr rs g
theorem lat2 {G : Fv → Prop} {u v w : Fv} {a b : Int} (h1 : Lat G u) (h2 : Lat G v) (e : ∀ j, w j = a * u j + b * v j) : Lat G w := (h1.lin2 h2 a b).eq fun j => (e j).symm
/-! ### one column of the law's elimination -/
structure LdOk (n k s e : Nat) (l : Vc) : Prop where
  b : Bd n (2 ^ e) l
  z : ∀ j, j < k → at_ l j = 0
  p : (at_ l k).natAbs ≤ 2 ^ s
  ne : at_ l k ≠ 0
theorem st_ex {n k s : Nat} (hk : k < n) : ∀ (rows : List Vc) (e : Nat) (lv : List Vc) (ld : Option Vc), s ≤ e → (∀ r ∈ rows, Bd n (2 ^ s) r ∧ ∀ j, j < k → at_ r j = 0) → (∀ l, ld = some l → LdOk n k s e l) → e + (s + 3) * rows.length < 60000000 →
    ∃ (nw : List Vc) (ld' : Option Vc), StRun n (unitL n k) rows lv ld (lv ++ nw) ld' ∧ (∀ r ∈ nw, Bd n (2 ^ (e + (s + 3) * rows.length)) r ∧ ∀ j, j ≤ k → at_ r j = 0) ∧ nw.length ≤ rows.length ∧ (∀ l, ld' = some l → LdOk n k s (e + (s + 3) * rows.length) l) ∧
      SpEq (Gl lv ld rows) (Gl (lv ++ nw) ld' []) := by
  intro rows
  induction rows with
  | nil =>
    intro e lv ld hse hr hl hS
    refine ⟨[], ld, by rw [List.append_nil]; exact .nil, fun r hr => by simp at hr, Nat.le_refl _, fun l h => by simpa using hl l h, ?_⟩
    rw [List.append_nil]
    exact .same fun g => Iff.rfl
  | cons r rs ih =>
    intro e lv ld hse hr hl hS
    have hlen : (s + 3) * (r :: rs).length = (s + 3) * rs.length + (s + 3) := by rw [List.length_cons, Nat.mul_succ]
    rw [hlen] at hS ⊢
    have hr1 := hr r (by simp)
    have hrs : ∀ r ∈ rs, Bd n (2 ^ s) r ∧ ∀ j, j < k → at_ r j = 0 := fun x hx => hr x (by simp [hx])
    have hvn : Vn n r := hr1.1.vn fun x hx => sm_pow (s := s) (by omega) hx
    have dr := dot_unit hk hr1.1.1
    have up : ∀ {e1 : Nat} {l : Vc}, e1 ≤ e + (s + 3) → LdOk n k s e1 l → LdOk n k s (e + (s + 3)) l := fun he h => ⟨h.b.mono (pow_mono2 he), h.z, h.p, h.ne⟩
    have upB : ∀ {v : Vc}, Bd n (2 ^ s) v → Bd n (2 ^ (e + ((s + 3) * rs.length + (s + 3)))) v := fun h => h.mono (pow_mono2 (by omega))
    cases ld with
    | none =>
      by_cases h0 : at_ r k = 0
      · obtain ⟨nw, ld', run, n1, n2, n3, n4⟩ := ih (e + (s + 3)) (lv ++ [r]) none (by omega) hrs (fun l h => nomatch h) (by omega)
        refine ⟨r :: nw, ld', ?_, ?_, by simp; omega, ?_, ?_⟩
        · have := StRun.zero hvn (by rw [dr]; exact h0) run
          rw [List.append_assoc] at this; exact this
        · intro x hx
          rcases List.mem_cons.mp hx with rfl | hx
          · exact ⟨upB hr1.1, fun j hj => by
              by_cases z : j = k
              · rw [z]; exact h0
              · exact hr1.2 j (by omega)⟩
          · exact ⟨(n1 x hx).1.mono (pow_mono2 (by omega)), (n1 x hx).2⟩
        · intro l h
          have := n3 l h
          exact ⟨this.b.mono (pow_mono2 (by omega)), this.z, this.p, this.ne⟩
        · rw [List.append_assoc] at n4
          refine SpEq.trans (.same fun g => ?_) n4
          unfold Gl Gr Go
          simp only [List.mem_append, List.mem_cons, List.not_mem_nil, or_false]
          constructor
          · rintro (⟨x, hx, rfl⟩ | h | ⟨x, rfl | hx, rfl⟩)
            · exact .inl ⟨x, .inl hx, rfl⟩
            · exact .inr (.inl h)
            · exact .inl ⟨x, .inr rfl, rfl⟩
            · exact .inr (.inr ⟨x, hx, rfl⟩)
          · rintro (⟨x, hx | rfl, rfl⟩ | h | ⟨x, hx, rfl⟩)
            · exact .inl ⟨x, hx, rfl⟩
            · exact .inr (.inr ⟨x, .inl rfl, rfl⟩)
            · exact .inr (.inl h)
            · exact .inr (.inr ⟨x, .inr hx, rfl⟩)
      · obtain ⟨nw, ld', run, n1, n2, n3, n4⟩ := ih (e + (s + 3)) lv (some r) (by omega) hrs (fun l h => by
          cases h
          exact ⟨hr1.1.mono (pow_mono2 (by omega)), hr1.2, hr1.1.2 k, h0⟩) (by omega)
        refine ⟨nw, ld', .first hvn (by rw [dr]; exact h0) run, fun x hx => ⟨(n1 x hx).1.mono (pow_mono2 (by omega)), (n1 x hx).2⟩, by rw [List.length_cons]; omega, fun l h => ?_, ?_⟩
        · have := n3 l h
          exact ⟨this.b.mono (pow_mono2 (by omega)), this.z, this.p, this.ne⟩
        · refine SpEq.trans (.same fun g => ?_) n4
          unfold Gl Gr Go
          simp only [List.mem_cons]
          constructor
          · rintro (h | ⟨l, h, _⟩ | ⟨x, rfl | hx, rfl⟩)
            · exact .inl h
            · cases h
            · exact .inr (.inl ⟨x, rfl, rfl⟩)
            · exact .inr (.inr ⟨x, hx, rfl⟩)
          · rintro (h | ⟨l, h, rfl⟩ | ⟨x, hx, rfl⟩)
            · exact .inl h
            · cases h; exact .inr (.inr ⟨r, .inl rfl, rfl⟩)
            · exact .inr (.inr ⟨x, .inr hx, rfl⟩)
    | some l =>
      have hl1 := hl l rfl
      have hB : 3 * 2 ^ s + 1 ≤ 2 ^ (s + 2) := by
        have := one_pow2 s
        rw [Nat.pow_add]; omega
      have hX : 2 ^ (s + 2) * 2 ^ e + 2 ^ (s + 2) * 2 ^ e = 2 ^ (e + (s + 3)) := by
        rw [← Nat.pow_add, ← Nat.two_mul, ← Nat.pow_succ']
        congr 1
        omega
      obtain ⟨q, l2, r2, eu, b1, b2, z1, z2, z3, ⟨a, b, c, d, f1, f2⟩, ⟨a', b', c', d', g1, g2⟩⟩ := eu_ex hk hl1.b (hr1.1.mono (pow_mono2 hse)) hl1.p (hr1.1.2 k) hB (one_pow2 e) (fun x hx => sm_pow (s := e + (s + 3)) (by omega) (by rw [← hX]; exact hx)) hl1.ne
      rw [hX] at b1 b2
      have zl : ∀ j, j < k → at_ l2 j = 0 := fun j hj => by rw [f1, hl1.z j hj, hr1.2 j hj]; omega
      have zr : ∀ j, j ≤ k → at_ r2 j = 0 := fun j hj => by
        by_cases z : j = k
        · rw [z]; exact z1
        · rw [f2, hl1.z j (by omega), hr1.2 j (by omega)]; omega
      obtain ⟨nw, ld', run, n1, n2, n3, n4⟩ := ih (e + (s + 3)) (lv ++ [r2]) (some l2) (by omega) hrs (fun x h => by
        cases h
        exact ⟨b1, zl, z3, z2⟩) (by omega)
      refine ⟨r2 :: nw, ld', ?_, ?_, by simp; omega, ?_, ?_⟩
      · have := StRun.go eu run
        rw [List.append_assoc] at this; exact this
      · intro x hx
        rcases List.mem_cons.mp hx with rfl | hx
        · exact ⟨b2.mono (pow_mono2 (by omega)), zr⟩
        · exact ⟨(n1 x hx).1.mono (pow_mono2 (by omega)), (n1 x hx).2⟩
      · intro x h
        have := n3 x h
        exact ⟨this.b.mono (pow_mono2 (by omega)), this.z, this.p, this.ne⟩
      · rw [List.append_assoc] at n4
        refine SpEq.trans ⟨fun g hg => ?_, fun g hg => ?_⟩ n4
        · have i1 : Lat (Gl (lv ++ [r2]) (some l2) rs) (at_ l2) := .of (.inr (.inl ⟨l2, rfl, rfl⟩))
          have i2 : Lat (Gl (lv ++ [r2]) (some l2) rs) (at_ r2) := .of (.inl ⟨r2, by simp, rfl⟩)
          rcases hg with ⟨x, hx, rfl⟩ | ⟨x, hx, rfl⟩ | ⟨x, hx, rfl⟩
          · exact .of (.inl ⟨x, by simp [hx], rfl⟩)
          · cases hx; exact lat2 i1 i2 g1
          · rcases List.mem_cons.mp hx with rfl | hx
            · exact lat2 i1 i2 g2
            · exact .of (.inr (.inr ⟨x, hx, rfl⟩))
        · have i1 : Lat (Gl lv (some l) (r :: rs)) (at_ l) := .of (.inr (.inl ⟨l, rfl, rfl⟩))
          have i2 : Lat (Gl lv (some l) (r :: rs)) (at_ r) := .of (.inr (.inr ⟨r, by simp, rfl⟩))
          rcases hg with ⟨x, hx, rfl⟩ | ⟨x, hx, rfl⟩ | ⟨x, hx, rfl⟩
          · rcases List.mem_append.mp hx with hx | hx
            · exact .of (.inl ⟨x, hx, rfl⟩)
            · rw [List.mem_singleton] at hx; subst hx; exact lat2 i1 i2 f2
          · cases hx; exact lat2 i1 i2 f1
          · exact .of (.inr (.inr ⟨x, by simp [hx], rfl⟩))
/-! ### membership -/
def itS (m : Nat) : Nat → Nat → Nat
  | 0, s => s
  | i + 1, s => itS m i ((s + 3) * m + 2 * s + 1)
theorem le_itS (m : Nat) : ∀ i s, s ≤ itS m i s
  | 0, _ => Nat.le_refl _
  | i + 1, s => Nat.le_trans (by omega) (le_itS m i ((s + 3) * m + 2 * s + 1))
/-- the coordinate at k of a lattice vector, from the rows with 0 there and one lead -/
theorem lead_div {lv : List Vc} {ld : Option Vc} {k : Nat} {u : Fv} (h : Lat (Gl lv ld []) u) (hz : ∀ r ∈ lv, at_ r k = 0) : ∃ (a : Int) (w : Fv), Lat (Gr lv) w ∧ (∀ l, ld = some l → ∀ j, u j = w j + a * at_ l j) ∧ (ld = none → ∀ j, u j = w j) ∧ w k = 0 := by
  induction h with
  | zero => exact ⟨0, fun _ => 0, .zero, fun l _ j => by omega, fun _ j => rfl, rfl⟩
  | @add u g m _ hg ih =>
    obtain ⟨a, w, h1, h2, h3, h4⟩ := ih
    rcases hg with ⟨x, hx, rfl⟩ | ⟨x, hx, rfl⟩ | ⟨x, hx, _⟩
    · exact ⟨a, fun j => w j + m * at_ x j, .add m h1 ⟨x, hx, rfl⟩, fun l hl j => by show u j + m * at_ x j = w j + m * at_ x j + a * at_ l j; rw [h2 l hl j]; omega, fun hn j => by show u j + m * at_ x j = w j + m * at_ x j; rw [h3 hn j], by show w k + m * at_ x k = 0; rw [h4, hz x hx]; omega⟩
    · exact ⟨a + m, w, h1, fun l hl j => by
        rw [hx] at hl; cases hl
        show u j + m * at_ x j = w j + (a + m) * at_ x j
        rw [h2 x hx j]; grind, fun hn => by (rw [hx] at hn; cases hn), h4⟩
    · simp at hx
theorem in_ex {n m : Nat} : ∀ (i k s : Nat) (rows : List Vc) (v : Vc), k + i = n → rows.length ≤ m → m ≤ 1000 → (∀ r ∈ rows, Bd n (2 ^ s) r ∧ ∀ j, j < k → at_ r j = 0) → Bd n (2 ^ s) v → (∀ j, j < k → at_ v j = 0) → itS m i s < 60000000 →
    ∃ b : Bool, InRun n k rows v b ∧ (b = true ↔ Lat (Gr rows) (at_ v)) := by
  intro i
  induction i with
  | zero =>
    intro k s rows v hk hm hm2 hr hv hz hS
    have : k = n := by omega
    subst this
    refine ⟨true, .done, ⟨fun _ => ?_, fun _ => rfl⟩⟩
    exact Lat.zero.eq fun j => by
      by_cases hj : j < k
      · exact (hz j hj).symm
      · exact (at_out (by rw [hv.1]; omega)).symm
  | succ i ih =>
    intro k s rows v hk hm hm2 hr hv hz hS
    have hkn : k < n := by omega
    have hS : itS m i ((s + 3) * m + 2 * s + 1) < 60000000 := hS
    have hS2 := le_itS m i ((s + 3) * m + 2 * s + 1)
    have hml : (s + 3) * rows.length ≤ (s + 3) * m := Nat.mul_le_mul_left _ hm
    obtain ⟨nw, ld, run, n1, n2, n3, n4⟩ := st_ex hkn rows s [] none (Nat.le_refl _) hr (fun l h => nomatch h) (by omega)
    rw [List.nil_append] at run n4
    have sp : ∀ u, Lat (Gr rows) u ↔ Lat (Gl nw ld []) u := fun u => (SpEq.trans (.same fun g => by
      unfold Gl Gr Go
      constructor
      · exact fun h => .inr (.inr h)
      · rintro (⟨x, hx, _⟩ | ⟨x, hx, _⟩ | h)
        · simp at hx
        · cases hx
        · exact h) n4).iff
    have hvn : Vn n v := hv.vn fun x hx => sm_pow (s := s) (by omega) hx
    have dv := dot_unit hkn hv.1
    have hz2 : ∀ r ∈ nw, at_ r k = 0 := fun r hr => (n1 r hr).2 k (Nat.le_refl _)
    have nwb : ∀ r ∈ nw, Bd n (2 ^ ((s + 3) * m + 2 * s + 1)) r ∧ ∀ j, j < k + 1 → at_ r j = 0 := fun r hr => ⟨(n1 r hr).1.mono (pow_mono2 (by omega)), fun j hj => (n1 r hr).2 j (by omega)⟩
    have hm1 : rows.length ≤ 1000 := by omega
    cases ld with
    | none =>
      by_cases h0 : at_ v k = 0
      · obtain ⟨b, r, hb⟩ := ih (k + 1) ((s + 3) * m + 2 * s + 1) nw v (by omega) (by omega) hm2 nwb (hv.mono (pow_mono2 (by omega))) (fun j hj => by
          by_cases z : j = k
          · rw [z]; exact h0
          · exact hz j (by omega)) hS
        refine ⟨b, .skip hkn hm1 hvn run (by rw [dv]; exact h0) r, hb.trans ?_⟩
        rw [sp]
        constructor
        · exact fun h => h.mono fun g hg => .inl hg
        · intro h
          obtain ⟨a, w, h1, _, h3, _⟩ := lead_div h hz2
          exact h1.eq fun j => (h3 rfl j).symm
      · refine ⟨false, .no hkn hm1 hvn run (by rw [dv]; exact h0) (fun l h => nomatch h), ⟨fun h => (nomatch h), fun h => ?_⟩⟩
        rw [sp] at h
        obtain ⟨a, w, _, _, h3, h4⟩ := lead_div h hz2
        exact absurd ((h3 rfl k).trans h4) h0
    | some l =>
      have hl := n3 l rfl
      have hlv : Vn n l := hl.b.vn fun x hx => sm_pow (s := s + (s + 3) * rows.length) (by omega) hx
      have dl := dot_unit hkn hl.b.1
      by_cases hd : (at_ v k).fmod (at_ l k) = 0
      · have hq : (0 - (at_ v k).fdiv (at_ l k)).natAbs ≤ 2 ^ s := by
          have h1 := natAbs_fdiv_le (at_ v k) (at_ l k)
          have h2 := hv.2 k
          omega
        have ev : ∀ j, at_ (combL 1 v (0 - (at_ v k).fdiv (at_ l k)) l) j = at_ v j - (at_ v k).fdiv (at_ l k) * at_ l j := fun j => by
          rw [at_comb (by rw [hv.1, hl.b.1])]; grind
        have evk : at_ v k - (at_ v k).fdiv (at_ l k) * at_ l k = 0 := by
          have := Int.mul_fdiv_add_fmod (at_ v k) (at_ l k)
          rw [hd, Int.mul_comm] at this; omega
        have bv : Bd n (2 ^ ((s + 3) * m + 2 * s + 1)) (combL 1 v (0 - (at_ v k).fdiv (at_ l k)) l) := by
          refine (Bd.comb (S := 1) (T := 2 ^ s) hv hl.b (by decide) hq).mono ?_
          rw [← Nat.pow_add, Nat.one_mul]
          have h1 : 2 ^ s ≤ 2 ^ ((s + 3) * m + 2 * s) := pow_mono2 (by omega)
          have h2 : 2 ^ (s + (s + (s + 3) * rows.length)) ≤ 2 ^ ((s + 3) * m + 2 * s) := pow_mono2 (by omega)
          rw [Nat.pow_succ]; omega
        obtain ⟨b, r, hb⟩ := ih (k + 1) ((s + 3) * m + 2 * s + 1) nw (combL 1 v (0 - (at_ v k).fdiv (at_ l k)) l) (by omega) (by omega) hm2 nwb bv (fun j hj => by
          rw [ev]
          by_cases z : j = k
          · rw [z]; exact evk
          · rw [hz j (by omega), hl.z j (by omega)]; omega) hS
        refine ⟨b, .red hkn hm1 hvn run hlv (by rw [dl]; exact hl.ne) (by rw [dl, dv]; exact hd) (by rw [dl, dv]; exact sm_pow (s := s) (by omega) hq) (by rw [dl, dv]; exact r), hb.trans ?_⟩
        rw [sp]
        constructor
        · intro h
          have h1 : Lat (Gl nw (some l) []) (at_ (combL 1 v (0 - (at_ v k).fdiv (at_ l k)) l)) := h.mono fun g hg => .inl hg
          have h2 : Lat (Gl nw (some l) []) (at_ l) := .of (.inr (.inl ⟨l, rfl, rfl⟩))
          exact (h1.lin h2 ((at_ v k).fdiv (at_ l k))).eq fun j => by rw [ev]; omega
        · intro h
          have h2 : Lat (Gl nw (some l) []) (at_ l) := .of (.inr (.inl ⟨l, rfl, rfl⟩))
          have h1 : Lat (Gl nw (some l) []) (at_ (combL 1 v (0 - (at_ v k).fdiv (at_ l k)) l)) := (h.lin h2 (0 - (at_ v k).fdiv (at_ l k))).eq fun j => by rw [ev]; grind
          obtain ⟨a, w, w1, w2, _, w4⟩ := lead_div h1 hz2
          have e := w2 l rfl k
          rw [ev, evk, w4] at e
          have ha : a = 0 := by
            have : a * at_ l k = 0 := by omega
            rcases Int.mul_eq_zero.mp this with h | h
            · exact h
            · exact absurd h hl.ne
          exact w1.eq fun j => by rw [w2 l rfl j, ha]; omega
      · have hne : at_ v k ≠ 0 := fun z => hd (by rw [z]; exact Int.zero_fmod _)
        refine ⟨false, .no hkn hm1 hvn run (by rw [dv]; exact hne) (fun x h => by
          cases h
          exact ⟨hlv, by rw [dl]; exact hl.ne, by rw [dl, dv]; exact hd⟩), ⟨fun h => (nomatch h), fun h => ?_⟩⟩
        rw [sp] at h
        obtain ⟨a, w, _, w2, _, w4⟩ := lead_div h hz2
        have e := w2 l rfl k
        rw [w4] at e
        refine absurd ?_ hd
        have : at_ v k = a * at_ l k := by omega
        rw [this]
        exact Int.mul_fmod_left _ _
end K87

namespace K87
open PySem PySem.Spec PyProof.Rows L2 DL
open PySem.Builtin.Int (intBits)
/-! ### lowering -/
def GE (E : Ec) : Fv → Prop := fun g => ∃ p r, gE E p = some r ∧ g = at_ r
def GEc (E : Ec) (c : Nat) : Fv → Prop := fun g => ∃ p r, c < p ∧ gE E p = some r ∧ g = at_ r
def lowN (E : Ec) (c m : Nat) (w : Vc) : Vc := ((List.range m).filter fun p => (gE E p).isSome).foldl (lowStep E c) w
theorem lowN_succ (E : Ec) (c m : Nat) (w : Vc) : lowN E c (m + 1) w = if (gE E m).isSome = true then lowStep E c (lowN E c m w) m else lowN E c m w := by
  unfold lowN
  rw [List.range_succ, List.filter_append, List.foldl_append, List.filter_cons]
  by_cases h : (gE E m).isSome = true
  · rw [if_pos h, if_pos h]; rfl
  · rw [if_neg h, if_neg h]; rfl
theorem take_filter {α : Type} (p : α → Bool) : ∀ (l : List α) (i : Nat), ∃ m, (l.filter p).take i = (l.take m).filter p
  | [], i => ⟨0, by simp⟩
  | x :: l, 0 => ⟨0, by simp⟩
  | x :: l, i + 1 => by
    by_cases h : p x = true
    · obtain ⟨m, e⟩ := take_filter p l i
      refine ⟨m + 1, ?_⟩
      rw [List.filter_cons, if_pos h, List.take_succ_cons, List.take_succ_cons, List.filter_cons, if_pos h, e]
    · obtain ⟨m, e⟩ := take_filter p l (i + 1)
      refine ⟨m + 1, ?_⟩
      rw [List.filter_cons, if_neg h, List.take_succ_cons, List.filter_cons, if_neg h, e]
theorem lowOk_of {n c : Nat} {E : Ec} {w : Vc} (h : ∀ m, m ≤ n → Vn n (lowN E c m w)) : LowOk n E c w := fun i => by
  unfold keysE
  obtain ⟨m, e⟩ := take_filter (fun p => (gE E p).isSome) (List.range n) i
  rw [e]
  have : (List.range n).take m = List.range (min m n) := by rw [List.take_range]
  rw [this]
  exact h _ (Nat.min_le_right _ _)
theorem low_ex {n c : Nat} {E : Ec} {w : Vc} {X Y : Nat} (hX : 1 ≤ X) (hR : ∀ p r, c < p → gE E p = some r → p < n ∧ Bd n X r ∧ (∀ j, j < p → at_ r j = 0) ∧ 0 < at_ r p) (hw : Bd n Y w) : ∀ m,
    Bd n (Y * (2 * X) ^ m) (lowN E c m w) ∧ (∀ j, j ≤ c → at_ (lowN E c m w) j = at_ w j) ∧ (∀ q r, c < q → q < m → gE E q = some r → 0 ≤ at_ (lowN E c m w) q ∧ at_ (lowN E c m w) q < at_ r q) ∧
      ∃ u, Lat (GEc E c) u ∧ ∀ j, at_ (lowN E c m w) j = at_ w j + u j := by
  intro m
  induction m with
  | zero => exact ⟨by rw [Nat.pow_zero, Nat.mul_one]; exact hw, fun j _ => rfl, fun q r _ h => by omega, fun _ => 0, .zero, fun j => by show at_ w j = at_ w j + 0; omega⟩
  | succ m ih =>
    obtain ⟨i1, i2, i3, u, i4, i5⟩ := ih
    have up : Y * (2 * X) ^ m ≤ Y * (2 * X) ^ (m + 1) := Nat.mul_le_mul_left _ (Nat.pow_le_pow_right (by omega) (by omega))
    rw [lowN_succ]
    cases hg : gE E m with
    | none =>
      rw [if_neg (by simp)]
      refine ⟨i1.mono up, i2, fun q r hq hq2 e => i3 q r hq ?_ e, u, i4, i5⟩
      by_cases z : q = m
      · rw [z, hg] at e; cases e
      · omega
    | some row =>
      rw [if_pos (by simp)]
      unfold lowStep
      by_cases hc : c < m
      · rw [if_pos hc, hg]
        obtain ⟨h1, h2, h3, h4⟩ := hR m row hc hg
        generalize lowN E c m w = v at i1 i2 i3 i5
        show Bd n _ (combL 1 v (-((at_ v m).fdiv (at_ row m))) row) ∧ _
        have ev : ∀ j, at_ (combL 1 v (-((at_ v m).fdiv (at_ row m))) row) j = at_ v j - (at_ v m).fdiv (at_ row m) * at_ row j := fun j => by
          rw [at_comb (by rw [i1.1, h2.1])]; grind
        refine ⟨?_, fun j hj => ?_, fun q r hq hq2 e => ?_, fun j => u j + (-((at_ v m).fdiv (at_ row m))) * at_ row j, .add _ i4 ⟨m, row, hc, hg, rfl⟩, fun j => ?_⟩
        · have hq : (-((at_ v m).fdiv (at_ row m))).natAbs ≤ Y * (2 * X) ^ m := by
            rw [Int.natAbs_neg]
            exact Nat.le_trans (natAbs_fdiv_le _ _) (i1.2 m)
          refine (Bd.comb (S := 1) i1 h2 (by decide) hq).mono ?_
          rw [Nat.pow_succ, ← Nat.mul_assoc Y, Nat.one_mul]
          generalize Y * (2 * X) ^ m = z
          have : z * 1 ≤ z * X := Nat.mul_le_mul_left _ hX
          have e2 : z * (2 * X) = z * X + z * X := by rw [Nat.mul_comm 2 X, ← Nat.mul_assoc, Nat.mul_two]
          rw [e2]; omega
        · rw [ev, h3 j (by omega), i2 j hj]; omega
        · by_cases z : q = m
          · subst z
            rw [hg] at e; cases e
            rw [ev]
            have ef : at_ v q - (at_ v q).fdiv (at_ row q) * at_ row q = (at_ v q).fmod (at_ row q) := by rw [Int.fmod_def, Int.mul_comm]
            rw [ef]
            exact ⟨Int.fmod_nonneg_of_pos _ h4, Int.fmod_lt_of_pos _ h4⟩
          · rw [ev, h3 q (by omega)]
            have := i3 q r hq (by omega) e
            omega
        · rw [ev, i5]; grind
      · rw [if_neg hc]
        exact ⟨i1.mono up, i2, fun q r hq hq2 e => i3 q r hq (by omega) e, u, i4, i5⟩
theorem lowF_N (n : Nat) (E : Ec) (c : Nat) (w : Vc) : lowF n E c w = lowN E c n w := rfl
/-! ### relations -/
def dfc (D : Nat → Int) (C : Nat → Nat → Int) (x : Fv) (j : Nat) : Int := D j * x j - sm j (fun p => C j p * x p)
theorem dfc_lin (D : Nat → Int) (C : Nat → Nat → Int) (x y z : Fv) (a b : Int) (h : ∀ j, z j = a * x j + b * y j) (j : Nat) : dfc D C z j = a * dfc D C x j + b * dfc D C y j := by
  unfold dfc
  have e : sm j (fun p => C j p * z p) = a * sm j (fun p => C j p * x p) + b * sm j (fun p => C j p * y p) := by
    rw [← sm_lin]
    apply sm_congr
    intro p _
    rw [h p]; grind
  rw [e, h j]; grind
theorem dfc_lat {D : Nat → Int} {C : Nat → Nat → Int} {G : Fv → Prop} {u : Fv} {j : Nat} (h : Lat G u) (h0 : ∀ g, G g → dfc D C g j = 0) : dfc D C u j = 0 := by
  induction h with
  | zero =>
    unfold dfc
    rw [sm_zero (fun p _ => by show C j p * 0 = 0; omega)]; show D j * 0 - 0 = 0; omega
  | @add u g k _ hg ih =>
    rw [dfc_lin D C u g (fun j => u j + k * g j) 1 k (fun j => by omega), ih, h0 g hg]; omega
/-- what the pivot columns and the defects bound -/
theorem ent_bd {n κ P : Nat} {D : Nat → Int} {C : Nat → Nat → Int} {S : Nat → Prop} (hD : ∀ j, D j ≠ 0) (hC : ∀ j p, (C j p).natAbs ≤ κ) (hCS : ∀ j p, ¬ S p → C j p = 0) {x : Fv} (hp : ∀ p, S p → (x p).natAbs ≤ P) {j B : Nat} (hj : j < n) (hd : (dfc D C x j).natAbs ≤ B) :
    (x j).natAbs ≤ n * (κ * P) + B := by
  have h1 : (sm j (fun p => C j p * x p)).natAbs ≤ j * (κ * P) := sm_abs fun p _ => by
    rw [Int.natAbs_mul]
    by_cases s : S p
    · exact Nat.mul_le_mul (hC j p) (hp p s)
    · rw [hCS j p s]; simp
  have h2 : (D j * x j).natAbs ≤ n * (κ * P) + B := by
    unfold dfc at hd
    have : j * (κ * P) ≤ n * (κ * P) := Nat.mul_le_mul_right _ (by omega)
    omega
  rw [Int.natAbs_mul] at h2
  have hd1 : 1 ≤ (D j).natAbs := by have := hD j; omega
  exact Nat.le_trans (Nat.le_mul_of_pos_left _ hd1) h2
end K87

namespace K87
open PySem PySem.Spec PyProof.Rows L2 DL
open PySem.Builtin.Int (intBits)
/-! ### a vector is added -/
def Sp (E : Ec) (p : Nat) : Prop := (gE E p).isSome = true
def GEv (E : Ec) (v : Vc) : Fv → Prop := fun g => GE E g ∨ g = at_ v
def cnt (b : Nat → Bool) (c : Nat) : Nat := ((List.range c).filter b).length
theorem cnt_succ (b : Nat → Bool) (c : Nat) : cnt b (c + 1) = cnt b c + if b c = true then 1 else 0 := by
  unfold cnt
  rw [List.range_succ, List.filter_append, List.length_append, List.filter_cons]
  by_cases h : b c = true
  · rw [if_pos h, if_pos h]; rfl
  · rw [if_neg h, if_neg h]; rfl
theorem cnt_mono (b : Nat → Bool) {c : Nat} : ∀ {d : Nat}, c ≤ d → cnt b c ≤ cnt b d
  | 0, h => by have : c = 0 := by omega
               subst this; exact Nat.le_refl _
  | d + 1, h => by
    by_cases z : c = d + 1
    · rw [z]; exact Nat.le_refl _
    · rw [cnt_succ]; have := cnt_mono b (c := c) (d := d) (by omega); omega
structure RelOk (κ : Nat) (S : Nat → Prop) (D : Nat → Int) (C : Nat → Nat → Int) : Prop where
  d0 : ∀ j, D j ≠ 0
  dk : ∀ j, (D j).natAbs ≤ κ
  ck : ∀ j p, (C j p).natAbs ≤ κ
  cs : ∀ j p, ¬ S p → C j p = 0
/-- the numbers of a state -/
structure Nums (n κ P T Δ X rk : Nat) : Prop where
  p1 : 1 ≤ P
  t : (3 * P + 1) * P ^ rk ≤ T
  x : n * (κ * P) + T * Δ + P ≤ X
  s : ∀ x : Int, x.natAbs ≤ ((3 * P + 1) * X + (3 * P + 1) * X) * (2 * X) ^ n → Sm x
structure RowA (n P T c : Nat) (S : Nat → Prop) (D : Nat → Int) (C : Nat → Nat → Int) (δ : Nat → Int) (p : Nat) (r : Vc) : Prop where
  hl : r.length = n
  hp : p < n
  hz : ∀ j, j < p → at_ r j = 0
  pos : 0 < at_ r p
  hq : ∀ q, S q → (at_ r q).natAbs ≤ P
  hd : ∃ β : Int, β.natAbs ≤ T ∧ (c ≤ p → β = 0) ∧ ∀ j, j < n → ¬ S j → dfc D C (at_ r) j = β * δ j
structure ASt (n P T c : Nat) (b : Nat → Bool) (D : Nat → Int) (C : Nat → Nat → Int) (δ : Nat → Int) (E : Ec) (v : Vc) (α : Int) : Prop where
  key : KeyOk n E
  sp : ∀ p, Sp E p ↔ b p = true
  rows : ∀ p r, gE E p = some r → RowA n P T c (fun p => b p = true) D C δ p r
  vl : v.length = n
  vz : ∀ j, j < c → at_ v j = 0
  vp : ∀ q, b q = true → (at_ v q).natAbs ≤ P
  vd : ∀ j, j < n → ¬ b j = true → dfc D C (at_ v) j = α * δ j
  a0 : α ≠ 0
  ab : α.natAbs ≤ P ^ cnt b c
section
variable {n κ P T Δ X rk c : Nat} {b : Nat → Bool} {D : Nat → Int} {C : Nat → Nat → Int} {δ : Nat → Int} {E : Ec} {v : Vc} {α : Int}
theorem row_bd (N : Nums n κ P T Δ X rk) (R : RelOk κ (fun p => b p = true) D C) (hδ : ∀ j, (δ j).natAbs ≤ Δ) {x : Vc} (hl : x.length = n) (hq : ∀ q, b q = true → (at_ x q).natAbs ≤ P) {γ : Int} (hγ : γ.natAbs ≤ T) (hd : ∀ j, j < n → ¬ b j = true → dfc D C (at_ x) j = γ * δ j) : Bd n X x :=
  ⟨hl, fun j => by
    have hx := N.x
    by_cases hj : j < n
    · by_cases h : b j = true
      · have := hq j h; omega
      · have h1 := ent_bd R.d0 R.ck R.cs hq (j := j) (B := T * Δ) hj (by rw [hd j hj h, Int.natAbs_mul]; exact Nat.mul_le_mul hγ (hδ j))
        omega
    · rw [at_out (by omega)]; simp⟩
theorem RowA.bd {p : Nat} {r : Vc} (h : RowA n P T c (fun p => b p = true) D C δ p r) (N : Nums n κ P T Δ X rk) (R : RelOk κ (fun p => b p = true) D C) (hδ : ∀ j, (δ j).natAbs ≤ Δ) : Bd n X r := by
  obtain ⟨β, h1, _, h3⟩ := h.hd
  exact row_bd N R hδ h.hl h.hq h1 h3
theorem Nums.pw (N : Nums n κ P T Δ X rk) {k : Nat} (h : k ≤ rk) : P ^ k ≤ P ^ rk := Nat.pow_le_pow_right N.p1 h
theorem Nums.a_le (N : Nums n κ P T Δ X rk) {k : Nat} (h : k ≤ rk) : P ^ k ≤ T := Nat.le_trans (N.pw h) (Nat.le_trans (Nat.le_mul_of_pos_left _ (by omega)) N.t)
theorem ASt.bd (a : ASt n P T c b D C δ E v α) (N : Nums n κ P T Δ X rk) (R : RelOk κ (fun p => b p = true) D C) (hδ : ∀ j, (δ j).natAbs ≤ Δ) (hr : cnt b c ≤ rk) : Bd n X v :=
  row_bd N R hδ a.vl a.vp (Nat.le_trans a.ab (N.a_le hr)) a.vd
theorem Nums.smX (N : Nums n κ P T Δ X rk) : ∀ x : Int, x.natAbs ≤ X → Sm x := fun x h => N.s x (by
  have hX : 1 ≤ X := by have := N.x; have := N.p1; omega
  have h1 : 1 ≤ (2 * X) ^ n := Nat.one_le_pow _ _ (by omega)
  have h2 : X ≤ (3 * P + 1) * X + (3 * P + 1) * X := by
    have := Nat.le_mul_of_pos_left X (show 0 < 3 * P + 1 by omega)
    omega
  exact Nat.le_trans h (Nat.le_trans h2 (Nat.le_mul_of_pos_right _ h1)))
theorem eok_of (key : KeyOk n E) (rows : ∀ p r, gE E p = some r → RowA n P T c (fun p => b p = true) D C δ p r) (N : Nums n κ P T Δ X rk) (R : RelOk κ (fun p => b p = true) D C) (hδ : ∀ j, (δ j).natAbs ≤ Δ) : EOk n E :=
  ⟨key, fun p r h => ⟨(rows p r h).hp, ((rows p r h).bd N R hδ).vn N.smX, by have := (rows p r h).pos; omega⟩⟩
/-- one turn at a pivot -/
theorem add_step (N : Nums n κ P T Δ X rk) (R : RelOk κ (fun p => b p = true) D C) (hδ : ∀ j, (δ j).natAbs ≤ Δ) (a : ASt n P T c b D C δ E v α) (hc : c < n) (hr : cnt b n ≤ rk) {row : Vc} (hg : gE E c = some row) (hv : at_ v c ≠ 0) :
    ∃ (E2 : Ec) (v2 : Vc) (α2 : Int), ASt n P T (c + 1) b D C δ E2 v2 α2 ∧ SpEq (GEv E v) (GEv E2 v2) ∧ E2.length = E.length ∧ ∀ E', AddRun n (c + 1) E2 v2 E' → AddRun n c E v E' := by
  have hcb : b c = true := (a.sp c).mp (by unfold Sp; rw [hg]; rfl)
  have hrow := a.rows c row hg
  have hX : 1 ≤ X := by have := N.x; have := N.p1; omega
  have hcr : cnt b c + 1 ≤ rk := by
    have h1 := cnt_succ b c
    rw [if_pos hcb] at h1
    have h2 := cnt_mono b (show c + 1 ≤ n from hc)
    omega
  have bv := a.bd N R hδ (by omega)
  have br := hrow.bd N R hδ
  have hA : (at_ row c).natAbs ≤ P := hrow.hq c hcb
  have hB : (at_ v c).natAbs ≤ P := a.vp c hcb
  have hPX : P ≤ X := by have := N.x; omega
  have smK : ∀ x : Int, x.natAbs ≤ 3 * P + 1 → Sm x := fun x h => N.s x (by
    have h1 : 1 ≤ (2 * X) ^ n := Nat.one_le_pow _ _ (by omega)
    have h2 : 3 * P + 1 ≤ (3 * P + 1) * X + (3 * P + 1) * X := by
      have := Nat.le_mul_of_pos_right (3 * P + 1) hX
      omega
    exact Nat.le_trans h (Nat.le_trans h2 (Nat.le_mul_of_pos_right _ h1)))
  obtain ⟨k, z, g, s, t, run, e3, g0, hgst, gA, gB, hs, ht⟩ := bez_ex (A := at_ row c) (B := at_ v c) (K := 3 * P + 1) hrow.pos (by omega) smK
  obtain ⟨A', hA'⟩ := gA
  obtain ⟨B', hB'⟩ := gB
  have fA : (at_ row c).fdiv g = A' := by rw [hA']; exact Int.mul_fdiv_cancel_left _ (by omega)
  have fB : (at_ v c).fdiv g = B' := by rw [hB']; exact Int.mul_fdiv_cancel_left _ (by omega)
  have hA1 : A'.natAbs ≤ P := by rw [← fA]; exact Nat.le_trans (natAbs_fdiv_le _ _) hA
  have hB1 : B'.natAbs ≤ P := by rw [← fB]; exact Nat.le_trans (natAbs_fdiv_le _ _) hB
  have hA0 : A' ≠ 0 := fun h => by rw [h] at hA'; have := hrow.pos; omega
  have det : s * A' + t * B' = 1 := by
    have : g * (s * A' + t * B') = g * 1 := by
      rw [Int.mul_one]
      conv => rhs; rw [hgst, hA', hB']
      grind
    exact Int.eq_of_mul_eq_mul_left (by omega) this
  have gP : g.natAbs ≤ P := by
    have : g.natAbs ∣ (at_ row c).natAbs := Int.natAbs_dvd_natAbs.mpr ⟨A', hA'⟩
    have := Nat.le_of_dvd (by have := hrow.pos; omega) this
    omega
  have ll : row.length = v.length := by rw [hrow.hl, a.vl]
  -- better
  have eb : ∀ j, at_ (combL s row t v) j = s * at_ row j + t * at_ v j := fun j => at_comb ll j
  have er : ∀ j, at_ (combL A' v (-B') row) j = A' * at_ v j + (-B') * at_ row j := fun j => at_comb ll.symm j
  have bb : Bd n ((3 * P + 1) * X + (3 * P + 1) * X) (combL s row t v) := Bd.comb br bv hs ht
  have brs : Bd n ((3 * P + 1) * X + (3 * P + 1) * X) (combL A' v (-B') row) := Bd.comb bv br (by omega) (by omega)
  have hRE : ∀ p r, c < p → gE E p = some r → p < n ∧ Bd n X r ∧ (∀ j, j < p → at_ r j = 0) ∧ 0 < at_ r p := fun p r _ h => ⟨(a.rows p r h).hp, (a.rows p r h).bd N R hδ, (a.rows p r h).hz, (a.rows p r h).pos⟩
  have smN : ∀ {Y : Nat} {m : Nat} {w : Vc}, m ≤ n → Y = (3 * P + 1) * X + (3 * P + 1) * X → Bd n (Y * (2 * X) ^ m) w → Vn n w := fun hm hY h => h.vn fun x hx => N.s x (Nat.le_trans hx (by rw [hY]; exact Nat.mul_le_mul_left _ (Nat.pow_le_pow_right (by omega) hm)))
  have lz : ∀ j, j < n → ¬ b j = true → ∀ g, GEc E c g → dfc D C g j = 0 := fun j hj hb g hg => by
    obtain ⟨p, r, hcp, hgp, rfl⟩ := hg
    obtain ⟨β, _, h2, h3⟩ := (a.rows p r hgp).hd
    rw [h3 j hj hb, h2 (by omega)]; omega
  have L1 := low_ex hX hRE bb
  have lok1 : LowOk n E c (combL s row t v) := lowOk_of fun m hm => smN hm rfl (L1 m).1
  obtain ⟨b1, b2, b3, u1, b4, b5⟩ := L1 n
  rw [← lowF_N] at b1 b2 b3 b5
  generalize hbt : lowF n E c (combL s row t v) = bt at b1 b2 b3 b5
  have btl : bt.length = n := b1.1
  -- the new echelon
  have gE2 : ∀ p, gE (pE E c bt) p = if p = c then some bt else gE E p := fun p => gE_pE E c bt p
  have key2 : KeyOk n (pE E c bt) := a.key.put hc
  have sp2 : ∀ p, Sp (pE E c bt) p ↔ b p = true := fun p => by
    unfold Sp
    rw [gE2]
    by_cases h : p = c
    · rw [if_pos h, h]; simp [hcb]
    · rw [if_neg h]; exact a.sp p
  have zb : ∀ j, j < c → at_ (combL s row t v) j = 0 := fun j hj => by rw [eb, hrow.hz j hj, a.vz j hj]; omega
  have cb : at_ (combL s row t v) c = g := by rw [eb]; exact hgst.symm
  have qb : ∀ q, b q = true → (at_ bt q).natAbs ≤ P := fun q hq => by
    by_cases h1 : q ≤ c
    · rw [b2 q h1]
      by_cases h2 : q = c
      · rw [h2, cb]; exact gP
      · rw [zb q (by omega)]; simp
    · have hs : Sp E q := (a.sp q).mpr hq
      unfold Sp at hs
      obtain ⟨r, hgr⟩ := Option.isSome_iff_exists.mp hs
      have hrq := a.rows q r hgr
      have h3 := b3 q r (by omega) hrq.hp hgr
      have h4 := hrq.hq q hq
      omega
  have αT : α.natAbs ≤ P ^ cnt b c := a.ab
  have db : ∀ j, j < n → ¬ b j = true → dfc D C (at_ bt) j = (t * α) * δ j := fun j hj hb => by
    have e1 : dfc D C (at_ bt) j = 1 * dfc D C (at_ (combL s row t v)) j + 1 * dfc D C u1 j := dfc_lin D C _ _ _ 1 1 (fun j => by rw [b5]; omega) j
    have e2 := dfc_lin D C (at_ row) (at_ v) (at_ (combL s row t v)) s t eb j
    obtain ⟨β, _, h2, h3⟩ := hrow.hd
    rw [e1, dfc_lat b4 (lz j hj hb), e2, h3 j hj hb, h2 (Nat.le_refl _), a.vd j hj hb]; grind
  have rowBt : RowA n P T (c + 1) (fun p => b p = true) D C δ c bt := by
    refine ⟨btl, hc, fun j hj => by rw [b2 j (by omega)]; exact zb j hj, by rw [b2 c (Nat.le_refl _), cb]; exact g0, qb, t * α, ?_, fun h => by omega, db⟩
    rw [Int.natAbs_mul]
    exact Nat.le_trans (Nat.mul_le_mul ht (Nat.le_trans αT (N.pw (by omega)))) N.t
  have rows2 : ∀ p r, gE (pE E c bt) p = some r → RowA n P T (c + 1) (fun p => b p = true) D C δ p r := fun p r h => by
    rw [gE2] at h
    by_cases hp : p = c
    · rw [if_pos hp] at h; cases h; rw [hp]; exact rowBt
    · rw [if_neg hp] at h
      have x := a.rows p r h
      obtain ⟨β, h1, h2, h3⟩ := x.hd
      exact ⟨x.hl, x.hp, x.hz, x.pos, x.hq, β, h1, fun hh => h2 (by omega), h3⟩
  have eok2 := eok_of key2 rows2 N R hδ
  -- the rest
  have hRE2 : ∀ p r, c < p → gE (pE E c bt) p = some r → p < n ∧ Bd n X r ∧ (∀ j, j < p → at_ r j = 0) ∧ 0 < at_ r p := fun p r hp h => by
    rw [gE2, if_neg (by omega)] at h
    exact hRE p r hp h
  have L2 := low_ex hX hRE2 brs
  have lok2 : LowOk n (pE E c bt) c (combL A' v (-B') row) := lowOk_of fun m hm => smN hm rfl (L2 m).1
  obtain ⟨c1, c2, c3, u2, c4, c5⟩ := L2 n
  rw [← lowF_N] at c1 c2 c3 c5
  have c4' : Lat (GEc E c) u2 := c4.mono fun g hg => by
    obtain ⟨p, r, hcp, hgp, e⟩ := hg
    rw [gE2, if_neg (by omega)] at hgp
    exact ⟨p, r, hcp, hgp, e⟩
  generalize hrt : lowF n (pE E c bt) c (combL A' v (-B') row) = rt at c1 c2 c3 c5
  have cr : at_ (combL A' v (-B') row) c = 0 := by rw [er, hA', hB']; grind
  have zr : ∀ j, j < c + 1 → at_ rt j = 0 := fun j hj => by
    rw [c2 j (by omega)]
    by_cases h : j = c
    · rw [h]; exact cr
    · rw [er, a.vz j (by omega), hrow.hz j (by omega)]; omega
  have st2 : ASt n P T (c + 1) b D C δ (pE E c bt) rt (A' * α) := by
    refine ⟨key2, sp2, rows2, c1.1, zr, fun q hq => ?_, fun j hj hb => ?_, ?_, ?_⟩
    · by_cases h1 : q ≤ c
      · rw [zr q (by omega)]; simp
      · have hs : Sp (pE E c bt) q := (sp2 q).mpr hq
        unfold Sp at hs
        obtain ⟨r, hgr⟩ := Option.isSome_iff_exists.mp hs
        have hrq := rows2 q r hgr
        have h3 := c3 q r (by omega) hrq.hp hgr
        have h4 := hrq.hq q hq
        omega
    · have e1 : dfc D C (at_ rt) j = 1 * dfc D C (at_ (combL A' v (-B') row)) j + 1 * dfc D C u2 j := dfc_lin D C _ _ _ 1 1 (fun j => by rw [c5]; omega) j
      have e2 := dfc_lin D C (at_ v) (at_ row) (at_ (combL A' v (-B') row)) A' (-B') er j
      obtain ⟨β, _, h2, h3⟩ := hrow.hd
      rw [e1, dfc_lat c4' (lz j hj hb), e2, h3 j hj hb, h2 (Nat.le_refl _), a.vd j hj hb]; grind
    · exact Int.mul_ne_zero hA0 a.a0
    · rw [Int.natAbs_mul, cnt_succ, if_pos hcb, Nat.pow_succ, Nat.mul_comm]
      exact Nat.mul_le_mul αT hA1
  refine ⟨pE E c bt, rt, A' * α, st2, ?_, ?_, ?_⟩
  · -- the same lattice
    have m1 : Lat (GEv (pE E c bt) rt) (at_ bt) := .of (.inl ⟨c, bt, by rw [gE2, if_pos rfl], rfl⟩)
    have m2 : Lat (GEv (pE E c bt) rt) (at_ rt) := .of (.inr rfl)
    have mu1 : Lat (GEv (pE E c bt) rt) u1 := b4.mono fun g hg => by
      obtain ⟨p, r, hcp, hgp, e⟩ := hg
      exact .inl ⟨p, r, by rw [gE2, if_neg (by omega)]; exact hgp, e⟩
    have mu2 : Lat (GEv (pE E c bt) rt) u2 := c4'.mono fun g hg => by
      obtain ⟨p, r, hcp, hgp, e⟩ := hg
      exact .inl ⟨p, r, by rw [gE2, if_neg (by omega)]; exact hgp, e⟩
    have mb : Lat (GEv (pE E c bt) rt) (at_ (combL s row t v)) := lat2 (a := 1) (b := -1) m1 mu1 fun j => by rw [b5]; omega
    have mr : Lat (GEv (pE E c bt) rt) (at_ (combL A' v (-B') row)) := lat2 (a := 1) (b := -1) m2 mu2 fun j => by rw [c5]; omega
    have n1 : Lat (GEv E v) (at_ row) := .of (.inl ⟨c, row, hg, rfl⟩)
    have n2 : Lat (GEv E v) (at_ v) := .of (.inr rfl)
    have nu1 : Lat (GEv E v) u1 := b4.mono fun g hg => by
      obtain ⟨p, r, _, hgp, e⟩ := hg
      exact .inl ⟨p, r, hgp, e⟩
    have nu2 : Lat (GEv E v) u2 := c4'.mono fun g hg => by
      obtain ⟨p, r, _, hgp, e⟩ := hg
      exact .inl ⟨p, r, hgp, e⟩
    have nb : Lat (GEv E v) (at_ (combL s row t v)) := lat2 n1 n2 eb
    have nr : Lat (GEv E v) (at_ (combL A' v (-B') row)) := lat2 n2 n1 er
    refine ⟨fun g hg => ?_, fun g hg => ?_⟩
    · rcases hg with ⟨p, r, hgp, rfl⟩ | rfl
      · by_cases hp : p = c
        · subst hp
          rw [hg] at hgp; cases hgp
          exact lat2 (a := A') (b := -t) mb mr fun j => by
            rw [eb, er]
            have : at_ row j = (s * A' + t * B') * at_ row j := by rw [det]; omega
            grind
        · exact .of (.inl ⟨p, r, by rw [gE2, if_neg hp]; exact hgp, rfl⟩)
      · exact lat2 (a := B') (b := s) mb mr fun j => by
          rw [eb, er]
          have : at_ v j = (s * A' + t * B') * at_ v j := by rw [det]; omega
          grind
    · rcases hg with ⟨p, r, hgp, rfl⟩ | rfl
      · rw [gE2] at hgp
        by_cases hp : p = c
        · rw [if_pos hp] at hgp; cases hgp
          exact lat2 (a := 1) (b := 1) nb nu1 fun j => by rw [b5]; omega
        · rw [if_neg hp] at hgp
          exact .of (.inl ⟨p, r, hgp, rfl⟩)
      · exact lat2 (a := 1) (b := 1) nr nu2 fun j => by rw [c5]; omega
  · have : (E.any fun q => decide (q.1 = c)) = true := by rw [← gE_any, hg]; rfl
    unfold pE
    rw [if_pos this, List.length_map]
  · intro E' h
    have eokE := eok_of a.key a.rows N R hδ
    exact .step hc (bv.vn N.smX) hv eokE hg run e3 (by omega) (smK s hs) (smK t ht) lok1 (by rw [hbt]; exact eok2) (by rw [hbt, fA, fB]; exact lok2) (by rw [hbt, fA, fB, hrt]; exact h)
end
end K87

namespace K87
open PySem PySem.Spec PyProof.Rows L2 DL
open PySem.Builtin.Int (intBits)
section
variable {n κ P T Δ X rk : Nat} {b : Nat → Bool} {D : Nat → Int} {C : Nat → Nat → Int} {δ : Nat → Int}
/-- a vector through all columns -/
theorem add_all (N : Nums n κ P T Δ X rk) (R : RelOk κ (fun p => b p = true) D C) (hδ : ∀ j, (δ j).natAbs ≤ Δ) (hr : cnt b n ≤ rk) : ∀ (i c : Nat) (E : Ec) (v : Vc) (α : Int), c + i = n → ASt n P T c b D C δ E v α →
    ∃ E', AddRun n c E v E' ∧ SpEq (GEv E v) (GE E') ∧
      ((KeyOk n E' ∧ (∀ p, Sp E' p ↔ b p = true) ∧ (∀ p r, gE E' p = some r → RowA n P T n (fun p => b p = true) D C δ p r) ∧ E'.length = E.length ∧ ∀ j, j < n → ¬ b j = true → δ j = 0) ∨
       (∃ c1 E1 v1 α1, ASt n P T c1 b D C δ E1 v1 α1 ∧ c1 < n ∧ ¬ b c1 = true ∧ at_ v1 c1 ≠ 0 ∧ E1.length = E.length ∧ E' = pE E1 c1 (if at_ v1 c1 < 0 then scaleL (-1) v1 else v1))) := by
  intro i
  induction i with
  | zero =>
    intro c E v α hc a
    have : c = n := by omega
    subst this
    refine ⟨E, .stop, ?_, .inl ⟨a.key, a.sp, a.rows, rfl, fun j hj hb => ?_⟩⟩
    · refine ⟨fun g hg => ?_, fun g hg => .of (.inl hg)⟩
      rcases hg with hg | rfl
      · exact .of hg
      · exact Lat.zero.eq fun j => by
          by_cases hj : j < c
          · exact (a.vz j hj).symm
          · exact (at_out (by rw [a.vl]; omega)).symm
    · have h1 := a.vd j hj hb
      have h2 : dfc D C (at_ v) j = 0 := by
        unfold dfc
        rw [a.vz j hj, sm_zero (fun p hp => by rw [a.vz p (by omega)]; omega)]; omega
      rw [h2] at h1
      rcases Int.mul_eq_zero.mp h1.symm with h | h
      · exact absurd h a.a0
      · exact h
  | succ i ih =>
    intro c E v α hc a
    have hcn : c < n := by omega
    by_cases hv : at_ v c = 0
    · have a2 : ASt n P T (c + 1) b D C δ E v α := by
        refine ⟨a.key, a.sp, fun p r h => ?_, a.vl, fun j hj => ?_, a.vp, a.vd, a.a0, Nat.le_trans a.ab (Nat.pow_le_pow_right N.p1 (cnt_mono b (by omega)))⟩
        · have x := a.rows p r h
          obtain ⟨β, h1, h2, h3⟩ := x.hd
          exact ⟨x.hl, x.hp, x.hz, x.pos, x.hq, β, h1, fun hh => h2 (by omega), h3⟩
        · by_cases z : j = c
          · rw [z]; exact hv
          · exact a.vz j (by omega)
      obtain ⟨E', r, h⟩ := ih (c + 1) E v α (by omega) a2
      exact ⟨E', .zero hcn ((a.bd N R hδ (Nat.le_trans (cnt_mono b (by omega)) hr)).vn N.smX) hv r, h⟩
    · cases hg : gE E c with
      | none =>
        refine ⟨_, .new hcn ((a.bd N R hδ (Nat.le_trans (cnt_mono b (by omega)) hr)).vn N.smX) hv hg a.key, ?_, .inr ⟨c, E, v, α, a, hcn, fun z => ?_, hv, rfl, rfl⟩⟩
        · have hs : ∀ j, at_ (if at_ v c < 0 then scaleL (-1) v else v) j = (if at_ v c < 0 then -1 else 1) * at_ v j := fun j => by
            split
            · rw [at_scale]
            · omega
          refine ⟨fun g hg2 => ?_, fun g hg2 => ?_⟩
          · rcases hg2 with ⟨p, r, hgp, rfl⟩ | rfl
            · exact .of ⟨p, r, by rw [gE_pE, if_neg (fun z => by rw [z, hg] at hgp; cases hgp)]; exact hgp, rfl⟩
            · have : Lat (GE (pE E c (if at_ v c < 0 then scaleL (-1) v else v))) (at_ (if at_ v c < 0 then scaleL (-1) v else v)) := .of ⟨c, _, by rw [gE_pE, if_pos rfl], rfl⟩
              exact lat2 (a := if at_ v c < 0 then -1 else 1) (b := 0) this .zero fun j => by
                rw [hs]; split <;> omega
          · obtain ⟨p, r, hgp, rfl⟩ := hg2
            rw [gE_pE] at hgp
            by_cases z : p = c
            · rw [if_pos z] at hgp
              rw [← Option.some.inj hgp]
              exact lat2 (a := if at_ v c < 0 then -1 else 1) (b := 0) (.of (.inr rfl)) .zero fun j => by rw [hs]; omega
            · rw [if_neg z] at hgp
              exact .of (.inl ⟨p, r, hgp, rfl⟩)
        · have := (a.sp c).mpr z
          unfold Sp at this
          rw [hg] at this; cases this
      | some row =>
        obtain ⟨E2, v2, α2, a2, sp, hl, run⟩ := add_step N R hδ a hcn hr hg hv
        obtain ⟨E', r, s2, h⟩ := ih (c + 1) E2 v2 α2 (by omega) a2
        rw [hl] at h
        exact ⟨E', run E' r, sp.trans s2, h⟩
end
/-! ### what holds of an echelon -/
structure HRow (n P : Nat) (S : Nat → Prop) (D : Nat → Int) (C : Nat → Nat → Int) (p : Nat) (r : Vc) : Prop where
  hl : r.length = n
  hp : p < n
  hz : ∀ j, j < p → at_ r j = 0
  pos : 0 < at_ r p
  hq : ∀ q, S q → (at_ r q).natAbs ≤ P
  hd : ∀ j, j < n → ¬ S j → dfc D C (at_ r) j = 0
def HInv (n κ P : Nat) (E : Ec) : Prop := KeyOk n E ∧ ∃ D C, RelOk κ (Sp E) D C ∧ ∀ p r, gE E p = some r → HRow n P (Sp E) D C p r
theorem key_cnt {n : Nat} {E : Ec} (h : KeyOk n E) : cnt (fun p => (gE E p).isSome) n = E.length := by
  have := (keys_perm h).length_eq
  unfold ecD at this
  rw [List.length_map, List.length_map, List.length_map] at this
  exact this
theorem key_len {n : Nat} {E : Ec} (h : KeyOk n E) : E.length ≤ n := by
  rw [← key_cnt h]
  unfold cnt
  exact Nat.le_trans (List.length_filter_le _ _) (by rw [List.length_range]; exact Nat.le_refl n)
/-- the relations over one rank more -/
theorem new_rel {n κ P T Δ X rk c : Nat} {b : Nat → Bool} {D : Nat → Int} {C : Nat → Nat → Int} {δ : Nat → Int} {E : Ec} {v : Vc} {α : Int} (N : Nums n κ P T Δ X rk) (R : RelOk κ (fun p => b p = true) D C) (hδ : ∀ j, (δ j).natAbs ≤ Δ) (hr : cnt b n ≤ rk)
    (a : ASt n P T c b D C δ E v α) (hc : c < n) (hb : ¬ b c = true) (hv : at_ v c ≠ 0) : HInv n (2 * (Δ * κ)) X (pE E c (if at_ v c < 0 then scaleL (-1) v else v)) := by
  have hg : gE E c = none := by
    cases h : gE E c with
    | none => rfl
    | some r => exact absurd ((a.sp c).mp (by unfold Sp; rw [h]; rfl)) hb
  have bv := a.bd N R hδ (Nat.le_trans (cnt_mono b (by omega)) hr)
  have hs : ∀ j, at_ (if at_ v c < 0 then scaleL (-1) v else v) j = (if at_ v c < 0 then -1 else 1) * at_ v j := fun j => by
    split
    · rw [at_scale]
    · omega
  have hsp : ∀ p, Sp (pE E c (if at_ v c < 0 then scaleL (-1) v else v)) p ↔ (b p = true ∨ p = c) := fun p => by
    unfold Sp
    rw [gE_pE]
    by_cases z : p = c
    · rw [if_pos z]; simp [z]
    · rw [if_neg z]
      simp only [z, or_false]
      exact a.sp p
  have d0 : ∀ j, j < n → j < c → ¬ b j = true → δ j = 0 := fun j hj hjc hbj => by
    have h1 := a.vd j hj hbj
    have h2 : dfc D C (at_ v) j = 0 := by
      unfold dfc
      rw [a.vz j hjc, sm_zero (fun p hp => by rw [a.vz p (by omega)]; omega)]; omega
    rw [h2] at h1
    rcases Int.mul_eq_zero.mp h1.symm with h | h
    · exact absurd h a.a0
    · exact h
  have dc : δ c ≠ 0 := fun z => by
    have h1 := a.vd c hc hb
    rw [z] at h1
    have h2 : dfc D C (at_ v) c = D c * at_ v c := by
      unfold dfc
      rw [sm_zero (fun p hp => by rw [a.vz p hp]; omega)]; omega
    rw [h2] at h1
    have : D c * at_ v c = 0 := by omega
    rcases Int.mul_eq_zero.mp this with h | h
    · exact R.d0 c h
    · exact hv h
  refine ⟨a.key.put hc, fun j => δ c * D j, fun j p => if p = c then (if c < j then δ j * D c else 0) else δ c * C j p - (if c < j then δ j else 0) * (if p < c then C c p else 0), ?_, ?_⟩
  · refine ⟨fun j => Int.mul_ne_zero dc (R.d0 j), fun j => ?_, fun j p => ?_, fun j p hp => ?_⟩
    · rw [Int.natAbs_mul]
      have := Nat.mul_le_mul (hδ c) (R.dk j)
      omega
    · have k1 := Nat.mul_le_mul (hδ c) (R.ck j p)
      have k2 := Nat.mul_le_mul (hδ j) (R.dk c)
      have k3 := Nat.mul_le_mul (hδ j) (R.ck c p)
      rw [← Int.natAbs_mul] at k1 k2 k3
      split
      · split
        · omega
        · simp
      · split
        · split
          · omega
          · rw [Int.mul_zero, Int.sub_zero]; omega
        · rw [Int.zero_mul, Int.sub_zero]; omega
    · rw [hsp] at hp
      have h1 : ¬ b p = true := fun z => hp (.inl z)
      have h2 : p ≠ c := fun z => hp (.inr z)
      rw [if_neg h2, R.cs j p h1, R.cs c p h1]
      split <;> split <;> omega
  · -- what holds of any vector with defects in proportion
    have key : ∀ (x : Vc) (γ : Int), (∀ j, j < n → ¬ b j = true → dfc D C (at_ x) j = γ * δ j) → ∀ j, j < n → ¬ (b j = true ∨ j = c) →
        dfc (fun j => δ c * D j) (fun j p => if p = c then (if c < j then δ j * D c else 0) else δ c * C j p - (if c < j then δ j else 0) * (if p < c then C c p else 0)) (at_ x) j = 0 := fun x γ hx j hj hjn => by
      have hbj : ¬ b j = true := fun z => hjn (.inl z)
      have hjc : j ≠ c := fun z => hjn (.inr z)
      have e1 := hx j hj hbj
      have e2 := hx c hc hb
      unfold dfc at e1 e2 ⊢
      by_cases hcj : c < j
      · -- the sum in three parts
        have sA : sm j (fun p => (if p = c then (if c < j then δ j * D c else 0) else δ c * C j p - (if c < j then δ j else 0) * (if p < c then C c p else 0)) * at_ x p)
            = δ c * sm j (fun p => C j p * at_ x p) + 1 * sm j (fun p => if p = c then δ j * D c * at_ x c else -(δ j) * (if p < c then C c p * at_ x p else 0)) := by
          rw [← sm_lin]
          apply sm_congr
          intro p _
          by_cases hp : p = c
          · rw [if_pos hp, if_pos hp, if_pos hcj, hp, R.cs j c hb]; grind
          · rw [if_neg hp, if_neg hp, if_pos hcj]
            split <;> grind
        have sB : sm j (fun p => if p = c then δ j * D c * at_ x c else -(δ j) * (if p < c then C c p * at_ x p else 0)) = 1 * (δ j * D c * at_ x c) + -(δ j) * sm c (fun p => C c p * at_ x p) := by
          have s1 : sm j (fun p => if p = c then δ j * D c * at_ x c else -(δ j) * (if p < c then C c p * at_ x p else 0)) = 1 * sm j (fun p => if p = c then δ j * D c * at_ x c else 0) + -(δ j) * sm j (fun p => if p < c then C c p * at_ x p else 0) := by
            rw [← sm_lin]
            apply sm_congr
            intro p _
            by_cases hp : p = c
            · rw [if_pos hp, if_pos hp, if_neg (by omega)]; omega
            · rw [if_neg hp, if_neg hp]; omega
          have s2 : sm j (fun p => if p = c then δ j * D c * at_ x c else 0) = δ j * D c * at_ x c := by
            rw [sm_one hcj (fun p _ hp => if_neg hp), if_pos rfl]
          have s3 : ∀ k, c ≤ k → sm k (fun p => if p < c then C c p * at_ x p else 0) = sm c (fun p => C c p * at_ x p) := by
            intro k
            induction k with
            | zero => intro h; have : c = 0 := by omega
                      subst this; rfl
            | succ k ih =>
              intro h
              by_cases z : c = k + 1
              · rw [z]
                apply sm_congr
                intro p hp
                rw [if_pos (by omega)]
              · show sm k _ + (if k < c then _ else 0) = _
                rw [ih (by omega), if_neg (by omega)]; omega
          rw [s1, s2, s3 j (by omega)]
        rw [sA, sB]
        grind
      · have hj2 : j < c := by omega
        have sA : sm j (fun p => (if p = c then (if c < j then δ j * D c else 0) else δ c * C j p - (if c < j then δ j else 0) * (if p < c then C c p else 0)) * at_ x p) = δ c * sm j (fun p => C j p * at_ x p) + 0 * sm j (fun p => 0) := by
          rw [← sm_lin]
          apply sm_congr
          intro p hp
          rw [if_neg (by omega), if_neg hcj]; grind
        rw [sA]
        rw [d0 j hj hj2 hbj] at e1
        grind
    have keyS : ∀ (x : Vc) (γ : Int), (∀ j, j < n → ¬ b j = true → dfc D C (at_ x) j = γ * δ j) → ∀ j, j < n → ¬ Sp (pE E c (if at_ v c < 0 then scaleL (-1) v else v)) j →
        dfc (fun j => δ c * D j) (fun j p => if p = c then (if c < j then δ j * D c else 0) else δ c * C j p - (if c < j then δ j else 0) * (if p < c then C c p else 0)) (at_ x) j = 0 := fun x γ hx j hj hjn => key x γ hx j hj (fun z => hjn ((hsp j).mpr z))
    intro p r hgp
    rw [gE_pE] at hgp
    by_cases hp : p = c
    · rw [if_pos hp] at hgp
      have er : r = (if at_ v c < 0 then scaleL (-1) v else v) := (Option.some.inj hgp).symm
      rw [hp]
      refine ⟨?_, hc, fun j hj => ?_, ?_, fun q _ => ?_, ?_⟩
      · rw [er]; split
        · rw [scale_len]; exact a.vl
        · exact a.vl
      · rw [er, hs, a.vz j hj]; omega
      · rw [er, hs]; split <;> omega
      · have := bv.2 q
        rw [er, hs]
        split <;> omega
      · refine keyS r ((if at_ v c < 0 then -1 else 1) * α) fun j hj hbj => ?_
        rw [dfc_lin D C (at_ v) (at_ v) (at_ r) (if at_ v c < 0 then -1 else 1) 0 (fun j => by rw [er, hs]; omega) j, a.vd j hj hbj]; grind
    · rw [if_neg hp] at hgp
      have x := a.rows p r hgp
      obtain ⟨β, h1, _, h3⟩ := x.hd
      have bx := x.bd N R hδ
      exact ⟨x.hl, x.hp, x.hz, x.pos, fun q _ => bx.2 q, keyS r β h3⟩
theorem add_vec {n κ P T X M : Nat} {E : Ec} {v : Vc} (N : Nums n κ P T ((n + 1) * (κ * M)) X E.length) (h : HInv n κ P E) (hv : Bd n M v) (hMP : M ≤ P) :
    ∃ E', AddRun n 0 E v E' ∧ SpEq (GEv E v) (GE E') ∧ ((E'.length = E.length ∧ HInv n κ P E') ∨ (E'.length = E.length + 1 ∧ HInv n (2 * ((n + 1) * (κ * M) * κ)) X E')) := by
  obtain ⟨hk, D, C, R, hrows⟩ := h
  have R' : RelOk κ (fun p => (gE E p).isSome = true) D C := R
  have hδ : ∀ j, (if j < n then dfc D C (at_ v) j else 0).natAbs ≤ (n + 1) * (κ * M) := fun j => by
    split
    · rename_i hj
      unfold dfc
      have h1 : (D j * at_ v j).natAbs ≤ κ * M := by rw [Int.natAbs_mul]; exact Nat.mul_le_mul (R.dk j) (hv.2 j)
      have h2 : (sm j (fun p => C j p * at_ v p)).natAbs ≤ j * (κ * M) := sm_abs fun p _ => by
        rw [Int.natAbs_mul]; exact Nat.mul_le_mul (R.ck j p) (hv.2 p)
      have h3 : j * (κ * M) ≤ n * (κ * M) := Nat.mul_le_mul_right _ (by omega)
      rw [Nat.succ_mul]
      omega
    · simp
  have a : ASt n P T 0 (fun p => (gE E p).isSome) D C (fun j => if j < n then dfc D C (at_ v) j else 0) E v 1 := by
    refine ⟨hk, fun p => Iff.rfl, fun p r hg => ?_, hv.1, fun j hj => by omega, fun q _ => Nat.le_trans (hv.2 q) hMP, fun j hj _ => by rw [if_pos hj]; omega, by decide, by show 1 ≤ P ^ cnt _ 0; exact Nat.one_le_pow _ _ N.p1⟩
    have x := hrows p r hg
    exact ⟨x.hl, x.hp, x.hz, x.pos, x.hq, 0, by simp, fun _ => rfl, fun j hj hb => by rw [x.hd j hj hb]; omega⟩
  obtain ⟨E', run, sp, h⟩ := add_all N R' hδ (Nat.le_of_eq (key_cnt hk)) n 0 E v 1 (by omega) a
  refine ⟨E', run, sp, ?_⟩
  rcases h with ⟨k1, k2, k3, k4, k5⟩ | ⟨c1, E1, v1, α1, a1, hc1, hb1, hv1, hl1, rfl⟩
  · refine .inl ⟨k4, k1, D, C, ⟨R.d0, R.dk, R.ck, fun j p hp => R.cs j p fun z => hp ((k2 p).mpr z)⟩, fun p r hg => ?_⟩
    have x := k3 p r hg
    refine ⟨x.hl, x.hp, x.hz, x.pos, fun q hq => x.hq q ((k2 q).mp hq), fun j hj hb => ?_⟩
    obtain ⟨β, _, _, h3⟩ := x.hd
    have hb' : ¬ (gE E j).isSome = true := fun z => hb ((k2 j).mpr z)
    rw [h3 j hj hb', k5 j hj hb']; omega
  · refine .inr ⟨?_, new_rel N R' hδ (Nat.le_of_eq (key_cnt hk)) a1 hc1 hb1 hv1⟩
    have hg : (E1.any fun q => decide (q.1 = c1)) = false := by
      rw [← gE_any]
      cases h : gE E1 c1 with
      | none => rfl
      | some r => exact absurd ((a1.sp c1).mp (by unfold Sp; rw [h]; rfl)) hb1
    unfold pE
    rw [if_neg (by rw [hg]; exact Bool.false_ne_true), List.length_append, hl1]; rfl
end K87

namespace K87
open PySem PySem.Spec PyProof.Rows L2 DL
open PySem.Builtin.Int (intBits)
/-! ### the bounds by the rank -/
def fa (m : Nat) : Nat → Nat
  | 0 => 0
  | r + 1 => 2 * fa m r + m + 4
def fb (m : Nat) : Nat → Nat
  | 0 => m
  | r + 1 => (r + 1) * fb m r + fa m r + m + 6
theorem le_fb (m : Nat) : ∀ r, m ≤ fb m r
  | 0 => Nat.le_refl _
  | r + 1 => by show m ≤ (r + 1) * fb m r + fa m r + m + 6; omega
def Fits (n m : Nat) : Prop := ∀ r, r ≤ n → 3 + fb m r + fb m (r + 1) + (fb m (r + 1) + 1) * n < 60000000
theorem nums_of {n m r : Nat} (hn : n ≤ 6) (hr : r ≤ n) (hS : Fits n m) : Nums n (2 ^ fa m r) (2 ^ fb m r) ((3 * 2 ^ fb m r + 1) * (2 ^ fb m r) ^ r) ((n + 1) * (2 ^ fa m r * 2 ^ m)) (2 ^ fb m (r + 1)) r := by
  have h := hS r hr
  have e : fb m (r + 1) = (r + 1) * fb m r + fa m r + m + 6 := rfl
  generalize fa m r = a at e
  generalize hb : fb m r = b at e h
  generalize hx : fb m (r + 1) = x at e h
  have hb1 := one_pow2 b
  have ht : (3 * 2 ^ b + 1) * (2 ^ b) ^ r ≤ 2 ^ (2 + (r + 1) * b) := by
    have h1 : 3 * 2 ^ b + 1 ≤ 2 ^ (b + 2) := by rw [Nat.pow_add]; omega
    have h2 : (2 ^ b) ^ r = 2 ^ (b * r) := (Nat.pow_mul 2 b r).symm
    rw [h2]
    refine Nat.le_trans (Nat.mul_le_mul_right _ h1) ?_
    rw [← Nat.pow_add]
    refine pow_mono2 ?_
    rw [Nat.succ_mul, Nat.mul_comm b r]; omega
  have h8 : n + 1 ≤ 2 ^ 3 := by omega
  refine ⟨hb1, Nat.le_refl _, ?_, ?_⟩
  · have t1 : n * (2 ^ a * 2 ^ b) ≤ 2 ^ ((r + 1) * b + a + m + 4) := by
      rw [← Nat.pow_add]
      refine Nat.le_trans (Nat.mul_le_mul_right _ (show n ≤ 2 ^ 3 by omega)) ?_
      rw [← Nat.pow_add]
      refine pow_mono2 ?_
      rw [Nat.succ_mul]; omega
    have t2 : (3 * 2 ^ b + 1) * (2 ^ b) ^ r * ((n + 1) * (2 ^ a * 2 ^ m)) ≤ 2 ^ ((r + 1) * b + a + m + 5) := by
      refine Nat.le_trans (Nat.mul_le_mul ht (Nat.mul_le_mul_right _ h8)) ?_
      rw [← Nat.pow_add, ← Nat.pow_add, ← Nat.pow_add]
      exact pow_mono2 (by omega)
    have t3 : 2 ^ b ≤ 2 ^ ((r + 1) * b + a + m + 4) := pow_mono2 (by rw [Nat.succ_mul]; omega)
    have t4 : 2 ^ ((r + 1) * b + a + m + 5) = 2 * 2 ^ ((r + 1) * b + a + m + 4) := by rw [Nat.pow_succ]; omega
    have t5 : 2 ^ x = 4 * 2 ^ ((r + 1) * b + a + m + 4) := by
      rw [e, show (r + 1) * b + a + m + 6 = ((r + 1) * b + a + m + 4) + 2 from rfl, Nat.pow_add]; omega
    rw [t5]; omega
  · intro y hy
    refine sm_pow (s := 3 + b + x + (x + 1) * n) h (Nat.le_trans hy ?_)
    have h1 : 3 * 2 ^ b + 1 ≤ 2 ^ (b + 2) := by rw [Nat.pow_add]; omega
    have h2 : (3 * 2 ^ b + 1) * 2 ^ x ≤ 2 ^ (b + 2 + x) := by
      rw [Nat.pow_add 2 (b + 2) x]; exact Nat.mul_le_mul_right _ h1
    have h3 : (3 * 2 ^ b + 1) * 2 ^ x + (3 * 2 ^ b + 1) * 2 ^ x ≤ 2 ^ (3 + b + x) := by
      have : 2 ^ (3 + b + x) = 2 * 2 ^ (b + 2 + x) := by rw [show 3 + b + x = (b + 2 + x) + 1 by omega, Nat.pow_succ]; omega
      omega
    have h4 : (2 * 2 ^ x) ^ n = 2 ^ ((x + 1) * n) := by rw [← Nat.pow_succ', Nat.pow_mul]
    rw [h4]
    refine Nat.le_trans (Nat.mul_le_mul_right _ h3) ?_
    rw [← Nat.pow_add]
    exact Nat.le_refl _
theorem HInv.mono {n κ P κ' P' : Nat} {E : Ec} (h : HInv n κ P E) (h1 : κ ≤ κ') (h2 : P ≤ P') : HInv n κ' P' E := by
  obtain ⟨k, D, C, R, rows⟩ := h
  exact ⟨k, D, C, ⟨R.d0, fun j => Nat.le_trans (R.dk j) h1, fun j p => Nat.le_trans (R.ck j p) h1, R.cs⟩, fun p r hg => by
    have x := rows p r hg
    exact ⟨x.hl, x.hp, x.hz, x.pos, fun q hq => Nat.le_trans (x.hq q hq) h2, x.hd⟩⟩
theorem herm_run {n m : Nat} (hn : n ≤ 6) (hS : Fits n m) : ∀ (rows : List Vc) (E : Ec), (∀ r ∈ rows, Bd n (2 ^ m) r) → HInv n (2 ^ fa m E.length) (2 ^ fb m E.length) E →
    ∃ E', HRun n rows E E' ∧ SpEq (fun g => GE E g ∨ Gr rows g) (GE E') ∧ HInv n (2 ^ fa m E'.length) (2 ^ fb m E'.length) E' := by
  intro rows
  induction rows with
  | nil =>
    intro E _ h
    exact ⟨E, .nil, .same fun g => ⟨fun h => by
      rcases h with h | ⟨x, hx, _⟩
      · exact h
      · simp at hx, fun h => .inl h⟩, h⟩
  | cons v rs ih =>
    intro E hr h
    have N := nums_of hn (key_len h.1) hS
    obtain ⟨E1, run, sp, hE1⟩ := add_vec N h (hr v (by simp)) (pow_mono2 (le_fb m E.length))
    have h1 : HInv n (2 ^ fa m E1.length) (2 ^ fb m E1.length) E1 := by
      rcases hE1 with ⟨e, h1⟩ | ⟨e, h1⟩
      · rw [e]; exact h1
      · rw [e]
        refine h1.mono ?_ (Nat.le_refl _)
        show 2 * ((n + 1) * (2 ^ fa m E.length * 2 ^ m) * 2 ^ fa m E.length) ≤ 2 ^ (2 * fa m E.length + m + 4)
        generalize fa m E.length = a
        have h8 : n + 1 ≤ 2 ^ 3 := by omega
        have t : (n + 1) * (2 ^ a * 2 ^ m) * 2 ^ a ≤ 2 ^ 3 * (2 ^ a * 2 ^ m) * 2 ^ a := Nat.mul_le_mul_right _ (Nat.mul_le_mul_right _ h8)
        rw [← Nat.pow_add, ← Nat.pow_add, ← Nat.pow_add] at t
        have e2 : 2 ^ (2 * a + m + 4) = 2 * 2 ^ (3 + (a + m) + a) := by rw [show 2 * a + m + 4 = (3 + (a + m) + a) + 1 by omega, Nat.pow_succ]; omega
        rw [← Nat.pow_add 2 a m]
        omega
    obtain ⟨E', run2, sp2, h2⟩ := ih E1 (fun r hr' => hr r (by simp [hr'])) h1
    refine ⟨E', .cons (hr v (by simp)).1 run run2, ?_, h2⟩
    refine SpEq.trans ⟨fun g hg => ?_, fun g hg => ?_⟩ sp2
    · have up : ∀ u, Lat (GE E1) u → Lat (fun g => GE E1 g ∨ Gr rs g) u := fun u h => h.mono fun g hg => .inl hg
      rcases hg with hg | ⟨x, hx, rfl⟩
      · exact up _ (sp.l g (.inl hg))
      · rcases List.mem_cons.mp hx with rfl | hx
        · exact up _ (sp.l _ (.inr rfl))
        · exact .of (.inr ⟨x, hx, rfl⟩)
    · rcases hg with hg | ⟨x, hx, rfl⟩
      · refine (sp.r g hg).mono fun u hu => ?_
        rcases hu with hu | rfl
        · exact .inl hu
        · exact .inr ⟨v, by simp, rfl⟩
      · exact .of (.inr ⟨x, by simp [hx], rfl⟩)
theorem hinv_nil (n κ P : Nat) (h : 1 ≤ κ) : HInv n κ P [] :=
  ⟨⟨List.nodup_nil, fun q hq => by simp at hq⟩, fun _ => 1, fun _ _ => 0, ⟨fun _ => by decide, fun _ => h, fun _ _ => by simp, fun _ _ _ => rfl⟩, fun p r hg => nomatch hg⟩
/-! ### the echelon of all vectors -/
def GEk (E : Ec) (k : Nat) : Fv → Prop := fun g => ∃ p r, k ≤ p ∧ gE E p = some r ∧ g = at_ r
theorem gek_dec {E : Ec} {k : Nat} {u : Fv} (h : Lat (GEk E k) u) : ∃ (a : Int) (w : Fv), Lat (GEk E (k + 1)) w ∧ (gE E k = none → ∀ j, u j = w j) ∧ ∀ r, gE E k = some r → ∀ j, u j = w j + a * at_ r j := by
  induction h with
  | zero => exact ⟨0, fun _ => 0, .zero, fun _ _ => rfl, fun r _ j => by show (0 : Int) = 0 + 0 * at_ r j; omega⟩
  | @add u g m _ hg ih =>
    obtain ⟨a, w, h1, h2, h3⟩ := ih
    obtain ⟨p, x, hp, hx, rfl⟩ := hg
    by_cases z : p = k
    · subst z
      refine ⟨a + m, w, h1, fun h => by (rw [h] at hx; cases hx), fun r hr j => ?_⟩
      rw [hx] at hr; cases hr
      show u j + m * at_ x j = _
      rw [h3 x hx j]; grind
    · refine ⟨a, fun j => w j + m * at_ x j, .add m h1 ⟨p, x, by omega, hx, rfl⟩, fun h j => ?_, fun r hr j => ?_⟩
      · show u j + m * at_ x j = w j + m * at_ x j
        rw [h2 h j]
      · show u j + m * at_ x j = w j + m * at_ x j + a * at_ r j
        rw [h3 r hr j]; omega
theorem gek_z {n κ P : Nat} {E : Ec} (h : HInv n κ P E) {k : Nat} {u : Fv} (hu : Lat (GEk E (k + 1)) u) : u k = 0 := by
  obtain ⟨_, D, C, _, rows⟩ := h
  induction hu with
  | zero => rfl
  | @add u g m _ hg ih =>
    obtain ⟨p, x, hp, hx, rfl⟩ := hg
    show u k + m * at_ x k = 0
    rw [ih, (rows p x hx).hz k (by omega)]; omega
theorem ge_tail {n κ P : Nat} {E : Ec} (h : HInv n κ P E) {u : Fv} (hu : Lat (GE E) u) : ∀ k, (∀ j, j < k → u j = 0) → Lat (GEk E k) u
  | 0, _ => hu.mono fun g hg => by
    obtain ⟨p, r, h1, h2⟩ := hg
    exact ⟨p, r, Nat.zero_le _, h1, h2⟩
  | k + 1, hz => by
    have h1 := ge_tail h hu k fun j hj => hz j (by omega)
    obtain ⟨a, w, w1, w2, w3⟩ := gek_dec h1
    have wz := gek_z h w1
    have uz := hz k (by omega)
    cases hg : gE E k with
    | none => exact w1.eq fun j => (w2 hg j).symm
    | some r =>
      have e := w3 r hg k
      have hpos : 0 < at_ r k := by
        obtain ⟨_, D, C, _, rows⟩ := h
        exact (rows k r hg).pos
      rw [uz, wz] at e
      have ha : a = 0 := by
        have : a * at_ r k = 0 := by omega
        rcases Int.mul_eq_zero.mp this with h | h
        · exact h
        · omega
      exact w1.eq fun j => by rw [w3 r hg j, ha]; omega
theorem at_unit_c {n k j : Nat} (hk : k < n) : at_ (unitL n (k : Int)) j = if j = k then 1 else 0 := by
  rw [at_unit]
  by_cases h : j = k
  · rw [if_pos h, if_pos ⟨by omega, h⟩]
  · rw [if_neg h, if_neg fun z => h z.2]
theorem herm_units {n κ P T Δ X rk : Nat} {E : Ec} (hX : 1 ≤ X) (h : HInv n κ P E) (hb : ∀ p r, gE E p = some r → Bd n X r) :
    hermF n E = unitsL n ↔ ∀ k, k < n → Lat (GE E) (at_ (unitL n (k : Int))) := by
  obtain ⟨hk, D, C, R, rows⟩ := id h
  have hR : ∀ c p r, c < p → gE E p = some r → p < n ∧ Bd n X r ∧ (∀ j, j < p → at_ r j = 0) ∧ 0 < at_ r p := fun c p r _ hg => ⟨(rows p r hg).hp, hb p r hg, (rows p r hg).hz, (rows p r hg).pos⟩
  constructor
  · intro he k hkn
    have hm : unitL n (k : Int) ∈ hermF n E := by
      rw [he]
      exact List.mem_map.mpr ⟨k, List.mem_range.mpr hkn, rfl⟩
    obtain ⟨p, hp, e⟩ := List.mem_map.mp hm
    obtain ⟨r, hg⟩ := keys_get hp
    rw [hg] at e
    obtain ⟨_, _, _, u, hu, e5⟩ := low_ex hX (hR p) (hb p r hg) n
    rw [← lowF_N] at e5
    have e : lowF n E p r = unitL n (k : Int) := e
    rw [e] at e5
    have l1 : Lat (GE E) (at_ r) := .of ⟨p, r, hg, rfl⟩
    have l2 : Lat (GE E) u := hu.mono fun g hg => by
      obtain ⟨p, r, _, h1, h2⟩ := hg
      exact ⟨p, r, h1, h2⟩
    exact lat2 (a := 1) (b := 1) l1 l2 fun j => by rw [e5]; omega
  · intro hu
    have piv : ∀ k, k < n → ∃ r, gE E k = some r ∧ at_ r k = 1 := fun k hkn => by
      have t := ge_tail h (hu k hkn) k fun j hj => by rw [at_unit_c hkn, if_neg (by omega)]
      obtain ⟨a, w, w1, w2, w3⟩ := gek_dec t
      have wz := gek_z h w1
      have uk : at_ (unitL n (k : Int)) k = 1 := by rw [at_unit_c hkn, if_pos rfl]
      cases hg : gE E k with
      | none =>
        have := w2 hg k
        omega
      | some r =>
        have e := w3 r hg k
        rw [uk, wz] at e
        refine ⟨r, rfl, ?_⟩
        have hd : at_ r k ∣ 1 := ⟨a, by rw [Int.mul_comm]; omega⟩
        have hp := (rows k r hg).pos
        exact Int.eq_one_of_dvd_one (by omega) hd
    have hks : keysE n E = List.range n := by
      unfold keysE
      rw [List.filter_eq_self]
      intro p hp
      obtain ⟨r, hg, _⟩ := piv p (List.mem_range.mp hp)
      rw [hg]; rfl
    unfold hermF unitsL
    rw [hks]
    apply List.map_congr_left
    intro p hp
    have hpn := List.mem_range.mp hp
    obtain ⟨r, hg, h1⟩ := piv p hpn
    rw [hg]
    show lowF n E p r = _
    obtain ⟨b1, b2, b3, _⟩ := low_ex hX (hR p) (hb p r hg) n
    rw [← lowF_N] at b1 b2 b3
    refine vc_ext b1.1 unit_len fun j hj => ?_
    rw [at_unit_c hpn]
    by_cases z : j = p
    · rw [if_pos z, b2 j (by omega), z]; exact h1
    · rw [if_neg z]
      by_cases z2 : j < p
      · rw [b2 j (by omega), (rows p r hg).hz j z2]
      · obtain ⟨rj, hgj, hj1⟩ := piv j hj
        have := b3 j rj (by omega) hj hgj
        omega
/-- hermite of rows with small entries, against all vectors -/
theorem herm_ex {n m : Nat} (hn : n ≤ 6) (hS : Fits n m) {rows : List Vc} (hr : ∀ r ∈ rows, Bd n (2 ^ m) r) :
    ∃ E, HRun n rows [] E ∧ EOk n E ∧ (∀ p r, gE E p = some r → LowOk n E p r) ∧ (hermF n E = unitsL n ↔ ∀ k, k < n → Lat (Gr rows) (at_ (unitL n (k : Int)))) := by
  obtain ⟨E, run, sp, h⟩ := herm_run hn hS rows [] hr (hinv_nil n _ _ (one_pow2 _))
  have N := nums_of hn (key_len h.1) hS
  obtain ⟨hk, D, C, R, rws⟩ := id h
  have hX : 1 ≤ 2 ^ fb m (E.length + 1) := one_pow2 _
  have hb : ∀ p r, gE E p = some r → Bd n (2 ^ fb m (E.length + 1)) r := fun p r hg => ⟨(rws p r hg).hl, fun j => by
    have hx := N.x
    have x := rws p r hg
    by_cases hj : j < n
    · by_cases s : Sp E j
      · have := x.hq j s; omega
      · have := ent_bd R.d0 R.ck R.cs x.hq (j := j) (B := 0) hj (by rw [x.hd j hj s]; simp)
        exact Nat.le_trans this (Nat.le_trans (Nat.le_trans (Nat.le_add_right _ _) (Nat.le_add_right _ _)) hx)
    · rw [at_out (by rw [x.hl]; omega)]; simp⟩
  have hR : ∀ c p r, c < p → gE E p = some r → p < n ∧ Bd n (2 ^ fb m (E.length + 1)) r ∧ (∀ j, j < p → at_ r j = 0) ∧ 0 < at_ r p := fun c p r _ hg => ⟨(rws p r hg).hp, hb p r hg, (rws p r hg).hz, (rws p r hg).pos⟩
  refine ⟨E, run, ⟨hk, fun p r hg => ⟨(rws p r hg).hp, (hb p r hg).vn N.smX, by have := (rws p r hg).pos; omega⟩⟩, fun p r hg => lowOk_of fun q hq => ?_, ?_⟩
  · refine (low_ex hX (hR p) (hb p r hg) q).1.vn fun x hx => N.s x (Nat.le_trans hx ?_)
    refine Nat.mul_le_mul ?_ (Nat.pow_le_pow_right (by omega) hq)
    exact Nat.le_trans (Nat.le_mul_of_pos_left (2 ^ fb m (E.length + 1)) (show 0 < 3 * 2 ^ fb m E.length + 1 by omega)) (Nat.le_add_right _ _)
  · rw [herm_units (T := 0) (Δ := 0) (rk := 0) hX h hb]
    have : ∀ u, Lat (Gr rows) u ↔ Lat (GE E) u := fun u => (SpEq.trans (.same fun g => ⟨fun h => .inr h, fun h => by
      rcases h with ⟨p, r, h, _⟩ | h
      · cases h
      · exact h⟩) sp).iff
    exact ⟨fun h k hk => (this _).mpr (h k hk), fun h k hk => (this _).mp (h k hk)⟩
theorem fits_6 : Fits 6 10 := by unfold Fits; decide +kernel
theorem fits_le {n m : Nat} (hn : n ≤ 4) : Fits n 20 := by
  have h : ∀ n, n ≤ 4 → ∀ r, r ≤ n → 3 + fb 20 r + fb 20 (r + 1) + (fb 20 (r + 1) + 1) * n < 60000000 := by decide +kernel
  exact fun r hr => h n hn r hr
theorem fits_le6 {n : Nat} (hn : n ≤ 6) : Fits n 10 := by
  have h : ∀ n, n ≤ 6 → ∀ r, r ≤ n → 3 + fb 10 r + fb 10 (r + 1) + (fb 10 (r + 1) + 1) * n < 60000000 := by decide +kernel
  exact fun r hr => h n hn r hr
theorem fits_all {n : Nat} (hn : n ≤ 6) : Fits n 20 := by
  have h : ∀ n, n ≤ 6 → ∀ r, r ≤ n → 3 + fb 20 r + fb 20 (r + 1) + (fb 20 (r + 1) + 1) * n < 60000000 := by decide +kernel
  exact fun r hr => h n hn r hr
end K87

namespace K87
open PySem PySem.Spec PyProof.Rows L2 DL
open PySem.Builtin.Int (intBits)
variable {P : Program} {w : World} {K : PySem.W.Frag} {mg : Str → Option Value} {base : Heap}
/-! ### draws -/
structure Stm where
  cs : List Int
  a : Int
  b : Int
  c : Int
def stmS (s : Stm) : Sl := .stm s.cs s.a s.b s.c
def drA (s : Stm) : Stm := if s.a = 0 then (match s.cs with
  | [] => ⟨[], s.a, s.b + 1, s.c⟩
  | x :: r => if x < 10 ^ 18 then ⟨r, 0, s.b + 1, (s.c * 39373 + x).fmod 2147483647⟩ else ⟨r, x, s.b + 1, s.c⟩) else ⟨s.cs, s.a, s.b + 1, s.c⟩
def drV (s : Stm) (many : Int) : Int := if 0 < (drA s).a then (drA s).a.fmod many else ((((((drA s).c + 7919 * (drA s).b + 104729) ^ 5).fmod 2147483647 + (drA s).b) * 48271).fmod 2147483629).fmod many
def drS (s : Stm) (many : Int) : Stm := if 0 < (drA s).a then ⟨(drA s).cs, (drA s).a.fdiv many, (drA s).b, (drA s).c⟩ else drA s
def SOk (m : Nat) (s : Stm) : Prop := 0 ≤ s.c ∧ s.c < 2147483647 ∧ 0 ≤ s.b ∧ s.b ≤ m
theorem sok_drA {m : Nat} {s : Stm} (h : SOk m s) : SOk (m + 1) (drA s) := by
  obtain ⟨h1, h2, h3, h4⟩ := h
  unfold drA
  have f1 := fun x : Int => Int.fmod_nonneg_of_pos x (show (0 : Int) < 2147483647 by decide)
  have f2 := fun x : Int => Int.fmod_lt_of_pos x (show (0 : Int) < 2147483647 by decide)
  split
  · split
    · exact ⟨h1, h2, by show 0 ≤ s.b + 1; omega, by show s.b + 1 ≤ _; omega⟩
    · split
      · exact ⟨f1 _, f2 _, by show 0 ≤ s.b + 1; omega, by show s.b + 1 ≤ _; omega⟩
      · exact ⟨h1, h2, by show 0 ≤ s.b + 1; omega, by show s.b + 1 ≤ _; omega⟩
  · exact ⟨h1, h2, by show 0 ≤ s.b + 1; omega, by show s.b + 1 ≤ _; omega⟩
theorem sok_dr {m : Nat} {s : Stm} (many : Int) (h : SOk m s) : SOk (m + 1) (drS s many) := by
  have := sok_drA h
  unfold drS
  split
  · exact this
  · exact this
theorem drV_rng (s : Stm) {many : Int} (h : 0 < many) : 0 ≤ drV s many ∧ drV s many < many := by
  unfold drV
  split
  · exact ⟨Int.fmod_nonneg_of_pos _ h, Int.fmod_lt_of_pos _ h⟩
  · exact ⟨Int.fmod_nonneg_of_pos _ h, Int.fmod_lt_of_pos _ h⟩
theorem SOk.mono {m k : Nat} {s : Stm} (h : SOk m s) (hk : m ≤ k) : SOk k s := ⟨h.1, h.2.1, h.2.2.1, by have := h.2.2.2; omega⟩
abbrev s_law_draw : Stmt := topS 24
abbrev nm_law_draw : List Str := ["stream", "many", "number"]
theorem sc_law_draw : FnScope nm_law_draw ["stream", "many"] (defScope s_law_draw) := ⟨rfl, rfl, rfl, by decide +kernel, rfl, by decide +kernel, by decide +kernel⟩
def F_law_draw (sl : Sl) (ds : List PyData) (d : PyData) (sl' : Sl) : Prop := ∃ (s : Stm) (many : Int) (m : Nat), sl = stmS s ∧ ds = [.int many] ∧ 0 < many ∧ SOk m s ∧ m ≤ 100000 ∧ d = .int (drV s many) ∧ sl' = stmS (drS s many)
abbrev T_law_draw (P : Program) (w : World) (K : PySem.W.Frag) (mg : Str → Option Value) (base : Heap) : Prop := Cal P w K mg base "_law_draw" 41 ["stream", "many"] (PO K F_law_draw)
theorem ok_law_draw (S : Sur P mg base) (A : FunAt K mg "_law_draw" s_law_draw) : T_law_draw P w K mg base := by
  refine cal_own A sc_law_draw (fun _ _ _ _ _ _ us hl => match us, hl with | [_, _], _ => rfl) ?_ (fun f cdv A outer s H E hr => ⟨_, (pss_cons (ps_asg (pe_op (kAdd K) (pe_ix (kIx K) (pv 0) pe_int (fun _ _ => rfl)) pe_int) (pg_sub (pv 0) pe_int set_list)) (pss_cons (ps_if (PW.pt (pw_and (pt_cmpR (kEq K hr.units) (pe_ix (kIx K) (pv 0) pe_int (fun _ _ => rfl)) pe_int (nomark _)) (pw_and1 (pt_cmpR (kNe K hr.units) (pe_ix (kIx K) (pv 0) pe_int (fun _ _ => rfl)) (pe_lst pa_nil) (nomark _))))) (pss_cons (ps_asg (kMeth K PySem.F.plainAttrs_list PySem.F.slot_list_pop PySem.F.type_list_pop mt_popAt (pe_ix (kIx K) (pv 0) pe_int (fun _ _ => rfl)) (pa_cons pe_int pa_nil)) (pg_sub (pv 0) pe_int set_list)) (pss_one (ps_if (pt_cmpR op_lt (pe_ix (kIx K) (pv 0) pe_int (fun _ _ => rfl)) (pe_op op_pow pe_int pe_int) (nomark _)) (pss_cons (ps_asg (pe_op op_modN (pe_op (kAdd K) (pe_op (kMul K) (pe_ix (kIx K) (pv 0) pe_int (fun _ _ => rfl)) pe_int) (pe_ix (kIx K) (pv 0) pe_int (fun _ _ => rfl))) pe_int) (pg_sub (pv 0) pe_int set_list)) (pss_one (ps_asg pe_int (pg_sub (pv 0) pe_int set_list)))) pss_nil))) pss_nil) (pss_cons (ps_if (pt_cmpR op_gt (pe_ix (kIx K) (pv 0) pe_int (fun _ _ => rfl)) pe_int (nomark _)) (pss_cons (ps_set (i := 2) sc_law_draw.nd rfl (by first | exact .inl rfl | exact .inr rfl) (pe_op op_modN (pe_ix (kIx K) (pv 0) pe_int (fun _ _ => rfl)) (pv 1))) (pss_cons (ps_asg (pe_op (op_fdivX (py_of S.seer S.tree hr)) (pe_ix (kIx K) (pv 0) pe_int (fun _ _ => rfl)) (pv 1)) (pg_sub (pv 0) pe_int set_list)) (pss_one (ps_ret (pv 2))))) pss_nil) (pss_cons (ps_set (i := 2) sc_law_draw.nd rfl (by first | exact .inl rfl | exact .inr rfl) (pe_op op_modN (pe_op op_pow (pe_op (kAdd K) (pe_op (kAdd K) (pe_ix (kIx K) (pv 0) pe_int (fun _ _ => rfl)) (pe_op (kMul K) pe_int (pe_ix (kIx K) (pv 0) pe_int (fun _ _ => rfl)))) pe_int) pe_int) pe_int)) (pss_one (ps_ret (pe_op op_modN (pe_op op_modN (pe_op (kMul K) (pe_op (kAdd K) (pv 2) (pe_ix (kIx K) (pv 0) pe_int (fun _ _ => rfl))) pe_int) pe_int) (pv 1)))))))), ?_⟩)
  · rintro _ _ _ _ ⟨_, _, _, rfl, rfl, _, _, _, _, rfl⟩; exact ⟨rfl, rfl⟩
  · rintro _ _ _ _ ⟨s, many, m, rfl, rfl, hm0, hs, hm, rfl, rfl⟩
    show RS K true _ [.stm s.cs s.a s.b s.c, .dat (.int many), .un] _
    refine rs_seq (rs_stm (i := 0) (k := 1) (re_addI (re_stm (k := 1) rfl rfl) re_int) rfl _ (.inr (.inl ⟨rfl, rfl⟩)) ?_)
    show RS K true _ [.stm s.cs s.a (s.b + 1) s.c, .dat (.int many), .un] _
    refine rs_cut (fun Γ => Γ = [stmS (drA s), .dat (.int many), .un]) ?_ ?_
    · refine rs_if (rt_and (rt_test (re_eqI (re_stm (k := 0) rfl rfl) re_int)) (fun _ => rfl) (fun _ => rt_test (re_stmNe rfl))) (fun hb => ?_) (fun hb => rs_nx ?_)
      · have ha : s.a = 0 := by
          have := (Bool.and_eq_true_iff.mp hb).1
          exact of_decide_eq_true this
        have hc := (Bool.and_eq_true_iff.mp hb).2
        cases ec : s.cs with
        | nil => rw [ec] at hc; cases hc
        | cons x r =>
          refine rs_seq (rs_stm (i := 0) (k := 0) (cs := r) (re_stmPop (i := 0) rfl) rfl _ (.inl ⟨rfl, rfl⟩) ?_)
          show RS K true _ [.stm r x (s.b + 1) s.c, .dat (.int many), .un] _
          refine rs_if (rt_test (re_op (re_stm (k := 0) rfl rfl) (re_powI re_int re_int ⟨by decide, by decide, by decide⟩) od_lt)) (fun hx => ?_) (fun hx => rs_nx ?_)
          · have hx : x < 10 ^ 18 := of_decide_eq_true hx
            refine rs_seq (rs_stm (i := 0) (k := 2) (re_modI (re_addI (re_mulI (re_stm (k := 2) rfl rfl) re_int (IntMulOk.of_right (by decide))) (re_stm (k := 0) rfl rfl)) re_int (by decide)) rfl _ (.inr (.inr ⟨rfl, rfl⟩)) ?_)
            refine rs_stm (i := 0) (k := 0) (cs := r) re_int rfl _ (.inl ⟨rfl, rfl⟩) ?_
            show _ = [stmS (drA s), .dat (.int many), .un]
            unfold drA
            rw [if_pos ha, ec]
            show _ = [stmS (if x < 10 ^ 18 then _ else _), _, _]
            rw [if_pos hx]; rfl
          · have hx : ¬ x < 10 ^ 18 := of_decide_eq_false hx
            show _ = [stmS (drA s), .dat (.int many), .un]
            unfold drA
            rw [if_pos ha, ec]
            show _ = [stmS (if x < 10 ^ 18 then _ else _), _, _]
            rw [if_neg hx]; rfl
      · show _ = [stmS (drA s), .dat (.int many), .un]
        unfold drA
        by_cases ha : s.a = 0
        · rw [if_pos ha]
          cases ec : s.cs with
          | nil => rfl
          | cons x r => rw [ec, decide_eq_true ha] at hb; cases hb
        · rw [if_neg ha]; rfl
    · intro Γ e
      subst e
      have h2 := sok_drA hs
      have es : drV s many = drV s many := rfl
      unfold drV drS
      generalize drA s = t at h2
      obtain ⟨h21, h22, h23, h24⟩ := h2
      show RS K true _ [.stm t.cs t.a t.b t.c, .dat (.int many), .un] _
      refine rs_seq (rs_if (rt_test (re_op (re_stm (k := 0) rfl rfl) re_int od_gt)) (fun hb => ?_) (fun hb => rs_nx ?_))
      · have hb : 0 < t.a := of_decide_eq_true hb
        refine rs_seq (rs_set (re_modI (re_stm (k := 0) rfl rfl) (re_var rfl) (by omega)) ?_)
        refine rs_seq (rs_stm (i := 0) (k := 0) (re_fdivI (re_stm (k := 0) rfl rfl) (re_var rfl) (by omega)) rfl _ (.inl ⟨rfl, rfl⟩) ?_)
        refine rs_ret (re_var rfl) ?_
        rw [if_pos hb, if_pos hb]; exact ⟨rfl, rfl⟩
      · have hb : ¬ 0 < t.a := of_decide_eq_false hb
        rw [if_neg hb, if_neg hb]
        refine rs_seq (rs_set (re_modI (re_powI (re_addI (re_addI (re_stm (k := 2) rfl rfl) (re_mulI re_int (re_stm (k := 1) rfl rfl) (IntMulOk.of_left (by decide)))) re_int) re_int ⟨by decide, by decide, ?_⟩) re_int (by decide)) ?_)
        · have : (2 : Nat) ^ 64 = 18446744073709551616 := by decide
          rw [this]
          omega
        refine rs_ret (re_modI (re_modI (re_mulI (re_addI (re_var rfl) (re_stm (k := 1) rfl rfl)) re_int (IntMulOk.of_right (by decide))) re_int (by decide)) (re_var rfl) (by omega)) ⟨rfl, rfl⟩
/-- a draw as an expression -/
theorem re_draw {Γ Γ1 : Ga} {te : TE} {E : XK} {i m : Nat} {s : Stm} {many : Int} (h : Γ[i]? = some (stmS s)) (ht : RE K te Γ (.int many) Γ1) (h1 : Γ1[i]? = some (stmS s)) (h0 : 0 < many) (hs : SOk m s) (hm : m ≤ 100000) :
    RE K (tCall (PO K F_law_draw) [] E (tCons (tVar i) (tCons te tNil))) Γ (.int (drV s many)) (Γ1.set i (stmS (drS s many))) :=
  re_callO h (ra_cons ht ra_nil) h1 rfl ⟨s, many, m, rfl, rfl, h0, hs, hm, rfl, rfl⟩
end K87

namespace K87
open PySem PySem.Spec PyProof.Rows L2 DL
open PySem.Builtin.Int (intBits)
variable {P : Program} {w : World} {K : PySem.W.Frag} {mg : Str → Option Value} {base : Heap}
/-! ### made by draws -/
def stN (s : Stm) (q : Int) : Nat → Stm
  | 0 => s
  | n + 1 => drS (stN s q n) q
theorem sok_stN {m : Nat} {s : Stm} {q : Int} (h : SOk m s) : ∀ n, SOk (m + n) (stN s q n)
  | 0 => h
  | n + 1 => sok_dr q (sok_stN h n)
theorem stN_add (s : Stm) (q : Int) (a : Nat) : ∀ b, stN (stN s q a) q b = stN s q (a + b)
  | 0 => rfl
  | b + 1 => by show drS (stN (stN s q a) q b) q = _; rw [stN_add s q a b]; rfl
def mostF (s : Stm) : Int := [1, 1, 2, 99].getD (drV s 4).toNat 0
def anyM (s : Stm) (old new : Nat) : List Vc := (List.range new).map fun k => (List.range old).map fun j => drV (stN (drS s 4) (2 * mostF s + 1) (k * old + j)) (2 * mostF s + 1) - mostF s
def anyS (s : Stm) (old new : Nat) : Stm := stN (drS s 4) (2 * mostF s + 1) (new * old)
theorem lit_at {xs : List PyData} {i : Int} {k : Nat} (h0 : 0 ≤ i) (h1 : i < k) (hk : xs.length = k) : ∃ d, atI xs i = some d ∧ xs[i.toNat]? = some d := by
  obtain ⟨j, rfl⟩ := Int.eq_ofNat_of_zero_le h0
  have hj : j < xs.length := by omega
  exact ⟨xs[j], at_nat (List.getElem?_eq_getElem hj), by rw [Int.toNat_natCast]; exact List.getElem?_eq_getElem hj⟩
theorem lit_int {ns : List Int} {i : Int} {k : Nat} (h0 : 0 ≤ i) (h1 : i < k) (hk : ns.length = k) : atI (ns.map PyData.int) i = some (.int (ns.getD i.toNat 0)) := by
  obtain ⟨j, rfl⟩ := Int.eq_ofNat_of_zero_le h0
  have hj : j < ns.length := by omega
  refine at_nat ?_
  rw [List.getElem?_map, List.getD_eq_getElem?_getD, Int.toNat_natCast, List.getElem?_eq_getElem hj]; rfl
theorem most_rng (s : Stm) : 1 ≤ mostF s ∧ mostF s ≤ 99 := by
  unfold mostF
  obtain ⟨h0, h1⟩ := drV_rng s (show (0 : Int) < 4 by decide)
  generalize drV s 4 = v at h0 h1
  obtain ⟨j, rfl⟩ := Int.eq_ofNat_of_zero_le h0
  rw [Int.toNat_natCast]
  have : j < 4 := by omega
  match j, this with
  | 0, _ => decide
  | 1, _ => decide
  | 2, _ => decide
  | 3, _ => decide
abbrev s_law_any_matrix : Stmt := topS 30
abbrev nm_law_any_matrix : List Str := ["stream", "old", "new", "most", "rows", "k", "j"]
theorem sc_law_any_matrix : FnScope nm_law_any_matrix ["stream", "old", "new"] (defScope s_law_any_matrix) := ⟨rfl, rfl, rfl, by decide +kernel, rfl, by decide +kernel, by decide +kernel⟩
def F_law_any_matrix (sl : Sl) (ds : List PyData) (d : PyData) (sl' : Sl) : Prop := ∃ (s : Stm) (old new m : Nat), sl = stmS s ∧ ds = [.int (old : Int), .int (new : Int)] ∧ SOk m s ∧ m ≤ 1000 ∧ old ≤ 100 ∧ new ≤ 100 ∧ d = matT (anyM s old new) ∧ sl' = stmS (anyS s old new)
abbrev T_law_any_matrix (P : Program) (w : World) (K : PySem.W.Frag) (mg : Str → Option Value) (base : Heap) : Prop := Cal P w K mg base "_law_any_matrix" 44 ["stream", "old", "new"] (PO K F_law_any_matrix)
theorem ok_law_any_matrix (S : Sur P mg base) (A : FunAt K mg "_law_any_matrix" s_law_any_matrix) (C_law_draw : T_law_draw P w K mg base) : T_law_any_matrix P w K mg base := by
  refine cal_own A sc_law_any_matrix (fun _ _ _ _ _ _ us hl => match us, hl with | [_, _, _], _ => rfl) ?_ (fun f cdv A outer s H E hr => ⟨_, (pss_cons (ps_set (i := 3) sc_law_any_matrix.nd rfl (by first | exact .inl rfl | exact .inr rfl) (pe_ix (kIx K) (pe_lst (pa_cons pe_int (pa_cons pe_int (pa_cons pe_int (pa_cons pe_int pa_nil))))) (pe_own C_law_draw (hr.mono (by decide)) (by rfl) (pa_cons (pv 0) (pa_cons pe_int pa_nil))) (fun _ _ => rfl))) (pss_cons (ps_set (i := 4) sc_law_any_matrix.nd rfl (by first | exact .inl rfl | exact .inr rfl) (pe_lst pa_nil)) (pss_cons (ps_for PassesOwn.never rfl (pi_range1 (by rfl) (S.no "range" (by decide)) (pa_cons (pv 2) pa_nil)) (pg_name (i := 5) sc_law_any_matrix.nd rfl (by first | exact .inl rfl | exact .inr rfl)) (pss_one (ps_expr (kMeth K PySem.F.plainAttrs_list PySem.F.slot_list_append PySem.F.type_list_append mt_append (pv 4) (pa_cons (kTuple K (by rfl) (S.no "tuple" (by decide)) (pe_lc (own := [("j", 6)]) rfl sc_law_any_matrix.nd (pi_range1 (by rfl) (S.no "range" (by decide)) (pa_cons (pv 1) pa_nil)) (blkOk_by (N := nm_law_any_matrix) (sc := defScope s_law_any_matrix) (by decide +kernel)) (fun _ _ _ _ _ => (pg_name (i := 6) sc_law_any_matrix.nd rfl (by first | exact .inl rfl | exact .inr rfl))) (fun _ _ _ _ _ => pts_nil) (fun _ _ _ _ _ => (pe_op op_sub (pe_own C_law_draw (hr.mono (by decide)) (by rfl) (pa_cons (pv 0) (pa_cons (pe_op (kAdd K) (pe_op (kMul K) pe_int (pv 3)) pe_int) pa_nil))) (pv 3))))) pa_nil))))) (pss_one (ps_ret (kTuple K (by rfl) (S.no "tuple" (by decide)) (pv 4))))))), ?_⟩)
  · rintro _ _ _ _ ⟨_, _, _, _, rfl, rfl, _, _, _, _, _, rfl⟩; exact ⟨rfl, rfl⟩
  · rintro _ _ _ _ ⟨s, old, new, m, rfl, rfl, hs, hm, ho, hn, rfl, rfl⟩
    show RS K true _ [stmS s, .dat (.int old), .dat (.int new), .un, .un, .un, .un] _
    obtain ⟨h0, h1⟩ := drV_rng s (show (0 : Int) < 4 by decide)
    refine rs_seq (rs_set (d := .int (mostF s)) (re_ixL (RL.re (rl_lst (ra_cons re_int (ra_cons re_int (ra_cons re_int (ra_cons re_int ra_nil)))))) (re_draw (i := 0) (s := s) rfl re_int rfl (by decide) hs (by omega)) (lit_int (ns := [1, 1, 2, 99]) (k := 4) h0 h1 rfl)) ?_)
    have hs1 := sok_dr 4 hs
    obtain ⟨mr1, mr2⟩ := most_rng s
    unfold anyM anyS
    generalize mostF s = q at mr1 mr2
    generalize drS s 4 = s1 at hs1
    show RS K true _ [stmS s1, .dat (.int old), .dat (.int new), .dat (.int q), .un, .un, .un] _
    refine rs_seq (rs_setL (rl_lst ra_nil) ?_)
    show RS K true _ [stmS s1, .dat (.int old), .dat (.int new), .dat (.int q), .lst [], .un, .un] _
    refine rs_seq (rs_for (ri_range (n := new) (ra_cons (re_var rfl) ra_nil) (by omega))
      (fun i Γ => ∃ s5, Γ = [stmS (stN s1 (2 * q + 1) (i * old)), .dat (.int old), .dat (.int new), .dat (.int q), .lst (((List.range i).map fun k => (List.range old).map fun j => drV (stN s1 (2 * q + 1) (k * old + j)) (2 * q + 1) - q).map vec), s5, .un]) ⟨_, by rw [Nat.zero_mul]; rfl⟩ (fun i d Γ hd hW => ?_) (fun Γ hW => ?_))
    · obtain ⟨s5, rfl⟩ := hW
      have hi : i < new := by have := (List.getElem?_eq_some_iff.mp hd).1; simpa using this
      refine ⟨_, _, rg_name, by decide, ?_⟩
      have hsi : SOk (m + 1 + i * old) (stN s1 (2 * q + 1) (i * old)) := sok_stN hs1 _
      have hio : i * old ≤ 10000 := by have := Nat.mul_le_mul (show i ≤ 100 by omega) ho; omega
      show RS K true _ [stmS (stN s1 (2 * q + 1) (i * old)), .dat (.int old), .dat (.int new), .dat (.int q), .lst (((List.range i).map fun k => (List.range old).map fun j => drV (stN s1 (2 * q + 1) (k * old + j)) (2 * q + 1) - q).map vec), .dat d, .un] _
      refine rs_app (i := 4) rfl (re_tupleL (RL.re (rl_mapS (List.range old) (fun (i : Nat) => .int (i : Int))
        (fun n => [stmS (stN (stN s1 (2 * q + 1) (i * old)) (2 * q + 1) n), .dat (.int old), .dat (.int new), .dat (.int q), .lst (((List.range i).map fun k => (List.range old).map fun j => drV (stN s1 (2 * q + 1) (k * old + j)) (2 * q + 1) - q).map vec), .dat d, .un])
        (fun n => .int (drV (stN (stN s1 (2 * q + 1) (i * old)) (2 * q + 1) n) (2 * q + 1) - q)) .un (ri_range (n := old) (ra_cons (re_var rfl) ra_nil) (by omega)) (by simp; omega) (fun n x hx => ?_)))) rfl (by rw [List.length_map, List.length_map, List.length_range]; show i < 16777216; omega) ?_
      · have hn' : n < old := by have := (List.getElem?_eq_some_iff.mp hx).1; simpa using this
        exact re_subI (re_draw (i := 0) (s := stN (stN s1 (2 * q + 1) (i * old)) (2 * q + 1) n) rfl (re_addI (re_mulI re_int (re_var rfl) (IntMulOk.of_left (by decide))) re_int) rfl (by omega) (sok_stN hsi n) (by omega)) (re_var rfl)
      · refine ⟨.dat d, ?_⟩
        rw [List.length_range]
        rw [stN_add, Nat.succ_mul]
        have e : (List.range old).map (fun n => PyData.int (drV (stN (stN s1 (2 * q + 1) (i * old)) (2 * q + 1) n) (2 * q + 1) - q)) = ((List.range old).map fun j => drV (stN s1 (2 * q + 1) (i * old + j)) (2 * q + 1) - q).map .int := by
          rw [List.map_map]
          apply List.map_congr_left
          intro n _
          rw [stN_add]; rfl
        rw [e, List.range_succ, List.map_append, List.map_append]
        rfl
    · obtain ⟨s5, rfl⟩ := hW
      rw [List.length_map, List.length_range]
      exact rs_ret (re_tupleL (re_out (i := 4) rfl)) ⟨rfl, rfl⟩
/-! ### many joined -/
def mjC (s : Stm) (n : Nat) : List Int := if (((List.range n).filter fun k => decide (drV (stN s 2 k) 2 = 0)).map Int.ofNat).length < 2 then [0, (n : Int) - 1] else ((List.range n).filter fun k => decide (drV (stN s 2 k) 2 = 0)).map Int.ofNat
def mjN (s : Stm) : Nat := (3 + drV s 4).toNat
def mjS (s : Stm) : Stm := stN (drS s 4) 2 (mjN s)
def restF (n : Nat) (cs : List Int) : List Int := ((List.range n).filter fun (k : Nat) => !decide ((k : Int) ∈ cs.drop 1)).map Int.ofNat
theorem mjC_ok (s : Stm) (n : Nat) (h : 3 ≤ n) : (mjC s n).Nodup ∧ 2 ≤ (mjC s n).length ∧ ∀ c ∈ mjC s n, 0 ≤ c ∧ c < n := by
  unfold mjC
  split
  · refine ⟨?_, Nat.le_refl _, ?_⟩
    · rw [List.nodup_cons]
      refine ⟨fun z => ?_, by simp⟩
      rw [List.mem_singleton] at z; omega
    · intro c hc
      simp at hc
      omega
  · rename_i z
    refine ⟨?_, by omega, fun c hc => ?_⟩
    · have nd : ((List.range n).filter fun k => decide (drV (stN s 2 k) 2 = 0)).Nodup := List.filter_sublist.nodup List.nodup_range
      exact List.Pairwise.map _ (fun a b h e => h (Int.ofNat.inj e)) nd
    · obtain ⟨k, hk, rfl⟩ := List.mem_map.mp hc
      have := List.mem_range.mp (List.mem_filter.mp hk).1
      exact ⟨Int.natCast_nonneg k, Int.ofNat_lt.mpr this⟩
theorem rest_kept {n : Nat} {cs : List Int} (h : cs.Nodup) (h0 : cs ≠ []) : keptF n cs = restF n cs := by
  obtain ⟨c, t, rfl⟩ := List.exists_cons_of_ne_nil h0
  unfold keptF restF
  congr 1
  apply List.filter_congr
  intro k _
  have hn := (List.nodup_cons.mp h).1
  show (decide ((k : Int) = c) || !decide ((k : Int) ∈ c :: t)) = !decide ((k : Int) ∈ t)
  by_cases e : (k : Int) = c
  · rw [decide_eq_true e, decide_eq_false (show ¬ (k : Int) ∈ t by rw [e]; exact hn)]; rfl
  · rw [decide_eq_false e, Bool.false_or]
    by_cases h : (k : Int) ∈ t
    · simp [h]
    · simp [h, e]
theorem urow_one (n : Nat) (k : Int) : urow n k 1 = unitL n k := by
  unfold urow scaleL
  conv => rhs; rw [← List.map_id (unitL n k)]
  apply List.map_congr_left
  intro x _
  rw [Int.one_mul]; rfl
abbrev s_law_many_joined : Stmt := topS 34
abbrev nm_law_many_joined : List Str := ["stream", "size", "cells", "rest", "units", "due", "k", "handed"]
theorem sc_law_many_joined : FnScope nm_law_many_joined ["stream"] (defScope s_law_many_joined) := ⟨rfl, rfl, rfl, by decide +kernel, rfl, by decide +kernel, by decide +kernel⟩
def F_law_many_joined (sl : Sl) (ds : List PyData) (d : PyData) (sl' : Sl) : Prop := ∃ (s : Stm) (m : Nat), sl = stmS s ∧ ds = [] ∧ SOk m s ∧ m ≤ 1000 ∧ d = .bool true ∧ sl' = stmS (mjS s)
abbrev T_law_many_joined (P : Program) (w : World) (K : PySem.W.Frag) (mg : Str → Option Value) (base : Heap) : Prop := Cal P w K mg base "_law_many_joined" 52 ["stream"] (PO K F_law_many_joined)
theorem ok_law_many_joined (S : Sur P mg base) (A : FunAt K mg "_law_many_joined" s_law_many_joined) (C_law_draw : T_law_draw P w K mg base) (C_law_units : T_law_units P w K mg base) (C_join_matrix : T_join_matrix P w K mg base) : T_law_many_joined P w K mg base := by
  refine cal_own A sc_law_many_joined (fun _ _ _ _ _ _ us hl => match us, hl with | [_], _ => rfl) ?_ (fun f cdv A outer s H E hr => ⟨_, (pss_cons (ps_set (i := 1) sc_law_many_joined.nd rfl (by first | exact .inl rfl | exact .inr rfl) (pe_op (kAdd K) pe_int (pe_own C_law_draw (hr.mono (by decide)) (by rfl) (pa_cons (pv 0) (pa_cons pe_int pa_nil))))) (pss_cons (ps_set (i := 2) sc_law_many_joined.nd rfl (by first | exact .inl rfl | exact .inr rfl) (pe_lc (own := [("k", 6)]) rfl sc_law_many_joined.nd (pi_range1 (by rfl) (S.no "range" (by decide)) (pa_cons (pv 1) pa_nil)) (blkOk_by (N := nm_law_many_joined) (sc := defScope s_law_many_joined) (by decide +kernel)) (fun _ _ _ _ _ => (pg_name (i := 6) sc_law_many_joined.nd rfl (by first | exact .inl rfl | exact .inr rfl))) (fun _ _ _ _ _ => (pts_one (pt_cmpR (kEq K hr.units) (pe_own C_law_draw (hr.mono (by decide)) (by rfl) (pa_cons (pv 0) (pa_cons pe_int pa_nil))) pe_int (nomark _)))) (fun _ _ _ _ _ => (pv 6)))) (pss_cons (ps_if (pt_cmpR op_lt (pe_callB (kLen K) (by rfl) (S.no "len" (by decide)) boot_len (pa_cons (pv 2) pa_nil)) pe_int (nomark _)) (pss_one (ps_set (i := 2) sc_law_many_joined.nd rfl (by first | exact .inl rfl | exact .inr rfl) (pe_lst (pa_cons pe_int (pa_cons (pe_op op_sub (pv 1) pe_int) pa_nil))))) pss_nil) (pss_cons (ps_setLc (own := [("k", 6)]) (i := 3) rfl sc_law_many_joined.nd rfl rfl (sw_true rfl rfl rfl (by decide +kernel)) (pi_range1 (by rfl) (S.no "range" (by decide)) (pa_cons (pv 1) pa_nil)) (blkOk_by (N := nm_law_many_joined) (sc := defScope s_law_many_joined) (by decide +kernel)) (fun _ _ _ _ _ => (pg_name (i := 6) sc_law_many_joined.nd rfl (by first | exact .inl rfl | exact .inr rfl))) (fun _ _ _ _ _ => (pts_one (pt_cmpR (kNotIn K) (pv 6) (pe_slice (kSl K) (pv 2) (po_some pe_int) po_none) (by with_unfolding_all rfl)))) (fun _ _ _ _ _ => (pv 6))) (pss_cons (ps_set (i := 4) sc_law_many_joined.nd rfl (by first | exact .inl rfl | exact .inr rfl) (pe_own C_law_units (hr.mono (by decide)) (by rfl) (pa_cons (pe_callB (kLen K) (by rfl) (S.no "len" (by decide)) boot_len (pa_cons (pv 3) pa_nil)) pa_nil))) (pss_cons (ps_set (i := 5) sc_law_many_joined.nd rfl (by first | exact .inl rfl | exact .inr rfl) (pe_lst pa_nil)) (pss_cons (ps_for PassesOwn.never rfl (pi_range1 (by rfl) (S.no "range" (by decide)) (pa_cons (pv 1) pa_nil)) (pg_name (i := 6) sc_law_many_joined.nd rfl (by first | exact .inl rfl | exact .inr rfl)) (pss_one (ps_expr (kMeth K PySem.F.plainAttrs_list PySem.F.slot_list_append PySem.F.type_list_append mt_append (pv 5) (pa_cons (pe_ix (kIx K) (pv 4) (kMeth K PySem.F.plainAttrs_list PySem.F.slot_list_index PySem.F.type_list_index (kIndex K) (pv 3) (pa_cons (pe_ix (kIx K) (pe_lst (pa_cons (pv 6) (pa_cons (pe_ix (kIx K) (pv 2) pe_int (fun _ _ => rfl)) pa_nil))) (pe_callTy call_int1 (by rfl) (S.no "int" (by decide)) boot_int (pa_cons (pe_cmpR (kIn K) (pv 6) (pv 2) (by with_unfolding_all rfl)) pa_nil)) (fun _ _ => rfl)) pa_nil)) (fun _ _ => rfl)) pa_nil))))) (pss_cons (ps_set (i := 7) sc_law_many_joined.nd rfl (by first | exact .inl rfl | exact .inr rfl) (pe_callTy (kList K) (by rfl) (S.no "list" (by decide)) boot_list (pa_cons (pv 2) pa_nil))) (pss_one (ps_ret (pe_and (pe_cmpR (kEq K hr.units) (pe_own C_join_matrix (hr.mono (by decide)) (by rfl) (pa_cons (pv 1) (pa_cons (pv 7) pa_nil))) (kTuple K (by rfl) (S.no "tuple" (by decide)) (pv 5)) (nomark _)) (pe_one (pe_cmpR (kEq K hr.units) (pv 7) (pv 2) (nomark _)))))))))))))), ?_⟩)
  · rintro _ _ _ _ ⟨_, _, rfl, rfl, _, _, _, rfl⟩; exact ⟨rfl, rfl⟩
  · rintro _ _ _ _ ⟨s, m, rfl, rfl, hs, hm, rfl, rfl⟩
    show RS K true _ [stmS s, .un, .un, .un, .un, .un, .un, .un] _
    obtain ⟨h0, h1⟩ := drV_rng s (show (0 : Int) < 4 by decide)
    have hN : ((mjN s : Nat) : Int) = 3 + drV s 4 := by unfold mjN; omega
    refine rs_seq (rs_set (d := .int (mjN s : Int)) ((re_addI re_int (re_draw (i := 0) (s := s) rfl re_int rfl (by decide) hs (by omega))).is (by rw [hN])) ?_)
    have n3 : 3 ≤ mjN s := by omega
    have n6 : mjN s ≤ 6 := by omega
    have hs1 := sok_dr 4 hs
    unfold mjS
    generalize mjN s = n at n3 n6
    generalize drS s 4 = s1 at hs1
    show RS K true _ [stmS s1, .dat (.int n), .un, .un, .un, .un, .un, .un] _
    have hc := mjC_ok s1 n n3
    refine rs_seq (rs_set (RL.re (rl_filtS (List.range n) (fun (i : Nat) => .int (i : Int)) (fun i => [stmS (stN s1 2 i), .dat (.int n), .un, .un, .un, .un, .un, .un]) (fun i => .int (i : Int)) (fun k => decide (drV (stN s1 2 k) 2 = 0)) .un (ri_range (n := n) (ra_cons (re_var rfl) ra_nil) (by omega)) (by simp; omega)
      (fun i x hx => ?_) (fun i x hx => ?_))) ?_)
    · have hi : i < n := by have := (List.getElem?_eq_some_iff.mp hx).1; simpa using this
      exact rt_test (re_eqI (re_draw (i := 0) (s := stN s1 2 i) rfl re_int rfl (by decide) (sok_stN hs1 i) (by omega)) re_int)
    · have : i = x := by obtain ⟨_, h2⟩ := List.getElem?_eq_some_iff.mp hx; simpa using h2
      subst this
      exact re_var rfl
    rw [List.length_range]
    have ec : (((List.range n).filter fun k => decide (drV (stN s1 2 k) 2 = 0)).map fun (i : Nat) => PyData.int (i : Int)) = ((((List.range n).filter fun k => decide (drV (stN s1 2 k) 2 = 0))).map Int.ofNat).map .int := by rw [List.map_map]; rfl
    rw [ec]
    show RS K true _ [stmS (stN s1 2 n), .dat (.int n), .dat (lsv _), .un, .un, .un, .un, .un] _
    refine rs_cut (fun Γ => Γ = [stmS (stN s1 2 n), .dat (.int n), .dat (lsv (mjC s1 n)), .un, .un, .un, .un, .un]) ?_ ?_
    · unfold mjC
      generalize ((List.range n).filter fun k => decide (drV (stN s1 2 k) 2 = 0)).map Int.ofNat = cs
      refine rs_if (rt_test (re_op (re_cb (ra_cons (re_var rfl) ra_nil) (by have := cd_len (K := K) (sq_lsv cs); rw [List.length_map] at this; exact this)) re_int od_lt)) (fun hb => ?_) (fun hb => rs_nx ?_)
      · have hb : cs.length < 2 := by have := of_decide_eq_true hb; omega
        refine rs_set (RL.re (rl_lst (ra_cons re_int (ra_cons (re_subI (re_var rfl) re_int) ra_nil)))) ?_
        rw [if_pos hb]; rfl
      · have hb : ¬ cs.length < 2 := by have := of_decide_eq_false hb; omega
        rw [if_neg hb]
    · rintro _ rfl
      generalize mjC s1 n = cs at hc
      obtain ⟨nd, hl2, hr⟩ := hc
      have hne : cs ≠ [] := fun z => by rw [z] at hl2; simp at hl2
      obtain ⟨c0, ct, rfl⟩ := List.exists_cons_of_ne_nil hne
      refine rs_seq (rs_set (RL.re (rl_filt (List.range n) (fun (i : Nat) => .int (i : Int)) (fun (i : Nat) => .int (i : Int)) (fun (k : Nat) => !decide ((k : Int) ∈ (c0 :: ct).drop 1)) (ri_range (n := n) (ra_cons (re_var rfl) ra_nil) (by omega)) (by simp; omega)
        (fun k hk => rt_test (re_niS (re_var rfl) (RL.re (rl_slice (re_var rfl) (ro_some re_int) ro_no)) (ns := (c0 :: ct).drop 1) (by
          show some (cutD _ (some ((1 : Nat) : Int)) none) = _
          rw [cut_from]; rfl))) (fun k hk _ => re_var rfl))) ?_)
      have er : (((List.range n).filter fun (k : Nat) => !decide ((k : Int) ∈ (c0 :: ct).drop 1)).map fun (i : Nat) => PyData.int (i : Int)) = (restF n (c0 :: ct)).map .int := by unfold restF; rw [List.map_map]; rfl
      rw [er]
      show RS K true _ [stmS (stN s1 2 n), .dat (.int n), .dat (lsv (c0 :: ct)), .dat (lsv (restF n (c0 :: ct))), .un, .un, .un, .un] _
      have hrl : (restF n (c0 :: ct)).length ≤ 6 := by
        unfold restF; rw [List.length_map]; exact Nat.le_trans (List.length_filter_le _ _) (by rw [List.length_range]; exact n6)
      refine rs_seq (rs_set (re_call (ra_cons (re_cb (ra_cons (re_var rfl) ra_nil) (by have := cd_len (K := K) (sq_lsv (restF n (c0 :: ct))); rw [List.length_map] at this; exact this)) ra_nil) ⟨_, rfl, by omega, rfl⟩) ?_)
      refine rs_seq (rs_setL (rl_lst ra_nil) ?_)
      show RS K true _ [stmS (stN s1 2 n), .dat (.int n), .dat (lsv (c0 :: ct)), .dat (lsv (restF n (c0 :: ct))), .dat (lstM (unitsL (restF n (c0 :: ct)).length)), .lst [], .un, .un] _
      have hin : ∀ k : Nat, k < n → placeF n (c0 :: ct) k ∈ restF n (c0 :: ct) := fun k hk => by
        rw [← rest_kept nd (by simp)]
        unfold placeF keptF
        have hc0 := hr c0 (by simp)
        by_cases z : (k : Int) ∈ c0 :: ct
        · rw [if_pos z]
          refine List.mem_map.mpr ⟨c0.toNat, List.mem_filter.mpr ⟨List.mem_range.mpr (by omega), ?_⟩, by show ((c0.toNat : Nat) : Int) = c0; omega⟩
          have : ((c0.toNat : Nat) : Int) = (c0 :: ct).headD 0 := by show ((c0.toNat : Nat) : Int) = c0; omega
          rw [decide_eq_true this]; rfl
        · rw [if_neg z]
          exact List.mem_map.mpr ⟨k, List.mem_filter.mpr ⟨List.mem_range.mpr hk, by rw [decide_eq_false z]; simp⟩, rfl⟩
      refine rs_seq (rs_for (ri_range (n := n) (ra_cons (re_var rfl) ra_nil) (by omega))
        (fun i Γ => ∃ s6, Γ = [stmS (stN s1 2 n), .dat (.int n), .dat (lsv (c0 :: ct)), .dat (lsv (restF n (c0 :: ct))), .dat (lstM (unitsL (restF n (c0 :: ct)).length)), .lst (((List.range i).map fun k => urow (restF n (c0 :: ct)).length (((restF n (c0 :: ct)).idxOf (placeF n (c0 :: ct) k) : Nat) : Int) 1).map vec), s6, .un]) ⟨_, rfl⟩ (fun i d Γ hd hW => ?_) (fun Γ hW => ?_))
      · obtain ⟨s6, rfl⟩ := hW
        rw [List.getElem?_map] at hd
        obtain ⟨k, hk, rfl⟩ := Option.map_eq_some_iff.mp hd
        have hki : k = i := by obtain ⟨_, h2⟩ := List.getElem?_eq_some_iff.mp hk; simpa using h2.symm
        subst hki
        have hkn : k < n := by have := (List.getElem?_eq_some_iff.mp hk).1; simpa using this
        refine ⟨_, _, rg_name, by decide, ?_⟩
        have hm := hin k hkn
        have hlt := List.idxOf_lt_length_of_mem hm
        refine rs_app (i := 5) rfl (re_ixL (d := vec (urow (restF n (c0 :: ct)).length (((restF n (c0 :: ct)).idxOf (placeF n (c0 :: ct) k) : Nat) : Int) 1)) (re_var rfl) (re_indexI (ns := restF n (c0 :: ct)) (n := placeF n (c0 :: ct) k) (re_var rfl)
          ((re_ixL (d := .int (placeF n (c0 :: ct) k)) (RL.re (rl_lst (ra_cons (re_var rfl) (ra_cons (re_ixL (re_var rfl) re_int (at_nat (k := 0) rfl)) ra_nil)))) (re_cb (ra_cons (re_inS (re_var rfl) (re_var rfl) (sq_lsv (c0 :: ct))) ra_nil) cd_intB) (by
            unfold placeF
            by_cases z : (k : Int) ∈ c0 :: ct
            · rw [decide_eq_true z, if_pos z]; rfl
            · rw [decide_eq_false z, if_neg z]; rfl))) hm)
          (at_nat (by
            unfold unitsL
            rw [List.getElem?_map, List.getElem?_map, List.getElem?_range hlt, urow_one]; rfl))) rfl (by rw [List.length_map, List.length_map, List.length_range]; show k < 16777216; omega) ?_
        refine ⟨.dat (.int (k : Int)), ?_⟩
        rw [List.range_succ, List.map_append, List.map_append]
        rfl
      · obtain ⟨s6, rfl⟩ := hW
        rw [List.length_map, List.length_range]
        refine rs_seq (rs_set (RL.re (rl_cb (ra_cons (re_var rfl) ra_nil) (cdl_list (sq_lsv (c0 :: ct))))) ?_)
        refine rs_ret (re_andV (c := true) (re_eqD (re_call (ra_cons (re_var rfl) (ra_cons (re_var rfl) ra_nil)) ⟨n, lsv (c0 :: ct), c0 :: ct, rfl, rfl, by omega, by simp, hr, rfl⟩) (re_tupleL (re_out (i := 5) rfl)) (shp_mat _).sh (shp_mat _).sh) (fun z => ?_) (fun _ => (re_eqD (re_var rfl) (re_var rfl) (d1 := lsv (c0 :: ct)) (d2 := lsv (c0 :: ct)) (Shp.sh (n := 1) (shp_mapL fun _ _ => shp_int)) (Shp.sh (n := 1) (shp_mapL fun _ _ => shp_int))).is (by rw [lsv, eqv_lst eqv_int]; simp))) ?_
        · have e2 : joinF n (c0 :: ct) = (List.range n).map fun k => urow (restF n (c0 :: ct)).length (((restF n (c0 :: ct)).idxOf (placeF n (c0 :: ct) k) : Nat) : Int) 1 := by
            unfold joinF
            rw [rest_kept nd (by simp)]
          exfalso
          have z2 : PyData.eqv (matT (joinF n (c0 :: ct))) (matT ((List.range n).map fun k => urow (restF n (c0 :: ct)).length (((restF n (c0 :: ct)).idxOf (placeF n (c0 :: ct) k) : Nat) : Int) 1)) = false := z
          rw [eqv_mat, decide_eq_true e2] at z2
          cases z2
        · refine ⟨?_, rfl⟩
          have e2 : joinF n (c0 :: ct) = (List.range n).map fun k => urow (restF n (c0 :: ct)).length (((restF n (c0 :: ct)).idxOf (placeF n (c0 :: ct) k) : Nat) : Int) 1 := by
            unfold joinF
            rw [rest_kept nd (by simp)]
          show PyData.bool (PyData.eqv (matT (joinF n (c0 :: ct))) (matT ((List.range n).map fun k => urow (restF n (c0 :: ct)).length (((restF n (c0 :: ct)).idxOf (placeF n (c0 :: ct) k) : Nat) : Int) 1)) && true) = _
          rw [eqv_mat, decide_eq_true e2]; rfl
end K87

namespace K87
open PySem PySem.Spec PyProof.Rows L2 DL
open PySem.Builtin.Int (intBits)
variable {P : Program} {w : World} {K : PySem.W.Frag} {mg : Str → Option Value} {base : Heap}
/-! ### made -/
def facF (s : Stm) : Int := [2, 3, 1000, 2 + drV s 999].getD (drV (drS s 999) 4).toNat 0
def plP (s : Stm) : Nat → List Int × Stm
  | 0 => ([], s)
  | k + 1 => ((plP s k).1.take (drV (plP s k).2 ((k : Int) + 1)).toNat ++ [(k : Int)] ++ (plP s k).1.drop (drV (plP s k).2 ((k : Int) + 1)).toNat, drS (plP s k).2 ((k : Int) + 1))
def twoF (c e : Int) : List Int := if c ≤ e then [c, e] else [e, c]
def madeG (s : Stm) (n : Nat) (c y : Int) : List Vc × Nat × Stm :=
  if y = 0 then (splitF n c (2 + (drV s 3).toNat), n, drS s 3)
  else if y = 1 then (unitMF n c (facF s), n, drS (drS s 999) 4)
  else if y = 2 ∨ n < 2 then (orderF (plP s n).1, n, drS (plP s n).2 2)
  else if y = 3 then (dropF n c, n - 1, s)
  else (joinF n (twoF c ((c + 1 + drV s ((n : Int) - 1)).fmod n)), n - 1, drS s ((n : Int) - 1))
def madeF (s : Stm) (n : Nat) : List Vc × Nat × Stm := madeG (drS (drS s n) 5) n (drV s n) (drV (drS s n) 5)
theorem fac_rng (s : Stm) : 2 ≤ facF s ∧ facF s ≤ 1000 := by
  unfold facF
  obtain ⟨h0, h1⟩ := drV_rng (drS s 999) (show (0 : Int) < 4 by decide)
  obtain ⟨g0, g1⟩ := drV_rng s (show (0 : Int) < 999 by decide)
  generalize drV (drS s 999) 4 = v at h0 h1
  generalize drV s 999 = u at g0 g1
  obtain ⟨j, rfl⟩ := Int.eq_ofNat_of_zero_le h0
  rw [Int.toNat_natCast]
  have : j < 4 := by omega
  match j, this with
  | 0, _ => exact ⟨by show (2 : Int) ≤ 2; omega, by show (2 : Int) ≤ 1000; omega⟩
  | 1, _ => exact ⟨by show (2 : Int) ≤ 3; omega, by show (3 : Int) ≤ 1000; omega⟩
  | 2, _ => exact ⟨by show (2 : Int) ≤ 1000; omega, by show (1000 : Int) ≤ 1000; omega⟩
  | 3, _ => exact ⟨by show (2 : Int) ≤ 2 + u; omega, by show 2 + u ≤ 1000; omega⟩
theorem pl_ok {m : Nat} {s : Stm} (h : SOk m s) : ∀ k, (plP s k).1.length = k ∧ (∀ x ∈ (plP s k).1, 0 ≤ x ∧ x < k) ∧ SOk (m + k) (plP s k).2
  | 0 => ⟨rfl, fun x hx => by simp [plP] at hx, h⟩
  | k + 1 => by
    obtain ⟨h1, h2, h3⟩ := pl_ok h k
    refine ⟨?_, ?_, sok_dr _ h3⟩
    · show (List.take _ _ ++ [(k : Int)] ++ List.drop _ _).length = k + 1
      rw [List.length_append, List.length_append, List.length_take, List.length_drop, List.length_singleton]
      omega
    · intro x hx
      have hx : x ∈ (plP s k).1.take _ ++ [(k : Int)] ++ (plP s k).1.drop _ := hx
      rcases List.mem_append.mp hx with z | z
      · rcases List.mem_append.mp z with z | z
        · have := h2 x (List.mem_of_mem_take z); omega
        · rw [List.mem_singleton] at z; omega
      · have := h2 x (List.mem_of_mem_drop z); omega
theorem two_sorted (c e : Int) : ∀ ys : List Int, ys.Perm [c, e] → ys.Pairwise (· ≤ ·) → ys = twoF c e := fun ys hp hs => by
  refine List.Perm.eq_of_pairwise (fun a b _ _ h1 h2 => Int.le_antisymm h1 h2) hs ?_ (hp.trans ?_)
  · unfold twoF
    split
    · rename_i h; exact List.Pairwise.cons (fun x hx => by rw [List.mem_singleton.mp hx]; exact h) (List.pairwise_singleton _ _)
    · rename_i h; exact List.Pairwise.cons (fun x hx => by rw [List.mem_singleton.mp hx]; omega) (List.pairwise_singleton _ _)
  · unfold twoF
    split
    · exact List.Perm.refl _
    · exact List.Perm.swap _ _ _
theorem fin_split : ∀ n, n < 7 → ∀ c, c < n → ∀ p, p < 5 → (unitsL n).take c ++ List.replicate p ((unitsL n).getD c []) ++ (unitsL n).drop (c + 1) = splitF n (c : Int) p := by decide +kernel
theorem fin_drop : ∀ n, n < 7 → ∀ c, c < n → (unitsL (n - 1)).take c ++ [List.replicate (n - 1) 0] ++ (unitsL (n - 1)).drop c = dropF n (c : Int) := by decide +kernel
theorem fin_join : ∀ n, n < 7 → ∀ c, c < n → ∀ e, e < c → (unitsL (n - 1)).take c ++ [(unitsL (n - 1)).getD e []] ++ (unitsL (n - 1)).drop c = joinF n [(e : Int), (c : Int)] := by decide +kernel
theorem units_at {n k : Nat} (h : k < n) : (unitsL n)[k]? = some (unitL n k) := by
  unfold unitsL
  rw [List.getElem?_map, List.getElem?_range h]; rfl
theorem units_len (n : Nat) : (unitsL n).length = n := by simp [unitsL]
abbrev s_law_made : Stmt := topS 33
abbrev nm_law_made : List Str := ["stream", "size", "cell", "way", "units", "less", "cells", "due", "parts", "factor", "k", "places", "handed", "made", "times", "entry"]
theorem sc_law_made : FnScope nm_law_made ["stream", "size"] (defScope s_law_made) := ⟨rfl, rfl, rfl, by decide +kernel, rfl, by decide +kernel, by decide +kernel⟩
def F_law_made (sl : Sl) (ds : List PyData) (d : PyData) (sl' : Sl) : Prop := ∃ (s : Stm) (n m : Nat), sl = stmS s ∧ ds = [.int (n : Int)] ∧ 1 ≤ n ∧ n ≤ 6 ∧ SOk m s ∧ m ≤ 1000 ∧ d = .list [matT (madeF s n).1, matT (madeF s n).1, .int ((madeF s n).2.1 : Int)] ∧ sl' = stmS (madeF s n).2.2
abbrev T_law_made (P : Program) (w : World) (K : PySem.W.Frag) (mg : Str → Option Value) (base : Heap) : Prop := Cal P w K mg base "_law_made" 52 ["stream", "size"] (PO K F_law_made)
theorem ok_law_made (S : Sur P mg base) (A : FunAt K mg "_law_made" s_law_made) (C_law_draw : T_law_draw P w K mg base) (C_law_units : T_law_units P w K mg base) (C_split_matrix : T_split_matrix P w K mg base) (C_unit_matrix : T_unit_matrix P w K mg base) (C_order_matrix : T_order_matrix P w K mg base) (C_drop_matrix : T_drop_matrix P w K mg base) (C_join_matrix : T_join_matrix P w K mg base) : T_law_made P w K mg base := by
  refine cal_own A sc_law_made (fun _ _ _ _ _ _ us hl => match us, hl with | [_, _], _ => rfl) ?_ (fun f cdv A outer s H E hr => ⟨_, (pss_cons (ps_set (i := 2) sc_law_made.nd rfl (by first | exact .inl rfl | exact .inr rfl) (pe_own C_law_draw (hr.mono (by decide)) (by rfl) (pa_cons (pv 0) (pa_cons (pv 1) pa_nil)))) (pss_cons (ps_set (i := 3) sc_law_made.nd rfl (by first | exact .inl rfl | exact .inr rfl) (pe_own C_law_draw (hr.mono (by decide)) (by rfl) (pa_cons (pv 0) (pa_cons pe_int pa_nil)))) (pss_cons (ps_set (i := 4) sc_law_made.nd rfl (by first | exact .inl rfl | exact .inr rfl) (pe_own C_law_units (hr.mono (by decide)) (by rfl) (pa_cons (pv 1) pa_nil))) (pss_cons (ps_if (pt_cmpR (kEq K hr.units) (pv 3) pe_int (nomark _)) (pss_cons (ps_set (i := 8) sc_law_made.nd rfl (by first | exact .inl rfl | exact .inr rfl) (pe_op (kAdd K) pe_int (pe_own C_law_draw (hr.mono (by decide)) (by rfl) (pa_cons (pv 0) (pa_cons pe_int pa_nil))))) (pss_cons (ps_set (i := 7) sc_law_made.nd rfl (by first | exact .inl rfl | exact .inr rfl) (pe_callTy (kList K) (by rfl) (S.no "list" (by decide)) boot_list (pa_cons (pv 4) pa_nil))) (pss_cons (ps_asg (pe_op (kMul K) (pe_lst (pa_cons (pe_ix (kIx K) (pv 4) (pv 2) (fun _ _ => rfl)) pa_nil)) (pv 8)) (pg_slc (pv 7) (po_some (pv 2)) (po_some (pe_op (kAdd K) (pv 2) pe_int)))) (pss_one (ps_ret (pe_lst (pa_cons (pe_own C_split_matrix (hr.mono (by decide)) (by rfl) (pa_cons (pv 1) (pa_cons (pv 2) (pa_cons (pv 8) pa_nil)))) (pa_cons (kTuple K (by rfl) (S.no "tuple" (by decide)) (pv 7)) (pa_cons (pv 1) pa_nil))))))))) pss_nil) (pss_cons (ps_if (pt_cmpR (kEq K hr.units) (pv 3) pe_int (nomark _)) (pss_cons (ps_set (i := 9) sc_law_made.nd rfl (by first | exact .inl rfl | exact .inr rfl) (pe_ix (kIx K) (pe_lst (pa_cons pe_int (pa_cons pe_int (pa_cons pe_int (pa_cons (pe_op (kAdd K) pe_int (pe_own C_law_draw (hr.mono (by decide)) (by rfl) (pa_cons (pv 0) (pa_cons pe_int pa_nil)))) pa_nil))))) (pe_own C_law_draw (hr.mono (by decide)) (by rfl) (pa_cons (pv 0) (pa_cons pe_int pa_nil))) (fun _ _ => rfl))) (pss_cons (ps_set (i := 7) sc_law_made.nd rfl (by first | exact .inl rfl | exact .inr rfl) (pe_lst pa_nil)) (pss_cons (ps_for PassesOwn.never rfl (pi_range1 (by rfl) (S.no "range" (by decide)) (pa_cons (pv 1) pa_nil)) (pg_name (i := 10) sc_law_made.nd rfl (by first | exact .inl rfl | exact .inr rfl)) (pss_cons (ps_set (i := 14) sc_law_made.nd rfl (by first | exact .inl rfl | exact .inr rfl) (pe_ix (kIx K) (pe_lst (pa_cons pe_int (pa_cons (pv 9) pa_nil))) (pe_callTy call_int1 (by rfl) (S.no "int" (by decide)) boot_int (pa_cons (pe_cmpR (kEq K hr.units) (pv 10) (pv 2) (nomark _)) pa_nil)) (fun _ _ => rfl))) (pss_one (ps_expr (kMeth K PySem.F.plainAttrs_list PySem.F.slot_list_append PySem.F.type_list_append mt_append (pv 7) (pa_cons (kTuple K (by rfl) (S.no "tuple" (by decide)) (pe_lc (own := [("entry", 15)]) rfl sc_law_made.nd (kSeq K (pe_ix (kIx K) (pv 4) (pv 10) (fun _ _ => rfl))) (blkOk_by (N := nm_law_made) (sc := defScope s_law_made) (by decide +kernel)) (fun _ _ _ _ _ => (pg_name (i := 15) sc_law_made.nd rfl (by first | exact .inl rfl | exact .inr rfl))) (fun _ _ _ _ _ => pts_nil) (fun _ _ _ _ _ => (pe_op (kMul K) (pv 14) (pv 15))))) pa_nil)))))) (pss_one (ps_ret (pe_lst (pa_cons (pe_own C_unit_matrix (hr.mono (by decide)) (by rfl) (pa_cons (pv 1) (pa_cons (pv 2) (pa_cons (pv 9) pa_nil)))) (pa_cons (kTuple K (by rfl) (S.no "tuple" (by decide)) (pv 7)) (pa_cons (pv 1) pa_nil))))))))) pss_nil) (pss_cons (ps_if (PW.pt (pw_or (pt_cmpR (kEq K hr.units) (pv 3) pe_int (nomark _)) (pw_or1 (pt_cmpR op_lt (pv 1) pe_int (nomark _))))) (pss_cons (ps_set (i := 11) sc_law_made.nd rfl (by first | exact .inl rfl | exact .inr rfl) (pe_lst pa_nil)) (pss_cons (ps_for PassesOwn.never rfl (pi_range1 (by rfl) (S.no "range" (by decide)) (pa_cons (pv 1) pa_nil)) (pg_name (i := 10) sc_law_made.nd rfl (by first | exact .inl rfl | exact .inr rfl)) (pss_one (ps_expr (kMeth K PySem.F.plainAttrs_list PySem.F.slot_list_insert PySem.F.type_list_insert mt_insert (pv 11) (pa_cons (pe_own C_law_draw (hr.mono (by decide)) (by rfl) (pa_cons (pv 0) (pa_cons (pe_op (kAdd K) (pe_callB (kLen K) (by rfl) (S.no "len" (by decide)) boot_len (pa_cons (pv 11) pa_nil)) pe_int) pa_nil))) (pa_cons (pv 10) pa_nil)))))) (pss_cons (ps_set (i := 7) sc_law_made.nd rfl (by first | exact .inl rfl | exact .inr rfl) (kTuple K (by rfl) (S.no "tuple" (by decide)) (pe_lc (own := [("k", 10)]) rfl sc_law_made.nd (kSeq K (pv 11)) (blkOk_by (N := nm_law_made) (sc := defScope s_law_made) (by decide +kernel)) (fun _ _ _ _ _ => (pg_name (i := 10) sc_law_made.nd rfl (by first | exact .inl rfl | exact .inr rfl))) (fun _ _ _ _ _ => pts_nil) (fun _ _ _ _ _ => (pe_ix (kIx K) (pv 4) (pv 10) (fun _ _ => rfl)))))) (pss_cons (ps_set (i := 12) sc_law_made.nd rfl (by first | exact .inl rfl | exact .inr rfl) (pe_ix (kIx K) (pe_lst (pa_cons (pe_callTy (kList K) (by rfl) (S.no "list" (by decide)) boot_list (pa_cons (pv 11) pa_nil)) (pa_cons (kTuple K (by rfl) (S.no "tuple" (by decide)) (pv 11)) pa_nil))) (pe_own C_law_draw (hr.mono (by decide)) (by rfl) (pa_cons (pv 0) (pa_cons pe_int pa_nil))) (fun _ _ => rfl))) (pss_cons (ps_set (i := 13) sc_law_made.nd rfl (by first | exact .inl rfl | exact .inr rfl) (pe_own C_order_matrix (hr.mono (by decide)) (by rfl) (pa_cons (pv 12) pa_nil))) (pss_one (ps_ret (pe_lst (pa_cons (pe_ifExp (pt_cmpR (kEq K hr.units) (pe_callTy (kList K) (by rfl) (S.no "list" (by decide)) boot_list (pa_cons (pv 12) pa_nil)) (pv 11) (nomark _)) (pv 13) pe_non) (pa_cons (pv 7) (pa_cons (pv 1) pa_nil))))))))))) pss_nil) (pss_cons (ps_set (i := 5) sc_law_made.nd rfl (by first | exact .inl rfl | exact .inr rfl) (pe_own C_law_units (hr.mono (by decide)) (by rfl) (pa_cons (pe_op op_sub (pv 1) pe_int) pa_nil))) (pss_cons (ps_if (pt_cmpR (kEq K hr.units) (pv 3) pe_int (nomark _)) (pss_cons (ps_set (i := 7) sc_law_made.nd rfl (by first | exact .inl rfl | exact .inr rfl) (pe_op (kAdd K) (pe_op (kAdd K) (pe_slice (kSl K) (pv 5) po_none (po_some (pv 2))) (pe_lst (pa_cons (pe_op (kMul K) (pe_tup (pa_cons pe_int pa_nil)) (pe_op op_sub (pv 1) pe_int)) pa_nil))) (pe_slice (kSl K) (pv 5) (po_some (pv 2)) po_none))) (pss_one (ps_ret (pe_lst (pa_cons (pe_own C_drop_matrix (hr.mono (by decide)) (by rfl) (pa_cons (pv 1) (pa_cons (pv 2) pa_nil))) (pa_cons (kTuple K (by rfl) (S.no "tuple" (by decide)) (pv 7)) (pa_cons (pe_op op_sub (pv 1) pe_int) pa_nil))))))) pss_nil) (pss_cons (ps_set (i := 6) sc_law_made.nd rfl (by first | exact .inl rfl | exact .inr rfl) (pe_callB (kSorted K) (by rfl) (S.no "sorted" (by decide)) boot_sorted (pa_cons (pe_lst (pa_cons (pv 2) (pa_cons (pe_op op_modN (pe_op (kAdd K) (pe_op (kAdd K) (pv 2) pe_int) (pe_own C_law_draw (hr.mono (by decide)) (by rfl) (pa_cons (pv 0) (pa_cons (pe_op op_sub (pv 1) pe_int) pa_nil)))) (pv 1)) pa_nil))) pa_nil))) (pss_cons (ps_set (i := 7) sc_law_made.nd rfl (by first | exact .inl rfl | exact .inr rfl) (pe_op (kAdd K) (pe_op (kAdd K) (pe_slice (kSl K) (pv 5) po_none (po_some (pe_ix (kIx K) (pv 6) pe_int (fun _ _ => rfl)))) (pe_lst (pa_cons (pe_ix (kIx K) (pv 5) (pe_ix (kIx K) (pv 6) pe_int (fun _ _ => rfl)) (fun _ _ => rfl)) pa_nil))) (pe_slice (kSl K) (pv 5) (po_some (pe_ix (kIx K) (pv 6) pe_int (fun _ _ => rfl))) po_none))) (pss_one (ps_ret (pe_lst (pa_cons (pe_own C_join_matrix (hr.mono (by decide)) (by rfl) (pa_cons (pv 1) (pa_cons (kTuple K (by rfl) (S.no "tuple" (by decide)) (pv 6)) pa_nil))) (pa_cons (kTuple K (by rfl) (S.no "tuple" (by decide)) (pv 7)) (pa_cons (pe_op op_sub (pv 1) pe_int) pa_nil)))))))))))))))), ?_⟩)
  · rintro _ _ _ _ ⟨_, _, _, rfl, rfl, _, _, _, _, _, rfl⟩; exact ⟨rfl, rfl⟩
  · rintro _ _ _ _ ⟨s, n, m, rfl, rfl, hn1, hn6, hs, hm, rfl, rfl⟩
    show RS K true _ [stmS s, .dat (.int n), .un, .un, .un, .un, .un, .un, .un, .un, .un, .un, .un, .un, .un, .un] _
    obtain ⟨c0, c1⟩ := drV_rng s (show (0 : Int) < n by omega)
    refine rs_seq (rs_set (re_draw (i := 0) (s := s) rfl (re_var rfl) rfl (by omega) hs (by omega)) ?_)
    have hs1 := sok_dr n hs
    unfold madeF
    generalize drV s n = ci at c0 c1
    generalize drS s n = s1 at hs1
    obtain ⟨c, rfl⟩ := Int.eq_ofNat_of_zero_le c0
    have hcn : c < n := by omega
    show RS K true _ [stmS s1, .dat (.int n), .dat (.int (c : Int)), .un, .un, .un, .un, .un, .un, .un, .un, .un, .un, .un, .un, .un] _
    obtain ⟨y0, y1⟩ := drV_rng s1 (show (0 : Int) < 5 by decide)
    refine rs_seq (rs_set (re_draw (i := 0) (s := s1) rfl re_int rfl (by decide) hs1 (by omega)) ?_)
    have hs2 := sok_dr 5 hs1
    generalize drV s1 5 = y at y0 y1
    generalize drS s1 5 = s2 at hs2
    show RS K true _ [stmS s2, .dat (.int n), .dat (.int (c : Int)), .dat (.int y), .un, .un, .un, .un, .un, .un, .un, .un, .un, .un, .un, .un] _
    refine rs_seq (rs_set (re_call (ra_cons (re_var rfl) ra_nil) ⟨n, rfl, by omega, rfl⟩) ?_)
    show RS K true _ [stmS s2, .dat (.int n), .dat (.int (c : Int)), .dat (.int y), .dat (lstM (unitsL n)), .un, .un, .un, .un, .un, .un, .un, .un, .un, .un, .un] _
    refine rs_seq (rs_if (rt_test (re_eqI (re_var rfl) re_int)) (fun hb => ?_) (fun hb => rs_nx ?_))
    · -- way 0
      have hy : y = 0 := of_decide_eq_true hb
      unfold madeG
      rw [if_pos hy]
      obtain ⟨p0, p1⟩ := drV_rng s2 (show (0 : Int) < 3 by decide)
      refine rs_seq (rs_set (re_addI re_int (re_draw (i := 0) (s := s2) rfl re_int rfl (by decide) hs2 (by omega))) ?_)
      generalize drV s2 3 = pi at p0 p1
      obtain ⟨p, rfl⟩ := Int.eq_ofNat_of_zero_le p0
      show RS K true _ [stmS (drS s2 3), .dat (.int n), .dat (.int (c : Int)), .dat (.int y), .dat (lstM (unitsL n)), .un, .un, .un, .dat (.int (2 + (p : Int))), .un, .un, .un, .un, .un, .un, .un] _
      refine rs_seq (rs_setL (rl_cb (ra_cons (re_var rfl) ra_nil) (cdl_list (d := lstM (unitsL n)) (ds := (unitsL n).map vec) rfl)) ?_)
      show RS K true _ [stmS (drS s2 3), .dat (.int n), .dat (.int (c : Int)), .dat (.int y), .dat (lstM (unitsL n)), .un, .un, .lst ((unitsL n).map vec), .dat (.int (2 + (p : Int))), .un, .un, .un, .un, .un, .un, .un] _
      have hcl : c + 1 ≤ ((unitsL n).map vec).length := by rw [List.length_map, units_len]; omega
      refine rs_seq (rs_slc (i := 7) (a := (c : Int)) (c := (c : Int) + 1) (rl_mulL (rl_lst (ra_cons (re_ixL (d := vec (unitL n c)) (re_var rfl) (re_var rfl) (at_nat (by rw [List.getElem?_map, units_at hcn]; rfl))) ra_nil)) (re_var rfl) (by omega) (by show 1 * _ ≤ 16777216; omega)) rfl (ro_some (re_var rfl)) (ro_some (re_addI (re_var rfl) re_int)) (by omega) (by omega) (by omega)
        (by rw [rep_one, List.length_replicate, List.length_map, units_len]; show _ ≤ 16777216; omega) ?_)
      have e : List.take (c : Int).toNat ((unitsL n).map vec) ++ (List.replicate (2 + (p : Int)).toNat [vec (unitL n c)]).flatten ++ List.drop ((c : Int) + 1).toNat ((unitsL n).map vec) = (splitF n c (2 + p)).map vec := by
        rw [← fin_split n (by omega) c hcn (2 + p) (by omega), rep_one, List.map_append, List.map_append, List.map_take, List.map_drop, List.map_replicate, List.getD_eq_getElem?_getD, units_at hcn]
        congr 2
      rw [e]
      show RS K true _ [stmS (drS s2 3), .dat (.int n), .dat (.int (c : Int)), .dat (.int y), .dat (lstM (unitsL n)), .un, .un, .lst ((splitF n c (2 + p)).map vec), .dat (.int (2 + (p : Int))), .un, .un, .un, .un, .un, .un, .un] _
      refine rs_ret (RL.re (rl_lst (ra_cons (re_call (ra_cons (re_var rfl) (ra_cons (re_var rfl) (ra_cons (re_var rfl) ra_nil))) ⟨n, (c : Int), 2 + p, by simp, by omega, by omega, rfl⟩) (ra_cons (re_tupleL (re_out (i := 7) rfl)) (ra_cons (re_var rfl) ra_nil))))) ⟨?_, rfl⟩
      rw [Int.toNat_natCast]; rfl
    have hy0 : y ≠ 0 := of_decide_eq_false hb
    unfold madeG
    rw [if_neg hy0]
    refine rs_seq (rs_if (rt_test (re_eqI (re_var rfl) re_int)) (fun hb => ?_) (fun hb => rs_nx ?_))
    · -- way 1
      have hy : y = 1 := of_decide_eq_true hb
      rw [if_pos hy]
      obtain ⟨h0, h1⟩ := drV_rng (drS s2 999) (show (0 : Int) < 4 by decide)
      refine rs_seq (rs_set (d := .int (facF s2)) (re_ixL (RL.re (rl_lst (ra_cons re_int (ra_cons re_int (ra_cons re_int (ra_cons (re_addI re_int (re_draw (i := 0) (s := s2) rfl re_int rfl (by decide) hs2 (by omega))) ra_nil)))))) (re_draw (i := 0) (s := drS s2 999) rfl re_int rfl (by decide) (sok_dr 999 hs2) (by omega)) (lit_int (ns := [2, 3, 1000, 2 + drV s2 999]) (k := 4) h0 h1 rfl)) ?_)
      obtain ⟨f0, f1⟩ := fac_rng s2
      generalize facF s2 = f at f0 f1
      generalize drS (drS s2 999) 4 = s3
      refine rs_seq (rs_setL (rl_lst ra_nil) ?_)
      show RS K true _ [stmS s3, .dat (.int n), .dat (.int (c : Int)), .dat (.int y), .dat (lstM (unitsL n)), .un, .un, .lst [], .un, .dat (.int f), .un, .un, .un, .un, .un, .un] _
      have hsf : Sm f := Sm.one (by have : (2 : Nat) ^ 64 = 18446744073709551616 := by decide
                                    rw [this]; omega)
      refine rs_seq (rs_for (ri_range (n := n) (ra_cons (re_var rfl) ra_nil) (by omega))
        (fun i Γ => ∃ s10 s14, Γ = [stmS s3, .dat (.int n), .dat (.int (c : Int)), .dat (.int y), .dat (lstM (unitsL n)), .un, .un, .lst (((List.range i).map fun (k : Nat) => urow n k (if (k : Int) = c then f else 1)).map vec), .un, .dat (.int f), s10, .un, .un, .un, s14, .un]) ⟨_, _, rfl⟩ (fun i d Γ hd hW => ?_) (fun Γ hW => ?_))
      · obtain ⟨s10, s14, rfl⟩ := hW
        rw [List.getElem?_map] at hd
        obtain ⟨k, hk, rfl⟩ := Option.map_eq_some_iff.mp hd
        have hki : k = i := by obtain ⟨_, h2⟩ := List.getElem?_eq_some_iff.mp hk; simpa using h2.symm
        subst hki
        have hkn : k < n := by have := (List.getElem?_eq_some_iff.mp hk).1; simpa using this
        refine ⟨_, _, rg_name, by decide, ?_⟩
        refine rs_seq (rs_set (d := .int (if (k : Int) = c then f else 1)) (re_ixL (RL.re (rl_lst (ra_cons re_int (ra_cons (re_var rfl) ra_nil)))) (re_cb (ra_cons (re_eqI (re_var rfl) (re_var rfl)) ra_nil) cd_intB) (by
          by_cases z : (k : Int) = c
          · rw [decide_eq_true z, if_pos z]; rfl
          · rw [decide_eq_false z, if_neg z]; rfl)) ?_)
        have hst : Sm (if (k : Int) = c then f else 1) := by split; exact hsf; exact sm1
        generalize ht : (if (k : Int) = c then f else 1) = t at hst
        refine rs_app (i := 7) rfl (re_tupleL (RL.re (rl_map (unitL n k) .int (fun x => .int (t * x)) (ri_seq (re_ixL (d := vec (unitL n k)) (re_var rfl) (re_var rfl) (at_nat (by rw [List.getElem?_map, units_at hkn]; rfl))) rfl) (by rw [unit_len]; omega) (fun x hx => re_mulI (re_var rfl) (re_var rfl) (hst.mul (unit_sm x hx)))))) rfl (by rw [List.length_map, List.length_map, List.length_range]; show k < 16777216; omega) ?_
        refine ⟨.dat (.int (k : Int)), .dat (.int t), ?_⟩
        have e : (unitL n k).map (fun x => PyData.int (t * x)) = (urow n k t).map .int := by unfold urow scaleL; rw [List.map_map]; rfl
        rw [e, List.range_succ, List.map_append, List.map_append, ← ht]
        rfl
      · obtain ⟨s10, s14, rfl⟩ := hW
        rw [List.length_map, List.length_range]
        exact rs_ret (RL.re (rl_lst (ra_cons (re_call (ra_cons (re_var rfl) (ra_cons (re_var rfl) (ra_cons (re_var rfl) ra_nil))) ⟨n, (c : Int), f, rfl, by omega, hsf, rfl⟩) (ra_cons (re_tupleL (re_out (i := 7) rfl)) (ra_cons (re_var rfl) ra_nil))))) ⟨rfl, rfl⟩
    have hy1 : y ≠ 1 := of_decide_eq_false hb
    rw [if_neg hy1]
    have t2 : ∀ Γ : Ga, Γ[3]? = some (.dat (.int y)) → Γ[1]? = some (.dat (.int (n : Int))) → RT K (tOr (tTest (tOp (rEqX K) (tVar 3) (tC (V.int 2)))) (tTest (tOp (rI0 fun i j => V.bl (decide (i < j))) (tVar 1) (tC (V.int 2))))) Γ (decide (y = 2 ∨ n < 2)) Γ := fun Γ h3 h1 =>
      (rt_or (rt_test (re_eqI (re_var h3) re_int)) (fun _ => rfl) (fun _ => rt_test (re_op (re_var h1) re_int od_lt))).is (by
        by_cases z : y = 2
        · simp [z]
        · by_cases z2 : n < 2
          · have : (n : Int) < 2 := by omega
            simp [z, z2, this]
          · have : ¬ (n : Int) < 2 := by omega
            simp [z, z2, this])
    refine rs_seq (rs_if (t2 _ rfl rfl) (fun hb => ?_) (fun hb => rs_nx ?_))
    · -- way 2
      rw [if_pos (of_decide_eq_true hb)]
      refine rs_seq (rs_setL (rl_lst ra_nil) ?_)
      show RS K true _ [stmS s2, .dat (.int n), .dat (.int (c : Int)), .dat (.int y), .dat (lstM (unitsL n)), .un, .un, .un, .un, .un, .un, .lst [], .un, .un, .un, .un] _
      refine rs_seq (rs_for (ri_range (n := n) (ra_cons (re_var rfl) ra_nil) (by omega))
        (fun i Γ => ∃ s10, Γ = [stmS (plP s2 i).2, .dat (.int n), .dat (.int (c : Int)), .dat (.int y), .dat (lstM (unitsL n)), .un, .un, .un, .un, .un, s10, .lst ((plP s2 i).1.map .int), .un, .un, .un, .un] ∧ s10.flat = true) ⟨_, rfl, rfl⟩ (fun i d Γ hd hW => ?_) (fun Γ hW => ?_))
      · obtain ⟨s10, rfl, _⟩ := hW
        rw [List.getElem?_map] at hd
        obtain ⟨k, hk, rfl⟩ := Option.map_eq_some_iff.mp hd
        have hki : k = i := by obtain ⟨_, h2⟩ := List.getElem?_eq_some_iff.mp hk; simpa using h2.symm
        subst hki
        have hkn : k < n := by have := (List.getElem?_eq_some_iff.mp hk).1; simpa using this
        refine ⟨_, _, rg_name, by decide, ?_⟩
        obtain ⟨l1, l2, l3⟩ := pl_ok hs2 k
        show RS K true _ [stmS (plP s2 k).2, .dat (.int n), .dat (.int (c : Int)), .dat (.int y), .dat (lstM (unitsL n)), .un, .un, .un, .un, .un, .dat (.int (k : Int)), .lst ((plP s2 k).1.map .int), .un, .un, .un, .un] _
        have hW : ∀ Γ : Ga, Γ = [stmS (plP s2 (k + 1)).2, .dat (.int n), .dat (.int (c : Int)), .dat (.int y), .dat (lstM (unitsL n)), .un, .un, .un, .un, .un, .dat (.int (k : Int)), .lst ((plP s2 (k + 1)).1.map .int), .un, .un, .un, .un] → ∃ s10, Γ = [stmS (plP s2 (k + 1)).2, .dat (.int n), .dat (.int (c : Int)), .dat (.int y), .dat (lstM (unitsL n)), .un, .un, .un, .un, .un, s10, .lst ((plP s2 (k + 1)).1.map .int), .un, .un, .un, .un] ∧ s10.flat = true := fun Γ h => ⟨_, h, rfl⟩
        have e1 : (plP s2 (k + 1)).1 = (plP s2 k).1.take (drV (plP s2 k).2 ((k : Int) + 1)).toNat ++ [(k : Int)] ++ (plP s2 k).1.drop (drV (plP s2 k).2 ((k : Int) + 1)).toNat := rfl
        have e2 : (plP s2 (k + 1)).2 = drS (plP s2 k).2 ((k : Int) + 1) := rfl
        rw [e1, e2] at hW
        rw [e1, e2]
        generalize plP s2 k = q at l1 l2 l3 hW ⊢
        obtain ⟨qs, qt⟩ := q
        obtain ⟨v0, v1⟩ := drV_rng qt (show (0 : Int) < (k : Int) + 1 by omega)
        have l1 : qs.length = k := l1
        refine rs_ins (i := 11) (k := drV qt ((k : Int) + 1)) (d := .int (k : Int)) (ds := qs.map .int) rfl (ra_cons (re_draw (i := 0) (s := qt) (many := (k : Int) + 1) rfl ((re_addI (re_lenO (i := 11) (ds := qs.map .int) rfl) re_int).is (by rw [List.length_map, l1])) rfl (by omega) l3 (by omega)) (ra_cons (re_var rfl) ra_nil)) rfl (by rw [List.length_map, l1]; show k < 16777216; omega) (by constructor <;> omega) ?_
        refine hW _ ?_
        rw [List.map_append, List.map_append, List.map_take, List.map_drop]
        rfl
      · obtain ⟨s10, rfl, hs10⟩ := hW
        rw [List.length_map, List.length_range]
        obtain ⟨l1, l2, l3⟩ := pl_ok hs2 n
        generalize plP s2 n = q at l1 l2 l3
        obtain ⟨qs, qt⟩ := q
        have l1 : qs.length = n := l1
        show RS K true _ [stmS qt, .dat (.int n), .dat (.int (c : Int)), .dat (.int y), .dat (lstM (unitsL n)), .un, .un, .un, .un, .un, s10, .lst (qs.map .int), .un, .un, .un, .un] _
        refine rs_seq (rs_set (re_tupleL (RL.re (rl_map (Γ1 := [stmS qt, .dat (.int n), .dat (.int (c : Int)), .dat (.int y), .dat (lstM (unitsL n)), .un, .un, .un, .un, .un, s10, .dat (lsv qs), .un, .un, .un, .un]) qs .int (fun x => vec (urow qs.length x 1)) (ri_seqL (re_out (i := 11) rfl)) (by omega) (fun x hx => ?_) (by show (Sl.flat s10 && true) = true; rw [hs10]; rfl)))) ?_)
        · have h2 := l2 x hx
          obtain ⟨j, rfl⟩ := Int.eq_ofNat_of_zero_le h2.1
          exact re_ixL (re_var rfl) (re_var rfl) (at_nat (by rw [List.getElem?_map, units_at (by omega), l1, urow_one]; rfl))
        have e : PyData.tuple (qs.map fun x => vec (urow qs.length x 1)) = matT (orderF qs) := by unfold matT orderF; rw [List.map_map]; rfl
        rw [e]
        show RS K true _ [stmS qt, .dat (.int n), .dat (.int (c : Int)), .dat (.int y), .dat (lstM (unitsL n)), .un, .un, .dat (matT (orderF qs)), .un, .un, s10, .dat (lsv qs), .un, .un, .un, .un] _
        obtain ⟨h0, h1⟩ := drV_rng qt (show (0 : Int) < 2 by decide)
        obtain ⟨hd, hq, hh⟩ : ∃ hd, atI [lsv qs, vec qs] (drV qt 2) = some hd ∧ Sq hd qs := by
          obtain ⟨j, hj⟩ := Int.eq_ofNat_of_zero_le h0
          rw [hj]
          have : j < 2 := by omega
          match j, this with
          | 0, _ => exact ⟨_, rfl, sq_lsv qs⟩
          | 1, _ => exact ⟨_, rfl, sq_vec qs⟩
        refine rs_seq (rs_set (d := hd) (re_ixL (RL.re (rl_lst (ra_cons (RL.re (rl_cb (ra_cons (re_var rfl) ra_nil) (cdl_list (sq_lsv qs)))) (ra_cons (re_tupleL (re_var rfl)) ra_nil)))) (re_draw (i := 0) (s := qt) rfl re_int rfl (by decide) l3 (by omega)) hq) ?_)
        refine rs_seq (rs_set (re_call (ra_cons (re_var rfl) ra_nil) ⟨hd, qs, rfl, hh, by omega, rfl⟩) ?_)
        refine rs_ret (RL.re (rl_lst (ra_cons (re_if (b := true) ((rt_test (re_eqD (d1 := lsv qs) (d2 := lsv qs) (RL.re (rl_cb (ra_cons (re_var rfl) ra_nil) (cdl_list hh))) (re_var rfl) (Shp.sh (n := 1) (shp_mapL fun _ _ => shp_int)) (Shp.sh (n := 1) (shp_mapL fun _ _ => shp_int)))).is (by rw [lsv, eqv_lst eqv_int]; simp)) (fun _ => re_var rfl) (fun z => nomatch z)) (ra_cons (re_var rfl) (ra_cons (re_var rfl) ra_nil))))) ⟨rfl, rfl⟩
    have hyn := of_decide_eq_false hb
    rw [if_neg hyn]
    have hn2 : 2 ≤ n := by omega
    refine rs_seq (rs_set (re_call (ra_cons ((re_subI (re_var rfl) re_int).is (d2 := .int ((n - 1 : Nat) : Int)) (by congr 1; omega)) ra_nil) ⟨n - 1, rfl, by omega, rfl⟩) ?_)
    show RS K true _ [stmS s2, .dat (.int n), .dat (.int (c : Int)), .dat (.int y), .dat (lstM (unitsL n)), .dat (lstM (unitsL (n - 1))), .un, .un, .un, .un, .un, .un, .un, .un, .un, .un] _
    refine rs_seq (rs_if (rt_test (re_eqI (re_var rfl) re_int)) (fun hb => ?_) (fun hb => rs_nx ?_))
    · -- way 3
      rw [if_pos (of_decide_eq_true hb)]
      have hz : PyData.tuple (List.replicate ((n : Int) - 1).toNat (.int 0)) = vec (List.replicate (n - 1) 0) := by
        unfold vec
        rw [List.map_replicate]
        congr 2
        omega
      refine rs_seq (rs_setL (rl_addL (rl_addL (rl_slice (re_var rfl) ro_no (ro_some (re_var rfl))) (rl_lst (ra_cons (re_mulT (re_tup (ra_cons re_int ra_nil)) (re_subI (re_var rfl) re_int) (by omega)) ra_nil)) ?_) (rl_slice (re_var rfl) (ro_some (re_var rfl)) ro_no) ?_) ?_)
      · rw [cut_to]; simp [unitsL]; show _ ≤ 16777216; omega
      · rw [cut_to, cut_from]; simp [unitsL]; show _ ≤ 16777216; omega
      rw [cut_to, cut_from, hz]
      have e : ((unitsL (n - 1)).map vec).take c ++ [vec (List.replicate (n - 1) 0)] ++ ((unitsL (n - 1)).map vec).drop c = (dropF n c).map vec := by
        rw [← fin_drop n (by omega) c hcn, List.map_append, List.map_append, List.map_take, List.map_drop]; rfl
      rw [e]
      show RS K true _ [stmS s2, .dat (.int n), .dat (.int (c : Int)), .dat (.int y), .dat (lstM (unitsL n)), .dat (lstM (unitsL (n - 1))), .un, .lst ((dropF n c).map vec), .un, .un, .un, .un, .un, .un, .un, .un] _
      exact rs_ret (RL.re (rl_lst (ra_cons (re_call (ra_cons (re_var rfl) (ra_cons (re_var rfl) ra_nil)) ⟨n, (c : Int), rfl, by omega, by omega, rfl⟩) (ra_cons (re_tupleL (re_out (i := 7) rfl)) (ra_cons ((re_subI (re_var rfl) re_int).is (d2 := .int ((n - 1 : Nat) : Int)) (by congr 1; omega)) ra_nil))))) ⟨rfl, rfl⟩
    have hy3 : y ≠ 3 := of_decide_eq_false hb
    rw [if_neg hy3]
    obtain ⟨v0, v1⟩ := drV_rng s2 (show (0 : Int) < (n : Int) - 1 by omega)
    have e0 := Int.fmod_nonneg_of_pos ((c : Int) + 1 + drV s2 ((n : Int) - 1)) (show (0 : Int) < n by omega)
    have e1 := Int.fmod_lt_of_pos ((c : Int) + 1 + drV s2 ((n : Int) - 1)) (show (0 : Int) < n by omega)
    have ene : ((c : Int) + 1 + drV s2 ((n : Int) - 1)).fmod n ≠ c := by
      rw [Int.fmod_eq_emod_of_nonneg _ (by omega)]
      by_cases z : (c : Int) + 1 + drV s2 ((n : Int) - 1) < n
      · rw [Int.emod_eq_of_lt (by omega) z]; omega
      · have : ((c : Int) + 1 + drV s2 ((n : Int) - 1)) % n = (c : Int) + 1 + drV s2 ((n : Int) - 1) - n := by
          rw [← Int.sub_emod_right, Int.emod_eq_of_lt (by omega) (by omega)]
        rw [this]; omega
    refine rs_seq (rs_set (d := lsv (twoF c (((c : Int) + 1 + drV s2 ((n : Int) - 1)).fmod n))) (RL.re (rl_cb (ra_cons (RL.re (rl_lst (ra_cons (re_var rfl) (ra_cons (re_modI (re_addI (re_addI (re_var rfl) re_int) (re_draw (i := 0) (s := s2) (many := (n : Int) - 1) rfl (re_subI (re_var rfl) re_int) rfl (by omega) hs2 (by omega))) (re_var rfl) (by omega)) ra_nil)))) ra_nil) (cdl_sorted (ns := [(c : Int), ((c : Int) + 1 + drV s2 ((n : Int) - 1)).fmod n]) (by simp) (two_sorted _ _)))) ?_)
    generalize ((c : Int) + 1 + drV s2 ((n : Int) - 1)).fmod n = ei at e0 e1 ene
    obtain ⟨a, b, hab, hbn, htw⟩ : ∃ a b : Nat, a < b ∧ b < n ∧ twoF (c : Int) ei = [(a : Int), (b : Int)] := by
      obtain ⟨e, rfl⟩ := Int.eq_ofNat_of_zero_le e0
      unfold twoF
      by_cases h : (c : Int) ≤ (e : Int)
      · rw [if_pos h]; exact ⟨c, e, by omega, by omega, rfl⟩
      · rw [if_neg h]; exact ⟨e, c, by omega, by omega, rfl⟩
    rw [htw]
    show RS K true _ [stmS (drS s2 ((n : Int) - 1)), .dat (.int n), .dat (.int (c : Int)), .dat (.int y), .dat (lstM (unitsL n)), .dat (lstM (unitsL (n - 1))), .dat (lsv [(a : Int), (b : Int)]), .un, .un, .un, .un, .un, .un, .un, .un, .un] _
    have i1 : ∀ Γ : Ga, Γ[6]? = some (.dat (lsv [(a : Int), (b : Int)])) → RE K (tOp (rIx K) (tVar 6) (tC (V.int 1))) Γ (.int (b : Int)) Γ := fun Γ h => re_ixL (re_var h) re_int (at_nat (k := 1) rfl)
    have i0 : ∀ Γ : Ga, Γ[6]? = some (.dat (lsv [(a : Int), (b : Int)])) → RE K (tOp (rIx K) (tVar 6) (tC (V.int 0))) Γ (.int (a : Int)) Γ := fun Γ h => re_ixL (re_var h) re_int (at_nat (k := 0) rfl)
    refine rs_seq (rs_setL (rl_addL (rl_addL (rl_slice (re_var rfl) ro_no (ro_some (i1 _ rfl))) (rl_lst (ra_cons (re_ixL (d := vec (unitL (n - 1) a)) (re_var rfl) (i0 _ rfl) (at_nat (by rw [List.getElem?_map, units_at (by omega)]; rfl))) ra_nil)) ?_) (rl_slice (re_var rfl) (ro_some (i1 _ rfl)) ro_no) ?_) ?_)
    · rw [cut_to]; simp [unitsL]; show _ ≤ 16777216; omega
    · rw [cut_to, cut_from]; simp [unitsL]; show _ ≤ 16777216; omega
    rw [cut_to, cut_from]
    have e : ((unitsL (n - 1)).map vec).take b ++ [vec (unitL (n - 1) a)] ++ ((unitsL (n - 1)).map vec).drop b = (joinF n [(a : Int), (b : Int)]).map vec := by
      rw [← fin_join n (by omega) b hbn a hab, List.map_append, List.map_append, List.map_take, List.map_drop, List.getD_eq_getElem?_getD, units_at (by omega)]; rfl
    rw [e]
    show RS K true _ [stmS (drS s2 ((n : Int) - 1)), .dat (.int n), .dat (.int (c : Int)), .dat (.int y), .dat (lstM (unitsL n)), .dat (lstM (unitsL (n - 1))), .dat (lsv [(a : Int), (b : Int)]), .lst ((joinF n [(a : Int), (b : Int)]).map vec), .un, .un, .un, .un, .un, .un, .un, .un] _
    exact rs_ret (RL.re (rl_lst (ra_cons (re_call (ra_cons (re_var rfl) (ra_cons (re_tupleL (re_var rfl)) ra_nil)) ⟨n, vec [(a : Int), (b : Int)], [(a : Int), (b : Int)], rfl, rfl, by omega, by simp, by
      intro x hx
      simp at hx
      omega, rfl⟩) (ra_cons (re_tupleL (re_out (i := 7) rfl)) (ra_cons ((re_subI (re_var rfl) re_int).is (d2 := .int ((n - 1 : Nat) : Int)) (by congr 1; omega)) ra_nil))))) ⟨rfl, rfl⟩
end K87

namespace K87
open PySem PySem.Spec PyProof.Rows L2 DL
open PySem.Builtin.Int (intBits)
/-! ### the two ways agree -/
theorem its_ok : ∀ n, n ≤ 6 → itS 9 n 20 < 60000000 := by decide +kernel
theorem unit_bd {n k : Nat} {B : Nat} (hB : 1 ≤ B) : Bd n B (unitL n (k : Int)) := ⟨unit_len, fun j => by
  rw [at_unit]; split <;> simp <;> omega⟩
theorem units_bd {n B : Nat} (hB : 1 ≤ B) : ∀ r ∈ unitsL n, Bd n B r := fun r hr => by
  obtain ⟨k, _, rfl⟩ := List.mem_map.mp hr
  exact unit_bd hB
theorem lat_units {n : Nat} {v : Vc} (hv : v.length = n) : Lat (Gr (unitsL n)) (at_ v) := by
  have key : ∀ m, m ≤ n → Lat (Gr (unitsL n)) (fun j => if j < m then at_ v j else 0) := by
    intro m
    induction m with
    | zero => intro _; exact Lat.zero.eq fun j => by rw [if_neg (by omega)]
    | succ m ih =>
      intro hm
      have h1 := ih (by omega)
      have h2 : Lat (Gr (unitsL n)) (at_ (unitL n (m : Int))) := .of ⟨_, List.mem_map.mpr ⟨m, List.mem_range.mpr (by omega), rfl⟩, rfl⟩
      exact lat2 (a := 1) (b := at_ v m) h1 h2 fun j => by
        rw [at_unit_c (by omega)]
        by_cases z : j = m
        · subst z
          rw [if_pos (by omega), if_neg (by omega), if_pos rfl]; omega
        · rw [if_neg z]
          by_cases z2 : j < m
          · rw [if_pos (by omega), if_pos z2]; omega
          · rw [if_neg (by omega), if_neg z2]; omega
  exact (key n (Nat.le_refl _)).eq fun j => by
    by_cases h : j < n
    · rw [if_pos h]
    · rw [if_neg h, at_out (by omega)]
open Classical in
theorem lat_ok {n : Nat} (hn : n ≤ 6) {rows : List Vc} (hl : rows.length ≤ 9) (hr : ∀ r ∈ rows, Bd n (2 ^ 20) r) :
    ∃ (E : Ec) (b2 : Vc → Bool), HRun n rows [] E ∧ EOk n E ∧ (∀ p r, gE E p = some r → LowOk n E p r) ∧ (∀ r ∈ rows, r.length = n ∧ InRun n 0 (unitsL n) r true) ∧ (∀ r ∈ unitsL n, r.length = n ∧ InRun n 0 rows r (b2 r)) ∧ (unitsL n).all b2 = decide (hermF n E = unitsL n) := by
  obtain ⟨E, run, eok, low, he⟩ := herm_ex hn (fits_all hn) hr
  have hI := its_ok n hn
  have r2 : ∀ u ∈ unitsL n, u.length = n ∧ InRun n 0 rows u (decide (Lat (Gr rows) (at_ u))) := fun u hu => by
    have bu := units_bd (B := 2 ^ 20) (by decide) u hu
    obtain ⟨b, r, hb⟩ := in_ex (n := n) (m := 9) n 0 20 rows u (by omega) hl (by decide) (fun r hr' => ⟨hr r hr', fun j hj => by omega⟩) bu (fun j hj => by omega) hI
    have : b = decide (Lat (Gr rows) (at_ u)) := by
      cases b with
      | true => exact (decide_eq_true (hb.mp rfl)).symm
      | false => exact (decide_eq_false fun z => by cases hb.mpr z).symm
    rw [← this]
    exact ⟨bu.1, r⟩
  refine ⟨E, fun u => decide (Lat (Gr rows) (at_ u)), run, eok, low, fun r hr' => ?_, r2, ?_⟩
  · have br := hr r hr'
    obtain ⟨b, rr, hb⟩ := in_ex (n := n) (m := 9) n 0 20 (unitsL n) r (by omega) (by rw [units_len]; omega) (by decide) (fun u hu => ⟨units_bd (by decide) u hu, fun j hj => by omega⟩) br (fun j hj => by omega) hI
    have : b = true := hb.mpr (lat_units br.1)
    rw [this] at rr
    exact ⟨br.1, rr⟩
  · rw [Bool.eq_iff_iff, List.all_eq_true, decide_eq_true_iff, he]
    constructor
    · intro h k hk
      exact of_decide_eq_true (h _ (List.mem_map.mpr ⟨k, List.mem_range.mpr hk, rfl⟩))
    · intro h u hu
      obtain ⟨k, hk, rfl⟩ := List.mem_map.mp hu
      exact decide_eq_true (h k (List.mem_range.mp hk))
/-! ### images -/
theorem sm_scale (a : Int) (f : Fv) (n : Nat) : sm n (fun p => a * f p) = a * sm n f := by
  have := sm_lin a 0 f f n
  have e : sm n (fun p => a * f p + 0 * f p) = sm n (fun p => a * f p) := sm_congr fun p _ => by omega
  rw [e] at this
  rw [this]; omega
theorem sm_swap (f : Nat → Nat → Int) (m : Nat) : ∀ n, sm m (fun i => sm n (fun j => f i j)) = sm n (fun j => sm m (fun i => f i j))
  | 0 => sm_zero fun _ _ => rfl
  | n + 1 => by
    show sm m (fun i => sm n (fun j => f i j) + f i n) = sm n (fun j => sm m (fun i => f i j)) + sm m (fun i => f i n)
    rw [← sm_swap f m n]
    have := sm_lin 1 1 (fun i => sm n (fun j => f i j)) (fun i => f i n) m
    rw [Int.one_mul, Int.one_mul] at this
    rw [← this]
    exact sm_congr fun p _ => by omega
def rowAt (rows : List Vc) (k : Nat) : Vc := rows.getD k []
theorem map_pre {n V B : Nat} {v : Vc} {rows : List Vc} (hv : ∀ k, (at_ v k).natAbs ≤ V) (hr : ∀ r ∈ rows, Bd n B r) : ∀ i, i ≤ v.length → i ≤ rows.length →
    Bd n (i * (V * B)) (((List.zip v rows).take i).foldl mapS (List.replicate n 0)) ∧ ∀ j, at_ (((List.zip v rows).take i).foldl mapS (List.replicate n 0)) j = sm i (fun k => at_ v k * at_ (rowAt rows k) j) := by
  intro i
  induction i with
  | zero =>
    intro _ _
    have z : ∀ j, at_ (List.replicate n 0) j = 0 := fun j => by
      by_cases hj : j < n
      · unfold at_; rw [List.getD_eq_getElem?_getD, List.getElem?_replicate, if_pos hj]; rfl
      · exact at_out (by rw [List.length_replicate]; omega)
    exact ⟨⟨by rw [List.take_zero]; exact List.length_replicate, fun j => by rw [List.take_zero]; show (at_ (List.replicate n 0) j).natAbs ≤ _; rw [z]; simp⟩, fun j => z j⟩
  | succ i ih =>
    intro h1 h2
    obtain ⟨b, e⟩ := ih (by omega) (by omega)
    have hz : (List.zip v rows)[i]? = some (at_ v i, rows[i]) := by
      rw [List.getElem?_zip_eq_some]
      exact ⟨at_get (by omega), List.getElem?_eq_getElem (by omega)⟩
    have hR : rowAt rows i = rows[i] := by unfold rowAt; rw [List.getD_eq_getElem?_getD, List.getElem?_eq_getElem (by omega)]; rfl
    have br : Bd n B rows[i] := hr _ (List.getElem_mem _)
    rw [List.take_add_one, hz, List.foldl_append]
    show Bd n _ (combL 1 _ (at_ v i) rows[i]) ∧ ∀ j, at_ (combL 1 _ (at_ v i) rows[i]) j = _
    generalize ((List.zip v rows).take i).foldl mapS (List.replicate n 0) = acc at b e
    refine ⟨(Bd.comb (S := 1) b br (by decide) (hv i)).mono (by rw [Nat.one_mul, Nat.add_mul, Nat.one_mul]; exact Nat.le_refl _), fun j => ?_⟩
    rw [at_comb (by rw [b.1, br.1]), e j, ← hR]
    show 1 * sm i (fun k => at_ v k * at_ (rowAt rows k) j) + at_ v i * at_ (rowAt rows i) j = sm i (fun k => at_ v k * at_ (rowAt rows k) j) + at_ v i * at_ (rowAt rows i) j
    rw [Int.one_mul]
theorem map_ok {n V B : Nat} {v : Vc} {rows : List Vc} (hv : ∀ k, (at_ v k).natAbs ≤ V) (hr : ∀ r ∈ rows, Bd n B r) (hl : v.length ≤ rows.length) (hS : ∀ x : Int, x.natAbs ≤ v.length * (V * B) + V + B → Sm x) :
    MapOk n v rows ∧ Bd n (v.length * (V * B)) (mapF n v rows) ∧ ∀ j, at_ (mapF n v rows) j = sm v.length (fun k => at_ v k * at_ (rowAt rows k) j) := by
  have hz : (List.zip v rows).length = v.length := by rw [List.length_zip]; omega
  have full := map_pre hv hr v.length (Nat.le_refl _) hl
  have et : (List.zip v rows).take v.length = List.zip v rows := by
    conv => lhs; rw [← hz]
    exact List.take_length
  rw [et] at full
  refine ⟨⟨fun i => ?_, fun x hx => ?_, fun r h => (hr r h).vn fun x hx => hS x (Nat.le_trans hx (Nat.le_add_left _ _))⟩, full⟩
  · by_cases h : i ≤ v.length
    · have b := (map_pre hv hr i h (by omega)).1
      refine b.vn fun x hx => hS x ?_
      exact Nat.le_trans hx (Nat.le_trans (Nat.mul_le_mul_right _ h) (Nat.le_trans (Nat.le_add_right _ _) (Nat.le_add_right _ _)))
    · have : (List.zip v rows).take i = List.zip v rows := List.take_of_length_le (by omega)
      rw [this]
      exact full.1.vn fun x hx => hS x (Nat.le_trans hx (Nat.le_trans (Nat.le_add_right _ _) (Nat.le_add_right _ _)))
  · obtain ⟨j, hj, e⟩ := List.getElem_of_mem hx
    have : at_ v j = x := by
      have := at_get hj
      rw [List.getElem?_eq_getElem hj] at this
      rw [← Option.some.inj this]; exact e
    have h2 := hv j
    exact hS x (by rw [← this]; exact Nat.le_trans h2 (Nat.le_trans (Nat.le_add_left _ _) (Nat.le_add_right _ _)))
end K87

namespace K87
open PySem PySem.Spec PyProof.Rows L2 DL
open PySem.Builtin.Int (intBits)
/-! ### what the drawn matrices are -/
theorem urow_bd {n : Nat} {c f : Int} {B : Nat} (hf : f.natAbs ≤ B) : Bd n B (urow n c f) := ⟨by unfold urow; rw [scale_len, unit_len], fun j => by
  unfold urow
  rw [at_scale]
  by_cases hj : j < n
  · have := at_get (v := unitL n c) (j := j) (by rw [unit_len]; exact hj)
    unfold unitL at this
    rw [List.getElem?_map, List.getElem?_range hj] at this
    have := (Option.some.inj this).symm
    unfold unitL
    rw [this]
    show (f * (if (j : Int) = c then 1 else 0)).natAbs ≤ B
    split
    · rw [Int.mul_one]; exact hf
    · simp
  · rw [at_out (by rw [unit_len]; omega)]; simp⟩
/-- a matrix with so many columns, at most r rows, entries up to B -/
structure MOk (r n B : Nat) (M : List Vc) : Prop where
  len : M.length ≤ r
  bd : ∀ v ∈ M, Bd n B v
theorem split_len (n : Nat) (c : Int) (p : Nat) : ∀ m, ((List.range m).flatMap fun (k : Nat) => List.replicate (if (k : Int) = c then p else 1) (urow n k 1)).length ≤ m + (if 0 ≤ c ∧ c < m then p - 1 else 0) + (if 0 ≤ c ∧ c < m then 0 else 0)
  | 0 => by simp
  | m + 1 => by
    have ih := split_len n c p m
    rw [List.range_succ, List.flatMap_append, List.length_append, List.flatMap_singleton, List.length_replicate]
    by_cases h : (m : Int) = c
    · rw [if_pos h]
      rw [if_neg (by omega), if_neg (by omega)] at ih
      rw [if_pos (by omega), if_pos (by omega)]
      omega
    · rw [if_neg h]
      by_cases h2 : 0 ≤ c ∧ c < m
      · rw [if_pos h2, if_pos h2] at ih
        rw [if_pos (by omega), if_pos (by omega)]; omega
      · rw [if_neg h2, if_neg h2] at ih
        rw [if_neg (by omega), if_neg (by omega)]; omega
theorem fin_kept : ∀ n, n < 7 → ∀ b, b < n → ∀ a, a < b → (keptF n [(a : Int), (b : Int)]).length = n - 1 := by decide +kernel
theorem made_ok {s : Stm} {n m : Nat} (h1 : 1 ≤ n) (h6 : n ≤ 6) (hs : SOk m s) : MOk 9 (madeF s n).2.1 1000 (madeF s n).1 ∧ 1 ≤ (madeF s n).2.1 ∧ (madeF s n).2.1 ≤ 6 ∧ SOk (m + 20) (madeF s n).2.2 := by
  obtain ⟨c0, c1⟩ := drV_rng s (show (0 : Int) < n by omega)
  have hs2 := sok_dr 5 (sok_dr n hs)
  unfold madeF
  generalize drV (drS s n) 5 = y
  generalize drV s n = c at c0 c1
  generalize drS (drS s n) 5 = t at hs2
  unfold madeG
  split
  · obtain ⟨p0, p1⟩ := drV_rng t (show (0 : Int) < 3 by decide)
    refine ⟨⟨?_, fun v hv => ?_⟩, h1, h6, (sok_dr 3 hs2).mono (by omega)⟩
    · have := split_len n c (2 + (drV t 3).toNat) n
      have e : (splitF n c (2 + (drV t 3).toNat)).length ≤ n + (if 0 ≤ c ∧ c < n then 2 + (drV t 3).toNat - 1 else 0) + (if 0 ≤ c ∧ c < n then 0 else 0) := this
      rw [if_pos ⟨c0, c1⟩, if_pos ⟨c0, c1⟩] at e
      show (splitF n c (2 + (drV t 3).toNat)).length ≤ 9
      omega
    · obtain ⟨k, _, hk⟩ := List.mem_flatMap.mp (show v ∈ splitF n c (2 + (drV t 3).toNat) from hv)
      rw [(List.mem_replicate.mp hk).2]
      exact urow_bd (by decide)
  · split
    · obtain ⟨f0, f1⟩ := fac_rng t
      refine ⟨⟨by show (unitMF n c (facF t)).length ≤ 9; simp [unitMF]; omega, fun v hv => ?_⟩, h1, h6, (sok_dr 4 (sok_dr 999 hs2)).mono (by omega)⟩
      obtain ⟨k, _, rfl⟩ := List.mem_map.mp (show v ∈ unitMF n c (facF t) from hv)
      refine urow_bd ?_
      split <;> omega
    · split
      · obtain ⟨l1, l2, l3⟩ := pl_ok hs2 n
        refine ⟨⟨by show (orderF (plP t n).1).length ≤ 9; simp [orderF, l1]; omega, fun v hv => ?_⟩, h1, h6, (sok_dr 2 l3).mono (by omega)⟩
        obtain ⟨k, _, rfl⟩ := List.mem_map.mp (show v ∈ orderF (plP t n).1 from hv)
        rw [l1]
        exact urow_bd (by decide)
      · split
        · refine ⟨⟨by show (dropF n c).length ≤ 9; simp [dropF]; omega, fun v hv => ?_⟩, by show 1 ≤ n - 1; omega, by show n - 1 ≤ 6; omega, hs2.mono (by omega)⟩
          obtain ⟨k, _, rfl⟩ := List.mem_map.mp (show v ∈ dropF n c from hv)
          refine urow_bd ?_
          split <;> decide
        · rename_i hy hn _
          have e0 := Int.fmod_nonneg_of_pos (c + 1 + drV t ((n : Int) - 1)) (show (0 : Int) < n by omega)
          have e1 := Int.fmod_lt_of_pos (c + 1 + drV t ((n : Int) - 1)) (show (0 : Int) < n by omega)
          have hn2 : 2 ≤ n := by omega
          obtain ⟨v0, v1⟩ := drV_rng t (show (0 : Int) < (n : Int) - 1 by omega)
          have ene : (c + 1 + drV t ((n : Int) - 1)).fmod n ≠ c := by
            rw [Int.fmod_eq_emod_of_nonneg _ (by omega)]
            by_cases z : c + 1 + drV t ((n : Int) - 1) < n
            · rw [Int.emod_eq_of_lt (by omega) z]; omega
            · have : (c + 1 + drV t ((n : Int) - 1)) % n = c + 1 + drV t ((n : Int) - 1) - n := by
                rw [← Int.sub_emod_right, Int.emod_eq_of_lt (by omega) (by omega)]
              rw [this]; omega
          have htw : ∃ a b : Nat, a < b ∧ b < n ∧ twoF c ((c + 1 + drV t ((n : Int) - 1)).fmod n) = [(a : Int), (b : Int)] := by
            generalize (c + 1 + drV t ((n : Int) - 1)).fmod n = ei at e0 e1 ene
            obtain ⟨c, rfl⟩ := Int.eq_ofNat_of_zero_le c0
            obtain ⟨e, rfl⟩ := Int.eq_ofNat_of_zero_le e0
            unfold twoF
            by_cases h : (c : Int) ≤ (e : Int)
            · rw [if_pos h]; exact ⟨c, e, by omega, by omega, rfl⟩
            · rw [if_neg h]; exact ⟨e, c, by omega, by omega, rfl⟩
          obtain ⟨a, b, hab, hbn, htw⟩ := htw
          refine ⟨⟨by show (joinF n _).length ≤ 9; simp [joinF]; omega, fun v hv => ?_⟩, by show 1 ≤ n - 1; omega, by show n - 1 ≤ 6; omega, (sok_dr _ hs2).mono (by omega)⟩
          have hv : v ∈ joinF n (twoF c ((c + 1 + drV t ((n : Int) - 1)).fmod n)) := hv
          rw [htw] at hv
          obtain ⟨k, _, rfl⟩ := List.mem_map.mp hv
          show Bd (n - 1) 1000 _
          rw [fin_kept n (by omega) b hbn a hab]
          exact urow_bd (by decide)
theorem any_ok {s : Stm} {old new m : Nat} (hs : SOk m s) : MOk new old 99 (anyM s old new) ∧ (anyM s old new).length = new ∧ SOk (m + 1 + new * old) (anyS s old new) := by
  refine ⟨⟨by simp [anyM], fun v hv => ?_⟩, by simp [anyM], sok_stN (sok_dr 4 hs) _⟩
  obtain ⟨k, _, rfl⟩ := List.mem_map.mp (show v ∈ anyM s old new from hv)
  obtain ⟨q1, q2⟩ := most_rng s
  refine ⟨by simp, fun j => ?_⟩
  by_cases hj : j < old
  · have := at_get (v := (List.range old).map fun j => drV (stN (drS s 4) (2 * mostF s + 1) (k * old + j)) (2 * mostF s + 1) - mostF s) (j := j) (by simp; exact hj)
    rw [List.getElem?_map, List.getElem?_range hj] at this
    have := (Option.some.inj this).symm
    rw [this]
    show (drV (stN (drS s 4) (2 * mostF s + 1) (k * old + j)) (2 * mostF s + 1) - mostF s).natAbs ≤ 99
    obtain ⟨v0, v1⟩ := drV_rng (stN (drS s 4) (2 * mostF s + 1) (k * old + j)) (show (0 : Int) < 2 * mostF s + 1 by omega)
    omega
  · rw [at_out (by simp; omega)]; simp
theorem mj_sok {s : Stm} {m : Nat} (hs : SOk m s) : SOk (m + 10) (mjS s) := by
  obtain ⟨h0, h1⟩ := drV_rng s (show (0 : Int) < 4 by decide)
  refine (sok_stN (sok_dr 4 hs) _).mono ?_
  unfold mjN
  omega
theorem at_le {n B : Nat} {v : Vc} (h : Bd n B v) : ∀ x ∈ v, x.natAbs ≤ B := fun x hx => by
  obtain ⟨j, hj, e⟩ := List.getElem_of_mem hx
  have : at_ v j = x := by
    have := at_get hj
    rw [List.getElem?_eq_getElem hj] at this
    rw [← Option.some.inj this]; exact e
  rw [← this]; exact h.2 j
theorem bd_of {n B : Nat} {v : Vc} (hl : v.length = n) (h : ∀ x ∈ v, x.natAbs ≤ B) : Bd n B v := ⟨hl, fun j => by
  by_cases hj : j < v.length
  · exact h _ (at_mem hj)
  · rw [at_out (by omega)]; simp⟩
/-! ### images twice -/
theorem rowAt_map {rows : List Vc} {f : Vc → Vc} {k : Nat} (h : k < rows.length) : rowAt (rows.map f) k = f (rowAt rows k) := by
  unfold rowAt
  rw [List.getD_eq_getElem?_getD, List.getD_eq_getElem?_getD, List.getElem?_map, List.getElem?_eq_getElem h]; rfl
theorem rowAt_mem {rows : List Vc} {k : Nat} (h : k < rows.length) : rowAt rows k ∈ rows := by
  unfold rowAt
  rw [List.getD_eq_getElem?_getD, List.getElem?_eq_getElem h]; exact List.getElem_mem h
/-- the image of an image is the image by the product -/
theorem map_map {n m : Nat} {w : Vc} {F O : List Vc} (hw : w.length = F.length) (hF : ∀ r ∈ F, r.length = m) (hO : O.length = m)
    (e1 : ∀ j, at_ (mapF m w F) j = sm w.length (fun k => at_ w k * at_ (rowAt F k) j)) (l1 : (mapF m w F).length = m)
    (e2 : ∀ r ∈ F, ∀ j, at_ (mapF n r O) j = sm r.length (fun k => at_ r k * at_ (rowAt O k) j)) (l2 : ∀ r ∈ F, (mapF n r O).length = n)
    (e3 : ∀ j, at_ (mapF n (mapF m w F) O) j = sm (mapF m w F).length (fun k => at_ (mapF m w F) k * at_ (rowAt O k) j)) (l3 : (mapF n (mapF m w F) O).length = n)
    (e4 : ∀ j, at_ (mapF n w (F.map fun r => mapF n r O)) j = sm w.length (fun k => at_ w k * at_ (rowAt (F.map fun r => mapF n r O) k) j)) (l4 : (mapF n w (F.map fun r => mapF n r O)).length = n) :
    mapF n w (F.map fun r => mapF n r O) = mapF n (mapF m w F) O := by
  refine vc_ext l4 l3 fun j _ => ?_
  rw [e4, e3, l1]
  have a : sm m (fun k => at_ (mapF m w F) k * at_ (rowAt O k) j) = sm m (fun k => sm w.length (fun i => at_ w i * at_ (rowAt F i) k * at_ (rowAt O k) j)) := by
    apply sm_congr
    intro k _
    rw [e1, Int.mul_comm, ← sm_scale]
    apply sm_congr
    intro i _
    grind
  rw [a, sm_swap]
  apply sm_congr
  intro i hi
  have hiF : i < F.length := by omega
  have hm := rowAt_mem hiF
  rw [rowAt_map hiF, e2 _ hm, hF _ hm, ← sm_scale]
  apply sm_congr
  intro k _
  grind
/-- the pulled form -/
theorem pull_dot {n : Nat} {w f : Vc} {B : List Vc} (hw : w.length = B.length) (hf : f.length = n) (hB : ∀ r ∈ B, r.length = n)
    (e4 : ∀ j, at_ (mapF n w B) j = sm w.length (fun k => at_ w k * at_ (rowAt B k) j)) (l4 : (mapF n w B).length = n) : dotL (B.map (dotL f)) w = dotL f (mapF n w B) := by
  rw [dot_sm (n := w.length) (by rw [List.length_map]; exact hw.symm) rfl, dot_sm hf l4]
  have a : sm n (fun j => at_ f j * at_ (mapF n w B) j) = sm n (fun j => sm w.length (fun k => at_ f j * (at_ w k * at_ (rowAt B k) j))) := by
    apply sm_congr
    intro j _
    rw [e4, sm_scale]
  rw [a, sm_swap]
  apply sm_congr
  intro k hk
  have hkB : k < B.length := by omega
  have hm := rowAt_mem hkB
  have e : at_ (B.map (dotL f)) k = dotL f (rowAt B k) := by
    unfold at_ rowAt
    rw [List.getD_eq_getElem?_getD, List.getD_eq_getElem?_getD, List.getElem?_map, List.getElem?_eq_getElem hkB]; rfl
  rw [e, dot_sm hf (hB _ hm), Int.mul_comm, ← sm_scale]
  apply sm_congr
  intro j _
  grind
end K87

namespace K87
open PySem PySem.Spec PyProof.Rows L2 DL
open PySem.Builtin.Int (intBits)
variable {P : Program} {w : World} {K : PySem.W.Frag} {mg : Str → Option Value} {base : Heap}
/-! ### the law -/
abbrev s_law : Stmt := topS 35
abbrev nm_law : List Str := ["script", "stream", "size", "last", "other", "handed", "kept", "both", "world", "row", "behind", "form", "told", "found", "due", "middle", "great", "matrix", "wide", "k"]
theorem sc_law : FnScope nm_law ["script"] (defScope s_law) := ⟨rfl, rfl, rfl, by decide +kernel, rfl, by decide +kernel, by decide +kernel⟩
def stm0 (cs : List Int) : Stm := ⟨cs, 0, 0, 0⟩
/-- what both ways are told of a matrix -/
def LatP (M : List Vc) (n : Nat) : Prop := n ≤ 6 ∧ M.length ≤ 9 ∧ ∀ r ∈ M, Bd n (2 ^ 20) r
theorem small97 : ∀ x : Int, x.natAbs ≤ 2 ^ 200 → Sm x := fun x h => sm_pow (s := 200) (by decide) h
theorem law_body (S : Sur P mg base) (hbt : PySem.W.kitOne K (.type "bool") (.type "bool") = some true) (htt : PySem.W.kitOne K (.type "tuple") (.type "tuple") = some true) (C_law_draw : T_law_draw P w K mg base) (C_law_made : T_law_made P w K mg base) (C_law_many_joined : T_law_many_joined P w K mg base) (C_law_any_matrix : T_law_any_matrix P w K mg base) (C_matrix_product : T_matrix_product P w K mg base) (C_law_sent : T_law_sent P w K mg base) (C_law_dot : T_law_dot P w K mg base) (C_pulled : T_pulled P w K mg base) (C_law_same_lattice : T_law_same_lattice P w K mg base) (C_law_units : T_law_units P w K mg base) (C_is_forgetting : T_is_forgetting P w K mg base)
    (f : Addr) (cdv : Value) (s : Shared) (H : Hp) (hr : Room 60 (callerA.deeper (envOfC "law" (defScope s_law) s.heap.objs.size f cdv))) :
    ∃ t, PSs (cxOf CX0 P w K mg base nm_law "law" (defScope s_law) f cdv callerA [] s H (fun _ _ _ => False)).nox (defBody s_law) t ∧
      ∀ cs : List Int, RS K false t (gst nm_law [.list (cs.map .int)]) ⟨fun _ => False, fun d' _ => d' = .bool true, fun _ => False, fun _ => False⟩ := by
  refine ⟨_, (pss_cons (ps_set (i := 1) sc_law.nd rfl (by first | exact .inl rfl | exact .inr rfl) (pe_lst (pa_cons (pe_callTy (kList K) (by rfl) (S.no "list" (by decide)) boot_list (pa_cons (pv 0) pa_nil)) (pa_cons pe_int (pa_cons pe_int (pa_cons pe_int pa_nil)))))) (pss_cons (ps_set (i := 2) sc_law.nd rfl (by first | exact .inl rfl | exact .inr rfl) (pe_op (kAdd K) pe_int (pe_own C_law_draw (hr.mono (by decide)) (by rfl) (pa_cons (pv 1) (pa_cons pe_int pa_nil))))) (pss_cons (ps_asg (pe_own C_law_made (hr.mono (by decide)) (by rfl) (pa_cons (pv 1) (pa_cons (pv 2) pa_nil))) (kAny K (n := 3) rfl (pgs_cons (pg_name (i := 13) sc_law.nd rfl (by first | exact .inl rfl | exact .inr rfl)) (pgs_cons (pg_name (i := 14) sc_law.nd rfl (by first | exact .inl rfl | exact .inr rfl)) (pgs_cons (pg_name (i := 15) sc_law.nd rfl (by first | exact .inl rfl | exact .inr rfl)) pgs_nil))))) (pss_cons (ps_if (PW.pt (pw_or (pt_cmpR (kNe K hr.units) (pv 13) (pv 14) (nomark _)) (pw_or1 (pt_not (pt_val (pe_own C_law_many_joined (hr.mono (by decide)) (by rfl) (pa_cons (pv 1) pa_nil))))))) (pss_one (ps_ret pe_bl)) pss_nil) (pss_cons (ps_set (i := 3) sc_law.nd rfl (by first | exact .inl rfl | exact .inr rfl) (pe_op (kAdd K) pe_int (pe_own C_law_draw (hr.mono (by decide)) (by rfl) (pa_cons (pv 1) (pa_cons pe_int pa_nil))))) (pss_cons (ps_set (i := 4) sc_law.nd rfl (by first | exact .inl rfl | exact .inr rfl) (pe_own C_law_any_matrix (hr.mono (by decide)) (by rfl) (pa_cons (pv 1) (pa_cons (pv 3) (pa_cons (pv 15) pa_nil))))) (pss_cons (ps_set (i := 5) sc_law.nd rfl (by first | exact .inl rfl | exact .inr rfl) (pe_ix (kIx K) (pe_lst (pa_cons (pe_lst (pa_cons (pv 13) (pa_cons (pv 4) pa_nil))) (pa_cons (pe_lst (pa_cons (pe_lc (own := [("row", 9)]) rfl sc_law.nd (kSeq K (pv 13)) (blkOk_by (N := nm_law) (sc := defScope s_law) (by decide +kernel)) (fun _ _ _ _ _ => (pg_name (i := 9) sc_law.nd rfl (by first | exact .inl rfl | exact .inr rfl))) (fun _ _ _ _ _ => pts_nil) (fun _ _ _ _ _ => (pe_callTy (kList K) (by rfl) (S.no "list" (by decide)) boot_list (pa_cons (pv 9) pa_nil)))) (pa_cons (pe_lc (own := [("row", 9)]) rfl sc_law.nd (kSeq K (pv 4)) (blkOk_by (N := nm_law) (sc := defScope s_law) (by decide +kernel)) (fun _ _ _ _ _ => (pg_name (i := 9) sc_law.nd rfl (by first | exact .inl rfl | exact .inr rfl))) (fun _ _ _ _ _ => pts_nil) (fun _ _ _ _ _ => (pe_callTy (kList K) (by rfl) (S.no "list" (by decide)) boot_list (pa_cons (pv 9) pa_nil)))) pa_nil))) pa_nil))) (pe_own C_law_draw (hr.mono (by decide)) (by rfl) (pa_cons (pv 1) (pa_cons pe_int pa_nil))) (fun _ _ => rfl))) (pss_cons (ps_set (i := 6) sc_law.nd rfl (by first | exact .inl rfl | exact .inr rfl) (pe_callB (kRepr K rfl (show (77 : Nat) < cLine by decide)) (by rfl) (S.no "repr" (by decide)) boot_repr (pa_cons (pv 5) pa_nil))) (pss_cons (ps_set (i := 7) sc_law.nd rfl (by first | exact .inl rfl | exact .inr rfl) (pe_own C_matrix_product (hr.mono (by decide)) (by rfl) (pa_cons (pe_ix (kIx K) (pv 5) pe_int (fun _ _ => rfl)) (pa_cons (pe_ix (kIx K) (pv 5) pe_int (fun _ _ => rfl)) pa_nil)))) (pss_cons (ps_if (PW.pt (pw_or (pt_cmpR (kNe K hr.units) (pv 7) (kTuple K (by rfl) (S.no "tuple" (by decide)) (pe_lc (own := [("row", 9)]) rfl sc_law.nd (kSeq K (pv 13)) (blkOk_by (N := nm_law) (sc := defScope s_law) (by decide +kernel)) (fun _ _ _ _ _ => (pg_name (i := 9) sc_law.nd rfl (by first | exact .inl rfl | exact .inr rfl))) (fun _ _ _ _ _ => pts_nil) (fun _ _ _ _ _ => (pe_own C_law_sent (hr.mono (by decide)) (by rfl) (pa_cons (pv 9) (pa_cons (pv 4) (pa_cons (pv 3) pa_nil))))))) (nomark _)) (pw_or1 (pt_cmpR (kNe K hr.units) (pe_callB (kRepr K rfl (show (77 : Nat) < cLine by decide)) (by rfl) (S.no "repr" (by decide)) boot_repr (pa_cons (pv 5) pa_nil)) (pv 6) (nomark _))))) (pss_one (ps_ret pe_bl)) pss_nil) (pss_cons (ps_set (i := 8) sc_law.nd rfl (by first | exact .inl rfl | exact .inr rfl) (pe_tup pa_nil)) (pss_cons (ps_for PassesOwn.never rfl (kSeq K (pv 13)) (pg_name (i := 9) sc_law.nd rfl (by first | exact .inl rfl | exact .inr rfl)) (pss_cons (ps_set (i := 16) sc_law.nd rfl (by first | exact .inl rfl | exact .inr rfl) (pe_op op_sub (pe_op op_pow pe_int pe_int) (pe_own C_law_draw (hr.mono (by decide)) (by rfl) (pa_cons (pv 1) (pa_cons (pe_op op_pow pe_int pe_int) pa_nil))))) (pss_one (ps_set (i := 8) sc_law.nd rfl (by first | exact .inl rfl | exact .inr rfl) (pe_op (kAdd K) (pv 8) (pe_tup (pa_cons (pe_ix (kIx K) (pe_lst (pa_cons (pv 16) (pa_cons (pe_op op_sub (pe_own C_law_draw (hr.mono (by decide)) (by rfl) (pa_cons (pv 1) (pa_cons pe_int pa_nil))) pe_int) pa_nil))) (pe_callB (call_min2 rfl) (by rfl) (S.no "min" (by decide)) boot_min (pa_cons pe_int (pa_cons (pe_own C_law_draw (hr.mono (by decide)) (by rfl) (pa_cons (pv 1) (pa_cons pe_int pa_nil))) pa_nil))) (fun _ _ => rfl)) pa_nil))))))) (pss_cons (ps_set (i := 10) sc_law.nd rfl (by first | exact .inl rfl | exact .inr rfl) (pe_own C_law_sent (hr.mono (by decide)) (by rfl) (pa_cons (pe_own C_law_sent (hr.mono (by decide)) (by rfl) (pa_cons (pv 8) (pa_cons (pv 13) (pa_cons (pv 15) pa_nil)))) (pa_cons (pv 4) (pa_cons (pv 3) pa_nil))))) (pss_cons (ps_if (pt_cmpR (kNe K hr.units) (pe_own C_law_sent (hr.mono (by decide)) (by rfl) (pa_cons (pv 8) (pa_cons (pv 7) (pa_cons (pv 3) pa_nil)))) (pv 10) (nomark _)) (pss_one (ps_ret pe_bl)) pss_nil) (pss_cons (ps_set (i := 11) sc_law.nd rfl (by first | exact .inl rfl | exact .inr rfl) (kTuple K (by rfl) (S.no "tuple" (by decide)) (pe_lc (own := [("k", 19)]) rfl sc_law.nd (pi_range1 (by rfl) (S.no "range" (by decide)) (pa_cons (pv 3) pa_nil)) (blkOk_by (N := nm_law) (sc := defScope s_law) (by decide +kernel)) (fun _ _ _ _ _ => (pg_name (i := 19) sc_law.nd rfl (by first | exact .inl rfl | exact .inr rfl))) (fun _ _ _ _ _ => pts_nil) (fun _ _ _ _ _ => (pe_op op_sub (pe_own C_law_draw (hr.mono (by decide)) (by rfl) (pa_cons (pv 1) (pa_cons pe_int pa_nil))) pe_int))))) (pss_cons (ps_set (i := 5) sc_law.nd rfl (by first | exact .inl rfl | exact .inr rfl) (pe_lst (pa_cons (pe_callTy (kList K) (by rfl) (S.no "list" (by decide)) boot_list (pa_cons (pv 11) pa_nil)) (pa_cons (pe_lc (own := [("row", 9)]) rfl sc_law.nd (kSeq K (pv 7)) (blkOk_by (N := nm_law) (sc := defScope s_law) (by decide +kernel)) (fun _ _ _ _ _ => (pg_name (i := 9) sc_law.nd rfl (by first | exact .inl rfl | exact .inr rfl))) (fun _ _ _ _ _ => pts_nil) (fun _ _ _ _ _ => (pe_callTy (kList K) (by rfl) (S.no "list" (by decide)) boot_list (pa_cons (pv 9) pa_nil)))) pa_nil)))) (pss_cons (ps_set (i := 12) sc_law.nd rfl (by first | exact .inl rfl | exact .inr rfl) (pe_own C_pulled (hr.mono (by decide)) (by rfl) (pa_cons (pe_ix (kIx K) (pv 5) pe_int (fun _ _ => rfl)) (pa_cons (pe_ix (kIx K) (pv 5) pe_int (fun _ _ => rfl)) pa_nil)))) (pss_cons (ps_if (PW.pt (pw_or (pt_not (pt_val (pe_callB (kIsi K) (by rfl) (S.no "isinstance" (by decide)) boot_isinstance (pa_cons (pv 12) (pa_cons (pe_bltn (v := .ty "tuple") (by rfl) (S.no "tuple" (by decide)) boot_tuple rfl) pa_nil))))) (pw_or1 (pt_cmpR (kNe K hr.units) (pe_own C_law_dot (hr.mono (by decide)) (by rfl) (pa_cons (pv 12) (pa_cons (pv 8) pa_nil))) (pe_own C_law_dot (hr.mono (by decide)) (by rfl) (pa_cons (pv 11) (pa_cons (pv 10) pa_nil))) (nomark _))))) (pss_one (ps_ret pe_bl)) pss_nil) (pss_cons (ps_if (pt_cmpR (kNe K hr.units) (pv 5) (pe_lst (pa_cons (pe_callTy (kList K) (by rfl) (S.no "list" (by decide)) boot_list (pa_cons (pv 11) pa_nil)) (pa_cons (pe_lc (own := [("row", 9)]) rfl sc_law.nd (kSeq K (pv 7)) (blkOk_by (N := nm_law) (sc := defScope s_law) (by decide +kernel)) (fun _ _ _ _ _ => (pg_name (i := 9) sc_law.nd rfl (by first | exact .inl rfl | exact .inr rfl))) (fun _ _ _ _ _ => pts_nil) (fun _ _ _ _ _ => (pe_callTy (kList K) (by rfl) (S.no "list" (by decide)) boot_list (pa_cons (pv 9) pa_nil)))) pa_nil))) (nomark _)) (pss_one (ps_ret pe_bl)) pss_nil) (pss_cons (ps_for PassesOwn.never rfl (kSeq K (pe_lst (pa_cons (pe_tup (pa_cons (pv 13) (pa_cons (pv 15) pa_nil))) (pa_cons (pe_tup (pa_cons (pv 4) (pa_cons (pv 3) pa_nil))) (pa_cons (pe_tup (pa_cons (pv 7) (pa_cons (pv 3) pa_nil))) pa_nil))))) (kAny K (n := 2) rfl (pgs_cons (pg_name (i := 17) sc_law.nd rfl (by first | exact .inl rfl | exact .inr rfl)) (pgs_cons (pg_name (i := 18) sc_law.nd rfl (by first | exact .inl rfl | exact .inr rfl)) pgs_nil))) (pss_cons (ps_set (i := 14) sc_law.nd rfl (by first | exact .inl rfl | exact .inr rfl) (pe_own C_law_same_lattice (hr.mono (by decide)) (by rfl) (pa_cons (pe_callTy (kList K) (by rfl) (S.no "list" (by decide)) boot_list (pa_cons (pv 17) pa_nil)) (pa_cons (pe_own C_law_units (hr.mono (by decide)) (by rfl) (pa_cons (pv 18) pa_nil)) pa_nil)))) (pss_cons (ps_set (i := 13) sc_law.nd rfl (by first | exact .inl rfl | exact .inr rfl) (pe_own C_is_forgetting (hr.mono (by decide)) (by rfl) (pa_cons (pv 17) (pa_cons (pv 18) pa_nil)))) (pss_one (ps_if (PW.pt (pw_or (pt_not (pt_val (pe_callB (kIsi K) (by rfl) (S.no "isinstance" (by decide)) boot_isinstance (pa_cons (pv 13) (pa_cons (pe_bltn (v := .ty "bool") (by rfl) (S.no "bool" (by decide)) boot_bool rfl) pa_nil))))) (pw_or1 (pt_cmpR (kNe K hr.units) (pv 13) (pv 14) (nomark _))))) (pss_one (ps_ret pe_bl)) pss_nil))))) (pss_one (ps_ret pe_bl)))))))))))))))))))))), fun cs => ?_⟩
  show RS K false _ [.dat (lsv cs), .un, .un, .un, .un, .un, .un, .un, .un, .un, .un, .un, .un, .un, .un, .un, .un, .un, .un, .un] _
  refine rs_seq (rs_newStm (i := 1) (cs := cs) (a := 0) (b := 0) (c := 0) rfl ?_)
  show RS K false _ [.dat (lsv cs), stmS (stm0 cs), .un, .un, .un, .un, .un, .un, .un, .un, .un, .un, .un, .un, .un, .un, .un, .un, .un, .un] _
  have hs0 : SOk 0 (stm0 cs) := ⟨by show (0 : Int) ≤ 0; omega, by show (0 : Int) < 2147483647; omega, by show (0 : Int) ≤ 0; omega, by show (0 : Int) ≤ 0; omega⟩
  generalize stm0 cs = s0 at hs0
  -- size
  obtain ⟨z0, z1⟩ := drV_rng s0 (show (0 : Int) < 6 by decide)
  refine rs_seq (rs_set (re_addI re_int (re_draw (i := 1) (s := s0) rfl re_int rfl (by decide) hs0 (by decide))) ?_)
  have hs1 := sok_dr 6 hs0
  generalize drV s0 6 = zi at z0 z1
  generalize drS s0 6 = s1 at hs1
  obtain ⟨n, hn⟩ := Int.eq_ofNat_of_zero_le (show (0 : Int) ≤ 1 + zi by omega)
  have hn1 : 1 ≤ n := by omega
  have hn6 : n ≤ 6 := by omega
  show RS K false _ [.dat (lsv cs), stmS s1, .dat (.int (1 + zi)), .un, .un, .un, .un, .un, .un, .un, .un, .un, .un, .un, .un, .un, .un, .un, .un, .un] _
  rw [hn]
  -- made
  obtain ⟨mF, mid1, mid6, hs2⟩ := made_ok hn1 hn6 hs1
  refine rs_seq (rs_setG (re_callO (i := 1) (sl := stmS s1) rfl (ra_cons (re_var rfl) ra_nil) rfl rfl ⟨s1, n, 1, rfl, rfl, hn1, hn6, hs1, by decide, rfl, rfl⟩) (rg_anyL (rgs_cons rg_name (rgs_cons rg_name (rgs_cons rg_name rgs_nil)))) ?_)
  generalize madeF s1 n = md at mF mid1 mid6 hs2
  obtain ⟨F, mid, s2⟩ := md
  have mF : MOk 9 mid 1000 F := mF
  have mid1 : 1 ≤ mid := mid1
  have mid6 : mid ≤ 6 := mid6
  have hs2 : SOk 21 s2 := hs2
  show RS K false _ [.dat (lsv cs), stmS s2, .dat (.int n), .un, .un, .un, .un, .un, .un, .un, .un, .un, .un, .dat (matT F), .dat (matT F), .dat (.int (mid : Int)), .un, .un, .un, .un] _
  -- many joined
  refine rs_seq (rs_if (b := false) (rt_or (b := false) (c := false) ((rt_test (re_neD (re_var (i := 13) rfl) (re_var (i := 14) rfl) (shp_mat _).sh (shp_mat _).sh)).is (by rw [eqv_mat]; simp)) (fun z => (nomatch z)) (fun _ => rt_not (b := true) (rt_test (re_callO (i := 1) (sl := stmS s2) rfl ra_nil rfl rfl ⟨s2, 21, rfl, rfl, hs2, by decide, rfl, rfl⟩)))) (fun z => (nomatch z)) (fun _ => rs_nx ?_))
  have hs3 := mj_sok hs2
  generalize mjS s2 = s3 at hs3
  show RS K false _ [.dat (lsv cs), stmS s3, .dat (.int n), .un, .un, .un, .un, .un, .un, .un, .un, .un, .un, .dat (matT F), .dat (matT F), .dat (.int (mid : Int)), .un, .un, .un, .un] _
  -- last
  obtain ⟨l0, l1⟩ := drV_rng s3 (show (0 : Int) < 4 by decide)
  refine rs_seq (rs_set (re_addI re_int (re_draw (i := 1) (s := s3) rfl re_int rfl (by decide) hs3 (by decide))) ?_)
  have hs4 := sok_dr 4 hs3
  generalize drV s3 4 = li at l0 l1
  generalize drS s3 4 = s4 at hs4
  obtain ⟨L, hL⟩ := Int.eq_ofNat_of_zero_le (show (0 : Int) ≤ 1 + li by omega)
  have hL1 : 1 ≤ L := by omega
  have hL4 : L ≤ 4 := by omega
  show RS K false _ [.dat (lsv cs), stmS s4, .dat (.int n), .dat (.int (1 + li)), .un, .un, .un, .un, .un, .un, .un, .un, .un, .dat (matT F), .dat (matT F), .dat (.int (mid : Int)), .un, .un, .un, .un] _
  rw [hL]
  -- other
  obtain ⟨mO, lO, hs5⟩ := any_ok (old := L) (new := mid) hs4
  refine rs_seq (rs_set (re_callO (i := 1) (sl := stmS s4) rfl (ra_cons (re_var rfl) (ra_cons (re_var rfl) ra_nil)) rfl rfl ⟨s4, L, mid, _, rfl, rfl, hs4, by omega, by omega, by omega, rfl, rfl⟩) ?_)
  generalize anyM s4 L mid = O at mO lO
  generalize anyS s4 L mid = s5 at hs5
  have hs5 : SOk 100 s5 := hs5.mono (by have := Nat.mul_le_mul mid6 hL4; omega)
  show RS K false _ [.dat (lsv cs), stmS s5, .dat (.int n), .dat (.int L), .dat (matT O), .un, .un, .un, .un, .un, .un, .un, .un, .dat (matT F), .dat (matT F), .dat (.int (mid : Int)), .un, .un, .un, .un] _
  -- handed
  obtain ⟨d0, d1⟩ := drV_rng s5 (show (0 : Int) < 2 by decide)
  have hFB : ∀ r ∈ F, ∀ x ∈ r, x.natAbs < 10 ^ 12 := fun r hr x hx => Nat.lt_of_le_of_lt (at_le (mF.bd r hr) x hx) (by decide)
  have hOB : ∀ r ∈ O, ∀ x ∈ r, x.natAbs < 10 ^ 12 := fun r hr x hx => Nat.lt_of_le_of_lt (at_le (mO.bd r hr) x hx) (by decide)
  have shv : ∀ (r : Vc), (∀ x ∈ r, x.natAbs < 10 ^ 12) → Sh 1 (vec r) ∧ Sh 1 (lsv r) := fun r h =>
    ⟨sh_tup fun d hd => by obtain ⟨x, hx, rfl⟩ := List.mem_map.mp hd; exact sh_int (h x hx), sh_lst fun d hd => by obtain ⟨x, hx, rfl⟩ := List.mem_map.mp hd; exact sh_int (h x hx)⟩
  have wtv : ∀ (r : Vc), (∀ x ∈ r, x.natAbs < 10 ^ 12) → r.length ≤ 6 → (vec r).weight ≤ 246 ∧ (lsv r).weight ≤ 246 := fun r h hl => by
    have : PyData.weightAll (r.map .int) ≤ (40 + 1) * (r.map PyData.int).length := wt_all fun d hd => by obtain ⟨x, hx, rfl⟩ := List.mem_map.mp hd; exact wt_int (h x hx)
    rw [List.length_map] at this
    constructor
    · show PyData.weightAll (r.map .int) ≤ 246; omega
    · show PyData.weightAll (r.map .int) ≤ 246; omega
  have shm : ∀ (M : List Vc) (k : Nat), (∀ r ∈ M, ∀ x ∈ r, x.natAbs < 10 ^ 12) → M.length ≤ 9 → (∀ r ∈ M, r.length ≤ 6) → (Sh 2 (matT M) ∧ (matT M).weight ≤ 2500) ∧ (Sh 2 (.list (M.map lsv)) ∧ (PyData.list (M.map lsv)).weight ≤ 2500) := fun M k h hl hw => by
    have w1 : PyData.weightAll (M.map vec) ≤ (246 + 1) * (M.map vec).length := wt_all fun d hd => by obtain ⟨x, hx, rfl⟩ := List.mem_map.mp hd; exact (wtv x (h x hx) (hw x hx)).1
    have w2 : PyData.weightAll (M.map lsv) ≤ (246 + 1) * (M.map lsv).length := wt_all fun d hd => by obtain ⟨x, hx, rfl⟩ := List.mem_map.mp hd; exact (wtv x (h x hx) (hw x hx)).2
    rw [List.length_map] at w1 w2
    refine ⟨⟨sh_tup fun d hd => by obtain ⟨x, hx, rfl⟩ := List.mem_map.mp hd; exact (shv x (h x hx)).1, ?_⟩, ⟨sh_lst fun d hd => by obtain ⟨x, hx, rfl⟩ := List.mem_map.mp hd; exact (shv x (h x hx)).2, ?_⟩⟩
    · show PyData.weightAll (M.map vec) ≤ 2500; omega
    · show PyData.weightAll (M.map lsv) ≤ 2500; omega
  have sF := shm F 0 hFB mF.len (fun r hr => by rw [(mF.bd r hr).1]; exact mid6)
  have sO := shm O 0 hOB (by rw [lO]; omega) (fun r hr => by rw [(mO.bd r hr).1]; omega)
  obtain ⟨hd, ha, hb, hat, eh, qa, qb, hsh⟩ : ∃ hd ha hb, atI [PyData.list [matT F, matT O], PyData.list [PyData.list (F.map lsv), PyData.list (O.map lsv)]] (drV s5 2) = some hd ∧ hd = .list [ha, hb] ∧ SqM ha F ∧ SqM hb O ∧ Sh 3 hd ∧ hd.weight ≤ 2 ^ 20 := by
    obtain ⟨j, hj⟩ := Int.eq_ofNat_of_zero_le d0
    rw [hj]
    have : j < 2 := by omega
    have wl : ∀ a b : PyData, a.weight ≤ 2500 → b.weight ≤ 2500 → (PyData.list [a, b]).weight ≤ 2 ^ 20 := fun a b h1 h2 => by
      have : (PyData.list [a, b]).weight = a.weight + 1 + (b.weight + 1 + 0) := by simp only [PyData.weight, PyData.weightAll]
      rw [this, show (2 : Nat) ^ 20 = 1048576 by decide]; omega
    have sl : ∀ a b : PyData, Sh 2 a → Sh 2 b → Sh 3 (.list [a, b]) := fun a b h1 h2 => sh_lst fun d hd => by
      rcases List.mem_cons.mp hd with rfl | hd
      · exact h1
      · rw [List.mem_singleton.mp hd]; exact h2
    match j, this with
    | 0, _ => exact ⟨_, matT F, matT O, rfl, rfl, sqm_T F, sqm_T O, sl _ _ sF.1.1 sO.1.1, wl _ _ sF.1.2 sO.1.2⟩
    | 1, _ => exact ⟨_, .list (F.map lsv), .list (O.map lsv), rfl, rfl, sqm_map sq_lsv rfl, sqm_map sq_lsv rfl, sl _ _ sF.2.1 sO.2.1, wl _ _ sF.2.2 sO.2.2⟩
  have lsm : ∀ (M : List Vc) (i : Nat) (Γ : Ga), M.length ≤ 9 → Γ[i]? = some (.dat (matT M)) → Γ[9]? = some .un → (((wipeG Γ [9]).length = Γ.length)) → RE K (tLc (iSeq K (tVar i)) (gName 9) tYes (tCB (rListOf K) (tCons (tVar 9) tNil)) [9]) Γ (.list (M.map lsv)) Γ := fun M i Γ hl hi h9 hlen =>
    RL.re (rl_map M vec lsv (ri_seq (re_var hi) rfl) (by omega) (fun r hr => RL.re (rl_cb (ra_cons (re_var (by
      rw [List.getElem?_set_self (by rw [hlen]; exact (List.getElem?_eq_some_iff.mp h9).1)])) ra_nil) (cdl_list (sq_vec r)))) (by
      show ((match Γ[9]? with | some sl => sl.flat | none => false) && true) = true
      rw [h9]; rfl))
  refine rs_seq (rs_set (d := hd) (re_ixL (RL.re (rl_lst (ra_cons (RL.re (rl_lst (ra_cons (re_var rfl) (ra_cons (re_var rfl) ra_nil)))) (ra_cons (RL.re (rl_lst (ra_cons (lsm F 13 _ mF.len rfl rfl rfl) (ra_cons (lsm O 4 _ (by rw [lO]; omega) rfl rfl rfl) ra_nil)))) ra_nil)))) (re_draw (i := 1) (s := s5) rfl re_int rfl (by decide) hs5 (by decide)) hat) ?_)
  have hs6 := sok_dr 2 hs5
  generalize drS s5 2 = s6 at hs6
  have hix : ∀ (Γ : Ga) (k : Nat) (d : PyData), Γ[5]? = some (.dat hd) → [ha, hb][k]? = some d → RE K (tOp (rIx K) (tVar 5) (tC (.int (k : Int)))) Γ d Γ := fun Γ k d h1 h2 => by
    rw [eh] at h1
    exact re_ixL (re_var h1) re_int (at_nat h2)
  have hrep : ∀ Γ : Ga, Γ[5]? = some (.dat hd) → RE K (tCB (rRepr K) (tCons (tVar 5) tNil)) Γ (.str hd.shown) Γ := fun Γ h1 => re_cb (ra_cons (re_var h1) ra_nil) (cd_repr (ds := [ha, hb]) (by rw [eh]; rfl) hsh.1.shb hsh.1.dic (Nat.le_trans hsh.1.shp.2 (by decide)) (hsh.1.fits (by decide) hsh.2))
  show RS K false _ [.dat (lsv cs), stmS s6, .dat (.int n), .dat (.int L), .dat (matT O), .dat hd, .un, .un, .un, .un, .un, .un, .un, .dat (matT F), .dat (matT F), .dat (.int (mid : Int)), .un, .un, .un, .un] _
  refine rs_seq (rs_set (hrep _ rfl) ?_)
  show RS K false _ [.dat (lsv cs), stmS s6, .dat (.int n), .dat (.int L), .dat (matT O), .dat hd, .dat (.str hd.shown), .un, .un, .un, .un, .un, .un, .dat (matT F), .dat (matT F), .dat (.int (mid : Int)), .un, .un, .un, .un] _
  -- the product
  have atB : ∀ {n B : Nat} {v : Vc}, Bd n B v → ∀ k, (at_ v k).natAbs ≤ B := fun h => h.2
  have mp : ∀ r ∈ F, MapOk L r O ∧ Bd L (6 * (1000 * 99)) (mapF L r O) ∧ ∀ j, at_ (mapF L r O) j = sm r.length (fun k => at_ r k * at_ (rowAt O k) j) := fun r hr => by
    have hl := (mF.bd r hr).1
    obtain ⟨h1, h2, h3⟩ := map_ok (V := 1000) (B := 99) (mF.bd r hr).2 mO.bd (by rw [hl, lO]; exact Nat.le_refl _) (fun x hx => small97 x (Nat.le_trans hx (by
      rw [hl]
      exact Nat.le_trans (show mid * (1000 * 99) + 1000 + 99 ≤ 10000000 by omega) (by decide))))
    exact ⟨h1, h2.mono (by rw [hl]; exact Nat.mul_le_mul_right _ mid6), h3⟩
  have hO0 : O ≠ [] := fun z => by rw [z] at lO; simp at lO; omega
  refine rs_seq (rs_set (re_call (ra_cons (hix _ 0 ha rfl rfl) (ra_cons (hix _ 1 hb rfl rfl) ra_nil)) ⟨ha, hb, F, O, L, rfl, qa, qb, hO0, hL1, by omega, by have := mF.len; omega, fun r hr => (mp r hr).1, rfl⟩) ?_)
  have lBo : (F.map fun r => mapF L r O).length = F.length := List.length_map _
  have mBo : ∀ v ∈ F.map fun r => mapF L r O, Bd L (6 * (1000 * 99)) v := fun v hv => by
    obtain ⟨r, hr, rfl⟩ := List.mem_map.mp hv
    exact (mp r hr).2.1
  show RS K false _ [.dat (lsv cs), stmS s6, .dat (.int n), .dat (.int L), .dat (matT O), .dat hd, .dat (.str hd.shown), .dat (matT (F.map fun r => mapF L r O)), .un, .un, .un, .un, .un, .dat (matT F), .dat (matT F), .dat (.int (mid : Int)), .un, .un, .un, .un] _
  have sent : ∀ r ∈ F, ∀ Γ : Ga, Γ[9]? = some (.dat (vec r)) → Γ[4]? = some (.dat (matT O)) → Γ[3]? = some (.dat (.int (L : Int))) → RE K (tCall (PR K F_law_sent) [] E0 (tCons (tVar 9) (tCons (tVar 4) (tCons (tVar 3) tNil)))) Γ (vec (mapF L r O)) Γ := fun r hr Γ h9 h4 h3 =>
    re_call (ra_cons (re_var h9) (ra_cons (re_var h4) (ra_cons (re_var h3) ra_nil))) ⟨vec r, matT O, r, O, L, rfl, sq_vec r, sqm_T O, by rw [(mF.bd r hr).1, lO]; exact Nat.le_refl _, by rw [(mF.bd r hr).1]; omega, hL1, by omega, (mp r hr).1, rfl⟩
  have hcomp : ∀ Γ : Ga, Γ[13]? = some (.dat (matT F)) → Γ[9]? = some .un → Γ[4]? = some (.dat (matT O)) → Γ[3]? = some (.dat (.int (L : Int))) →
      RE K (tThen (tLc (iSeq K (tVar 13)) (gName 9) tYes (tCall (PR K F_law_sent) [] E0 (tCons (tVar 9) (tCons (tVar 4) (tCons (tVar 3) tNil)))) [9]) (kTup K)) Γ (matT (F.map fun r => mapF L r O)) Γ := fun Γ h13 h9 h4 h3 => by
    have hlt := (List.getElem?_eq_some_iff.mp h9).1
    refine (re_tupleL (RL.re (rl_map F vec (fun r => vec (mapF L r O)) (ri_seq (re_var h13) rfl) (by have := mF.len; omega) (fun r hr => sent r hr _ ?_ ?_ ?_) ?_))).is ?_
    · rw [List.getElem?_set_self (by rw [wipeG_length]; exact hlt)]
    · rw [List.getElem?_set_ne (by decide)]; show (Γ.set 9 .un)[4]? = _; rw [List.getElem?_set_ne (by decide)]; exact h4
    · rw [List.getElem?_set_ne (by decide)]; show (Γ.set 9 .un)[3]? = _; rw [List.getElem?_set_ne (by decide)]; exact h3
    · show ((match Γ[9]? with | some sl => sl.flat | none => false) && true) = true
      rw [h9]; rfl
    · unfold matT; rw [List.map_map]; rfl
  refine rs_seq (rs_if (b := false) (rt_or (b := false) (c := false) ((rt_test (re_neD (re_var (d := matT (F.map fun r => mapF L r O)) rfl) (hcomp _ rfl rfl rfl rfl) (shp_mat _).sh (shp_mat _).sh)).is (by rw [eqv_mat]; simp)) (fun z => (nomatch z)) (fun _ => (rt_test (re_op (hrep _ rfl) (re_var (d := .str hd.shown) rfl) (od_l (od_neS (x := hd.shown) (y := hd.shown))))).is (by simp))) (fun z => (nomatch z)) (fun _ => rs_nx ?_))
  generalize hBo : (F.map fun r => mapF L r O) = Bo at lBo mBo
  -- the world
  refine rs_seq (rs_set (re_tup ra_nil) ?_)
  show RS K false _ [.dat (lsv cs), stmS s6, .dat (.int n), .dat (.int L), .dat (matT O), .dat hd, .dat (.str hd.shown), .dat (matT Bo), .dat (vec []), .un, .un, .un, .un, .dat (matT F), .dat (matT F), .dat (.int (mid : Int)), .un, .un, .un, .un] _
  refine rs_cut (fun Γ => ∃ w t s9 s16, Γ = [.dat (lsv cs), stmS t, .dat (.int n), .dat (.int L), .dat (matT O), .dat hd, .dat (.str hd.shown), .dat (matT Bo), .dat (vec w), s9, .un, .un, .un, .dat (matT F), .dat (matT F), .dat (.int (mid : Int)), s16, .un, .un, .un] ∧ w.length = F.length ∧ (∀ x ∈ w, x.natAbs ≤ 2 ^ 97) ∧ SOk 200 t ∧ s9.flat = true) ?_ ?_
  · refine rs_for (ds := F.map vec) (ri_seq (re_var rfl) rfl) (fun i Γ => ∃ w t s9 s16, Γ = [.dat (lsv cs), stmS t, .dat (.int n), .dat (.int L), .dat (matT O), .dat hd, .dat (.str hd.shown), .dat (matT Bo), .dat (vec w), s9, .un, .un, .un, .dat (matT F), .dat (matT F), .dat (.int (mid : Int)), s16, .un, .un, .un] ∧ w.length = i ∧ (∀ x ∈ w, x.natAbs ≤ 2 ^ 97) ∧ SOk (101 + 3 * i) t ∧ s9.flat = true)
      ⟨[], s6, _, _, rfl, rfl, fun x hx => by simp at hx, hs6, rfl⟩ (fun i d Γ hdd hW => ?_) (fun Γ hW => ?_)
    · obtain ⟨w, t, s9, s16, rfl, hw, hwb, ht, _⟩ := hW
      have hi : i < F.length := by have := (List.getElem?_eq_some_iff.mp hdd).1; rw [List.length_map] at this; exact this
      have hF9 := mF.len
      refine ⟨_, _, rg_name, by decide, ?_⟩
      show RS K false _ [.dat (lsv cs), stmS t, .dat (.int n), .dat (.int L), .dat (matT O), .dat hd, .dat (.str hd.shown), .dat (matT Bo), .dat (vec w), .dat d, .un, .un, .un, .dat (matT F), .dat (matT F), .dat (.int (mid : Int)), s16, .un, .un, .un] _
      obtain ⟨g0, g1⟩ := drV_rng t (show (0 : Int) < 10 ^ (9 : Int).toNat by decide)
      refine rs_seq (rs_set (re_subI (re_powI re_int re_int ⟨by decide, by decide, by decide⟩) (re_draw (i := 1) (s := t) rfl (re_powI re_int re_int ⟨by decide, by decide, by decide⟩) rfl (by decide) ht (by omega))) ?_)
      have ht1 := sok_dr (10 ^ (9 : Int).toNat) ht
      generalize drV t (10 ^ (9 : Int).toNat) = gv at g0 g1
      generalize drS t (10 ^ (9 : Int).toNat) = t1 at ht1
      have e29 : (10 : Int) ^ (29 : Int).toNat = 100000000000000000000000000000 := by decide
      have e9 : (10 : Int) ^ (9 : Int).toNat = 1000000000 := by decide
      rw [e9] at g1
      rw [e29]
      show RS K false _ [.dat (lsv cs), stmS t1, .dat (.int n), .dat (.int L), .dat (matT O), .dat hd, .dat (.str hd.shown), .dat (matT Bo), .dat (vec w), .dat d, .un, .un, .un, .dat (matT F), .dat (matT F), .dat (.int (mid : Int)), .dat (.int (100000000000000000000000000000 - gv)), .un, .un, .un] _
      obtain ⟨u0, u1⟩ := drV_rng t1 (show (0 : Int) < 9 by decide)
      have ht2 := sok_dr 9 ht1
      obtain ⟨v0, v1⟩ := drV_rng (drS t1 9) (show (0 : Int) < 4 by decide)
      have ht3 := sok_dr 4 ht2
      obtain ⟨y, hy, hyb⟩ : ∃ y : Int, atI [PyData.int (100000000000000000000000000000 - gv), PyData.int (drV t1 9 - 4)] (if drV (drS t1 9) 4 < 1 then drV (drS t1 9) 4 else 1) = some (.int y) ∧ y.natAbs ≤ 2 ^ 97 := by
        have e97 : (2 : Nat) ^ 97 = 158456325028528675187087900672 := by decide
        by_cases z : drV (drS t1 9) 4 < 1
        · have : drV (drS t1 9) 4 = 0 := by omega
          rw [if_pos z, this]
          exact ⟨100000000000000000000000000000 - gv, rfl, by rw [e97]; omega⟩
        · rw [if_neg z]
          exact ⟨drV t1 9 - 4, rfl, by rw [e97]; omega⟩
      refine rs_set (d := .tuple (w.map .int ++ [.int y])) (re_addT (re_var rfl) (re_tup (ra_cons (re_ixL (RL.re (rl_lst (ra_cons (re_var rfl) (ra_cons (re_subI (re_draw (i := 1) (s := t1) rfl re_int rfl (by decide) ht1 (by omega)) re_int) ra_nil)))) (re_cb (ra_cons re_int (ra_cons (re_draw (i := 1) (s := drS t1 9) rfl re_int rfl (by decide) ht2 (by omega)) ra_nil)) cd_min2) hy) ra_nil)) ?_) ?_
      · rw [List.length_map, hw]; show i + 1 ≤ 16777216; omega
      · refine ⟨w ++ [y], drS (drS t1 9) 4, .dat d, .dat (.int (100000000000000000000000000000 - gv)), ?_, by rw [List.length_append, hw]; rfl, fun x hx => ?_, ht3.mono (by omega), rfl⟩
        · unfold vec
          rw [List.map_append]; rfl
        · rcases List.mem_append.mp hx with hx | hx
          · exact hwb x hx
          · rw [List.mem_singleton.mp hx]; exact hyb
    · obtain ⟨w, t, s9, s16, rfl, hw, hwb, ht, h9⟩ := hW
      rw [List.length_map] at hw ht
      have := mF.len
      exact ⟨w, t, s9, s16, rfl, hw, hwb, ht.mono (by omega), h9⟩
  · rintro _ ⟨w, t, s9, s16, rfl, hw, hwb, ht, h9⟩
    have bw : Bd F.length (2 ^ 97) w := bd_of hw hwb
    have hF9 := mF.len
    -- images
    obtain ⟨k1, k2, k3⟩ := map_ok (n := mid) (V := 2 ^ 97) (B := 1000) bw.2 mF.bd (by omega) (fun x hx => small97 x (Nat.le_trans hx (by
      rw [hw]
      have : F.length * (2 ^ 97 * 1000) ≤ 9 * (2 ^ 97 * 1000) := Nat.mul_le_mul_right _ hF9
      exact Nat.le_trans (Nat.add_le_add_right (Nat.add_le_add_right this _) _) (by decide))))
    have k2 : Bd mid (2 ^ 120) (mapF mid w F) := k2.mono (by
      rw [hw]
      exact Nat.le_trans (Nat.mul_le_mul_right _ hF9) (by decide))
    obtain ⟨j1, j2, j3⟩ := map_ok (n := L) (V := 2 ^ 120) (B := 99) k2.2 mO.bd (by rw [k2.1, lO]; exact Nat.le_refl _) (fun x hx => small97 x (Nat.le_trans hx (by
      rw [k2.1]
      have : mid * (2 ^ 120 * 99) ≤ 6 * (2 ^ 120 * 99) := Nat.mul_le_mul_right _ mid6
      exact Nat.le_trans (Nat.add_le_add_right (Nat.add_le_add_right this _) _) (by decide))))
    obtain ⟨i1, i2, i3⟩ := map_ok (n := L) (V := 2 ^ 97) (B := 6 * (1000 * 99)) bw.2 mBo (by omega) (fun x hx => small97 x (Nat.le_trans hx (by
      rw [hw]
      have : F.length * (2 ^ 97 * (6 * (1000 * 99))) ≤ 9 * (2 ^ 97 * (6 * (1000 * 99))) := Nat.mul_le_mul_right _ hF9
      exact Nat.le_trans (Nat.add_le_add_right (Nat.add_le_add_right this _) _) (by decide))))
    have twice : mapF L w Bo = mapF L (mapF mid w F) O := by
      rw [← hBo] at i3 i2 ⊢
      exact map_map hw (fun r hr => (mF.bd r hr).1) lO k3 k2.1 (fun r hr => (mp r hr).2.2) (fun r hr => (mp r hr).2.1.1) j3 j2.1 i3 i2.1
    have hO6 : O.length ≤ 6 := by omega
    refine rs_seq (rs_set (d := vec (mapF L (mapF mid w F) O)) (re_call (ra_cons (re_call (ra_cons (re_var (d := vec w) rfl) (ra_cons (re_var (d := matT F) rfl) (ra_cons (re_var (d := .int (mid : Int)) rfl) ra_nil))) ⟨_, _, w, F, mid, rfl, sq_vec w, sqm_T F, by omega, by omega, mid1, by omega, k1, rfl⟩) (ra_cons (re_var (d := matT O) rfl) (ra_cons (re_var (d := .int (L : Int)) rfl) ra_nil)))
      ⟨_, _, mapF mid w F, O, L, rfl, sq_vec _, sqm_T O, by rw [k2.1, lO]; exact Nat.le_refl _, by rw [k2.1]; omega, hL1, by omega, j1, rfl⟩) ?_)
    show RS K false _ [.dat (lsv cs), stmS t, .dat (.int n), .dat (.int L), .dat (matT O), .dat hd, .dat (.str hd.shown), .dat (matT Bo), .dat (vec w), s9, .dat (vec (mapF L (mapF mid w F) O)), .un, .un, .dat (matT F), .dat (matT F), .dat (.int (mid : Int)), s16, .un, .un, .un] _
    generalize hbh : mapF L (mapF mid w F) O = bh at j2 twice
    refine rs_seq (rs_if (b := false) ((rt_test (re_neD (re_call (ra_cons (re_var (d := vec w) rfl) (ra_cons (re_var (d := matT Bo) rfl) (ra_cons (re_var (d := .int (L : Int)) rfl) ra_nil))) ⟨_, _, w, Bo, L, rfl, sq_vec w, sqm_T Bo, by omega, by omega, hL1, by omega, i1, rfl⟩) (re_var (d := vec bh) rfl) (shp_vec _).sh (shp_vec _).sh)).is (by rw [eqv_vec, twice]; simp)) (fun z => (nomatch z)) (fun _ => rs_nx ?_))
    -- the form
    refine rs_seq (rs_set (re_tupleL (RL.re (rl_mapS (List.range L) (fun (i : Nat) => .int (i : Int))
      (fun i => [.dat (lsv cs), stmS (stN t 199 i), .dat (.int n), .dat (.int L), .dat (matT O), .dat hd, .dat (.str hd.shown), .dat (matT Bo), .dat (vec w), s9, .dat (vec bh), .un, .un, .dat (matT F), .dat (matT F), .dat (.int (mid : Int)), s16, .un, .un, .un])
      (fun i => .int (drV (stN t 199 i) 199 - 99)) .un (ri_range (n := L) (ra_cons (re_var rfl) ra_nil) (by omega)) (by simp; omega) (fun i x hx => ?_)))) ?_)
    · have hi : i < L := by have := (List.getElem?_eq_some_iff.mp hx).1; simpa using this
      exact re_subI (re_draw (i := 1) (s := stN t 199 i) rfl re_int rfl (by decide) (sok_stN ht i) (by omega)) re_int
    obtain ⟨f, ef, lf, hfb⟩ : ∃ f : Vc, (List.range (List.range L).length).map (fun i => PyData.int (drV (stN t 199 i) 199 - 99)) = f.map .int ∧ f.length = L ∧ ∀ x ∈ f, x.natAbs ≤ 99 := by
      refine ⟨(List.range L).map fun i => drV (stN t 199 i) 199 - 99, by rw [List.length_range, List.map_map]; rfl, by simp, fun x hx => ?_⟩
      obtain ⟨i, _, rfl⟩ := List.mem_map.mp hx
      obtain ⟨a0, a1⟩ := drV_rng (stN t 199 i) (show (0 : Int) < 199 by decide)
      omega
    rw [ef]
    show RS K false _ [.dat (lsv cs), stmS (stN t 199 (List.range L).length), .dat (.int n), .dat (.int L), .dat (matT O), .dat hd, .dat (.str hd.shown), .dat (matT Bo), .dat (vec w), s9, .dat (vec bh), .dat (vec f), .un, .dat (matT F), .dat (matT F), .dat (.int (mid : Int)), s16, .un, .un, .un] _
    generalize stN t 199 (List.range L).length = t2
    have lsb : ∀ (Γ : Ga), Γ[7]? = some (.dat (matT Bo)) → Γ[9]? = some s9 → RE K (tLc (iSeq K (tVar 7)) (gName 9) tYes (tCB (rListOf K) (tCons (tVar 9) tNil)) [9]) Γ (.list (Bo.map lsv)) Γ := fun Γ hi h9' =>
      RL.re (rl_map Bo vec lsv (ri_seq (re_var hi) rfl) (by omega) (fun r hr => RL.re (rl_cb (ra_cons (re_var (by
        rw [List.getElem?_set_self (by rw [wipeG_length]; exact (List.getElem?_eq_some_iff.mp h9').1)])) ra_nil) (cdl_list (sq_vec r)))) (by
        show ((match Γ[9]? with | some sl => sl.flat | none => false) && true) = true
        rw [h9']
        show (s9.flat && true) = true
        rw [h9]; rfl))
    have hh : ∀ Γ : Ga, Γ[11]? = some (.dat (vec f)) → Γ[7]? = some (.dat (matT Bo)) → Γ[9]? = some s9 → RE K (tLst (tCons (tCB (rListOf K) (tCons (tVar 11) tNil)) (tCons (tLc (iSeq K (tVar 7)) (gName 9) tYes (tCB (rListOf K) (tCons (tVar 9) tNil)) [9]) tNil))) Γ (.list [lsv f, .list (Bo.map lsv)]) Γ := fun Γ h11 h7 h9' =>
      RL.re (rl_lst (ra_cons (RL.re (rl_cb (ra_cons (re_var h11) ra_nil) (cdl_list (sq_vec f)))) (ra_cons (lsb Γ h7 h9') ra_nil)))
    refine rs_seq (rs_set (hh _ rfl rfl rfl) ?_)
    show RS K false _ [.dat (lsv cs), stmS t2, .dat (.int n), .dat (.int L), .dat (matT O), .dat (.list [lsv f, .list (Bo.map lsv)]), .dat (.str hd.shown), .dat (matT Bo), .dat (vec w), s9, .dat (vec bh), .dat (vec f), .un, .dat (matT F), .dat (matT F), .dat (.int (mid : Int)), s16, .un, .un, .un] _
    -- pulled
    have h200 : (1000000 : Nat) ≤ 2 ^ 200 := by decide
    have smf : ∀ x ∈ f, Sm x := fun x hx => small97 x (by have := hfb x hx; omega)
    have smB : ∀ r ∈ Bo, ∀ x ∈ r, Sm x := fun r hr x hx => small97 x (by have := at_le (mBo r hr) x hx; omega)
    refine rs_seq (rs_set (re_call (ra_cons (re_ixL (re_var rfl) re_int (at_nat (k := 0) (d := lsv f) rfl)) (ra_cons (re_ixL (re_var rfl) re_int (at_nat (k := 1) (d := .list (Bo.map lsv)) rfl)) ra_nil)) ⟨lsv f, .list (Bo.map lsv), f, Bo, rfl, sq_lsv f, sqm_map sq_lsv rfl, by omega, by omega, smf, smB, rfl⟩) ?_)
    show RS K false _ [.dat (lsv cs), stmS t2, .dat (.int n), .dat (.int L), .dat (matT O), .dat (.list [lsv f, .list (Bo.map lsv)]), .dat (.str hd.shown), .dat (matT Bo), .dat (vec w), s9, .dat (vec bh), .dat (vec f), .dat (vec (Bo.map (dotL f))), .dat (matT F), .dat (matT F), .dat (.int (mid : Int)), s16, .un, .un, .un] _
    have bf : Bd L 99 f := bd_of lf hfb
    have tol : ∀ x ∈ Bo.map (dotL f), Sm x := fun x hx => by
      obtain ⟨r, hr, rfl⟩ := List.mem_map.mp hx
      have br := mBo r hr
      rw [dot_sm lf br.1]
      have : (sm L (fun j => at_ f j * at_ r j)).natAbs ≤ L * (99 * (6 * (1000 * 99))) := sm_abs fun p _ => by
        rw [Int.natAbs_mul]; exact Nat.mul_le_mul (bf.2 p) (br.2 p)
      exact small97 _ (Nat.le_trans this (Nat.le_trans (Nat.mul_le_mul_right _ hL4) (by decide)))
    have smw : ∀ x ∈ w, Sm x := fun x hx => small97 x (Nat.le_trans (hwb x hx) (by decide))
    have smb : ∀ x ∈ bh, Sm x := fun x hx => small97 x (Nat.le_trans (at_le j2 x hx) (by
      rw [k2.1]
      exact Nat.le_trans (Nat.mul_le_mul_right _ mid6) (by decide)))
    have lbh : bh.length = L := j2.1
    have pd : dotL (Bo.map (dotL f)) w = dotL f bh := by
      rw [← twice]
      exact pull_dot (by omega) lf (fun r hr => (mBo r hr).1) i3 i2.1
    refine rs_seq (rs_if (b := false) (rt_or (b := false) (c := false) (rt_not (b := true) (rt_test (re_isi (re_var (d := vec (Bo.map (dotL f))) rfl) htt))) (fun z => (nomatch z)) (fun _ => (rt_test (re_neI (re_call (ra_cons (re_var (d := vec (Bo.map (dotL f))) rfl) (ra_cons (re_var (d := vec w) rfl) ra_nil)) ⟨_, _, Bo.map (dotL f), w, rfl, sq_vec _, sq_vec w, by rw [List.length_map]; omega, by rw [List.length_map]; omega, tol, smw, rfl⟩)
      (re_call (ra_cons (re_var (d := vec f) rfl) (ra_cons (re_var (d := vec bh) rfl) ra_nil)) ⟨_, _, f, bh, rfl, sq_vec f, sq_vec bh, by omega, by omega, smf, smb, rfl⟩))).is (by rw [pd]; simp))) (fun z => (nomatch z)) (fun _ => rs_nx ?_))
    -- what was handed stays
    have shl : ∀ r : Vc, Shp 1 (lsv r) := fun r => shp_mapL fun _ _ => shp_int
    have shh : Shp 3 (.list [lsv f, .list (Bo.map lsv)]) := shp_lst fun d hd => by
      rcases List.mem_cons.mp hd with rfl | hd
      · exact ⟨(shl f).1, Nat.le_trans (shl f).2 (by decide)⟩
      · rw [List.mem_singleton.mp hd]; exact shp_mapL fun r _ => shl r
    have eql : ∀ a b : Vc, PyData.eqv (lsv a) (lsv b) = decide (a = b) := fun a b => eqv_lst eqv_int a b
    have eqh : PyData.eqv (.list [lsv f, .list (Bo.map lsv)]) (.list [lsv f, .list (Bo.map lsv)]) = true := by
      have e0 : ∀ a b : PyData, PyData.eqv (.list [a, b]) (.list [a, b]) = (PyData.eqv a a && (PyData.eqv b b && true)) := fun a b => by simp only [PyData.eqv, PyData.eqvAll]
      rw [e0, eql, eqv_lst eql]
      simp
    refine rs_seq (rs_if (b := false) ((rt_test (re_neD (re_var (d := .list [lsv f, .list (Bo.map lsv)]) rfl) (hh _ rfl rfl rfl) shh.sh shh.sh)).is (by rw [eqh]; rfl)) (fun z => (nomatch z)) (fun _ => rs_nx ?_))
    -- the lattices
    have pF : LatP F mid := ⟨mid6, hF9, fun r hr => (mF.bd r hr).mono (by decide)⟩
    have pO : LatP O L := ⟨by omega, by omega, fun r hr => (mO.bd r hr).mono (by decide)⟩
    have pB : LatP Bo L := ⟨by omega, by omega, fun r hr => (mBo r hr).mono (by decide)⟩
    refine rs_seq (rs_for (ds := [(F, mid), (O, L), (Bo, L)].map fun p => .tuple [matT p.1, .int (p.2 : Int)]) (ri_seqL (RL.re (rl_lst (ra_cons (re_tup (ra_cons (re_var rfl) (ra_cons (re_var rfl) ra_nil))) (ra_cons (re_tup (ra_cons (re_var rfl) (ra_cons (re_var rfl) ra_nil))) (ra_cons (re_tup (ra_cons (re_var rfl) (ra_cons (re_var rfl) ra_nil))) ra_nil))))))
      (fun i Γ => ∃ s13 s14 s17 s18, Γ = [.dat (lsv cs), stmS t2, .dat (.int n), .dat (.int L), .dat (matT O), .dat (.list [lsv f, .list (Bo.map lsv)]), .dat (.str hd.shown), .dat (matT Bo), .dat (vec w), s9, .dat (vec bh), .dat (vec f), .dat (vec (Bo.map (dotL f))), s13, s14, .dat (.int (mid : Int)), s16, s17, s18, .un]) ⟨_, _, _, _, rfl⟩ (fun i d Γ hdd hW => ?_) (fun Γ hW => ?_))
    · obtain ⟨s13, s14, s17, s18, rfl⟩ := hW
      rw [List.getElem?_map] at hdd
      obtain ⟨p, hp, rfl⟩ := Option.map_eq_some_iff.mp hdd
      have hpm := List.mem_of_getElem? hp
      have lp : LatP p.1 p.2 := by
        simp only [List.mem_cons, List.not_mem_nil, or_false] at hpm
        rcases hpm with rfl | rfl | rfl
        · exact pF
        · exact pO
        · exact pB
      obtain ⟨M, q⟩ := p
      obtain ⟨q6, M9, Mb⟩ := lp
      have q6 : q ≤ 6 := q6
      have M9 : M.length ≤ 9 := M9
      have Mb : ∀ r ∈ M, Bd q (2 ^ 20) r := Mb
      obtain ⟨E, b2, run, eok, low, r1, r2, eq2⟩ := lat_ok q6 M9 Mb
      refine ⟨_, _, rg_anyT (rgs_cons rg_name (rgs_cons rg_name rgs_nil)), by decide, ?_⟩
      show RS K false _ [.dat (lsv cs), stmS t2, .dat (.int n), .dat (.int L), .dat (matT O), .dat (.list [lsv f, .list (Bo.map lsv)]), .dat (.str hd.shown), .dat (matT Bo), .dat (vec w), s9, .dat (vec bh), .dat (vec f), .dat (vec (Bo.map (dotL f))), s13, s14, .dat (.int (mid : Int)), s16, .dat (matT M), .dat (.int (q : Int)), .un] _
      refine rs_seq (rs_set (re_call (ra_cons (RL.re (rl_cb (ra_cons (re_var (d := matT M) rfl) ra_nil) (cdl_list (d := matT M) (ds := M.map vec) rfl))) (ra_cons (re_call (ra_cons (re_var (d := .int (q : Int)) rfl) ra_nil) ⟨q, rfl, by omega, rfl⟩) ra_nil)) ⟨q, M, unitsL q, fun _ => true, b2, rfl, by omega, by omega, by rw [units_len]; omega, r1, fun _ => r2, rfl⟩) ?_)
      have e1 : (M.all fun _ => true) = true := List.all_eq_true.mpr fun _ _ => rfl
      rw [e1, eq2, Bool.true_and]
      show RS K false _ [.dat (lsv cs), stmS t2, .dat (.int n), .dat (.int L), .dat (matT O), .dat (.list [lsv f, .list (Bo.map lsv)]), .dat (.str hd.shown), .dat (matT Bo), .dat (vec w), s9, .dat (vec bh), .dat (vec f), .dat (vec (Bo.map (dotL f))), s13, .dat (.bool (decide (hermF q E = unitsL q))), .dat (.int (mid : Int)), s16, .dat (matT M), .dat (.int (q : Int)), .un] _
      refine rs_seq (rs_set (re_call (ra_cons (re_var (d := matT M) rfl) (ra_cons (re_var (d := .int (q : Int)) rfl) ra_nil)) ⟨matT M, q, hermF q E, rfl, by omega, ⟨matT M, M, q, q, E, rfl, sqm_T M, by omega, run, eok, low, rfl⟩, rfl⟩) ?_)
      show RS K false _ [.dat (lsv cs), stmS t2, .dat (.int n), .dat (.int L), .dat (matT O), .dat (.list [lsv f, .list (Bo.map lsv)]), .dat (.str hd.shown), .dat (matT Bo), .dat (vec w), s9, .dat (vec bh), .dat (vec f), .dat (vec (Bo.map (dotL f))), .dat (.bool (decide (hermF q E = unitsL q))), .dat (.bool (decide (hermF q E = unitsL q))), .dat (.int (mid : Int)), s16, .dat (matT M), .dat (.int (q : Int)), .un] _
      generalize decide (hermF q E = unitsL q) = bb
      refine rs_if (b := false) (rt_or (b := false) (c := false) (rt_not (b := true) (rt_test (re_isi (re_var (d := .bool bb) rfl) hbt))) (fun z => (nomatch z)) (fun _ => (rt_test (re_neD (re_var (d := .bool bb) rfl) (re_var (d := .bool bb) rfl) (Shp.sh (n := 0) shp_bool) (Shp.sh (n := 0) shp_bool))).is (by cases bb <;> rfl))) (fun z => (nomatch z)) (fun _ => rs_nx ⟨_, _, _, _, rfl⟩)
    · obtain ⟨s13, s14, s17, s18, rfl⟩ := hW
      exact rs_ret re_bl rfl
end K87

namespace K87
open PySem PySem.Spec PyProof.Rows L2 DL
/-- a def of the text among the written part -/
structure DefK (K : PySem.W.Frag) (x : Str) (st : Stmt) : Prop where
  ex : ∃ (f : Addr) (oc : Value) (od an : Option Addr) (kV doc pm cdv ct : Value) (osl : Array (Option Value)), PySem.W.nsIn K mainGlobals x = some (some (.ref f)) ∧
    K.lookup f = some ⟨oc, od, .func (PySem.W.fnOf x x (defArgs st) (defBody st) (defScope st) .none kV doc pm an cdv ct), osl⟩ ∧ PySem.W.codeIn K cdv x = true ∧ PySem.W.keepIn K (.ref f) = true
theorem defK {K : PySem.W.Frag} {x : Str} {st : Stmt} {f : Addr} {oc : Value} {od an : Option Addr} {kV doc pm cdv ct : Value} {osl : Array (Option Value)} (a : PySem.W.nsIn K mainGlobals x = some (some (.ref f)))
    (l : K.lookup f = some ⟨oc, od, .func (PySem.W.fnOf x x (defArgs st) (defBody st) (defScope st) .none kV doc pm an cdv ct), osl⟩) (c : PySem.W.codeIn K cdv x = true) (k : PySem.W.keepIn K (.ref f) = true) : DefK K x st :=
  ⟨f, oc, od, an, kV, doc, pm, cdv, ct, osl, a, l, c, k⟩
theorem DefK.at {K : PySem.W.Frag} {x : Str} {st : Stmt} {h : Heap} {mg : Str → Option Value} (d : DefK K x st) (X : K.In h) (G : h.Ns mainGlobals mg) : FunAt K mg x st := by
  obtain ⟨f, oc, od, an, kV, doc, pm, cdv, ct, osl, a, l, c, k⟩ := d.ex
  exact ⟨f, _, fun_mk (st := st) l c k, PySem.W.mg_of X G a⟩
structure Facts (K : PySem.W.Frag) : Prop where
  d_bezout : DefK K "bezout" s_bezout
  d_dot : DefK K "dot" s_dot
  d_scale_form : DefK K "scale_form" s_scale_form
  d_combined : DefK K "combined" s_combined
  d_unit_form : DefK K "unit_form" s_unit_form
  d_lowered : DefK K "lowered" s_lowered
  d_add_vector : DefK K "add_vector" s_add_vector
  d_hermite : DefK K "hermite" s_hermite
  d_whole : DefK K "whole" s_whole
  d_is_forgetting : DefK K "is_forgetting" s_is_forgetting
  d_mapped : DefK K "mapped" s_mapped
  d_pulled : DefK K "pulled" s_pulled
  d_unit_row : DefK K "unit_row" s_unit_row
  d_split_matrix : DefK K "split_matrix" s_split_matrix
  d_unit_matrix : DefK K "unit_matrix" s_unit_matrix
  d_order_matrix : DefK K "order_matrix" s_order_matrix
  d_matrix_product : DefK K "matrix_product" s_matrix_product
  d_join_matrix : DefK K "join_matrix" s_join_matrix
  d_drop_matrix : DefK K "drop_matrix" s_drop_matrix
  d_law_dot : DefK K "_law_dot" s_law_dot
  d_law_plus : DefK K "_law_plus" s_law_plus
  d_law_units : DefK K "_law_units" s_law_units
  d_law_sent : DefK K "_law_sent" s_law_sent
  d_law_step : DefK K "_law_step" s_law_step
  d_law_inside : DefK K "_law_inside" s_law_inside
  d_law_same_lattice : DefK K "_law_same_lattice" s_law_same_lattice
  d_law_draw : DefK K "_law_draw" s_law_draw
  d_law_any_matrix : DefK K "_law_any_matrix" s_law_any_matrix
  d_law_many_joined : DefK K "_law_many_joined" s_law_many_joined
  d_law_made : DefK K "_law_made" s_law_made
  d_law : DefK K "law" s_law
  z_range : PySem.W.nsIn K mainGlobals "range" = some none
  z_zip : PySem.W.nsIn K mainGlobals "zip" = some none
  z_len : PySem.W.nsIn K mainGlobals "len" = some none
  z_sum : PySem.W.nsIn K mainGlobals "sum" = some none
  z_tuple : PySem.W.nsIn K mainGlobals "tuple" = some none
  z_list : PySem.W.nsIn K mainGlobals "list" = some none
  z_int : PySem.W.nsIn K mainGlobals "int" = some none
  z_sorted : PySem.W.nsIn K mainGlobals "sorted" = some none
  z_all : PySem.W.nsIn K mainGlobals "all" = some none
  z_any : PySem.W.nsIn K mainGlobals "any" = some none
  z_min : PySem.W.nsIn K mainGlobals "min" = some none
  z_max : PySem.W.nsIn K mainGlobals "max" = some none
  z_isinstance : PySem.W.nsIn K mainGlobals "isinstance" = some none
  z_enumerate : PySem.W.nsIn K mainGlobals "enumerate" = some none
  z_bool : PySem.W.nsIn K mainGlobals "bool" = some none
  z_abs : PySem.W.nsIn K mainGlobals "abs" = some none
  z_repr : PySem.W.nsIn K mainGlobals "repr" = some none
  z_set : PySem.W.nsIn K mainGlobals "set" = some none
  z_dict : PySem.W.nsIn K mainGlobals "dict" = some none
  z_str : PySem.W.nsIn K mainGlobals "str" = some none
  z_reversed : PySem.W.nsIn K mainGlobals "reversed" = some none
  hbt : PySem.W.kitOne K (.type "bool") (.type "bool") = some true
  htt : PySem.W.kitOne K (.type "tuple") (.type "tuple") = some true
theorem Facts.no {K : PySem.W.Frag} {h : Heap} {mg : Str → Option Value} (T : Facts K) (X : K.In h) (G : h.Ns mainGlobals mg) : ∀ x ∈ (["range", "zip", "len", "sum", "tuple", "list", "int", "sorted", "all", "any", "min", "max", "isinstance", "enumerate", "bool", "abs", "repr", "set", "dict", "str", "reversed"] : List Str), mg x = none := by
  intro x hx
  simp only [List.mem_cons, List.not_mem_nil, or_false] at hx
  rcases hx with rfl | rfl | rfl | rfl | rfl | rfl | rfl | rfl | rfl | rfl | rfl | rfl | rfl | rfl | rfl | rfl | rfl | rfl | rfl | rfl | rfl
  · exact PySem.W.mg_none_of X G T.z_range
  · exact PySem.W.mg_none_of X G T.z_zip
  · exact PySem.W.mg_none_of X G T.z_len
  · exact PySem.W.mg_none_of X G T.z_sum
  · exact PySem.W.mg_none_of X G T.z_tuple
  · exact PySem.W.mg_none_of X G T.z_list
  · exact PySem.W.mg_none_of X G T.z_int
  · exact PySem.W.mg_none_of X G T.z_sorted
  · exact PySem.W.mg_none_of X G T.z_all
  · exact PySem.W.mg_none_of X G T.z_any
  · exact PySem.W.mg_none_of X G T.z_min
  · exact PySem.W.mg_none_of X G T.z_max
  · exact PySem.W.mg_none_of X G T.z_isinstance
  · exact PySem.W.mg_none_of X G T.z_enumerate
  · exact PySem.W.mg_none_of X G T.z_bool
  · exact PySem.W.mg_none_of X G T.z_abs
  · exact PySem.W.mg_none_of X G T.z_repr
  · exact PySem.W.mg_none_of X G T.z_set
  · exact PySem.W.mg_none_of X G T.z_dict
  · exact PySem.W.mg_none_of X G T.z_str
  · exact PySem.W.mg_none_of X G T.z_reversed
theorem walk {l : PySem.W.OpenLaw} {q : Program} {loose : List Str} {XP : (Str → Option Value) → Heap → Prop} {YP : World → Heap → Prop} {d : DefRec} {K : Params → PySem.W.Frag} (hn : l.most = some 63) (hdf : d.params.defaults = []) (hdn : d.name = "law") (hi : importsNone q = true) (ht : l.prog.given.tree = none)
    (hY : ∀ (w : World) (h : Heap), YP w h → (K w.params).In h) (T : ∀ w : World, Facts (K w.params)) : PySem.W.WalkO q loose XP YP l.row.toRowW d [] (fun f vs => PySem.call f vs) := by
  refine Att.attach_call hn hdf fun w s₀ s₁ mg mb fa o pm cd doc a vs ns G Y ho hd hcd hmg hobj hints hlen hg => ?_
  have X := hY w _ Y
  have F := T w
  generalize K w.params = K at X F
  obtain ⟨f, fd, Fn, hm⟩ := (F.d_law.at X G.T.g).ex
  rw [hdn] at hmg
  have e := hmg.symm.trans hm
  cases e
  have bnd : ∀ (s : Shared) (u : Value), BindsTo s fd ⟨[u], []⟩ [("script", u)] := fun s u => by
    obtain ⟨oc, od, kV, doc, pm, an, cdv, ct, osl, rfl, _, _⟩ := Fn.ex
    exact .of_eq rfl
  have hr : Room 61 callerA := ⟨rfl, by decide, by decide⟩
  refine law_at (k := 60) (N := nm_law) X G.T.g G.T.b G.T.builtins G.T.nolimit (G.T.seer hi) hg hobj hints (Nat.le_trans hlen (by decide)) hr Fn sc_law bnd fun base cdv H hN hK hG => ?_
  have S : Sur l.prog mg base := ⟨F.no hK hG, hN, ht⟩
  have C_bezout := ok_bezout (P := l.prog) (w := w) S (F.d_bezout.at hK hG) 
  have C_dot := ok_dot (P := l.prog) (w := w) S (F.d_dot.at hK hG) 
  have C_scale_form := ok_scale_form (P := l.prog) (w := w) S (F.d_scale_form.at hK hG) 
  have C_combined := ok_combined (P := l.prog) (w := w) S (F.d_combined.at hK hG) 
  have C_unit_form := ok_unit_form (P := l.prog) (w := w) S (F.d_unit_form.at hK hG) 
  have C_lowered := ok_lowered (P := l.prog) (w := w) S (F.d_lowered.at hK hG) C_combined
  have C_add_vector := ok_add_vector (P := l.prog) (w := w) S (F.d_add_vector.at hK hG) C_scale_form C_combined C_bezout C_lowered
  have C_hermite := ok_hermite (P := l.prog) (w := w) S (F.d_hermite.at hK hG) C_add_vector C_lowered
  have C_whole := ok_whole (P := l.prog) (w := w) S (F.d_whole.at hK hG) C_unit_form
  have C_is_forgetting := ok_is_forgetting (P := l.prog) (w := w) S (F.d_is_forgetting.at hK hG) C_hermite C_whole
  have C_mapped := ok_mapped (P := l.prog) (w := w) S (F.d_mapped.at hK hG) C_combined
  have C_pulled := ok_pulled (P := l.prog) (w := w) S (F.d_pulled.at hK hG) C_dot
  have C_unit_row := ok_unit_row (P := l.prog) (w := w) S (F.d_unit_row.at hK hG) C_scale_form C_unit_form
  have C_split_matrix := ok_split_matrix (P := l.prog) (w := w) S (F.d_split_matrix.at hK hG) C_unit_row
  have C_unit_matrix := ok_unit_matrix (P := l.prog) (w := w) S (F.d_unit_matrix.at hK hG) C_unit_row
  have C_order_matrix := ok_order_matrix (P := l.prog) (w := w) S (F.d_order_matrix.at hK hG) C_unit_row
  have C_matrix_product := ok_matrix_product (P := l.prog) (w := w) S (F.d_matrix_product.at hK hG) C_mapped
  have C_join_matrix := ok_join_matrix (P := l.prog) (w := w) S (F.d_join_matrix.at hK hG) C_unit_row
  have C_drop_matrix := ok_drop_matrix (P := l.prog) (w := w) S (F.d_drop_matrix.at hK hG) C_unit_row
  have C_law_dot := ok_law_dot (P := l.prog) (w := w) S (F.d_law_dot.at hK hG) 
  have C_law_plus := ok_law_plus (P := l.prog) (w := w) S (F.d_law_plus.at hK hG) 
  have C_law_units := ok_law_units (P := l.prog) (w := w) S (F.d_law_units.at hK hG) 
  have C_law_sent := ok_law_sent (P := l.prog) (w := w) S (F.d_law_sent.at hK hG) C_law_plus
  have C_law_step := ok_law_step (P := l.prog) (w := w) S (F.d_law_step.at hK hG) C_law_dot C_law_plus
  have C_law_inside := ok_law_inside (P := l.prog) (w := w) S (F.d_law_inside.at hK hG) C_law_units C_law_step C_law_dot C_law_plus
  have C_law_same_lattice := ok_law_same_lattice (P := l.prog) (w := w) S (F.d_law_same_lattice.at hK hG) C_law_inside
  have C_law_draw := ok_law_draw (P := l.prog) (w := w) S (F.d_law_draw.at hK hG) 
  have C_law_any_matrix := ok_law_any_matrix (P := l.prog) (w := w) S (F.d_law_any_matrix.at hK hG) C_law_draw
  have C_law_many_joined := ok_law_many_joined (P := l.prog) (w := w) S (F.d_law_many_joined.at hK hG) C_law_draw C_law_units C_join_matrix
  have C_law_made := ok_law_made (P := l.prog) (w := w) S (F.d_law_made.at hK hG) C_law_draw C_law_units C_split_matrix C_unit_matrix C_order_matrix C_drop_matrix C_join_matrix
  obtain ⟨t, ht, hR⟩ := law_body (P := l.prog) (w := w) S F.hbt F.htt C_law_draw C_law_made C_law_many_joined C_law_any_matrix C_matrix_product C_law_sent C_law_dot C_pulled C_law_same_lattice C_law_units C_is_forgetting fa cdv s₁ H (hr.deeper _)
  exact ⟨t, ht, hR ns⟩
end K87
open PySem PySem.W PyProof.Rows
set_option maxRecDepth 100000 in
set_option maxHeartbeats 0 in
theorem PySem.Challenge.cw_hushgrain_k87_matrices_holds : PySem.Challenge.rw_hushgrain_k87_matrices.Holds := by
  w_on; o_law; k_head; (case hw => w_witness2)
  k_fill
  refine K87.walk (l := PySem.Challenge.rw_hushgrain_k87_matrices) rfl rfl rfl ?hi rfl (fun w h Y => PySem.W.kIn_of Y) ?F
  case hi => decide +kernel
  case F =>
    intro w
    refine' K87.Facts.mk ?d0 ?d1 ?d2 ?d3 ?d4 ?d5 ?d6 ?d7 ?d8 ?d9 ?d10 ?d11 ?d12 ?d13 ?d14 ?d15 ?d16 ?d17 ?d18 ?d19 ?d20 ?d21 ?d22 ?d23 ?d24 ?d25 ?d26 ?d27 ?d28 ?d29 ?d30 ?z0 ?z1 ?z2 ?z3 ?z4 ?z5 ?z6 ?z7 ?z8 ?z9 ?z10 ?z11 ?z12 ?z13 ?z14 ?z15 ?z16 ?z17 ?z18 ?z19 ?z20 ?hbt ?htt
    (case d0 => (refine' K87.defK ?a ?l ?c ?k; (case a => k_is); (case l => k_is); (case c => k_is); (case k => k_is)))
    (case d1 => (refine' K87.defK ?a ?l ?c ?k; (case a => k_is); (case l => k_is); (case c => k_is); (case k => k_is)))
    (case d2 => (refine' K87.defK ?a ?l ?c ?k; (case a => k_is); (case l => k_is); (case c => k_is); (case k => k_is)))
    (case d3 => (refine' K87.defK ?a ?l ?c ?k; (case a => k_is); (case l => k_is); (case c => k_is); (case k => k_is)))
    (case d4 => (refine' K87.defK ?a ?l ?c ?k; (case a => k_is); (case l => k_is); (case c => k_is); (case k => k_is)))
    (case d5 => (refine' K87.defK ?a ?l ?c ?k; (case a => k_is); (case l => k_is); (case c => k_is); (case k => k_is)))
    (case d6 => (refine' K87.defK ?a ?l ?c ?k; (case a => k_is); (case l => k_is); (case c => k_is); (case k => k_is)))
    (case d7 => (refine' K87.defK ?a ?l ?c ?k; (case a => k_is); (case l => k_is); (case c => k_is); (case k => k_is)))
    (case d8 => (refine' K87.defK ?a ?l ?c ?k; (case a => k_is); (case l => k_is); (case c => k_is); (case k => k_is)))
    (case d9 => (refine' K87.defK ?a ?l ?c ?k; (case a => k_is); (case l => k_is); (case c => k_is); (case k => k_is)))
    (case d10 => (refine' K87.defK ?a ?l ?c ?k; (case a => k_is); (case l => k_is); (case c => k_is); (case k => k_is)))
    (case d11 => (refine' K87.defK ?a ?l ?c ?k; (case a => k_is); (case l => k_is); (case c => k_is); (case k => k_is)))
    (case d12 => (refine' K87.defK ?a ?l ?c ?k; (case a => k_is); (case l => k_is); (case c => k_is); (case k => k_is)))
    (case d13 => (refine' K87.defK ?a ?l ?c ?k; (case a => k_is); (case l => k_is); (case c => k_is); (case k => k_is)))
    (case d14 => (refine' K87.defK ?a ?l ?c ?k; (case a => k_is); (case l => k_is); (case c => k_is); (case k => k_is)))
    (case d15 => (refine' K87.defK ?a ?l ?c ?k; (case a => k_is); (case l => k_is); (case c => k_is); (case k => k_is)))
    (case d16 => (refine' K87.defK ?a ?l ?c ?k; (case a => k_is); (case l => k_is); (case c => k_is); (case k => k_is)))
    (case d17 => (refine' K87.defK ?a ?l ?c ?k; (case a => k_is); (case l => k_is); (case c => k_is); (case k => k_is)))
    (case d18 => (refine' K87.defK ?a ?l ?c ?k; (case a => k_is); (case l => k_is); (case c => k_is); (case k => k_is)))
    (case d19 => (refine' K87.defK ?a ?l ?c ?k; (case a => k_is); (case l => k_is); (case c => k_is); (case k => k_is)))
    (case d20 => (refine' K87.defK ?a ?l ?c ?k; (case a => k_is); (case l => k_is); (case c => k_is); (case k => k_is)))
    (case d21 => (refine' K87.defK ?a ?l ?c ?k; (case a => k_is); (case l => k_is); (case c => k_is); (case k => k_is)))
    (case d22 => (refine' K87.defK ?a ?l ?c ?k; (case a => k_is); (case l => k_is); (case c => k_is); (case k => k_is)))
    (case d23 => (refine' K87.defK ?a ?l ?c ?k; (case a => k_is); (case l => k_is); (case c => k_is); (case k => k_is)))
    (case d24 => (refine' K87.defK ?a ?l ?c ?k; (case a => k_is); (case l => k_is); (case c => k_is); (case k => k_is)))
    (case d25 => (refine' K87.defK ?a ?l ?c ?k; (case a => k_is); (case l => k_is); (case c => k_is); (case k => k_is)))
    (case d26 => (refine' K87.defK ?a ?l ?c ?k; (case a => k_is); (case l => k_is); (case c => k_is); (case k => k_is)))
    (case d27 => (refine' K87.defK ?a ?l ?c ?k; (case a => k_is); (case l => k_is); (case c => k_is); (case k => k_is)))
    (case d28 => (refine' K87.defK ?a ?l ?c ?k; (case a => k_is); (case l => k_is); (case c => k_is); (case k => k_is)))
    (case d29 => (refine' K87.defK ?a ?l ?c ?k; (case a => k_is); (case l => k_is); (case c => k_is); (case k => k_is)))
    (case d30 => (refine' K87.defK ?a ?l ?c ?k; (case a => k_is); (case l => k_is); (case c => k_is); (case k => k_is)))
    (case z0 => k_is)
    (case z1 => k_is)
    (case z2 => k_is)
    (case z3 => k_is)
    (case z4 => k_is)
    (case z5 => k_is)
    (case z6 => k_is)
    (case z7 => k_is)
    (case z8 => k_is)
    (case z9 => k_is)
    (case z10 => k_is)
    (case z11 => k_is)
    (case z12 => k_is)
    (case z13 => k_is)
    (case z14 => k_is)
    (case z15 => k_is)
    (case z16 => k_is)
    (case z17 => k_is)
    (case z18 => k_is)
    (case z19 => k_is)
    (case z20 => k_is)
    (case hbt => rfl)
    (case htt => rfl)

