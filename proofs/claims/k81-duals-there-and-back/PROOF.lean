import PyProof.Rows.All
import Wide.All
import OpenK.AllK
import Wide.FinOn
import HandS.ForMost
import HandS.Walk
import HandS.Zip
import HandS.TupAny
import HandS.TupMul
import HandS.Conv
import HandS.More
import HandS.Flow
import HandS.IsInst
import HandS.NoneIn
import HandS.Wide
import HandS.Style
import KE.GoesEnum
import PyProof.ListMulRoad
import PyProof.FactsAll.tuple_2
import HandS.Ends
import HandS.EndBits
import PyProof.ReprRoads
import PyProof.Rows.RegFStrParts
import PyProof.Draws
import PyProof.EnumMake
import PyProof.CollectIter
import PyProof.TupleIter
import PyProof.WalksMore
import KE.IntBitsLaws
import PySem.Challenge.RW_hushgrain_k81_whole_duals_there_and_back
set_option Elab.async false
set_option linter.all false
set_option autoImplicit false
set_option maxRecDepth 100000
set_option maxHeartbeats 4000000
/-! DL1: data over the heap: the state (I, H), slots, and the readings of expressions as data. -/
namespace DL
open PySem PySem.Spec PyProof.Rows L2

def Ex (H H' : Hp) : Prop := ∀ a o, H a = some o → H' a = some o
theorem Ex.refl (H : Hp) : Ex H H := fun _ _ h => h
theorem Ex.trans {H H1 H2 : Hp} (a : Ex H H1) (b : Ex H1 H2) : Ex H H2 := fun x o h => b x o (a x o h)
theorem Ex.non_ {H H' : Hp} {p : Addr} (e : Ex H H') (h : H' p = none) : H p = none := by
  cases q : H p with
  | none => rfl
  | some o => rw [e p o q] at h; cases h
theorem Ex.upd_ {I H : Hp} {p : Addr} {o : HO} (e : Ex I H) (h : I p = none) : Ex I (upd H p o) := fun a u ha => by
  rw [upd_ne (ne_of_none ha h)]; exact e a u ha
theorem Ex.both_ {I H : Hp} {p : Addr} {o : HO} (e : Ex I H) : Ex (L2.upd I p o) (L2.upd H p o) := fun a u ha => by
  by_cases q : a = p
  · subst q; rw [upd_same] at ha ⊢; exact ha
  · rw [upd_ne q] at ha ⊢; exact e a u ha
theorem Ex.at_ {I H : Hp} {p : Addr} {o : HO} (e : Ex I H) (h : H p = some o) : Ex (L2.upd I p o) H := fun a u ha => by
  by_cases q : a = p
  · subst q; rw [upd_same] at ha; cases ha; exact h
  · rw [upd_ne q] at ha; exact e a u ha
theorem Ex.new_ {I : Hp} {p : Addr} {o : HO} (h : I p = none) : Ex I (L2.upd I p o) := (Ex.refl I).upd_ h

theorem sqL_ex {K : PySem.W.Frag} {H H' : Hp} {a : Addr} {xs : List V} (e : Ex H H') (h : SqL K H a xs) : SqL K H' a xs := by
  rcases h with (h | ⟨o, h⟩) | h
  · exact .inl (.inl (e _ _ h))
  · exact .inl (.inr ⟨o, e _ _ h⟩)
  · exact .inr h
theorem sqT_ex {K : PySem.W.Frag} {H H' : Hp} {a : Addr} {xs : List V} (e : Ex H H') (h : SqT K H a xs) : SqT K H' a xs := by
  rcases h with (h | ⟨o, h⟩) | h
  · exact .inl (.inl (e _ _ h))
  · exact .inl (.inr ⟨o, e _ _ h⟩)
  · exact .inr h
mutual
theorem dp_ex {K : PySem.W.Frag} {H H' : Hp} (e : Ex H H') : ∀ (d : PyData) (v : V), Dp K H v d → Dp K H' v d
  | .none, _, h => by cases h; exact .non
  | .bool b, _, h => by cases h; exact .bl b
  | .int i, _, h => by cases h; exact .int i
  | .str x, _, h => by cases h; exact .str x
  | .list ds, _, h => by
    cases h with
    | lst hs ha => exact .lst (sqL_ex e hs) (dpa_ex e ds _ ha)
  | .tuple ds, _, h => by
    cases h with
    | tup hs ha => exact .tup (sqT_ex e hs) (dpa_ex e ds _ ha)
  | .dict _, _, h => by cases h
theorem dpa_ex {K : PySem.W.Frag} {H H' : Hp} (e : Ex H H') : ∀ (ds : List PyData) (vs : List V), DpAll K H vs ds → DpAll K H' vs ds
  | [], _, h => by cases h; exact .nil
  | d :: ds, _, h => by
    cases h with
    | cons h1 h2 => exact .cons (dp_ex e d _ h1) (dpa_ex e ds _ h2)
end
theorem Dp.ex {K : PySem.W.Frag} {H H' : Hp} {v : V} {d : PyData} (h : Dp K H v d) (e : Ex H H') : Dp K H' v d := dp_ex e d v h
theorem Da.ex {K : PySem.W.Frag} {H H' : Hp} {vs : List V} {ds : List PyData} (h : DpAll K H vs ds) (e : Ex H H') : DpAll K H' vs ds := dpa_ex e ds vs h
theorem Da.len {K : PySem.W.Frag} {H : Hp} : ∀ {vs : List V} {ds : List PyData}, DpAll K H vs ds → vs.length = ds.length
  | _, _, .nil => rfl
  | _, _, .cons _ r => by rw [List.length_cons, List.length_cons, Da.len r]
theorem Da.at {K : PySem.W.Frag} {H : Hp} : ∀ {vs : List V} {ds : List PyData} {i : Nat} {d : PyData}, DpAll K H vs ds → ds[i]? = some d → ∃ v, vs[i]? = some v ∧ Dp K H v d
  | _, _, _, _, .nil, e => by simp at e
  | _, _, 0, _, .cons h _, e => by simp at e; subst e; exact ⟨_, rfl, h⟩
  | _, _, i + 1, d, .cons _ r, e => by
    obtain ⟨v, h1, h2⟩ := Da.at (i := i) (d := d) r (by simpa using e)
    exact ⟨v, by simpa using h1, h2⟩
theorem Da.at2 {K : PySem.W.Frag} {H : Hp} {vs : List V} {ds : List PyData} {i : Nat} {v : V} (h : DpAll K H vs ds) (e : vs[i]? = some v) : ∃ d, ds[i]? = some d ∧ Dp K H v d := by
  have hl := Da.len h
  have hi : i < ds.length := by
    obtain ⟨a, _⟩ := List.getElem?_eq_some_iff.mp e
    omega
  obtain ⟨v', e', q⟩ := Da.at h (List.getElem?_eq_getElem hi)
  rw [e] at e'
  cases e'
  exact ⟨_, List.getElem?_eq_getElem hi, q⟩
theorem Da.app {K : PySem.W.Frag} {H : Hp} : ∀ {vs us : List V} {ds es : List PyData}, DpAll K H vs ds → DpAll K H us es → DpAll K H (vs ++ us) (ds ++ es)
  | _, _, _, _, .nil, s => s
  | _, _, _, _, .cons h r, s => .cons h (Da.app r s)
theorem Da.one {K : PySem.W.Frag} {H : Hp} {v : V} {d : PyData} (h : Dp K H v d) : DpAll K H [v] [d] := .cons h .nil
theorem Da.ints {K : PySem.W.Frag} {H : Hp} : ∀ (ns : List Int), DpAll K H (ns.map V.int) (ns.map PyData.int)
  | [] => .nil
  | n :: r => .cons (.int n) (Da.ints r)
theorem Da.of_ints {K : PySem.W.Frag} {H : Hp} : ∀ {ns : List Int} {vs : List V}, DpAll K H vs (ns.map PyData.int) → vs = ns.map V.int
  | [], _, h => by cases h; rfl
  | n :: r, _, h => by
    cases h with
    | cons h1 h2 => cases h1; rw [Da.of_ints h2]; rfl
theorem Da.of_bools {K : PySem.W.Frag} {H : Hp} : ∀ {ns : List Bool} {vs : List V}, DpAll K H vs (ns.map PyData.bool) → vs = ns.map V.bl
  | [], _, h => by cases h; rfl
  | n :: r, _, h => by
    cases h with
    | cons h1 h2 => cases h1; rw [Da.of_bools h2]; rfl
theorem Da.take {K : PySem.W.Frag} {H : Hp} : ∀ {vs : List V} {ds : List PyData} (n : Nat), DpAll K H vs ds → DpAll K H (vs.take n) (ds.take n)
  | _, _, 0, _ => by simp only [List.take_zero]; exact .nil
  | _, _, _ + 1, .nil => .nil
  | _, _, n + 1, .cons h r => .cons h (Da.take n r)
theorem Da.drop {K : PySem.W.Frag} {H : Hp} : ∀ {vs : List V} {ds : List PyData} (n : Nat), DpAll K H vs ds → DpAll K H (vs.drop n) (ds.drop n)
  | _, _, 0, r => r
  | _, _, _ + 1, .nil => .nil
  | _, _, n + 1, .cons _ r => Da.drop n r

/-! ### growth -/
structure Gr (M : Addr → Prop) (I H I' H' : Hp) : Prop where
  i : Ex I I'
  h : ∀ a o, ¬ M a → H a = some o → H' a = some o
  k : ∀ a, H' a = none → H a = none
  s : Ex I' H'
  f : ∀ a, I a = none → H a ≠ none → ¬ M a → I' a = none
abbrev No : Addr → Prop := fun _ => False
theorem Gr.refl {M : Addr → Prop} {I H : Hp} (e : Ex I H) : Gr M I H I H := ⟨Ex.refl I, fun _ _ _ h => h, fun _ h => h, e, fun _ h _ _ => h⟩
theorem Gr.trans {M : Addr → Prop} {I H I1 H1 I2 H2 : Hp} (a : Gr M I H I1 H1) (b : Gr M I1 H1 I2 H2) : Gr M I H I2 H2 :=
  ⟨a.i.trans b.i, fun x o n h => b.h x o n (a.h x o n h), fun x h => a.k x (b.k x h), b.s, fun x h n m => b.f x (a.f x h n m) (fun q => n (a.k x q)) m⟩
theorem Gr.mono {M M' : Addr → Prop} {I H I1 H1 : Hp} (a : Gr M I H I1 H1) (m : ∀ p, M p → M' p) : Gr M' I H I1 H1 :=
  ⟨a.i, fun x o n h => a.h x o (fun q => n (m x q)) h, a.k, a.s, fun x h n q => a.f x h n fun z => q (m x z)⟩
theorem Gr.no {M : Addr → Prop} {I H I1 H1 : Hp} (a : Gr No I H I1 H1) : Gr M I H I1 H1 := a.mono fun _ q => q.elim
/-- a new object, data -/
theorem Gr.new {I H : Hp} {p : Addr} {o : HO} (e : Ex I H) (h : H p = none) : Gr No I H (upd I p o) (upd H p o) :=
  ⟨Ex.new_ (e.non_ h), fun a u _ q => (Ex.refl H).upd_ h a u q, fun a q => by
    by_cases z : a = p
    · subst z; exact h
    · rw [upd_ne z] at q; exact q, e.both_, fun a ha hn _ => by
    by_cases z : a = p
    · subst z; exact absurd h hn
    · rw [upd_ne z]; exact ha⟩
/-- a new object, owned -/
theorem Gr.own {I H : Hp} {p : Addr} {o : HO} (e : Ex I H) (h : H p = none) : Gr No I H I (upd H p o) :=
  ⟨Ex.refl I, fun a u _ q => (Ex.refl H).upd_ h a u q, fun a q => by
    by_cases z : a = p
    · subst z; exact h
    · rw [upd_ne z] at q; exact q, e.upd_ (e.non_ h), fun _ ha _ _ => ha⟩
/-- an owned object changes -/
theorem Gr.mut {M : Addr → Prop} {I H : Hp} {p : Addr} {o u : HO} (e : Ex I H) (m : M p) (hi : I p = none) (h : H p = some u) : Gr M I H I (upd H p o) :=
  ⟨Ex.refl I, fun a v n q => by
    rw [upd_ne (fun z => n (by rw [z]; exact m))]; exact q, fun a q => by
    by_cases z : a = p
    · subst z; rw [upd_same] at q; cases q
    · rw [upd_ne z] at q; exact q, e.upd_ hi, fun _ ha _ _ => ha⟩

/-! ### slots -/
inductive Sl where
  | un
  | dat (d : PyData)
  | lst (ds : List PyData)
  | dic (kvs : List (Int × PyData))
  | stm (cs : List Int) (a b c : Int)
abbrev Ga := List Sl
inductive DK (K : PySem.W.Frag) (I : Hp) : List (Key × V) → List (Int × PyData) → Prop where
  | nil : DK K I [] []
  | cons {k : Int} {v : V} {d : PyData} {r : List (Key × V)} {s : List (Int × PyData)} : Dp K I v d → DK K I r s → DK K I ((.inl k, v) :: r) ((k, d) :: s)
theorem DK.ex {K : PySem.W.Frag} {I I' : Hp} (e : Ex I I') : ∀ {r : List (Key × V)} {s : List (Int × PyData)}, DK K I r s → DK K I' r s
  | _, _, .nil => .nil
  | _, _, .cons h t => .cons (Dp.ex h e) (DK.ex e t)
inductive SR (K : PySem.W.Frag) (I H : Hp) : Option V → Sl → List Addr → Prop where
  | un {o : Option V} : SR K I H o .un []
  | dat {v : V} {d : PyData} : Dp K I v d → SR K I H (some v) (.dat d) []
  | lst {p : Addr} {vs : List V} {ds : List PyData} : H p = some (.lst vs) → DpAll K I vs ds → SR K I H (some (.ref p)) (.lst ds) [p]
  | dic {p : Addr} {kv : List (Key × V)} {kvs : List (Int × PyData)} : H p = some (.dK kv) → DK K I kv kvs → SR K I H (some (.ref p)) (.dic kvs) [p]
  | stm {p q : Addr} {cs : List Int} {a b c : Int} : H p = some (.lst [.ref q, .int a, .int b, .int c]) → H q = some (.lst (cs.map V.int)) → SR K I H (some (.ref p)) (.stm cs a b c) [p, q]
theorem SR.gr {K : PySem.W.Frag} {I H I' H' : Hp} {o : Option V} {sl : Sl} {as : List Addr} (r : SR K I H o sl as) (i : Ex I I') (h : ∀ p ∈ as, ∀ u, H p = some u → H' p = some u) : SR K I' H' o sl as := by
  cases r with
  | un => exact .un
  | dat d => exact .dat (Dp.ex d i)
  | lst a b => exact .lst (h _ (by simp) _ a) (Da.ex b i)
  | dic a b => exact .dic (h _ (by simp) _ a) (b.ex i)
  | stm a b => exact .stm (h _ (by simp) _ a) (h _ (by simp) _ b)
theorem SR.some_ {K : PySem.W.Frag} {I H : Hp} {o : Option V} {sl : Sl} {as : List Addr} (r : SR K I H o sl as) : ∀ p ∈ as, H p ≠ none := by
  cases r with
  | un => intro p h; simp at h
  | dat d => intro p h; simp at h
  | lst a b => intro p h; simp at h; subst h; rw [a]; exact fun z => nomatch z
  | dic a b => intro p h; simp at h; subst h; rw [a]; exact fun z => nomatch z
  | stm a b =>
    intro p h; simp at h
    rcases h with h | h
    · subst h; rw [a]; exact fun z => nomatch z
    · subst h; rw [b]; exact fun z => nomatch z

abbrev Ads := Nat → List Addr
def Own (ad : Ads) (p : Addr) : Prop := ∃ i, p ∈ ad i
structure S1 (K : PySem.W.Frag) (σ : L2.St) (H I : Hp) (Γ : Ga) (ad : Ads) : Prop where
  sub : Ex I H
  len : σ.length = Γ.length
  rel : ∀ i o sl, σ[i]? = some o → Γ[i]? = some sl → SR K I H o sl (ad i)
  out : ∀ i, Γ.length ≤ i → ad i = []
  own : ∀ i p, p ∈ ad i → I p = none
  dis : ∀ i j p, p ∈ ad i → p ∈ ad j → i = j
section
variable {K : PySem.W.Frag} {σ : L2.St} {H I H' I' : Hp} {Γ Γ' : Ga} {ad ad' : Ads}
theorem S1.get (s : S1 K σ H I Γ ad) {i : Nat} {sl : Sl} (h : Γ[i]? = some sl) : ∃ o, σ[i]? = some o ∧ SR K I H o sl (ad i) := by
  have hi : i < Γ.length := (List.getElem?_eq_some_iff.mp h).1
  have hi2 : i < σ.length := by rw [s.len]; exact hi
  exact ⟨σ[i], List.getElem?_eq_getElem hi2, s.rel i _ sl (List.getElem?_eq_getElem hi2) h⟩
theorem S1.some_ (s : S1 K σ H I Γ ad) {i : Nat} {p : Addr} (h : p ∈ ad i) : H p ≠ none := by
  by_cases hi : i < Γ.length
  · obtain ⟨o, _, r⟩ := s.get (List.getElem?_eq_getElem hi)
    exact r.some_ p h
  · rw [s.out i (Nat.le_of_not_lt hi)] at h; simp at h
/-- the heap grows, the slots stand -/
theorem S1.gr (s : S1 K σ H I Γ ad) (g : Gr No I H I' H') : S1 K σ H' I' Γ ad :=
  ⟨g.s, s.len, fun i o sl h1 h2 => (s.rel i o sl h1 h2).gr g.i fun p _ u hu => g.h p u (fun z => z) hu, s.out, fun i p h => g.f p (s.own i p h) (s.some_ h) (fun z => z), s.dis⟩
/-- an object that nobody owns becomes data -/
theorem S1.frz (s : S1 K σ H I Γ ad) {p : Addr} {o : HO} (h : H p = some o) (hi : I p = none) (hn : ¬ Own ad p) : S1 K σ H (upd I p o) Γ ad :=
  ⟨s.sub.at_ h, s.len, fun i u sl h1 h2 => (s.rel i u sl h1 h2).gr (Ex.new_ hi) fun _ _ _ z => z, s.out, fun i q hq => by
    rw [upd_ne (fun z => hn ⟨i, by rw [← z]; exact hq⟩)]; exact s.own i q hq, s.dis⟩
/-- a slot is written -/
def adSet (ad : Ads) (i : Nat) (as : List Addr) : Ads := fun j => if j = i then as else ad j
theorem adSet_same {i : Nat} {as : List Addr} : adSet ad i as i = as := by unfold adSet; rw [if_pos rfl]
theorem adSet_ne {i j : Nat} {as : List Addr} (h : j ≠ i) : adSet ad i as j = ad j := by unfold adSet; rw [if_neg h]
theorem S1.set (s : S1 K σ H I Γ ad) {i : Nat} {o : Option V} {sl : Sl} {as : List Addr} (hi : i < Γ.length) (r : SR K I H o sl as) (ho : ∀ p ∈ as, I p = none) (hd : ∀ j p, j ≠ i → p ∈ as → p ∉ ad j) : S1 K (σ.set i o) H I (Γ.set i sl) (adSet ad i as) := by
  refine ⟨s.sub, by rw [List.length_set, List.length_set]; exact s.len, fun j u sl' h1 h2 => ?_, fun j hj => ?_, fun j p hp => ?_, fun j k p h1 h2 => ?_⟩
  · by_cases e : j = i
    · subst e
      rw [List.getElem?_set_self (by rw [s.len]; exact hi)] at h1
      rw [List.getElem?_set_self hi] at h2
      cases h1; cases h2
      rw [adSet_same]; exact r
    · rw [List.getElem?_set_ne (Ne.symm e)] at h1 h2
      rw [adSet_ne e]; exact s.rel j u sl' h1 h2
  · rw [List.length_set] at hj
    rw [adSet_ne (by omega)]; exact s.out j hj
  · by_cases e : j = i
    · subst e; rw [adSet_same] at hp; exact ho p hp
    · rw [adSet_ne e] at hp; exact s.own j p hp
  · by_cases e : j = i
    · by_cases e2 : k = i
      · rw [e, e2]
      · subst e
        rw [adSet_same] at h1; rw [adSet_ne e2] at h2
        exact absurd h2 (hd k p e2 h1)
    · by_cases e2 : k = i
      · subst e2
        rw [adSet_same] at h2; rw [adSet_ne e] at h1
        exact absurd h1 (hd j p e h2)
      · rw [adSet_ne e] at h1; rw [adSet_ne e2] at h2
        exact s.dis j k p h1 h2
theorem S1.setD (s : S1 K σ H I Γ ad) {i : Nat} {v : V} {d : PyData} (hi : i < Γ.length) (r : Dp K I v d) : S1 K (σ.set i (some v)) H I (Γ.set i (.dat d)) (adSet ad i []) :=
  s.set hi (.dat r) (fun p h => by simp at h) fun j p _ h => by simp at h
theorem S1.setU (s : S1 K σ H I Γ ad) {i : Nat} {o : Option V} (hi : i < Γ.length) : S1 K (σ.set i o) H I (Γ.set i .un) (adSet ad i []) :=
  s.set hi .un (fun p h => by simp at h) fun j p _ h => by simp at h
/-- the object of an owned slot is written -/
theorem S1.put (s : S1 K σ H I Γ ad) {i : Nat} {o : Option V} {sl sl' : Sl} {as : List Addr} (hσ : σ[i]? = some o) (hΓ : Γ[i]? = some sl) (he : ad i = as) (g : Gr (fun p => p ∈ as) I H I' H') (ho : ∀ p ∈ as, I' p = none) (r : SR K I' H' o sl' as) : S1 K σ H' I' (Γ.set i sl') ad := by
  have hi : i < Γ.length := (List.getElem?_eq_some_iff.mp hΓ).1
  refine ⟨g.s, by rw [List.length_set]; exact s.len, fun j u sl2 h1 h2 => ?_, fun j hj => ?_, fun j p hp => ?_, s.dis⟩
  · by_cases e : j = i
    · subst e
      rw [List.getElem?_set_self hi] at h2
      rw [hσ] at h1
      cases h1; cases h2
      rw [he]; exact r
    · rw [List.getElem?_set_ne (Ne.symm e)] at h2
      refine (s.rel j u sl2 h1 h2).gr g.i fun p hp w hw => g.h p w (fun z => ?_) hw
      rw [← he] at z
      exact e (s.dis j i p hp z)
  · rw [List.length_set] at hj; exact s.out j hj
  · by_cases z : p ∈ as
    · exact ho p z
    · exact g.f p (s.own j p hp) (s.some_ hp) z
end
end DL

/-! DL2: readings of expressions as data. -/
namespace DL
open PySem PySem.Spec PyProof.Rows L2

def Sb (ad ad' : Ads) : Prop := ∀ i, ad' i = ad i ∨ ad' i = []
theorem Sb.refl (ad : Ads) : Sb ad ad := fun _ => .inl rfl
theorem Sb.trans {a b c : Ads} (x : Sb a b) (y : Sb b c) : Sb a c := fun i => by
  rcases y i with h | h
  · rw [h]; exact x i
  · exact .inr h
theorem Sb.mem {a b : Ads} (x : Sb a b) {i : Nat} {p : Addr} (h : p ∈ b i) : p ∈ a i := by
  rcases x i with e | e
  · rw [← e]; exact h
  · rw [e] at h; simp at h
theorem Sb.own {a b : Ads} (x : Sb a b) (p : Addr) (h : Own b p) : Own a p := let ⟨i, q⟩ := h; ⟨i, x.mem q⟩
/-- an expression's value is the data d; the slots behind it -/
def RE (K : PySem.W.Frag) (t : TE) (Γ : Ga) (d : PyData) (Γ' : Ga) : Prop :=
  ∀ (σ : L2.St) (H I : Hp) (ad : Ads), S1 K σ H I Γ ad → ∀ Q : VK, (∀ v H' I' ad', S1 K σ H' I' Γ' ad' → Gr (Own ad) I H I' H' → Sb ad ad' → Dp K I' v d → Q v H') → t σ H Q
/-- .. a new list that nobody holds -/
def RL (K : PySem.W.Frag) (t : TE) (Γ : Ga) (ds : List PyData) (Γ' : Ga) : Prop :=
  ∀ (σ : L2.St) (H I : Hp) (ad : Ads), S1 K σ H I Γ ad → ∀ Q : VK, (∀ p vs H' I' ad', S1 K σ H' I' Γ' ad' → Gr (Own ad) I H I' H' → Sb ad ad' → H p = none → I' p = none → H' p = some (.lst vs) → DpAll K I' vs ds → Q (.ref p) H') → t σ H Q
def RT (K : PySem.W.Frag) (t : TT) (Γ : Ga) (b : Bool) (Γ' : Ga) : Prop :=
  ∀ (σ : L2.St) (H I : Hp) (ad : Ads), S1 K σ H I Γ ad → ∀ Q : Bool → Hp → Prop, (∀ H' I' ad', S1 K σ H' I' Γ' ad' → Gr (Own ad) I H I' H' → Sb ad ad' → Q b H') → t σ H Q
def RA (K : PySem.W.Frag) (t : TA) (Γ : Ga) (ds : List PyData) (Γ' : Ga) : Prop :=
  ∀ (σ : L2.St) (H I : Hp) (ad : Ads), S1 K σ H I Γ ad → ∀ Q : List V → Hp → Prop, (∀ vs H' I' ad', S1 K σ H' I' Γ' ad' → Gr (Own ad) I H I' H' → Sb ad ad' → DpAll K I' vs ds → Q vs H') → t σ H Q

theorem S1.free {K : PySem.W.Frag} {σ : L2.St} {H I : Hp} {Γ : Ga} {ad : Ads} (s : S1 K σ H I Γ ad) {p : Addr} (h : H p = none) : ¬ Own ad p := fun ⟨_, q⟩ => s.some_ q h
section
variable {K : PySem.W.Frag} {Γ Γ1 Γ2 Γ3 Γ' : Ga} {ta tb tc te : TE} {t u : TT} {tr : TA} {d d1 d2 d3 : PyData} {ds es : List PyData} {b c : Bool} {r : R2}
/-- a new list becomes data -/
theorem RL.re (h : RL K te Γ ds Γ') : RE K te Γ (.list ds) Γ' := fun σ H I ad s Q q => h σ H I ad s Q fun p vs H' I' ad' s' g sb hp hi hv hd => by
  have no' : ¬ Own ad' p := fun z => s.free hp (sb.own p z)
  refine q (.ref p) H' (upd I' p (.lst vs)) ad' (s'.frz hv hi no') ?_ sb (.lst (.inl (.inl upd_same)) (Da.ex hd (Ex.new_ hi)))
  refine ⟨g.i.trans (Ex.new_ hi), g.h, g.k, s'.sub.at_ hv, fun a ha hn hm => ?_⟩
  rw [upd_ne (fun z => hn (by rw [z]; exact hp))]
  exact g.f a ha hn hm
theorem RE.is (h : RE K te Γ d1 Γ') (e : d1 = d2) : RE K te Γ d2 Γ' := e ▸ h
theorem RL.is (h : RL K te Γ ds Γ') (e : ds = es) : RL K te Γ es Γ' := e ▸ h
theorem RT.is (h : RT K t Γ b Γ') (e : b = c) : RT K t Γ c Γ' := e ▸ h
theorem re_var {i : Nat} (h : Γ[i]? = some (.dat d)) : RE K (tVar i) Γ d Γ := fun σ H I ad s Q q => by
  obtain ⟨o, ho, r⟩ := s.get h
  generalize ad i = as at r
  cases r with
  | dat r => exact ⟨_, ho, q _ H I ad s (Gr.refl s.sub) (Sb.refl ad) r⟩
/-- an owned list is read out: data from here on -/
theorem re_out {i : Nat} (h : Γ[i]? = some (.lst ds)) : RE K (tVar i) Γ (.list ds) (Γ.set i (.dat (.list ds))) := fun σ H I ad s Q q => by
  obtain ⟨o, ho, r⟩ := s.get h
  generalize hx : ad i = as at r
  cases r with
  | @lst p vs _ hv hd =>
    have hi : i < Γ.length := (List.getElem?_eq_some_iff.mp h).1
    have pi : I p = none := s.own i p (by rw [hx]; simp)
    have s2 : S1 K (σ.set i (some (.ref p))) H I (Γ.set i .un) (adSet ad i []) := s.setU hi
    have e2 : σ.set i (some (V.ref p)) = σ := by
      apply List.ext_getElem?
      intro j
      by_cases z : i = j
      · subst z
        rw [List.getElem?_set_self (by rw [s.len]; exact hi), ho]
      · rw [List.getElem?_set_ne z]
    have nop : ¬ Own (adSet ad i []) p := fun ⟨j, hj⟩ => by
      by_cases z : j = i
      · subst z; rw [adSet_same] at hj; simp at hj
      · rw [adSet_ne z] at hj
        exact z (s.dis j i p hj (by rw [hx]; simp))
    have s3 := s2.frz hv pi nop
    have d3 : Dp K (upd I p (.lst vs)) (.ref p) (.list ds) := .lst (.inl (.inl upd_same)) (Da.ex hd (Ex.new_ pi))
    have s4 := s3.setD (i := i) (v := .ref p) (by rw [List.length_set]; exact hi) d3
    rw [List.set_set, List.set_set, e2] at s4
    have ea : adSet (adSet ad i []) i [] = adSet ad i [] := by
      funext j; by_cases z : j = i
      · subst z; rw [adSet_same, adSet_same]
      · rw [adSet_ne z]
    rw [ea] at s4
    refine ⟨_, ho, q _ H _ _ s4 ⟨Ex.new_ pi, fun _ _ _ z => z, fun _ z => z, s.sub.at_ hv, fun a ha hn hm => ?_⟩ (fun j => ?_) d3⟩
    · by_cases z : a = p
      · subst z
        exact absurd ⟨i, by rw [hx]; simp⟩ hm
      · rw [upd_ne z]; exact ha
    · by_cases z : j = i
      · subst z; exact .inr adSet_same
      · exact .inl (adSet_ne z)

theorem re_int {i : Int} : RE K (tC (.int i)) Γ (.int i) Γ := fun σ H I ad s Q q => q _ H I ad s (Gr.refl s.sub) (Sb.refl ad) (.int i)
theorem re_str {x : Str} : RE K (tC (.str x)) Γ (.str x) Γ := fun σ H I ad s Q q => q _ H I ad s (Gr.refl s.sub) (Sb.refl ad) (.str x)
theorem re_non : RE K (tC .non) Γ .none Γ := fun σ H I ad s Q q => q _ H I ad s (Gr.refl s.sub) (Sb.refl ad) .non
theorem re_bl {x : Bool} : RE K (tC (.bl x)) Γ (.bool x) Γ := fun σ H I ad s Q q => q _ H I ad s (Gr.refl s.sub) (Sb.refl ad) (.bl x)

/-! ### operations on two values -/
def OD (K : PySem.W.Frag) (r : R2) (d1 d2 d : PyData) : Prop :=
  ∀ (I H : Hp) (x y : V), Ex I H → Dp K I x d1 → Dp K I y d2 → ∀ Q : VK, (∀ v H' I', Gr No I H I' H' → Dp K I' v d → Q v H') → r x y H Q
def ODL (K : PySem.W.Frag) (r : R2) (d1 d2 : PyData) (ds : List PyData) : Prop :=
  ∀ (I H : Hp) (x y : V), Ex I H → Dp K I x d1 → Dp K I y d2 → ∀ Q : VK, (∀ p vs, H p = none → DpAll K I vs ds → Q (.ref p) (upd H p (.lst vs))) → r x y H Q
theorem re_op (ha : RE K ta Γ d1 Γ1) (hb : RE K tb Γ1 d2 Γ2) (hr : OD K r d1 d2 d) : RE K (tOp r ta tb) Γ d Γ2 := fun σ H I ad s Q q =>
  ha σ H I ad s _ fun x H1 I1 ad1 s1 g1 b1 p1 => hb σ H1 I1 ad1 s1 _ fun y H2 I2 ad2 s2 g2 b2 p2 => hr I2 H2 x y s2.sub (Dp.ex p1 g2.i) p2 Q fun v H3 I3 g3 p3 =>
    q v H3 I3 ad2 (s2.gr g3) (g1.trans ((g2.mono b1.own).trans g3.no)) (b1.trans b2) p3
/-- growth by a new owned list -/
theorem S1.fresh {σ : L2.St} {H I : Hp} {ad : Ads} (s : S1 K σ H I Γ ad) {p : Addr} {o : HO} (h : H p = none) : S1 K σ (upd H p o) I Γ ad ∧ Gr No I H I (upd H p o) := ⟨s.gr (Gr.own s.sub h), Gr.own s.sub h⟩
theorem rl_op (ha : RE K ta Γ d1 Γ1) (hb : RE K tb Γ1 d2 Γ2) (hr : ODL K r d1 d2 ds) : RL K (tOp r ta tb) Γ ds Γ2 := fun σ H I ad s Q q =>
  ha σ H I ad s _ fun x H1 I1 ad1 s1 g1 b1 p1 => hb σ H1 I1 ad1 s1 _ fun y H2 I2 ad2 s2 g2 b2 p2 => hr I2 H2 x y s2.sub (Dp.ex p1 g2.i) p2 Q fun p vs hp hd =>
    q p vs _ I2 ad2 (s2.fresh hp).1 (g1.trans ((g2.mono b1.own).trans (s2.fresh hp).2.no)) (b1.trans b2) (g1.k p (g2.k p hp)) (s2.sub.non_ hp) upd_same hd
theorem od_l {r' : R2} (h : OD K r d1 d2 d) : OD K (fun x y H Q => r x y H Q ∨ r' x y H Q) d1 d2 d := fun I H x y e p1 p2 Q q => .inl (h I H x y e p1 p2 Q q)
theorem od_r {r' : R2} (h : OD K r d1 d2 d) : OD K (fun x y H Q => r' x y H Q ∨ r x y H Q) d1 d2 d := fun I H x y e p1 p2 Q q => .inr (h I H x y e p1 p2 Q q)
theorem od_I0 {g : Int → Int → Int} {i j : Int} : OD K (rI0 fun i j => V.int (g i j)) (.int i) (.int j) (.int (g i j)) := fun I H x y e p1 p2 Q q => by
  cases p1; cases p2
  exact ⟨i, j, rfl, rfl, q _ H I (Gr.refl e) (.int _)⟩
theorem od_I {C : Int → Int → Prop} {g : Int → Int → Int} {i j : Int} (hc : C i j) : OD K (rI C fun i j => V.int (g i j)) (.int i) (.int j) (.int (g i j)) := fun I H x y e p1 p2 Q q => by
  cases p1; cases p2
  exact ⟨i, j, rfl, rfl, hc, q _ H I (Gr.refl e) (.int _)⟩
theorem od_B0 {g : Int → Int → Bool} {i j : Int} : OD K (rI0 fun i j => V.bl (g i j)) (.int i) (.int j) (.bool (g i j)) := fun I H x y e p1 p2 Q q => by
  cases p1; cases p2
  exact ⟨i, j, rfl, rfl, q _ H I (Gr.refl e) (.bl _)⟩
theorem od_add {i j : Int} : OD K (rI0 fun i j => V.int (i + j)) (.int i) (.int j) (.int (i + j)) := od_I0 (g := fun i j => i + j)
theorem od_sub {i j : Int} : OD K (rI0 fun i j => V.int (i - j)) (.int i) (.int j) (.int (i - j)) := od_I0 (g := fun i j => i - j)
theorem od_mul {i j : Int} (h : IntMulOk i j) : OD K (rI IntMulOk fun i j => V.int (i * j)) (.int i) (.int j) (.int (i * j)) := od_I (g := fun i j => i * j) h
theorem od_fdiv {C : Int → Int → Prop} {i j : Int} (h : C i j) : OD K (rI C fun i j => V.int (i.fdiv j)) (.int i) (.int j) (.int (i.fdiv j)) := od_I (g := fun i j => i.fdiv j) h
theorem od_mod {i j : Int} (h : j ≠ 0) : OD K (rI (fun _ j => j ≠ 0) fun i j => V.int (i.fmod j)) (.int i) (.int j) (.int (i.fmod j)) := od_I (g := fun i j => i.fmod j) h
theorem od_pow {i j : Int} (h : CPow i j) : OD K (rI CPow fun i j => V.int (i ^ j.toNat)) (.int i) (.int j) (.int (i ^ j.toNat)) := od_I (g := fun i j => i ^ j.toNat) h
theorem od_lt {i j : Int} : OD K (rI0 fun i j => V.bl (decide (i < j))) (.int i) (.int j) (.bool (decide (i < j))) := od_B0 (g := fun i j => decide (i < j))
theorem od_le {i j : Int} : OD K (rI0 fun i j => V.bl (decide (i ≤ j))) (.int i) (.int j) (.bool (decide (i ≤ j))) := od_B0 (g := fun i j => decide (i ≤ j))
theorem od_gt {i j : Int} : OD K (rI0 fun i j => V.bl (decide (j < i))) (.int i) (.int j) (.bool (decide (j < i))) := od_B0 (g := fun i j => decide (j < i))
theorem od_ge {i j : Int} : OD K (rI0 fun i j => V.bl (decide (j ≤ i))) (.int i) (.int j) (.bool (decide (j ≤ i))) := od_B0 (g := fun i j => decide (j ≤ i))
theorem dec_int {i j : Int} : decide (V.int i = V.int j) = decide (i = j) := by
  by_cases h : i = j
  · subst h; simp
  · rw [decide_eq_false h, decide_eq_false (fun z => h (V.int.inj z))]
theorem od_eqI {i j : Int} : OD K rEq (.int i) (.int j) (.bool (decide (i = j))) := fun I H x y e p1 p2 Q q => by
  cases p1; cases p2
  exact ⟨rfl, q _ H I (Gr.refl e) (by rw [dec_int]; exact .bl _)⟩
theorem od_neI {i j : Int} : OD K rNe (.int i) (.int j) (.bool (!decide (i = j))) := fun I H x y e p1 p2 Q q => by
  cases p1; cases p2
  exact ⟨rfl, q _ H I (Gr.refl e) (by rw [dec_int]; exact .bl _)⟩
theorem od_eqD (h1 : SeqAt.shaped d1 = true) (h2 : SeqAt.shaped d2 = true) : OD K (rEqD K) d1 d2 (.bool (PyData.eqv d1 d2)) := fun I H x y e p1 p2 Q q =>
  ⟨d1, d2, Dp.ex p1 e, Dp.ex p2 e, h1, h2, q _ H I (Gr.refl e) (.bl _)⟩
theorem od_neD (h1 : SeqAt.shaped d1 = true) (h2 : SeqAt.shaped d2 = true) : OD K (rNeD K) d1 d2 (.bool (!PyData.eqv d1 d2)) := fun I H x y e p1 p2 Q q =>
  ⟨d1, d2, Dp.ex p1 e, Dp.ex p2 e, h1, h2, q _ H I (Gr.refl e) (.bl _)⟩
theorem dp_lst {I : Hp} {x : V} (h : Dp K I x (.list ds)) : ∃ p vs, x = .ref p ∧ SqL K I p vs ∧ DpAll K I vs ds := by
  cases h with
  | lst a b => exact ⟨_, _, rfl, a, b⟩
theorem dp_tup {I : Hp} {x : V} (h : Dp K I x (.tuple ds)) : ∃ p vs, x = .ref p ∧ SqT K I p vs ∧ DpAll K I vs ds := by
  cases h with
  | tup a b => exact ⟨_, _, rfl, a, b⟩
theorem at_dp {I : Hp} {vs : List V} {i : Int} (h : DpAll K I vs ds) (e : atI ds i = some d) : ∃ v, atI vs i = some v ∧ Dp K I v d := by
  unfold atI at e ⊢
  rw [Da.len h]
  cases q : ixN ds.length i with
  | none => rw [q] at e; cases e
  | some j => rw [q] at e; exact Da.at h e
theorem od_ixL {i : Int} (e : atI ds i = some d) : OD K (rIx K) (.list ds) (.int i) d := fun I H x y ex p1 p2 Q q => by
  obtain ⟨p, vs, rfl, hs, hd⟩ := dp_lst p1
  cases p2
  obtain ⟨v, hv, hp⟩ := at_dp hd e
  exact .inl ⟨p, vs, i, v, rfl, rfl, sqL_ex ex hs, hv, q v H I (Gr.refl ex) hp⟩
theorem od_ixT {i : Int} (e : atI ds i = some d) : OD K (rIx K) (.tuple ds) (.int i) d := fun I H x y ex p1 p2 Q q => by
  obtain ⟨p, vs, rfl, hs, hd⟩ := dp_tup p1
  cases p2
  obtain ⟨v, hv, hp⟩ := at_dp hd e
  exact .inr (.inl ⟨p, vs, i, v, rfl, rfl, sqT_ex ex hs, hv, q v H I (Gr.refl ex) hp⟩)
/-- tuple + tuple -/
theorem od_catT (hz : ds.length + es.length ≤ sizeLine) : OD K (rCatA K) (.tuple ds) (.tuple es) (.tuple (ds ++ es)) := fun I H x y e p1 p2 Q q => by
  obtain ⟨a, xs, rfl, h1, d1⟩ := dp_tup p1
  obtain ⟨b, ys, rfl, h2, d2⟩ := dp_tup p2
  refine ⟨a, b, xs, ys, rfl, rfl, sqT_ex e h1, sqT_ex e h2, by rw [Da.len d1, Da.len d2]; exact hz, fun z => ?_, fun _ z => ?_, fun _ _ p hp => ?_⟩
  · subst z
    cases d1
    exact q _ H I (Gr.refl e) p2
  · subst z
    cases d2
    rw [List.append_nil] at q
    exact q _ H I (Gr.refl e) p1
  · exact q _ _ _ (Gr.new e hp) (.tup (.inl (.inl upd_same)) (Da.ex (Da.app d1 d2) (Ex.new_ (e.non_ hp))))
/-- x in a list of ints -/
theorem inV_int {n : Int} : ∀ (ns : List Int), inV (.int n) (ns.map V.int) = decide (n ∈ ns)
  | [] => by rfl
  | m :: r => by
    have ih := inV_int (n := n) r
    unfold inV at ih ⊢
    rw [List.map_cons, List.any_cons, ih]
    show ((m == n) || decide (n ∈ r)) = _
    by_cases h : m = n
    · subst h; simp
    · have h2 : (m == n) = false := by simp [h]
      rw [h2, Bool.false_or]
      simp [Ne.symm h]
theorem flat_ints (ns : List Int) : (ns.map V.int).all flatV = true := by
  rw [List.all_map]; exact List.all_eq_true.mpr fun _ _ => rfl
theorem od_inL {n : Int} {ns : List Int} : OD K (rIn K false) (.int n) (.list (ns.map .int)) (.bool (decide (n ∈ ns))) := fun I H x y e p1 p2 Q q => by
  cases p1
  obtain ⟨a, xs, rfl, h1, d1⟩ := dp_lst p2
  have := Da.of_ints d1; subst this
  exact ⟨a, _, rfl, .inl (sqL_ex e h1), rfl, flat_ints ns, q _ H I (Gr.refl e) (by rw [inV_int]; exact .bl _)⟩
theorem od_niL {n : Int} {ns : List Int} : OD K (rIn K true) (.int n) (.list (ns.map .int)) (.bool (!decide (n ∈ ns))) := fun I H x y e p1 p2 Q q => by
  cases p1
  obtain ⟨a, xs, rfl, h1, d1⟩ := dp_lst p2
  have := Da.of_ints d1; subst this
  exact ⟨a, _, rfl, .inl (sqL_ex e h1), rfl, flat_ints ns, q _ H I (Gr.refl e) (by rw [inV_int]; exact .bl _)⟩
theorem od_inT {n : Int} {ns : List Int} : OD K (rIn K false) (.int n) (.tuple (ns.map .int)) (.bool (decide (n ∈ ns))) := fun I H x y e p1 p2 Q q => by
  cases p1
  obtain ⟨a, xs, rfl, h1, d1⟩ := dp_tup p2
  have := Da.of_ints d1; subst this
  exact ⟨a, _, rfl, .inr (sqT_ex e h1), rfl, flat_ints ns, q _ H I (Gr.refl e) (by rw [inV_int]; exact .bl _)⟩
theorem od_niT {n : Int} {ns : List Int} : OD K (rIn K true) (.int n) (.tuple (ns.map .int)) (.bool (!decide (n ∈ ns))) := fun I H x y e p1 p2 Q q => by
  cases p1
  obtain ⟨a, xs, rfl, h1, d1⟩ := dp_tup p2
  have := Da.of_ints d1; subst this
  exact ⟨a, _, rfl, .inr (sqT_ex e h1), rfl, flat_ints ns, q _ H I (Gr.refl e) (by rw [inV_int]; exact .bl _)⟩
/-- -x -/
theorem re_neg {i : Int} (h : RE K ta Γ (.int i) Γ1) : RE K (tUn (rU fun i => V.int (-i)) ta) Γ (.int (-i)) Γ1 := fun σ H I ad s Q q =>
  h σ H I ad s _ fun x H1 I1 ad1 s1 g1 b1 p1 => by
    cases p1
    exact ⟨i, rfl, q _ H1 I1 ad1 s1 g1 b1 (.int _)⟩
/-! ### arguments, displays -/
theorem ra_nil : RA K tNil Γ [] Γ := fun σ H I ad s Q q => q [] H I ad s (Gr.refl s.sub) (Sb.refl ad) .nil
theorem ra_cons (h : RE K ta Γ d Γ1) (hr : RA K tr Γ1 ds Γ2) : RA K (tCons ta tr) Γ (d :: ds) Γ2 := fun σ H I ad s Q q =>
  h σ H I ad s _ fun x H1 I1 ad1 s1 g1 b1 p1 => hr σ H1 I1 ad1 s1 _ fun vs H2 I2 ad2 s2 g2 b2 p2 =>
    q (x :: vs) H2 I2 ad2 s2 (g1.trans (g2.mono b1.own)) (b1.trans b2) (.cons (Dp.ex p1 g2.i) p2)
theorem re_tup (h : RA K tr Γ ds Γ1) (hz : ds.length ≤ sizeLine := by (show _ ≤ 16777216; simp)) : RE K (tTup tr) Γ (.tuple ds) Γ1 := fun σ H I ad s Q q =>
  h σ H I ad s _ fun vs H1 I1 ad1 s1 g1 b1 p1 => ⟨by rw [Da.len p1]; exact hz, fun p hp =>
    q _ _ _ ad1 (s1.gr (Gr.new s1.sub hp)) (g1.trans (Gr.new s1.sub hp).no) b1 (.tup (.inl (.inl upd_same)) (Da.ex p1 (Ex.new_ (s1.sub.non_ hp))))⟩
theorem rl_lst (h : RA K tr Γ ds Γ1) (hz : ds.length ≤ sizeLine := by (show _ ≤ 16777216; simp)) : RL K (tLst tr) Γ ds Γ1 := fun σ H I ad s Q q =>
  h σ H I ad s _ fun vs H1 I1 ad1 s1 g1 b1 p1 => ⟨by rw [Da.len p1]; exact hz, fun p hp =>
    q p vs _ I1 ad1 (s1.fresh hp).1 (g1.trans (s1.fresh hp).2.no) b1 (g1.k p hp) (s1.sub.non_ hp) upd_same p1⟩
/-! ### tests -/
theorem rt_test (h : RE K te Γ (.bool b) Γ1) : RT K (tTest te) Γ b Γ1 := fun σ H I ad s Q q => h σ H I ad s _ fun x H1 I1 ad1 s1 g1 b1 p1 => by
  cases p1
  exact ⟨b, rfl, q H1 I1 ad1 s1 g1 b1⟩
theorem rt_B (h : RE K te Γ (.bool b) Γ1) : RT K (tB te) Γ b Γ1 := fun σ H I ad s Q q => h σ H I ad s _ fun x H1 I1 ad1 s1 g1 b1 p1 => by
  cases p1
  exact ⟨b, rfl, q H1 I1 ad1 s1 g1 b1⟩
theorem rt_not (h : RT K t Γ b Γ1) : RT K (tNot t) Γ (!b) Γ1 := fun σ H I ad s Q q => h σ H I ad s _ fun H1 I1 ad1 s1 g1 b1 => q H1 I1 ad1 s1 g1 b1
theorem rt_and (h : RT K t Γ b Γ1) (h0 : b = false → Γ1 = Γ2) (h1 : b = true → RT K u Γ1 c Γ2) : RT K (tAnd t u) Γ (b && c) Γ2 := fun σ H I ad s Q q => h σ H I ad s _ fun H1 I1 ad1 s1 g1 b1 => by
  cases b with
  | true =>
    show u σ H1 Q
    exact h1 rfl σ H1 I1 ad1 s1 Q fun H2 I2 ad2 s2 g2 b2 => q H2 I2 ad2 s2 (g1.trans (g2.mono b1.own)) (b1.trans b2)
  | false =>
    show Q false H1
    cases h0 rfl
    exact q H1 I1 ad1 s1 g1 b1
theorem rt_or (h : RT K t Γ b Γ1) (h0 : b = true → Γ1 = Γ2) (h1 : b = false → RT K u Γ1 c Γ2) : RT K (tOr t u) Γ (b || c) Γ2 := fun σ H I ad s Q q => h σ H I ad s _ fun H1 I1 ad1 s1 g1 b1 => by
  cases b with
  | false =>
    show u σ H1 Q
    exact h1 rfl σ H1 I1 ad1 s1 Q fun H2 I2 ad2 s2 g2 b2 => q H2 I2 ad2 s2 (g1.trans (g2.mono b1.own)) (b1.trans b2)
  | true =>
    show Q true H1
    cases h0 rfl
    exact q H1 I1 ad1 s1 g1 b1
theorem re_isN (h : RE K te Γ d Γ1) (hb : b = (match d with | .none => true | _ => false)) : RE K (tIsN te) Γ (.bool b) Γ1 := fun σ H I ad s Q q => h σ H I ad s _ fun x H1 I1 ad1 s1 g1 b1 p1 => by
  refine q _ H1 I1 ad1 s1 g1 b1 ?_
  subst hb
  cases p1 <;> exact .bl _
theorem re_notN (h : RE K te Γ d Γ1) (hb : b = (match d with | .none => false | _ => true)) : RE K (tNotN te) Γ (.bool b) Γ1 := fun σ H I ad s Q q => h σ H I ad s _ fun x H1 I1 ad1 s1 g1 b1 p1 => by
  refine q _ H1 I1 ad1 s1 g1 b1 ?_
  subst hb
  cases p1 <;> exact .bl _
theorem re_andV (h : RE K ta Γ (.bool b) Γ1) (h0 : b = false → Γ1 = Γ2) (h1 : b = true → RE K tb Γ1 (.bool c) Γ2) : RE K (tAndV ta tb) Γ (.bool (b && c)) Γ2 := fun σ H I ad s Q q => h σ H I ad s _ fun x H1 I1 ad1 s1 g1 b1 p1 => by
  cases p1
  refine ⟨b, rfl, ?_⟩
  cases b with
  | true =>
    rw [if_pos rfl]
    exact h1 rfl σ H1 I1 ad1 s1 Q fun v H2 I2 ad2 s2 g2 b2 p2 => q v H2 I2 ad2 s2 (g1.trans (g2.mono b1.own)) (b1.trans b2) p2
  | false =>
    rw [if_neg Bool.false_ne_true]
    cases h0 rfl
    exact q _ H1 I1 ad1 s1 g1 b1 (.bl _)
theorem re_orV (h : RE K ta Γ (.bool b) Γ1) (h0 : b = true → Γ1 = Γ2) (h1 : b = false → RE K tb Γ1 (.bool c) Γ2) : RE K (tOrV ta tb) Γ (.bool (b || c)) Γ2 := fun σ H I ad s Q q => h σ H I ad s _ fun x H1 I1 ad1 s1 g1 b1 p1 => by
  cases p1
  refine ⟨b, rfl, ?_⟩
  cases b with
  | false =>
    rw [if_neg Bool.false_ne_true]
    exact h1 rfl σ H1 I1 ad1 s1 Q fun v H2 I2 ad2 s2 g2 b2 p2 => q v H2 I2 ad2 s2 (g1.trans (g2.mono b1.own)) (b1.trans b2) p2
  | true =>
    rw [if_pos rfl]
    cases h0 rfl
    exact q _ H1 I1 ad1 s1 g1 b1 (.bl _)
theorem re_notV (h : RE K ta Γ (.bool b) Γ1) : RE K (tNotV ta) Γ (.bool (!b)) Γ1 := fun σ H I ad s Q q => h σ H I ad s _ fun x H1 I1 ad1 s1 g1 b1 p1 => by
  cases p1
  exact ⟨b, rfl, q _ H1 I1 ad1 s1 g1 b1 (.bl _)⟩
theorem re_if (h : RT K t Γ b Γ1) (h1 : b = true → RE K ta Γ1 d Γ2) (h2 : b = false → RE K tb Γ1 d Γ2) : RE K (tIf t ta tb) Γ d Γ2 := fun σ H I ad s Q q => h σ H I ad s _ fun H1 I1 ad1 s1 g1 b1 => by
  cases b with
  | true =>
    rw [if_pos rfl]
    exact h1 rfl σ H1 I1 ad1 s1 Q fun v H2 I2 ad2 s2 g2 b2 p2 => q v H2 I2 ad2 s2 (g1.trans (g2.mono b1.own)) (b1.trans b2) p2
  | false =>
    rw [if_neg Bool.false_ne_true]
    exact h2 rfl σ H1 I1 ad1 s1 Q fun v H2 I2 ad2 s2 g2 b2 p2 => q v H2 I2 ad2 s2 (g1.trans (g2.mono b1.own)) (b1.trans b2) p2
/-! ### calls of built-ins by values -/
def CD (K : PySem.W.Frag) (r : List V → Hp → VK → Prop) (ds : List PyData) (d : PyData) : Prop :=
  ∀ (I H : Hp) (vs : List V), Ex I H → DpAll K I vs ds → ∀ Q : VK, (∀ v H' I', Gr No I H I' H' → Dp K I' v d → Q v H') → r vs H Q
def CDL (K : PySem.W.Frag) (r : List V → Hp → VK → Prop) (ds es : List PyData) : Prop :=
  ∀ (I H : Hp) (vs : List V), Ex I H → DpAll K I vs ds → ∀ Q : VK, (∀ p us, H p = none → DpAll K I us es → Q (.ref p) (upd H p (.lst us))) → r vs H Q
variable {rc rc' : List V → Hp → VK → Prop}
theorem re_cb (h : RA K tr Γ ds Γ1) (hr : CD K rc ds d) : RE K (tCB rc tr) Γ d Γ1 := fun σ H I ad s Q q =>
  h σ H I ad s _ fun vs H1 I1 ad1 s1 g1 b1 p1 => hr I1 H1 vs s1.sub p1 Q fun v H2 I2 g2 p2 => q v H2 I2 ad1 (s1.gr g2) (g1.trans g2.no) b1 p2
theorem rl_cb (h : RA K tr Γ ds Γ1) (hr : CDL K rc ds es) : RL K (tCB rc tr) Γ es Γ1 := fun σ H I ad s Q q =>
  h σ H I ad s _ fun vs H1 I1 ad1 s1 g1 b1 p1 => hr I1 H1 vs s1.sub p1 Q fun p us hp hd =>
    q p us _ I1 ad1 (s1.fresh hp).1 (g1.trans (s1.fresh hp).2.no) b1 (g1.k p hp) (s1.sub.non_ hp) upd_same hd
theorem cd_l (h : CD K rc ds d) : CD K (fun x H Q => rc x H Q ∨ rc' x H Q) ds d := fun I H vs e p Q q => .inl (h I H vs e p Q q)
theorem cd_r (h : CD K rc ds d) : CD K (fun x H Q => rc' x H Q ∨ rc x H Q) ds d := fun I H vs e p Q q => .inr (h I H vs e p Q q)
abbrev rLen (K : PySem.W.Frag) : List V → Hp → VK → Prop := fun xs H Q => ∃ x n, xs = [x] ∧ LenV K x H n ∧ Q (.int n) H
theorem da1 {I : Hp} {vs : List V} (h : DpAll K I vs [d]) : ∃ v, vs = [v] ∧ Dp K I v d := by
  cases h with
  | cons a b => cases b; exact ⟨_, rfl, a⟩
theorem da2 {I : Hp} {vs : List V} (h : DpAll K I vs [d1, d2]) : ∃ v w, vs = [v, w] ∧ Dp K I v d1 ∧ Dp K I w d2 := by
  cases h with
  | cons a b => obtain ⟨w, rfl, c⟩ := da1 b; exact ⟨_, w, rfl, a, c⟩
theorem cd_lenL : CD K (rLen K) [.list ds] (.int (ds.length : Int)) := fun I H vs e p Q q => by
  obtain ⟨v, rfl, h⟩ := da1 p
  obtain ⟨a, xs, rfl, h1, h2⟩ := dp_lst h
  exact ⟨_, ds.length, rfl, .inl ⟨xs, sqL_ex e h1, (Da.len h2).symm⟩, q _ H I (Gr.refl e) (.int _)⟩
theorem cd_lenT : CD K (rLen K) [.tuple ds] (.int (ds.length : Int)) := fun I H vs e p Q q => by
  obtain ⟨v, rfl, h⟩ := da1 p
  obtain ⟨a, xs, rfl, h1, h2⟩ := dp_tup h
  exact ⟨_, ds.length, rfl, .inr ⟨xs, sqT_ex e h1, (Da.len h2).symm⟩, q _ H I (Gr.refl e) (.int _)⟩
abbrev rInt1 : List V → Hp → VK → Prop := fun xs H Q => (∃ i, xs = [.int i] ∧ Q (.int i) H) ∨ ∃ k, xs = [.bl k] ∧ Q (.int (if k then 1 else 0)) H
theorem cd_intB : CD K rInt1 [.bool b] (.int (if b then 1 else 0)) := fun I H vs e p Q q => by
  obtain ⟨v, rfl, h⟩ := da1 p
  cases h
  exact .inr ⟨b, rfl, q _ H I (Gr.refl e) (.int _)⟩
theorem cd_sum {ns : List Int} : CD K (rSum K) [.list (ns.map .int)] (.int ns.sum) := fun I H vs e p Q q => by
  obtain ⟨v, rfl, h⟩ := da1 p
  obtain ⟨a, xs, rfl, h1, h2⟩ := dp_lst h
  have := Da.of_ints h2; subst this
  exact ⟨a, ns, rfl, sqL_ex e h1, q _ H I (Gr.refl e) (.int _)⟩
theorem cd_all {bs : List Bool} : CD K (rAll K) [.list (bs.map .bool)] (.bool (bs.all id)) := fun I H vs e p Q q => by
  obtain ⟨v, rfl, h⟩ := da1 p
  obtain ⟨a, xs, rfl, h1, h2⟩ := dp_lst h
  have := Da.of_bools h2; subst this
  exact ⟨a, bs, rfl, sqL_ex e h1, q _ H I (Gr.refl e) (.bl _)⟩
theorem cd_any {bs : List Bool} : CD K (rAny K) [.list (bs.map .bool)] (.bool (bs.any id)) := fun I H vs e p Q q => by
  obtain ⟨v, rfl, h⟩ := da1 p
  obtain ⟨a, xs, rfl, h1, h2⟩ := dp_lst h
  have := Da.of_bools h2; subst this
  exact ⟨a, bs, rfl, sqL_ex e h1, q _ H I (Gr.refl e) (.bl _)⟩
abbrev rMin2 : List V → Hp → VK → Prop := fun xs H Q => ∃ i j, xs = [.int i, .int j] ∧ Q (.int (if j < i then j else i)) H
abbrev rMax2 : List V → Hp → VK → Prop := fun xs H Q => ∃ i j, xs = [.int i, .int j] ∧ Q (.int (if j > i then j else i)) H
theorem cd_min2 {i j : Int} : CD K rMin2 [.int i, .int j] (.int (if j < i then j else i)) := fun I H vs e p Q q => by
  obtain ⟨v, w, rfl, h1, h2⟩ := da2 p
  cases h1; cases h2
  exact ⟨i, j, rfl, q _ H I (Gr.refl e) (.int _)⟩
theorem cd_max2 {i j : Int} : CD K rMax2 [.int i, .int j] (.int (if j > i then j else i)) := fun I H vs e p Q q => by
  obtain ⟨v, w, rfl, h1, h2⟩ := da2 p
  cases h1; cases h2
  exact ⟨i, j, rfl, q _ H I (Gr.refl e) (.int _)⟩
abbrev rListOf (K : PySem.W.Frag) : List V → Hp → VK → Prop := fun xs H Q => ∃ p ys, xs = [.ref p] ∧ (SqL K H p ys ∨ SqT K H p ys) ∧ ∀ l, H l = none → Q (.ref l) (upd H l (.lst ys))
theorem cdl_listL : CDL K (rListOf K) [.list ds] ds := fun I H vs e p Q q => by
  obtain ⟨v, rfl, h⟩ := da1 p
  obtain ⟨a, xs, rfl, h1, h2⟩ := dp_lst h
  exact ⟨a, xs, rfl, .inl (sqL_ex e h1), fun l hl => q l xs hl h2⟩
theorem cdl_listT : CDL K (rListOf K) [.tuple ds] ds := fun I H vs e p Q q => by
  obtain ⟨v, rfl, h⟩ := da1 p
  obtain ⟨a, xs, rfl, h1, h2⟩ := dp_tup h
  exact ⟨a, xs, rfl, .inr (sqT_ex e h1), fun l hl => q l xs hl h2⟩
/-- tuple(x) of a list, of a tuple -/
theorem re_tupleL (h : RE K te Γ (.list ds) Γ1) : RE K (tThen te (kTup K)) Γ (.tuple ds) Γ1 := fun σ H I ad s Q q =>
  h σ H I ad s _ fun v H1 I1 ad1 s1 g1 b1 p1 => by
    obtain ⟨a, xs, rfl, h1, h2⟩ := dp_lst p1
    exact .inl ⟨a, xs, rfl, sqL_ex s1.sub h1, fun p hp => q _ _ _ ad1 (s1.gr (Gr.new s1.sub hp)) (g1.trans (Gr.new s1.sub hp).no) b1 (.tup (.inl (.inl upd_same)) (Da.ex h2 (Ex.new_ (s1.sub.non_ hp))))⟩
theorem re_tupleT (h : RE K te Γ (.tuple ds) Γ1) : RE K (tThen te (kTup K)) Γ (.tuple ds) Γ1 := fun σ H I ad s Q q =>
  h σ H I ad s _ fun v H1 I1 ad1 s1 g1 b1 p1 => by
    obtain ⟨a, xs, rfl, h1, h2⟩ := dp_tup p1
    exact .inr ⟨a, xs, rfl, sqT_ex s1.sub h1, q _ H1 I1 ad1 s1 g1 b1 p1⟩
/-- sorted(list of ints) -/
theorem cdl_sorted {ns ms : List Int} (hl : ns.length < 64) (hm : ∀ ys : List Int, ys.Perm ns → ys.Pairwise (· ≤ ·) → ys = ms) : CDL K (rSorted K) [.list (ns.map .int)] (ms.map .int) := fun I H vs e p Q q => by
  obtain ⟨v, rfl, h⟩ := da1 p
  obtain ⟨a, xs, rfl, h1, h2⟩ := dp_lst h
  have := Da.of_ints h2; subst this
  refine ⟨a, ns, rfl, sqL_ex e h1, hl, fun ys p hp hs hn => ?_⟩
  have := hm ys hp hs; subst this
  exact q p _ hn (Da.ints ys)
/-! ### slices -/
def RO (K : PySem.W.Frag) (t : TO) (Γ : Ga) (o : Option Int) (Γ' : Ga) : Prop :=
  ∀ (σ : L2.St) (H I : Hp) (ad : Ads), S1 K σ H I Γ ad → ∀ Q : Option Int → Hp → Prop, (∀ H' I' ad', S1 K σ H' I' Γ' ad' → Gr (Own ad) I H I' H' → Sb ad ad' → Q o H') → t σ H Q
theorem ro_no : RO K tNoPart Γ none Γ := fun σ H I ad s Q q => q H I ad s (Gr.refl s.sub) (Sb.refl ad)
theorem ro_some {i : Int} (h : RE K te Γ (.int i) Γ1) : RO K (tPart te) Γ (some i) Γ1 := fun σ H I ad s Q q => h σ H I ad s _ fun x H1 I1 ad1 s1 g1 b1 p1 => by
  cases p1
  exact ⟨i, rfl, q H1 I1 ad1 s1 g1 b1⟩
def cutD (xs : List PyData) (lo hi : Option Int) : List PyData := (xs.drop (HT.sIx xs.length 0 lo)).take (HT.sIx xs.length xs.length hi - HT.sIx xs.length 0 lo)
theorem cut_dp {I : Hp} {vs : List V} {lo hi : Option Int} (h : DpAll K I vs ds) : DpAll K I (cutV vs lo hi) (cutD ds lo hi) := by
  unfold cutV cutD
  rw [Da.len h]
  exact Da.take _ (Da.drop _ h)
abbrev rSlAny (K : PySem.W.Frag) : V → Option Int → Option Int → Hp → VK → Prop := fun x lo hi H Q => rSlL K x lo hi H Q ∨ rSlA K x lo hi H Q
theorem rl_slice {tl th : TO} {lo hi : Option Int} (h : RE K te Γ (.list ds) Γ1) (hl : RO K tl Γ1 lo Γ2) (hh : RO K th Γ2 hi Γ3) : RL K (tSl (rSlAny K) te tl th) Γ (cutD ds lo hi) Γ3 := fun σ H I ad s Q q =>
  h σ H I ad s _ fun v H1 I1 ad1 s1 g1 b1 p1 => hl σ H1 I1 ad1 s1 _ fun H2 I2 ad2 s2 g2 b2 => hh σ H2 I2 ad2 s2 _ fun H3 I3 ad3 s3 g3 b3 => by
    obtain ⟨a, xs, rfl, h1, h2⟩ := dp_lst p1
    exact .inl ⟨a, xs, rfl, sqL_ex s3.sub (sqL_ex (g2.i.trans g3.i) h1), fun p hp =>
      q p _ _ I3 ad3 (s3.fresh hp).1 (g1.trans ((g2.mono b1.own).trans ((g3.mono (b1.trans b2).own).trans (s3.fresh hp).2.no))) (b1.trans (b2.trans b3)) (g1.k p (g2.k p (g3.k p hp))) (s3.sub.non_ hp) upd_same (cut_dp (Da.ex h2 (g2.i.trans g3.i)))⟩
theorem re_slice {tl th : TO} {lo hi : Option Int} (h : RE K te Γ (.tuple ds) Γ1) (hl : RO K tl Γ1 lo Γ2) (hh : RO K th Γ2 hi Γ3) : RE K (tSl (rSlAny K) te tl th) Γ (.tuple (cutD ds lo hi)) Γ3 := fun σ H I ad s Q q =>
  h σ H I ad s _ fun v H1 I1 ad1 s1 g1 b1 p1 => hl σ H1 I1 ad1 s1 _ fun H2 I2 ad2 s2 g2 b2 => hh σ H2 I2 ad2 s2 _ fun H3 I3 ad3 s3 g3 b3 => by
    obtain ⟨a, xs, rfl, h1, h2⟩ := dp_tup p1
    have hs := sqT_ex s3.sub (sqT_ex (g2.i.trans g3.i) h1)
    have hd := Da.ex h2 (g2.i.trans g3.i)
    have gg := g1.trans ((g2.mono b1.own).trans (g3.mono (b1.trans b2).own))
    refine .inr ⟨a, xs, rfl, hs, fun hw => ?_, fun _ p hp => ?_⟩
    · have e : cutD ds lo hi = ds := by
        unfold cutD
        rw [← Da.len h2, hw.1, hw.2, List.drop_zero, Nat.sub_zero, Da.len h2, List.take_length]
      rw [e] at q
      exact q _ H3 I3 ad3 s3 gg (b1.trans (b2.trans b3)) (Dp.ex p1 (g2.i.trans g3.i))
    · exact q _ _ _ ad3 (s3.gr (Gr.new s3.sub hp)) (gg.trans (Gr.new s3.sub hp).no) (b1.trans (b2.trans b3)) (.tup (.inl (.inl upd_same)) (Da.ex (cut_dp hd) (Ex.new_ (s3.sub.non_ hp))))
/-! ### + and * of new lists -/
theorem rl_cat {xs ys : List PyData} (ha : RL K ta Γ xs Γ1) (hb : RL K tb Γ1 ys Γ2) (hz : xs.length + ys.length ≤ sizeLine) : RL K (tOp rCat ta tb) Γ (xs ++ ys) Γ2 := fun σ H I ad s Q q =>
  ha σ H I ad s _ fun p us H1 I1 ad1 s1 g1 b1 hp hi hu hd => hb σ H1 I1 ad1 s1 _ fun p2 ws H2 I2 ad2 s2 g2 b2 hp2 hi2 hw hd2 => by
    have no1 : ¬ Own ad1 p := fun z => s.free hp (b1.own p z)
    refine ⟨p, p2, us, ws, rfl, rfl, g2.h p _ no1 hu, hw, by rw [Da.len hd, Da.len hd2]; exact hz, fun l hl => ?_⟩
    exact q l _ _ I2 ad2 (s2.fresh hl).1 (g1.trans ((g2.mono b1.own).trans (s2.fresh hl).2.no)) (b1.trans b2) (g1.k l (g2.k l hl)) (s2.sub.non_ hl) upd_same (Da.app (Da.ex hd g2.i) hd2)
theorem da_rep {I : Hp} {vs : List V} (h : DpAll K I vs ds) : ∀ n : Nat, DpAll K I (List.replicate n vs).flatten (List.replicate n ds).flatten
  | 0 => .nil
  | n + 1 => by
    rw [List.replicate_succ, List.replicate_succ, List.flatten_cons, List.flatten_cons]
    exact Da.app h (da_rep h n)
end
end DL

/-! DL3: targets, walks, comprehensions, calls of defs, dicts. -/
namespace DL
open PySem PySem.Spec PyProof.Rows L2
section
variable {K : PySem.W.Frag} {σ : L2.St} {H I H' I' : Hp} {Γ Γ1 Γ2 Γ3 Γ' Γa : Ga} {ad ad' : Ads} {d d1 d2 : PyData} {ds es : List PyData}
theorem S1.setU' (s : S1 K σ H I Γ ad) (i : Nat) (o : Option V) : S1 K (σ.set i o) H I (Γ.set i .un) (adSet ad i []) := by
  by_cases hi : i < Γ.length
  · exact s.setU hi
  · have e1 : σ.set i o = σ := List.set_eq_of_length_le (by rw [s.len]; omega)
    have e2 : Γ.set i .un = Γ := List.set_eq_of_length_le (by omega)
    have e3 : adSet ad i [] = ad := by
      funext j; by_cases z : j = i
      · subst z; rw [adSet_same, s.out j (by omega)]
      · rw [adSet_ne z]
    rw [e1, e2, e3]; exact s
/-- an object that nobody owns and that is no data changes -/
theorem S1.other (s : S1 K σ H I Γ ad) {p : Addr} {o u : HO} (hp : H p = some u) (hi : I p = none) (hn : ¬ Own ad p) : S1 K σ (upd H p o) I Γ ad :=
  ⟨s.sub.upd_ hi, s.len, fun i v sl h1 h2 => (s.rel i v sl h1 h2).gr (Ex.refl I) fun q hq w hw => by
    rw [upd_ne (fun z => hn ⟨i, by rw [← z]; exact hq⟩)]; exact hw, s.out, s.own, s.dis⟩
def wipeG (Γ : Ga) : List Nat → Ga
  | [] => Γ
  | v :: vs => (wipeG Γ vs).set v .un
def wipeA (ad : Ads) : List Nat → Ads
  | [] => ad
  | v :: vs => adSet (wipeA ad vs) v []
theorem S1.wiped (s : S1 K σ H I Γ ad) : ∀ vs : List Nat, S1 K (wipe σ vs) H I (wipeG Γ vs) (wipeA ad vs)
  | [] => s
  | v :: vs => (s.wiped vs).setU' v none
theorem wipeA_sb (ad : Ads) : ∀ vs : List Nat, Sb ad (wipeA ad vs)
  | [] => Sb.refl ad
  | v :: vs => fun i => by
    show adSet (wipeA ad vs) v [] i = _ ∨ _
    by_cases z : i = v
    · subst z; exact .inr adSet_same
    · show adSet (wipeA ad vs) v [] i = ad i ∨ adSet (wipeA ad vs) v [] i = []
      rw [adSet_ne z]; exact wipeA_sb ad vs i
theorem wipeA_in {j : Nat} : ∀ {vs : List Nat}, j ∈ vs → wipeA ad vs j = []
  | [], h => by simp at h
  | v :: vs, h => by
    show adSet (wipeA ad vs) v [] j = []
    by_cases z : j = v
    · subst z; exact adSet_same
    · rw [adSet_ne z]; exact wipeA_in (by simpa [z] using h)
theorem wipe_in {j : Nat} : ∀ {vs : List Nat}, j ∈ vs → j < σ.length → (wipe σ vs)[j]? = some none
  | [], h, _ => by simp at h
  | v :: vs, h, hl => by
    show ((wipe σ vs).set v none)[j]? = _
    by_cases z : v = j
    · subst z; rw [List.getElem?_set_self (by rw [wipe_length]; exact hl)]
    · rw [List.getElem?_set_ne z]; exact wipe_in (by simpa [Ne.symm z] using h) hl
theorem wipe_eq {σ' : L2.St} {ws vs : List Nat} (hl : σ'.length = (wipe σ vs).length) (h : ∀ j, j ∉ ws → σ'[j]? = (wipe σ vs)[j]?) (hs : ∀ j ∈ ws, j ∈ vs) : wipe σ' vs = wipe σ vs := by
  apply List.ext_getElem?
  intro j
  rw [wipe_length] at hl
  by_cases hj : j ∈ vs
  · by_cases hb : j < σ.length
    · rw [wipe_in hj hb, wipe_in hj (by omega)]
    · rw [List.getElem?_eq_none (by rw [wipe_length]; omega), List.getElem?_eq_none (by rw [wipe_length]; omega)]
  · rw [wipe_out hj]
    exact h j fun z => hj (hs j z)
theorem wipeG_out {j : Nat} : ∀ {vs : List Nat}, j ∉ vs → (wipeG Γ vs)[j]? = Γ[j]?
  | [], _ => rfl
  | v :: vs, h => by
    show ((wipeG Γ vs).set v .un)[j]? = _
    rw [List.getElem?_set_ne (fun e => h (by rw [e]; exact List.mem_cons_self))]
    exact wipeG_out fun m => h (List.mem_cons_of_mem _ m)
theorem wipeG_length : ∀ vs : List Nat, (wipeG Γ vs).length = Γ.length
  | [] => rfl
  | v :: vs => by
    show ((wipeG Γ vs).set v .un).length = _
    rw [List.length_set]; exact wipeG_length vs
theorem wipeG_in {j : Nat} : ∀ {vs : List Nat}, j ∈ vs → j < Γ.length → (wipeG Γ vs)[j]? = some .un
  | [], h, _ => by simp at h
  | v :: vs, h, hl => by
    show ((wipeG Γ vs).set v .un)[j]? = _
    by_cases z : v = j
    · subst z; rw [List.getElem?_set_self (by rw [wipeG_length]; exact hl)]
    · rw [List.getElem?_set_ne z]; exact wipeG_in (by simpa [Ne.symm z] using h) hl
def Sl.flat : Sl → Bool
  | .un => true
  | .dat _ => true
  | _ => false
/-- behind a block: the block's names as they were -/
theorem S1.back {vs : List Nat} {ad1 : Ads} (s0 : S1 K σ H I Γ1 ad1) (s : S1 K (wipe σ vs) H' I' (wipeG Γ' vs) ad') (hI : Ex I I') (hf : ∀ j ∈ vs, ∃ sl, Γ1[j]? = some sl ∧ sl.flat = true ∧ Γ'[j]? = some sl) : S1 K σ H' I' Γ' ad' := by
  have hl : σ.length = Γ'.length := by have := s.len; rw [wipe_length, wipeG_length] at this; exact this
  refine ⟨s.sub, hl, fun i o sl h1 h2 => ?_, fun i hi => s.out i (by rw [wipeG_length]; exact hi), s.own, s.dis⟩
  have hi : i < σ.length := (List.getElem?_eq_some_iff.mp h1).1
  by_cases hv : i ∈ vs
  · obtain ⟨sl1, g1, g2, g3⟩ := hf i hv
    rw [h2] at g3
    have e3 : sl = sl1 := Option.some.inj g3
    subst e3
    have r := s0.rel i o sl h1 g1
    have e : ad' i = [] := by
      have r2 := s.rel i none .un (wipe_in hv hi) (wipeG_in hv (by omega))
      generalize ad' i = as at r2
      cases r2; rfl
    rw [e]
    generalize ad1 i = as at r
    cases r with
    | un => exact .un
    | dat a => exact .dat (Dp.ex a hI)
    | _ => simp [Sl.flat] at g2
  · exact s.rel i o sl (by rw [wipe_out hv]; exact h1) (by rw [wipeG_out hv]; exact h2)

/-! ### targets -/
def RG (K : PySem.W.Frag) (g : TG) (d : PyData) (Γ Γ' : Ga) (ws : List Nat) : Prop :=
  ∀ (σ : L2.St) (H I : Hp) (ad : Ads) (x : V) (Q : L2.St → Hp → Prop), S1 K σ H I Γ ad → Dp K I x d →
    (∀ σ' H' I' ad', S1 K σ' H' I' Γ' ad' → Gr No I H I' H' → Sb ad ad' → (∀ j, j ∉ ws → σ'[j]? = σ[j]?) → σ'.length = σ.length → Q σ' H') → g x σ H Q
def RGs (K : PySem.W.Frag) (g : TGs) (ds : List PyData) (Γ Γ' : Ga) (ws : List Nat) : Prop :=
  ∀ (σ : L2.St) (H I : Hp) (ad : Ads) (xs : List V) (Q : L2.St → Hp → Prop), S1 K σ H I Γ ad → DpAll K I xs ds →
    (∀ σ' H' I' ad', S1 K σ' H' I' Γ' ad' → Gr No I H I' H' → Sb ad ad' → (∀ j, j ∉ ws → σ'[j]? = σ[j]?) → σ'.length = σ.length → Q σ' H') → g xs σ H Q
theorem adSet_sb (i : Nat) : Sb ad (adSet ad i []) := fun j => by
  by_cases z : j = i
  · subst z; exact .inr adSet_same
  · exact .inl (adSet_ne z)
theorem rg_name {i : Nat} (hi : i < Γ.length := by (simp; done)) : RG K (gName i) d Γ (Γ.set i (.dat d)) [i] := fun σ H I ad x Q s p q =>
  q _ H I _ (s.setD hi p) (Gr.refl s.sub) (adSet_sb i) (fun j hj => List.getElem?_set_ne (fun z => hj (by rw [z]; simp))) (List.length_set ..)
theorem rgs_nil : RGs K gNil [] Γ Γ [] := fun σ H I ad xs Q s p q => by
  cases p
  exact ⟨rfl, q σ H I ad s (Gr.refl s.sub) (Sb.refl ad) (fun _ _ => rfl) rfl⟩
theorem rgs_cons {g : TG} {gs : TGs} {ws us : List Nat} (h1 : RG K g d Γ Γ1 ws) (h2 : RGs K gs ds Γ1 Γ2 us) : RGs K (gCons g gs) (d :: ds) Γ Γ2 (ws ++ us) := fun σ H I ad xs Q s p q => by
  cases p with
  | cons p1 p2 =>
    refine ⟨_, _, rfl, h1 σ H I ad _ _ s p1 fun σ1 H1 I1 ad1 s1 g1 b1 e1 l1 => h2 σ1 H1 I1 ad1 _ _ s1 (Da.ex p2 g1.i) fun σ2 H2 I2 ad2 s2 g2 b2 e2 l2 => ?_⟩
    exact q σ2 H2 I2 ad2 s2 (g1.trans g2) (b1.trans b2) (fun j hj => by
      rw [List.mem_append, not_or] at hj
      rw [e2 j hj.2, e1 j hj.1]) (l2.trans l1)
theorem rg_tup {gs : TGs} {n : Nat} {ws : List Nat} (h : RGs K gs ds Γ Γ1 ws) (hn : ds.length = n := by rfl) : RG K (gTup K n gs) (.tuple ds) Γ Γ1 ws := fun σ H I ad x Q s p q => by
  obtain ⟨a, xs, rfl, h1, h2⟩ := dp_tup p
  exact ⟨a, xs, rfl, sqT_ex s.sub h1, by rw [Da.len h2]; exact hn, h σ H I ad xs Q s h2 q⟩
theorem rg_unl {gs : TGs} {n : Nat} {ws : List Nat} (h : RGs K gs ds Γ Γ1 ws) (hn : ds.length = n := by rfl) : RG K (gUnl K n gs) (.list ds) Γ Γ1 ws := fun σ H I ad x Q s p q => by
  obtain ⟨a, xs, rfl, h1, h2⟩ := dp_lst p
  exact ⟨a, xs, rfl, sqL_ex s.sub h1, by rw [Da.len h2]; exact hn, h σ H I ad xs Q s h2 q⟩

/-! ### walks -/
structure WD (K : PySem.W.Frag) (J : It) (ds : List PyData) (I : Hp) : Prop where
  goes : ∀ i H, i < ds.length → Ex I H → J.go i H
  stops : ∀ H, Ex I H → J.stop ds.length H
  yields : ∀ i d H I1 x H', ds[i]? = some d → Ex I I1 → Ex I1 H → J.yld i H x H' → ∃ I', Gr No I1 H I' H' ∧ Dp K I' x d
theorem WD.mono {J : It} (w : WD K J ds I) (e : Ex I I') : WD K J ds I' :=
  ⟨fun i H h x => w.goes i H h (e.trans x), fun H x => w.stops H (e.trans x), fun i d H I1 x H' h a b => w.yields i d H I1 x H' h (e.trans a) b⟩
def RI (K : PySem.W.Frag) (wi : TI) (Γ : Ga) (ds : List PyData) (Γ' : Ga) : Prop :=
  ∀ (σ : L2.St) (H I : Hp) (ad : Ads), S1 K σ H I Γ ad → ∀ R : It → Hp → Prop, (∀ J H' I' ad', S1 K σ H' I' Γ' ad' → Gr (Own ad) I H I' H' → Sb ad ad' → WD K J ds I' → R J H') → wi σ H R
variable {te : TE} {tr : TA}
theorem wd_list {p : Addr} {vs : List V} (h : SqL K I p vs) (hd : DpAll K I vs ds) : WD K (Itl K p) ds I := by
  have hl := Da.len hd
  refine ⟨fun i H hi e => ⟨vs, vs[i], sqL_ex e h, by simp [hl, hi]⟩, fun H e => ⟨vs, sqL_ex e h, by omega⟩, fun i d H I1 x H' e a b y => ?_⟩
  obtain ⟨rfl, f⟩ := y
  obtain ⟨v, hv, hp⟩ := Da.at hd e
  have := f vs (sqL_ex (a.trans b) h)
  rw [hv] at this; cases this
  exact ⟨I1, Gr.refl b, Dp.ex hp a⟩
theorem wd_tup {p : Addr} {vs : List V} (h : SqT K I p vs) (hd : DpAll K I vs ds) : WD K (Itt K p) ds I := by
  have hl := Da.len hd
  refine ⟨fun i H hi e => ⟨vs, vs[i], sqT_ex e h, by simp [hl, hi]⟩, fun H e => ⟨vs, sqT_ex e h, by omega⟩, fun i d H I1 x H' e a b y => ?_⟩
  obtain ⟨rfl, f⟩ := y
  obtain ⟨v, hv, hp⟩ := Da.at hd e
  have := f vs (sqT_ex (a.trans b) h)
  rw [hv] at this; cases this
  exact ⟨I1, Gr.refl b, Dp.ex hp a⟩
theorem ri_list (h : RE K te Γ (.list ds) Γ1) : RI K (iList K te) Γ ds Γ1 := fun σ H I ad s R q => h σ H I ad s _ fun v H1 I1 ad1 s1 g1 b1 p1 => by
  obtain ⟨a, xs, rfl, h1, h2⟩ := dp_lst p1
  exact ⟨a, rfl, ⟨xs, sqL_ex s1.sub h1⟩, q _ H1 I1 ad1 s1 g1 b1 (wd_list h1 h2)⟩
theorem ri_tup (h : RE K te Γ (.tuple ds) Γ1) : RI K (iTup K te) Γ ds Γ1 := fun σ H I ad s R q => h σ H I ad s _ fun v H1 I1 ad1 s1 g1 b1 p1 => by
  obtain ⟨a, xs, rfl, h1, h2⟩ := dp_tup p1
  exact ⟨a, rfl, ⟨xs, sqT_ex s1.sub h1⟩, q _ H1 I1 ad1 s1 g1 b1 (wd_tup h1 h2)⟩
/-- a list or a tuple -/
abbrev iSeq (K : PySem.W.Frag) (tl : TE) : TI := fun σ H R => iList K tl σ H R ∨ iTup K tl σ H R
theorem PI.or {X : Cx} {tg l : Expr} {w1 w2 : TI} (h1 : PI X tg l w1) (h2 : PI X tg l w2) : PI X tg l (fun σ H R => w1 σ H R ∨ w2 σ H R) :=
  ⟨fun pins s σ H R I h => h.elim (h1.run pins s σ H R I) (h2.run pins s σ H R I)⟩
theorem pi_seq {X : Cx} {tg l : Expr} {tl : TE} (hl : PE X l tl) : PI X tg l (iSeq X.K tl) := PI.or (pi_list hl) (pi_tup hl)
theorem ri_seqL (h : RE K te Γ (.list ds) Γ1) : RI K (iSeq K te) Γ ds Γ1 := fun σ H I ad s R q => .inl (ri_list h σ H I ad s R q)
theorem ri_seqT (h : RE K te Γ (.tuple ds) Γ1) : RI K (iSeq K te) Γ ds Γ1 := fun σ H I ad s R q => .inr (ri_tup h σ H I ad s R q)
/-- range(n), range(a, b) -/
def rgD (lo : Int) (n : Nat) : List PyData := (List.range n).map fun (i : Nat) => PyData.int (lo + (i : Int))
theorem wd_range {lo : Int} {n : Nat} : WD K (Itr lo n) (rgD lo n) I := by
  have hl : (rgD lo n).length = n := by simp [rgD]
  refine ⟨fun i H hi e => by rw [hl] at hi; exact hi, fun H e => by rw [hl]; exact Nat.le_refl _, fun i d H I1 x H' e a b y => ?_⟩
  obtain ⟨rfl, rfl⟩ := y
  refine ⟨I1, Gr.refl b, ?_⟩
  unfold rgD at e
  rw [List.getElem?_map] at e
  cases q : (List.range n)[i]? with
  | none => rw [q] at e; cases e
  | some j =>
    have hj : i = j := by
      obtain ⟨h1, h2⟩ := List.getElem?_eq_some_iff.mp q
      simpa using h2
    rw [q] at e; cases e
    rw [hj]; exact .int _
theorem ri_range1 {n : Int} (h : RA K tr Γ [.int n] Γ1) (hn : n < 2 ^ 62) (h0 : 0 ≤ n) : RI K (iRng1 tr) Γ (rgD 0 n.toNat) Γ1 := fun σ H I ad s R q => h σ H I ad s _ fun vs H1 I1 ad1 s1 g1 b1 p1 => by
  obtain ⟨v, rfl, h1⟩ := da1 p1
  cases h1
  exact ⟨n, rfl, by omega, hn, q _ H1 I1 ad1 s1 g1 b1 wd_range⟩
theorem ri_range2 {m n : Int} (h : RA K tr Γ [.int m, .int n] Γ1) (hm : -(2 ^ 62) ≤ m ∧ m < 2 ^ 62) (hn : -(2 ^ 62) ≤ n ∧ n < 2 ^ 62) : RI K (iRng2 tr) Γ (rgD m (n - m).toNat) Γ1 := fun σ H I ad s R q => h σ H I ad s _ fun vs H1 I1 ad1 s1 g1 b1 p1 => by
  obtain ⟨v, w, rfl, h1, h2⟩ := da2 p1
  cases h1; cases h2
  exact ⟨m, n, rfl, ⟨hm.1, hm.2, hn.1, hn.2⟩, q _ H1 I1 ad1 s1 g1 b1 wd_range⟩
/-- zip: pairs -/
def zipD (xs ys : List PyData) : List PyData := List.zipWith (fun a b => .tuple [a, b]) xs ys
theorem zip_at {xs ys : List PyData} {i : Nat} (h : (zipD xs ys)[i]? = some d) : ∃ a b, xs[i]? = some a ∧ ys[i]? = some b ∧ d = .tuple [a, b] := by
  unfold zipD at h
  rw [List.getElem?_zipWith] at h
  cases e1 : xs[i]? with
  | none => rw [e1] at h; simp at h
  | some a =>
    cases e2 : ys[i]? with
    | none => rw [e1, e2] at h; simp at h
    | some b => rw [e1, e2] at h; simp at h; exact ⟨a, b, rfl, rfl, h.symm⟩
theorem zip_len {xs ys : List PyData} : (zipD xs ys).length = min xs.length ys.length := by simp [zipD]
theorem pair_dp {I1 : Hp} {T : Addr} {x y : V} (a : Dp K I1 x d1) (b : Dp K I1 y d2) (e : Ex I1 H) (h : H T = none) : Gr No I1 H (upd I1 T (.tup [x, y])) (upd H T (.tup [x, y])) ∧ Dp K (upd I1 T (.tup [x, y])) (.ref T) (.tuple [d1, d2]) :=
  ⟨Gr.new e h, .tup (.inl (.inl upd_same)) (Da.ex (.cons a (.cons b .nil)) (Ex.new_ (e.non_ h)))⟩
theorem wd_zipL {a b : Addr} {xs ys : List PyData} {vs ws : List V} (ha : SqL K I a vs) (hb : SqL K I b ws) (da : DpAll K I vs xs) (db : DpAll K I ws ys) : WD K (Itz K a b) (zipD xs ys) I := by
  have l1 := Da.len da
  have l2 := Da.len db
  refine ⟨fun i H hi e => ?_, fun H e => ⟨vs, ws, sqL_ex e ha, sqL_ex e hb, ?_⟩, fun i d H I1 x H' e u v y => ?_⟩
  · rw [zip_len] at hi
    exact ⟨vs, ws, vs[i]'(by omega), ws[i]'(by omega), sqL_ex e ha, sqL_ex e hb, List.getElem?_eq_getElem _, List.getElem?_eq_getElem _⟩
  · rw [zip_len]; omega
  · obtain ⟨T, p, q, rfl, hT, rfl, f1, f2⟩ := y
    obtain ⟨d1, d2, e1, e2, rfl⟩ := zip_at e
    obtain ⟨v1, q1, r1⟩ := Da.at da e1
    obtain ⟨v2, q2, r2⟩ := Da.at db e2
    have z1 := f1 vs (sqL_ex (u.trans v) ha)
    have z2 := f2 ws (sqL_ex (u.trans v) hb)
    rw [q1] at z1; rw [q2] at z2; cases z1; cases z2
    exact ⟨_, (pair_dp (Dp.ex r1 u) (Dp.ex r2 u) v hT).1, (pair_dp (Dp.ex r1 u) (Dp.ex r2 u) v hT).2⟩
theorem wd_zipT {a b : Addr} {xs ys : List PyData} {vs ws : List V} (ha : SqT K I a vs) (hb : SqT K I b ws) (da : DpAll K I vs xs) (db : DpAll K I ws ys) : WD K (RZ.ItzT K a b) (zipD xs ys) I := by
  have l1 := Da.len da
  have l2 := Da.len db
  refine ⟨fun i H hi e => ?_, fun H e => ⟨vs, ws, sqT_ex e ha, sqT_ex e hb, ?_⟩, fun i d H I1 x H' e u v y => ?_⟩
  · rw [zip_len] at hi
    exact ⟨vs, ws, vs[i]'(by omega), ws[i]'(by omega), sqT_ex e ha, sqT_ex e hb, List.getElem?_eq_getElem _, List.getElem?_eq_getElem _⟩
  · rw [zip_len]; omega
  · obtain ⟨T, p, q, rfl, hT, rfl, f1, f2⟩ := y
    obtain ⟨d1, d2, e1, e2, rfl⟩ := zip_at e
    obtain ⟨v1, q1, r1⟩ := Da.at da e1
    obtain ⟨v2, q2, r2⟩ := Da.at db e2
    have z1 := f1 vs (sqT_ex (u.trans v) ha)
    have z2 := f2 ws (sqT_ex (u.trans v) hb)
    rw [q1] at z1; rw [q2] at z2; cases z1; cases z2
    exact ⟨_, (pair_dp (Dp.ex r1 u) (Dp.ex r2 u) v hT).1, (pair_dp (Dp.ex r1 u) (Dp.ex r2 u) v hT).2⟩

/-! ### comprehensions -/
variable {wi : TI} {g : TG} {tt : TT} {vs ws : List Nat}
theorem rl_lc (h : RI K wi Γ ds Γ1) (Gf : Nat → Ga) (res : Nat → List PyData) (hlen : ds.length ≤ 1000000) (h0 : Gf 0 = wipeG Γ1 vs) (hr : res 0 = []) (hn : Gf ds.length = wipeG Γ' vs)
    (hf : ∀ j ∈ vs, ∃ sl, Γ1[j]? = some sl ∧ sl.flat = true ∧ Γ'[j]? = some sl) (hws : ∀ j ∈ ws, j ∈ vs)
    (turn : ∀ i d, ds[i]? = some d → ∃ (Γa Γb : Ga) (b : Bool), RG K g d (Gf i) Γa ws ∧ RT K tt Γa b Γb ∧
      (b = true → ∃ (d' : PyData) (Γc : Ga), RE K te Γb d' Γc ∧ wipeG Γc vs = Gf (i + 1) ∧ res (i + 1) = res i ++ [d']) ∧ (b = false → wipeG Γb vs = Gf (i + 1) ∧ res (i + 1) = res i)) :
    RL K (tLc wi g tt te vs) Γ (res ds.length) Γ' := fun σ H I ad s Q q => h σ H I ad s _ fun J H1 I1 ad1 s1 g1 b1 W D hD => by
  have hID : I1 D = none := s1.sub.non_ hD
  have reslen : ∀ i, i ≤ ds.length → (res i).length ≤ i := by
    intro i
    induction i with
    | zero => intro _; rw [hr]; simp
    | succ i ih =>
      intro hi
      obtain ⟨_, _, b, _, _, t1, t2⟩ := turn i _ (List.getElem?_eq_getElem (show i < ds.length by omega))
      have := ih (by omega)
      cases b with
      | true => obtain ⟨d', _, _, _, e⟩ := t1 rfl; rw [e, List.length_append]; simp; omega
      | false => rw [(t2 rfl).2]; omega
  -- the state ahead of turn i
  let St : Nat → Hp → Prop := fun i H2 => ∃ I2 ad2 acc, S1 K (L2.wipe σ vs) H2 I2 (Gf i) ad2 ∧ Gr (fun p => Own ad1 p ∨ p = D) I1 (upd H1 D (.lst [])) I2 H2 ∧ Sb (wipeA ad1 vs) ad2 ∧ I2 D = none ∧ H2 D = some (.lst acc) ∧ DpAll K I2 acc (res i)
  have noD : ∀ ad2, Sb (wipeA ad1 vs) ad2 → ¬ Own ad2 D := fun ad2 b z => s1.free hD ((wipeA_sb ad1 vs).own D (b.own D z))
  refine lc_it (n := ds.length) (G := fun H2 => Ex I1 H2) (Y := fun i H2 x H3 => J.yld i H2 x H3) ⟨fun i H2 hi e => W.goes i H2 hi e, fun H2 e => W.stops H2 e, fun _ _ _ _ _ _ y => y⟩ St ?_ ?_ ?_ ?_
  · refine ⟨I1, wipeA ad1 vs, [], ?_, Gr.refl (s1.sub.upd_ hID), Sb.refl _, hID, upd_same, by rw [hr]; exact .nil⟩
    rw [h0]
    exact ((s1.fresh hD).1).wiped vs
  · rintro i H2 _ ⟨I2, ad2, acc, t, gr, _⟩
    exact gr.i.trans t.sub
  · rintro i x H2 H3 hi ⟨I2, ad2, acc, t, gr, sb, hI2, hacc, hd⟩ y
    obtain ⟨Γa, Γb, b, tg, tb, t1, t2⟩ := turn i _ (List.getElem?_eq_getElem hi)
    obtain ⟨I3, g3, p3⟩ := W.yields i _ H2 I2 x H3 (List.getElem?_eq_getElem hi) gr.i t.sub y
    have nD2 := noD ad2 sb
    have h2D : H2 D ≠ none := by rw [hacc]; exact fun z => nomatch z
    refine tg _ _ _ _ x _ (t.gr g3) p3 fun σ4 H4 I4 ad4 s4 g4 b4 e4 l4 => ⟨wipe_eq l4 e4 hws, ?_⟩
    have ewi : L2.wipe σ4 vs = L2.wipe σ vs := wipe_eq l4 e4 hws
    have g24 : Gr No I2 H2 I4 H4 := g3.trans g4
    refine tb σ4 H4 I4 ad4 s4 _ fun H5 I5 ad5 s5 g5 b5 => ?_
    have sb5 : Sb (wipeA ad1 vs) ad5 := sb.trans (b4.trans b5)
    have m4 : ∀ p, Own ad4 p → (Own ad1 p ∨ p = D) := fun p z => .inl ((wipeA_sb ad1 vs).own p ((sb.trans b4).own p z))
    have nD4 : ¬ Own ad4 D := noD ad4 (sb.trans b4)
    have g25 : Gr (fun p => Own ad1 p ∨ p = D) I2 H2 I5 H5 := (g24.no).trans (g5.mono m4)
    have a4 : H4 D = some (.lst acc) := g24.h D _ (fun z => z) hacc
    have a5 : H5 D = some (.lst acc) := g5.h D _ nD4 a4
    have i4 : I4 D = none := g24.f D hI2 h2D fun z => z
    have i5 : I5 D = none := g5.f D i4 (by rw [a4]; exact fun z => nomatch z) nD4
    cases b with
    | false =>
      rw [if_neg Bool.false_ne_true]
      obtain ⟨e1, e2⟩ := t2 rfl
      refine ⟨I5, wipeA ad5 vs, acc, ?_, gr.trans g25, sb5.trans (wipeA_sb ad5 vs), i5, a5, by rw [e2]; exact Da.ex hd g25.i⟩
      have := s5.wiped vs
      rw [ewi, e1] at this; exact this
    | true =>
      rw [if_pos rfl]
      obtain ⟨d', Γc, te', e1, e2⟩ := t1 rfl
      refine te' σ4 H5 I5 ad5 s5 _ fun v H6 I6 ad6 s6 g6 b6 p6 => ?_
      have nD5 : ¬ Own ad5 D := noD ad5 sb5
      have m5 : ∀ p, Own ad5 p → (Own ad1 p ∨ p = D) := fun p z => .inl ((wipeA_sb ad1 vs).own p (sb5.own p z))
      have a6 : H6 D = some (.lst acc) := g6.h D _ nD5 a5
      have i6 : I6 D = none := g6.f D i5 (by rw [a5]; exact fun z => nomatch z) nD5
      have la : acc.length ≤ i := by rw [Da.len hd]; exact reslen i (by omega)
      refine ⟨acc, a6, by show acc.length < 16777216; omega, I6, wipeA ad6 vs, acc ++ [v], ?_, ?_, (sb5.trans b6).trans (wipeA_sb ad6 vs), i6, upd_same, ?_⟩
      · have s7 := (s6.other (o := .lst (acc ++ [v])) a6 i6 (noD ad6 (sb5.trans b6))).wiped vs
        rw [ewi, e1] at s7; exact s7
      · exact (gr.trans (g25.trans (g6.mono m5))).trans (Gr.mut s6.sub (.inr rfl) i6 a6)
      · rw [e2]
        exact Da.app (Da.ex (Da.ex hd g25.i) g6.i) (Da.one p6)
  · rintro H2 ⟨I2, ad2, acc, t, gr, sb, hI2, hacc, hd⟩
    rw [hn] at t
    refine q D acc H2 I2 ad2 (S1.back s1 t gr.i hf) ?_ (b1.trans ((wipeA_sb ad1 vs).trans sb)) (g1.k D hD) hI2 hacc hd
    refine g1.trans ⟨gr.i, fun a o na ha => ?_, fun a ha => ?_, t.sub, fun a ha hna nma => ?_⟩
    · have ne : a ≠ D := fun z => by rw [z, hD] at ha; cases ha
      refine gr.h a o (fun z => ?_) (by rw [upd_ne ne]; exact ha)
      rcases z with z | z
      · exact na (b1.own a z)
      · exact ne z
    · by_cases z : a = D
      · rw [z]; exact hD
      · have := gr.k a ha
        rw [upd_ne z] at this; exact this
    · have ne : a ≠ D := fun z => hna (by rw [z]; exact hD)
      refine gr.f a ha (by rw [upd_ne ne]; exact hna) fun z => ?_
      rcases z with z | z
      · exact nma (b1.own a z)
      · exact ne z
end
end DL

/-! DL4: calls of defs, owned dicts and lists, the law's stream, statements, defs. -/
namespace DL
open PySem PySem.Spec PyProof.Rows L2
section
variable {K : PySem.W.Frag} {σ : L2.St} {H I H' I' : Hp} {Γ Γ1 Γ2 Γ3 Γ' Γa : Ga} {ad ad' : Ads} {d d1 d2 : PyData} {ds es : List PyData} {sl sl' : Sl}
variable {te ta tb : TE} {tr : TA} {t u : TS} {tt : TT} {E : XK} {i j : Nat}

/-! ### promises -/
def PR (K : PySem.W.Frag) (F : List PyData → PyData → Prop) : Sp := fun vs H Q _ => ∃ (I : Hp) (ds : List PyData) (d : PyData), Ex I H ∧ DpAll K I vs ds ∧ F ds d ∧ ∀ v H' I', Gr No I H I' H' → Dp K I' v d → Q v H'
def PO (K : PySem.W.Frag) (F : Sl → List PyData → PyData → Sl → Prop) : Sp := fun vs H Q _ => ∃ (I : Hp) (v0 : V) (ws : List V) (sl : Sl) (as : List Addr) (ds : List PyData) (d : PyData) (sl' : Sl),
  vs = v0 :: ws ∧ Ex I H ∧ SR K I H (some v0) sl as ∧ (∀ p ∈ as, I p = none) ∧ DpAll K I ws ds ∧ F sl ds d sl' ∧
  ∀ v H' I', Gr (fun p => p ∈ as) I H I' H' → SR K I' H' (some v0) sl' as → (∀ p ∈ as, I' p = none) → Dp K I' v d → Q v H'
theorem re_call {F : List PyData → PyData → Prop} (h : RA K tr Γ ds Γ1) (hf : F ds d) : RE K (tCall (PR K F) [] E tr) Γ d Γ1 := fun σ H I ad s Q q =>
  h σ H I ad s _ fun vs H1 I1 ad1 s1 g1 b1 p1 => by
    show PR K F (vs ++ []) H1 Q E
    rw [List.append_nil]
    exact ⟨I1, ds, d, s1.sub, p1, hf, fun v H2 I2 g2 p2 => q v H2 I2 ad1 (s1.gr g2) (g1.trans g2.no) b1 p2⟩
theorem SR.own_ne {o : Option V} {as : List Addr} (r : SR K I H o sl as) (h : sl.flat = false) : as ≠ [] := by
  cases r <;> simp [Sl.flat] at h ⊢
theorem SR.flat_nil {o : Option V} {as : List Addr} (r : SR K I H o sl as) (h : sl.flat = true) : as = [] := by
  cases r <;> simp [Sl.flat] at h ⊢
theorem re_callO {F : Sl → List PyData → PyData → Sl → Prop} (h : Γ[i]? = some sl) (hr : RA K tr Γ ds Γ1) (h1 : Γ1[i]? = some sl) (ho : sl.flat = false) (hf : F sl ds d sl') :
    RE K (tCall (PO K F) [] E (tCons (tVar i) tr)) Γ d (Γ1.set i sl') := fun σ H I ad s Q q => by
  obtain ⟨o, eo, _⟩ := s.get h
  have hv : ∃ v, o = some v := by
    have r := s.rel i o sl eo h
    generalize ad i = as at r
    cases r <;> first | exact ⟨_, rfl⟩ | simp [Sl.flat] at ho
  obtain ⟨v0, rfl⟩ := hv
  refine ⟨v0, eo, hr σ H I ad s _ fun vs H1 I1 ad1 s1 g1 b1 p1 => ?_⟩
  show PO K F ((v0 :: vs) ++ []) H1 Q E
  rw [List.append_nil]
  refine ⟨I1, v0, vs, sl, ad1 i, ds, d, sl', rfl, s1.sub, s1.rel i _ _ eo h1, fun p hp => s1.own i p hp, p1, hf, fun v H2 I2 g2 r2 o2 p2 => ?_⟩
  exact q v H2 I2 ad1 (s1.put eo h1 rfl g2 o2 r2) (g1.trans (g2.mono fun p hp => b1.own p ⟨i, hp⟩)) b1 p2

/-! ### owned dicts -/
def getD (kvs : List (Int × PyData)) (k : Int) : Option PyData := (kvs.find? fun p => decide (p.1 = k)).map (·.2)
def putD (kvs : List (Int × PyData)) (k : Int) (d : PyData) : List (Int × PyData) :=
  if (kvs.any fun p => decide (p.1 = k)) = true then kvs.map (fun p => if p.1 = k then (p.1, d) else p) else kvs ++ [(k, d)]
theorem key_inl {k j : Int} : decide ((Sum.inl j : Key) = Sum.inl k) = decide (j = k) := by
  by_cases h : j = k
  · subst h; simp
  · rw [decide_eq_false h, decide_eq_false (fun z => h (Sum.inl.inj z))]
theorem DK.get {kv : List (Key × V)} {kvs : List (Int × PyData)} (h : DK K I kv kvs) (k : Int) : (∀ d, getD kvs k = some d → ∃ v, valV kv (.inl k) = some v ∧ Dp K I v d) ∧ (getD kvs k = none → valV kv (.inl k) = none) := by
  induction h with
  | nil => exact ⟨fun d e => (nomatch e), fun _ => rfl⟩
  | @cons j v d r s p _ ih =>
    unfold getD valV
    rw [List.find?_cons, List.find?_cons]
    show (∀ d', Option.map _ (match decide (j = k) with | true => some (j, d) | false => s.find? _) = some d' → ∃ v', Option.map _ (match decide ((Sum.inl j : Key) = Sum.inl k) with | true => some (Sum.inl j, v) | false => r.find? _) = some v' ∧ _) ∧ _
    rw [key_inl]
    cases decide (j = k) with
    | true => exact ⟨fun d' e => by cases e; exact ⟨v, rfl, p⟩, fun e => nomatch e⟩
    | false => exact ih
theorem DK.any {kv : List (Key × V)} {kvs : List (Int × PyData)} (h : DK K I kv kvs) (k : Int) : (kv.any fun p => decide (p.1 = (Sum.inl k : Key))) = kvs.any fun p => decide (p.1 = k) := by
  induction h with
  | nil => rfl
  | cons p _ ih =>
    rw [List.any_cons, List.any_cons, ih]
    show (decide (_ = _) || _) = _
    rw [key_inl]
theorem DK.map_ {kv : List (Key × V)} {kvs : List (Int × PyData)} (h : DK K I kv kvs) (k : Int) {v : V} (p : Dp K I v d) : DK K I (kv.map fun q => if q.1 = (Sum.inl k : Key) then (q.1, v) else q) (kvs.map fun q => if q.1 = k then (q.1, d) else q) := by
  induction h with
  | nil => exact .nil
  | @cons j w e r s p' _ ih =>
    rw [List.map_cons, List.map_cons]
    by_cases z : j = k
    · subst z
      rw [if_pos rfl, if_pos rfl]
      exact .cons p ih
    · rw [if_neg (show ¬ (Sum.inl j : Key) = Sum.inl k from fun q => z (Sum.inl.inj q)), if_neg z]
      exact .cons p' ih
theorem DK.snoc {kv : List (Key × V)} {kvs : List (Int × PyData)} (h : DK K I kv kvs) (k : Int) {v : V} (p : Dp K I v d) : DK K I (kv ++ [(.inl k, v)]) (kvs ++ [(k, d)]) := by
  induction h with
  | nil => exact .cons p .nil
  | cons p' _ ih => exact .cons p' ih
theorem DK.put {kv : List (Key × V)} {kvs : List (Int × PyData)} (h : DK K I kv kvs) (k : Int) {v : V} (p : Dp K I v d) : DK K I (putK kv (.inl k) v) (putD kvs k d) := by
  unfold putK putD
  rw [h.any k]
  by_cases z : (kvs.any fun p => decide (p.1 = k)) = true
  · rw [if_pos z, if_pos z]; exact h.map_ k p
  · rw [if_neg z, if_neg z]; exact h.snoc k p
theorem DK.len {kv : List (Key × V)} {kvs : List (Int × PyData)} (h : DK K I kv kvs) : kv.length = kvs.length := by
  induction h with
  | nil => rfl
  | cons _ _ ih => rw [List.length_cons, List.length_cons, ih]
theorem DK.keys {kv : List (Key × V)} {kvs : List (Int × PyData)} (h : DK K I kv kvs) : kv.map (·.1) = (kvs.map (·.1)).map Sum.inl := by
  induction h with
  | nil => rfl
  | cons _ _ ih => rw [List.map_cons, List.map_cons, List.map_cons, ih]
theorem SR.dic_ {o : Option V} {as : List Addr} {kvs : List (Int × PyData)} (r : SR K I H o (.dic kvs) as) : ∃ p kv, o = some (.ref p) ∧ as = [p] ∧ H p = some (.dK kv) ∧ DK K I kv kvs := by
  cases r with
  | dic a b => exact ⟨_, _, rfl, rfl, a, b⟩
theorem SR.lst_ {o : Option V} {as : List Addr} (r : SR K I H o (.lst ds) as) : ∃ p vs, o = some (.ref p) ∧ as = [p] ∧ H p = some (.lst vs) ∧ DpAll K I vs ds := by
  cases r with
  | lst a b => exact ⟨_, _, rfl, rfl, a, b⟩
theorem re_dget {kvs : List (Int × PyData)} {k : Int} (h : Γ[i]? = some (.dic kvs)) (ht : RE K te Γ (.int k) Γ1) (h1 : Γ1[i]? = some (.dic kvs)) (hg : getD kvs k = some d) : RE K (tDGet (tVar i) te) Γ d Γ1 := fun σ H I ad s Q q => by
  obtain ⟨o, eo, r⟩ := s.get h
  obtain ⟨p, kv, rfl, _, _, _⟩ := r.dic_
  refine ⟨_, eo, ht σ H I ad s _ fun x H1 I1 ad1 s1 g1 b1 p1 => ?_⟩
  cases p1
  obtain ⟨p', kv', e1, _, hp, hk⟩ := (s1.rel i _ _ eo h1).dic_
  cases e1
  obtain ⟨v, hv, hd⟩ := (hk.get k).1 d hg
  exact ⟨p, v, rfl, .inl ⟨kv', .inl k, .inl hp, rfl, hv.symm⟩, q v H1 I1 ad1 s1 g1 b1 hd⟩
theorem re_dnotin {kvs : List (Int × PyData)} {k : Int} (ht : RE K te Γ (.int k) Γ1) (h1 : Γ1[i]? = some (.dic kvs)) : RE K (tDNotIn te (tVar i)) Γ (.bool (!(getD kvs k).isSome)) Γ1 := fun σ H I ad s Q q => by
  refine ht σ H I ad s _ fun x H1 I1 ad1 s1 g1 b1 p1 => ?_
  cases p1
  obtain ⟨o, eo, r⟩ := s1.get h1
  obtain ⟨p, kv, rfl, _, hp, hk⟩ := r.dic_
  refine ⟨_, eo, p, _, rfl, .inl ⟨kv, .inl k, .inl hp, rfl, rfl⟩, q _ H1 I1 ad1 s1 g1 b1 ?_⟩
  have e : (valV kv (.inl k)).isSome = (getD kvs k).isSome := by
    cases z : getD kvs k with
    | none => rw [(hk.get k).2 z]; rfl
    | some d => obtain ⟨v, hv, _⟩ := (hk.get k).1 d z; rw [hv]; rfl
  rw [e]; exact .bl _
theorem re_din {kvs : List (Int × PyData)} {k : Int} (ht : RE K te Γ (.int k) Γ1) (h1 : Γ1[i]? = some (.dic kvs)) : RE K (tDIn te (tVar i)) Γ (.bool ((getD kvs k).isSome)) Γ1 := fun σ H I ad s Q q => by
  refine ht σ H I ad s _ fun x H1 I1 ad1 s1 g1 b1 p1 => ?_
  cases p1
  obtain ⟨o, eo, r⟩ := s1.get h1
  obtain ⟨p, kv, rfl, _, hp, hk⟩ := r.dic_
  refine ⟨_, eo, p, _, rfl, .inl ⟨kv, .inl k, .inl hp, rfl, rfl⟩, q _ H1 I1 ad1 s1 g1 b1 ?_⟩
  have e : (valV kv (.inl k)).isSome = (getD kvs k).isSome := by
    cases z : getD kvs k with
    | none => rw [(hk.get k).2 z]; rfl
    | some d => obtain ⟨v, hv, _⟩ := (hk.get k).1 d z; rw [hv]; rfl
  rw [e]; exact .bl _
abbrev rSortD : List V → Hp → VK → Prop := fun xs H Q => ∃ (a : Addr) (kvs : List (Key × V)) (ks : List Int), xs = [.ref a] ∧ Rd H a (.dK kvs) ∧ kvs.map (·.1) = ks.map Sum.inl ∧ ks.length < 64 ∧
    ∀ (ys : List Int) (p : Addr), ys.Perm ks → ys.Pairwise (· ≤ ·) → H p = none → Q (.ref p) (upd H p (.lst (ys.map V.int)))
theorem rl_sortedD {kvs : List (Int × PyData)} {ms : List Int} (h : Γ[i]? = some (.dic kvs)) (hl : kvs.length < 64) (hm : ∀ ys : List Int, ys.Perm (kvs.map (·.1)) → ys.Pairwise (· ≤ ·) → ys = ms) : RL K (tCB rSortD (tCons (tVar i) tNil)) Γ (ms.map .int) Γ := fun σ H I ad s Q q => by
  obtain ⟨o, eo, r⟩ := s.get h
  obtain ⟨p, kv, rfl, _, hp, hk⟩ := r.dic_
  refine ⟨_, eo, p, kv, kvs.map (·.1), rfl, .inl hp, hk.keys, by rw [List.length_map]; exact hl, fun ys l hpm hs hn => ?_⟩
  have := hm ys hpm hs; subst this
  exact q l _ _ I ad (s.fresh hn).1 (s.fresh hn).2.no (Sb.refl ad) hn (s.sub.non_ hn) upd_same (Da.ints _)

/-! ### the stream -/
theorem SR.stm_ {o : Option V} {as : List Addr} {cs : List Int} {a b c : Int} (r : SR K I H o (.stm cs a b c) as) : ∃ p q, o = some (.ref p) ∧ as = [p, q] ∧ H p = some (.lst [.ref q, .int a, .int b, .int c]) ∧ H q = some (.lst (cs.map V.int)) := by
  cases r with
  | stm a b => exact ⟨_, _, rfl, rfl, a, b⟩
theorem re_stm {cs : List Int} {a b c x : Int} {k : Nat} (h : Γ[i]? = some (.stm cs a b c)) (hk : [a, b, c][k]? = some x) : RE K (tOp (rIx K) (tVar i) (tC (.int ((k + 1 : Nat) : Int)))) Γ (.int x) Γ := fun σ H I ad s Q q => by
  obtain ⟨o, eo, r⟩ := s.get h
  obtain ⟨p, l, rfl, _, hp, hq⟩ := r.stm_
  refine ⟨_, eo, .inl ⟨p, _, _, .int x, rfl, rfl, .inl (.inl hp), atI_nat (j := k + 1) ?_, q _ H I ad s (Gr.refl s.sub) (Sb.refl ad) (.int _)⟩⟩
  have : ([V.ref l, .int a, .int b, .int c] : List V)[k + 1]? = ([a, b, c][k]?).map V.int := by
    match k with
    | 0 => rfl
    | 1 => rfl
    | 2 => rfl
    | k + 3 => simp
  rw [this, hk]; rfl
theorem re_stmNe {cs : List Int} {a b c : Int} (h : Γ[i]? = some (.stm cs a b c)) : RE K (tOp (fun x y H Q => rNe x y H Q ∨ rNeD K x y H Q) (tOp (rIx K) (tVar i) (tC (.int 0))) (tLst tNil)) Γ (.bool (!cs.isEmpty)) Γ := fun σ H I ad s Q q => by
  obtain ⟨o, eo, r⟩ := s.get h
  obtain ⟨p, l, rfl, _, hp, hq⟩ := r.stm_
  refine ⟨_, eo, .inl ⟨p, _, _, .ref l, rfl, rfl, .inl (.inl hp), atI_nat (j := 0) rfl, Nat.zero_le _, fun z hz => ?_⟩⟩
  have s2 := (s.fresh (o := .lst []) hz).1
  have hq2 : (upd H z (.lst [])) l = some (.lst (cs.map V.int)) := (s.fresh hz).2.h l _ (fun z => z) hq
  refine .inr ⟨.list (cs.map .int), .list [], .lst (.inl (.inl hq2)) (Da.ints cs), .lst (.inl (.inl upd_same)) .nil, ?_, rfl, ?_⟩
  · have hc : ∀ cs : List Int, PyData.canLay0 (.list (cs.map .int)) = true := fun cs => by
      induction cs with
      | nil => rfl
      | cons x r ih => simpa [PyData.canLay0, PyData.canLayAll0] using ih
    have hdp : ∀ cs : List Int, PyData.depthAll (cs.map .int) ≤ 1 := fun cs => by
      induction cs with
      | nil => decide
      | cons x r ih => simp only [List.map_cons, PyData.depthAll, PyData.depth]; omega
    unfold SeqAt.shaped
    rw [hc, Bool.true_and]
    have := hdp cs
    have e : PyData.depth (.list (cs.map .int)) = PyData.depthAll (cs.map .int) + 1 := by simp only [PyData.depth, Nat.add_comm]
    exact decide_eq_true (by rw [e]; omega)
  · have : (!PyData.eqv (.list (cs.map .int)) (.list [])) = !cs.isEmpty := by
      cases cs with
      | nil => rfl
      | cons x r => rfl
    rw [this]
    exact q _ _ I ad s2 (s.fresh hz).2.no (Sb.refl ad) (.bl _)
theorem stm_ne {p l : Addr} {cs : List Int} {a b c : Int} (hp : H p = some (.lst [.ref l, .int a, .int b, .int c])) (hq : H l = some (.lst (cs.map V.int))) : p ≠ l := fun z => by
  subst z
  rw [hp] at hq
  injection hq with hq
  injection hq with hq
  cases cs with
  | nil => cases hq
  | cons x r => injection hq with h1 _; cases h1
theorem re_stmPop {cs : List Int} {a b c x : Int} (h : Γ[i]? = some (.stm (x :: cs) a b c)) : RE K (tBM K "list" rPopAt (tOp (rIx K) (tVar i) (tC (.int 0))) (tCons (tC (.int 0)) tNil)) Γ (.int x) (Γ.set i (.stm cs a b c)) := fun σ H I ad s Q q => by
  obtain ⟨o, eo, r⟩ := s.get h
  generalize hx : ad i = as at r
  obtain ⟨p, l, rfl, rfl, hp, hq⟩ := r.stm_
  refine ⟨_, eo, .inl ⟨p, _, _, .ref l, rfl, rfl, .inl (.inl hp), atI_nat (j := 0) rfl, .inl ⟨rfl, _, .inl (.inl hq)⟩, ?_⟩⟩
  refine ⟨l, _, 0, 0, .int x, rfl, rfl, hq, by decide, by decide, by simp [seqIndex?], rfl, ?_⟩
  have pl := stm_ne hp hq
  have il : I l = none := s.own i l (by rw [hx]; simp)
  have g : Gr (fun p' => p' ∈ [p, l]) I H I (upd H l (.lst (((x :: cs).map V.int).eraseIdx 0))) := Gr.mut s.sub (by simp) il hq
  refine q _ _ I ad (s.put (sl' := .stm cs a b c) eo h hx g (fun z hz => s.own i z (by rw [hx]; exact hz)) (.stm (by rw [upd_ne pl]; exact hp) (by rw [upd_same]; rfl))) (g.mono fun z hz => ⟨i, by rw [hx]; exact hz⟩) (Sb.refl ad) (.int _)
end
end DL

/-! DL5: statements and defs over data. -/
namespace DL
open PySem PySem.Spec PyProof.Rows L2

structure Bs where
  o : Option V
  as : List Addr
  M : Addr → Prop
  H : Hp
  I : Hp
structure S2 (K : PySem.W.Frag) (an : Bool) (B : Bs) (σ : L2.St) (H I : Hp) (Γ : Ga) (ad : Ads) : Prop where
  s : S1 K σ H I Γ ad
  gr : Gr B.M B.I B.H I H
  fr : ∀ p, Own ad p → B.M p ∨ B.H p = none
  anc : an = true → σ[0]? = some B.o ∧ (ad 0 = B.as ∨ ad 0 = [])
/-- what is wanted behind a statement, over data -/
structure Po where
  nx : Ga → Prop
  rt : PyData → Ga → Prop
  bk : Ga → Prop := fun _ => False
  ct : Ga → Prop := fun _ => False
structure En (K : PySem.W.Frag) (an : Bool) (B : Bs) (P : Po) (D : Ends) : Prop where
  nx : ∀ Γ σ H I ad, P.nx Γ → S2 K an B σ H I Γ ad → D.nx σ H
  rt : ∀ d Γ v σ H I ad, P.rt d Γ → S2 K an B σ H I Γ ad → Dp K I v d → D.rt v H
  bk : ∀ Γ σ H I ad, P.bk Γ → S2 K an B σ H I Γ ad → D.bk σ H
  ct : ∀ Γ σ H I ad, P.ct Γ → S2 K an B σ H I Γ ad → D.ct σ H
def RS (K : PySem.W.Frag) (an : Bool) (t : TS) (Γ : Ga) (P : Po) : Prop :=
  ∀ (B : Bs) (σ : L2.St) (H I : Hp) (ad : Ads) (D : Ends), S2 K an B σ H I Γ ad → En K an B P D → t D σ H
section
variable {K : PySem.W.Frag} {an : Bool} {B : Bs} {σ σ' : L2.St} {H I H' I' : Hp} {Γ Γ1 Γ2 Γ3 Γ' Γa : Ga} {ad ad' : Ads} {d d1 d2 : PyData} {ds es : List PyData} {sl sl' : Sl}
variable {te ta tb : TE} {tr : TA} {t u : TS} {tt : TT} {g : TG} {wi : TI} {E : XK} {i j : Nat} {P P' : Po} {b : Bool} {ws : List Nat}
/-- behind an expression -/
theorem S2.go (s : S2 K an B σ H I Γ ad) (h : S1 K σ H' I' Γ' ad') (g : Gr (Own ad) I H I' H') (b : Sb ad ad') : S2 K an B σ H' I' Γ' ad' :=
  ⟨h, ⟨s.gr.i.trans g.i, fun a o n ha => g.h a o (fun z => by
      rcases s.fr a z with q | q
      · exact n q
      · rw [q] at ha; cases ha) (s.gr.h a o n ha), fun a ha => s.gr.k a (g.k a ha), g.s, fun a ha hn nm => g.f a (s.gr.f a ha hn nm) (fun z => hn (s.gr.k a z)) fun z => by
      rcases s.fr a z with q | q
      · exact nm q
      · exact hn q⟩, fun p z => s.fr p (b.own p z), fun z => ⟨(s.anc z).1, by
      rcases b 0 with q | q
      · rw [q]; exact (s.anc z).2
      · exact .inr q⟩⟩
/-- a slot gets data -/
theorem S2.setD (s : S2 K an B σ H I Γ ad) {v : V} (hi : i < Γ.length) (p : Dp K I v d) (h0 : an = true → i ≠ 0) : S2 K an B (σ.set i (some v)) H I (Γ.set i (.dat d)) (adSet ad i []) :=
  ⟨s.s.setD hi p, s.gr, fun p z => s.fr p ((adSet_sb i).own p z), fun z => ⟨by rw [List.getElem?_set_ne (h0 z)]; exact (s.anc z).1, by rw [adSet_ne (Ne.symm (h0 z))]; exact (s.anc z).2⟩⟩
/-- a slot gets a new list or dict -/
theorem S2.setO (s : S2 K an B σ H I Γ ad) {p : Addr} (hi : i < Γ.length) (r : SR K I H (some (.ref p)) sl [p]) (hp : I p = none) (hn : ¬ Own ad p) (hB : B.H p = none) (h0 : an = true → i ≠ 0) : S2 K an B (σ.set i (some (.ref p))) H I (Γ.set i sl) (adSet ad i [p]) :=
  ⟨s.s.set hi r (fun q hq => by rw [List.mem_singleton.mp hq]; exact hp) (fun j q _ hq z => hn ⟨j, by rw [← List.mem_singleton.mp hq]; exact z⟩), s.gr, fun q ⟨j, z⟩ => by
    by_cases e : j = i
    · subst e; rw [adSet_same, List.mem_singleton] at z; subst z; exact .inr hB
    · rw [adSet_ne e] at z; exact s.fr q ⟨j, z⟩, fun z => ⟨by rw [List.getElem?_set_ne (h0 z)]; exact (s.anc z).1, by rw [adSet_ne (Ne.symm (h0 z))]; exact (s.anc z).2⟩⟩
/-- an owned object is written -/
theorem S2.put (s : S2 K an B σ H I Γ ad) {o : Option V} {as : List Addr} (hσ : σ[i]? = some o) (hΓ : Γ[i]? = some sl) (he : ad i = as) (g : Gr (fun p => p ∈ as) I H I' H') (ho : ∀ p ∈ as, I' p = none) (r : SR K I' H' o sl' as) : S2 K an B σ H' I' (Γ.set i sl') ad :=
  s.go (s.s.put hσ hΓ he g ho r) (g.mono fun p hp => ⟨i, by rw [he]; exact hp⟩) (Sb.refl ad)
theorem En.sub {D : Ends} (e : En K an B P D) (h1 : ∀ Γ, P'.nx Γ → P.nx Γ) (h2 : ∀ d Γ, P'.rt d Γ → P.rt d Γ) (h3 : ∀ Γ, P'.bk Γ → P.bk Γ) (h4 : ∀ Γ, P'.ct Γ → P.ct Γ) : En K an B P' D :=
  ⟨fun Γ σ H I ad p => e.nx Γ σ H I ad (h1 Γ p), fun d Γ v σ H I ad p => e.rt d Γ v σ H I ad (h2 d Γ p), fun Γ σ H I ad p => e.bk Γ σ H I ad (h3 Γ p), fun Γ σ H I ad p => e.ct Γ σ H I ad (h4 Γ p)⟩
theorem RS.imp (h : RS K an t Γ P') (h1 : ∀ Γ, P'.nx Γ → P.nx Γ) (h2 : ∀ d Γ, P'.rt d Γ → P.rt d Γ) (h3 : ∀ Γ, P'.bk Γ → P.bk Γ) (h4 : ∀ Γ, P'.ct Γ → P.ct Γ) : RS K an t Γ P :=
  fun B σ H I ad D s e => h B σ H I ad D s (e.sub h1 h2 h3 h4)
theorem rs_seq (h : RS K an t Γ ⟨fun Γ1 => RS K an u Γ1 P, P.rt, P.bk, P.ct⟩) : RS K an (tSeq t u) Γ P := fun B σ H I ad D s e =>
  h B σ H I ad { D with nx := u D } s ⟨fun Γ1 σ1 H1 I1 ad1 p s1 => p B σ1 H1 I1 ad1 D s1 e, e.rt, e.bk, e.ct⟩
theorem rs_nx (h : P.nx Γ) : RS K an tNext Γ P := fun B σ H I ad D s e => e.nx Γ σ H I ad h s
theorem rs_break (h : P.bk Γ) : RS K an tBreak Γ P := fun B σ H I ad D s e => e.bk Γ σ H I ad h s
theorem rs_cont (h : P.ct Γ) : RS K an tCont Γ P := fun B σ H I ad D s e => e.ct Γ σ H I ad h s
theorem rs_ret (h : RE K te Γ d Γ1) (hr : P.rt d Γ1) : RS K an (tRet te) Γ P := fun B σ H I ad D s e =>
  h σ H I ad s.s _ fun v H1 I1 ad1 s1 g1 b1 p1 => e.rt d Γ1 v σ H1 I1 ad1 hr (s.go s1 g1 b1) p1
theorem rs_retN (hr : P.rt .none Γ) : RS K an tRetN Γ P := fun B σ H I ad D s e => e.rt .none Γ .non σ H I ad hr s .non
theorem rs_set (h : RE K te Γ d Γ1) (hr : P.nx (Γ1.set i (.dat d))) (hi : i < Γ1.length := by (simp; done)) (h0 : an = true → i ≠ 0 := by decide) : RS K an (tAsg te (gName i)) Γ P := fun B σ H I ad D s e =>
  h σ H I ad s.s _ fun v H1 I1 ad1 s1 g1 b1 p1 => e.nx _ _ H1 I1 _ hr ((s.go s1 g1 b1).setD hi p1 h0)
theorem rs_setG (h : RE K te Γ d Γ1) (hg : RG K g d Γ1 Γ2 ws) (hr : P.nx Γ2) (h0 : an = true → 0 ∉ ws := by decide) : RS K an (tAsg te g) Γ P := fun B σ H I ad D s e =>
  h σ H I ad s.s _ fun v H1 I1 ad1 s1 g1 b1 p1 => hg σ H1 I1 ad1 v _ s1 p1 fun σ2 H2 I2 ad2 s2 g2 b2 e2 l2 => by
    have z := s.go s1 g1 b1
    have w := z.go (z.s.gr g2) g2.no (Sb.refl ad1)
    refine e.nx _ σ2 H2 I2 ad2 hr ⟨s2, w.gr, fun p q => w.fr p (b2.own p q), fun q => ⟨by rw [e2 0 (h0 q)]; exact (w.anc q).1, ?_⟩⟩
    rcases b2 0 with k | k
    · rw [k]; exact (w.anc q).2
    · exact .inr k
theorem rs_setL (h : RL K te Γ ds Γ1) (hr : P.nx (Γ1.set i (.lst ds))) (hi : i < Γ1.length := by (simp; done)) (h0 : an = true → i ≠ 0 := by decide) : RS K an (tAsg te (gName i)) Γ P := fun B σ H I ad D s e =>
  h σ H I ad s.s _ fun p vs H1 I1 ad1 s1 g1 b1 hp hi1 hv hd =>
    e.nx _ _ H1 I1 _ hr ((s.go s1 g1 b1).setO hi (.lst hv hd) hi1 (fun z => s.s.free hp (b1.own p z)) (s.gr.k p hp) h0)
theorem rs_setK (hr : P.nx (Γ.set i (.dic []))) (hi : i < Γ.length := by (simp; done)) (h0 : an = true → i ≠ 0 := by decide) : RS K an (tAsg tDNewK (gName i)) Γ P := fun B σ H I ad D s e p hp =>
  e.nx _ _ _ I _ hr ((s.go (s.s.fresh hp).1 (s.s.fresh hp).2.no (Sb.refl ad)).setO hi (.dic upd_same .nil) (s.s.sub.non_ hp) (s.s.free hp) (s.gr.k p hp) h0)
/-- a, b = x, y -/
theorem rs_par (h : RA K tr Γ [d1, d2] Γ1) (hr : P.nx ((Γ1.set i (.dat d1)).set j (.dat d2))) (hi : i < Γ1.length := by (simp; done)) (hj : j < Γ1.length := by (simp; done)) (h0 : an = true → i ≠ 0 := by decide) (h1 : an = true → j ≠ 0 := by decide) : RS K an (tPar i j tr) Γ P := fun B σ H I ad D s e =>
  h σ H I ad s.s _ fun vs H1 I1 ad1 s1 g1 b1 p1 => by
    obtain ⟨v, w, rfl, q1, q2⟩ := da2 p1
    exact ⟨v, w, rfl, e.nx _ _ H1 I1 _ hr (((s.go s1 g1 b1).setD hi q1 h0).setD (by rw [List.length_set]; exact hj) q2 h1)⟩
theorem rs_if (h : RT K tt Γ b Γ1) (h1 : b = true → RS K an t Γ1 P) (h2 : b = false → RS K an u Γ1 P) : RS K an (tIfS tt t u) Γ P := fun B σ H I ad D s e =>
  h σ H I ad s.s _ fun H1 I1 ad1 s1 g1 b1 => by
    cases b with
    | true => rw [if_pos rfl]; exact h1 rfl B σ H1 I1 ad1 D (s.go s1 g1 b1) e
    | false => rw [if_neg Bool.false_ne_true]; exact h2 rfl B σ H1 I1 ad1 D (s.go s1 g1 b1) e
theorem rs_drop (h : RE K te Γ d Γ1) (hr : P.nx Γ1) : RS K an (tDrop te) Γ P := fun B σ H I ad D s e =>
  h σ H I ad s.s _ fun v H1 I1 ad1 s1 g1 b1 p1 => e.nx _ σ H1 I1 ad1 hr (s.go s1 g1 b1)
theorem rs_aug {f : Int → Int → Int} {x y : Int} (hx : Γ[i]? = some (.dat (.int x))) (h : RE K te Γ (.int y) Γ1) (hr : P.nx (Γ1.set i (.dat (.int (f x y))))) (hi : i < Γ1.length := by (simp; done)) (h0 : an = true → i ≠ 0 := by decide) : RS K an (tAug i te (ipI f)) Γ P := fun B σ H I ad D s e => by
  obtain ⟨o, eo, r⟩ := s.s.get hx
  generalize ad i = as at r
  cases r with
  | dat q =>
    cases q
    refine ⟨_, eo, h σ H I ad s.s _ fun v H1 I1 ad1 s1 g1 b1 p1 => ?_⟩
    cases p1
    exact ⟨x, y, rfl, rfl, e.nx _ _ H1 I1 _ hr ((s.go s1 g1 b1).setD hi (.int _) h0)⟩
/-- xs.append(e) of an owned list -/
theorem rs_app (h : Γ[i]? = some (.lst ds)) (ht : RE K te Γ d Γ1) (h1 : Γ1[i]? = some (.lst ds)) (hz : ds.length < sizeLine) (hr : P.nx (Γ1.set i (.lst (ds ++ [d])))) : RS K an (tDrop (tBM K "list" rAppend (tVar i) (tCons te tNil))) Γ P := fun B σ H I ad D s e => by
  obtain ⟨o, eo, r⟩ := s.s.get h
  obtain ⟨p, vs, rfl, _, hp, hd⟩ := r.lst_
  refine ⟨_, eo, .inl ⟨rfl, vs, .inl (.inl hp)⟩, ht σ H I ad s.s _ fun v H1 I1 ad1 s1 g1 b1 p1 => ?_⟩
  have r1 := s1.rel i _ _ eo h1
  obtain ⟨p', ws, e1, ha, hp1, hd1⟩ := r1.lst_
  cases e1
  have pi : I1 p = none := s1.own i p (by rw [ha]; simp)
  refine ⟨p, ws, v, rfl, rfl, hp1, by rw [Da.len hd1]; exact hz, ?_⟩
  exact e.nx _ σ _ I1 ad1 hr ((s.go s1 g1 b1).put eo h1 ha (Gr.mut s1.sub (by simp) pi hp1) (fun q hq => by rw [List.mem_singleton.mp hq]; exact pi) (.lst upd_same (Da.app hd1 (Da.one p1))))
/-- xs.insert(k, e) of an owned list -/
abbrev rInsert : V → List V → Hp → VK → Prop := fun x vs H Q => ∃ (l : Addr) (xs : List V) (i : Int) (y : V), x = .ref l ∧ vs = [.int i, y] ∧ H l = some (.lst xs) ∧ xs.length < sizeLine ∧ 0 ≤ i ∧ i < 2 ^ 63 ∧
    Q .non (upd H l (.lst (xs.take i.toNat ++ [y] ++ xs.drop i.toNat)))
theorem rs_ins {k : Int} (h : Γ[i]? = some (.lst ds)) (ht : RA K tr Γ [.int k, d] Γ1) (h1 : Γ1[i]? = some (.lst ds)) (hz : ds.length < sizeLine) (hk : 0 ≤ k ∧ k < 2 ^ 63) (hr : P.nx (Γ1.set i (.lst (ds.take k.toNat ++ [d] ++ ds.drop k.toNat)))) : RS K an (tDrop (tBM K "list" rInsert (tVar i) tr)) Γ P := fun B σ H I ad D s e => by
  obtain ⟨o, eo, r⟩ := s.s.get h
  obtain ⟨p, vs, rfl, _, hp, hd⟩ := r.lst_
  refine ⟨_, eo, .inl ⟨rfl, vs, .inl (.inl hp)⟩, ht σ H I ad s.s _ fun v H1 I1 ad1 s1 g1 b1 p1 => ?_⟩
  have r1 := s1.rel i _ _ eo h1
  obtain ⟨p', ws, e1, ha, hp1, hd1⟩ := r1.lst_
  cases e1
  obtain ⟨x, y, rfl, q1, q2⟩ := da2 p1
  cases q1
  have pi : I1 p = none := s1.own i p (by rw [ha]; simp)
  refine ⟨p, ws, k, y, rfl, rfl, hp1, by rw [Da.len hd1]; exact hz, hk.1, hk.2, ?_⟩
  exact e.nx _ σ _ I1 ad1 hr ((s.go s1 g1 b1).put eo h1 ha (Gr.mut s1.sub (by simp) pi hp1) (fun q hq => by rw [List.mem_singleton.mp hq]; exact pi) (.lst upd_same (Da.app (Da.app (Da.take _ hd1) (Da.one q2)) (Da.drop _ hd1))))
/-- xs.extend(new list) of an owned list -/
theorem rs_ext (h : Γ[i]? = some (.lst ds)) (ht : RL K te Γ es Γ1) (h1 : Γ1[i]? = some (.lst ds)) (hz : ds.length + es.length ≤ sizeLine) (hr : P.nx (Γ1.set i (.lst (ds ++ es)))) : RS K an (tDrop (tBM K "list" rExtend (tVar i) (tCons te tNil))) Γ P := fun B σ H I ad D s e => by
  obtain ⟨o, eo, r⟩ := s.s.get h
  obtain ⟨p, vs, rfl, _, hp, hd⟩ := r.lst_
  refine ⟨_, eo, .inl ⟨rfl, vs, .inl (.inl hp)⟩, ht σ H I ad s.s _ fun l us H1 I1 ad1 s1 g1 b1 hl hl1 hu hdu => ?_⟩
  have r1 := s1.rel i _ _ eo h1
  obtain ⟨p', ws, e1, ha, hp1, hd1⟩ := r1.lst_
  cases e1
  have pi : I1 p = none := s1.own i p (by rw [ha]; simp)
  refine ⟨p, l, ws, us, rfl, rfl, hp1, hu, by rw [Da.len hd1, Da.len hdu]; exact hz, ?_⟩
  exact e.nx _ σ _ I1 ad1 hr ((s.go s1 g1 b1).put eo h1 ha (Gr.mut s1.sub (by simp) pi hp1) (fun q hq => by rw [List.mem_singleton.mp hq]; exact pi) (.lst upd_same (Da.app hd1 hdu)))
/-- d[k] = e of an owned dict -/
theorem rs_dput {kvs : List (Int × PyData)} {k : Int} {tk : TE} (hv : RE K te Γ d Γ1) (h : Γ1[i]? = some (.dic kvs)) (hk : RE K tk Γ1 (.int k) Γ1) (hz : kvs.length < sizeLine) (hr : P.nx (Γ1.set i (.dic (putD kvs k d)))) : RS K an (sDPut (tVar i) tk te) Γ P := fun B σ H I ad D s e =>
  hv σ H I ad s.s _ fun v H1 I1 ad1 s1 g1 b1 p1 => by
    obtain ⟨o, eo, r⟩ := s1.get h
    obtain ⟨p, kv, rfl, _, _, _⟩ := r.dic_
    refine ⟨_, eo, hk σ H1 I1 ad1 s1 _ fun x H2 I2 ad2 s2 g2 b2 p2 => ?_⟩
    cases p2
    obtain ⟨p', kv2, e1, ha, hp, hd⟩ := (s2.rel i _ _ eo h).dic_
    cases e1
    have pi : I2 p = none := s2.own i p (by rw [ha]; simp)
    refine ⟨p, _, rfl, .inl ⟨kv2, .inl k, hp, rfl, by rw [hd.len]; exact hz, rfl⟩, ?_⟩
    exact e.nx _ σ _ I2 ad2 hr (((s.go s1 g1 b1).go s2 g2 b2).put eo h ha (Gr.mut s2.sub (by simp) pi hp) (fun q hq => by rw [List.mem_singleton.mp hq]; exact pi) (.dic upd_same (hd.put k (Dp.ex p1 g2.i))))
/-- stream[k] = e -/
theorem rs_stm {cs : List Int} {a b c x : Int} {k : Nat} (hv : RE K te Γ (.int x) Γ1) (h : Γ1[i]? = some (.stm cs a b c)) (sl' : Sl) (hs : (k = 0 ∧ sl' = .stm cs x b c) ∨ (k = 1 ∧ sl' = .stm cs a x c) ∨ (k = 2 ∧ sl' = .stm cs a b x)) (hr : P.nx (Γ1.set i sl')) : RS K an (tAsg te (gSub (tVar i) (tC (.int ((k + 1 : Nat) : Int))) rSetL)) Γ P := fun B σ H I ad D s e =>
  hv σ H I ad s.s _ fun v H1 I1 ad1 s1 g1 b1 p1 => by
    cases p1
    obtain ⟨o, eo, r⟩ := s1.get h
    obtain ⟨p, l, rfl, ha, hp, hq⟩ := r.stm_
    have pl := stm_ne hp hq
    have pi : I1 p = none := s1.own i p (by rw [ha]; simp)
    have hk : k < 3 := by rcases hs with z | z | z <;> omega
    refine ⟨_, eo, p, _, _, k + 1, rfl, rfl, hp, ?_, ?_⟩
    · unfold ixN
      rw [if_pos (by omega), if_pos (by simp; omega)]
      simp
    refine e.nx _ σ _ I1 ad1 hr ((s.go s1 g1 b1).put eo h ha (Gr.mut s1.sub (by simp) pi hp) (fun q hq => s1.own i q (by rw [ha]; exact hq)) ?_)
    rcases hs with ⟨rfl, rfl⟩ | ⟨rfl, rfl⟩ | ⟨rfl, rfl⟩ <;> exact .stm upd_same (by rw [upd_ne (Ne.symm pl)]; exact hq)
/-- the same base, told from here -/
theorem S2.re (s : S2 K an B σ H I Γ ad) : S2 K an ⟨B.o, B.as, Own ad, H, I⟩ σ H I Γ ad := ⟨s.s, Gr.refl s.s.sub, fun _ z => .inl z, s.anc⟩
theorem S2.un (s : S2 K an B σ H I Γ ad) (h : S2 K an ⟨B.o, B.as, Own ad, H, I⟩ σ' H' I' Γ' ad') : S2 K an B σ' H' I' Γ' ad' :=
  ⟨h.s, ⟨s.gr.i.trans h.gr.i, fun a o n ha => h.gr.h a o (fun z => by
      rcases s.fr a z with q | q
      · exact n q
      · rw [q] at ha; cases ha) (s.gr.h a o n ha), fun a ha => s.gr.k a (h.gr.k a ha), h.gr.s, fun a ha hn nm => h.gr.f a (s.gr.f a ha hn nm) (fun z => hn (s.gr.k a z)) fun z => by
      rcases s.fr a z with q | q
      · exact nm q
      · exact hn q⟩, fun p z => by
      rcases h.fr p z with q | q
      · exact s.fr p q
      · exact .inr (s.gr.k p q), h.anc⟩
theorem RS.run (h : RS K an t Γ P) (s : S2 K an B σ H I Γ ad) (D : Ends) (nx : ∀ Γ' σ' H' I' ad', P.nx Γ' → S2 K an B σ' H' I' Γ' ad' → Ex I I' → D.nx σ' H')
    (rt : ∀ d Γ' v σ' H' I' ad', P.rt d Γ' → S2 K an B σ' H' I' Γ' ad' → Ex I I' → Dp K I' v d → D.rt v H')
    (bk : ∀ Γ' σ' H' I' ad', P.bk Γ' → S2 K an B σ' H' I' Γ' ad' → Ex I I' → D.bk σ' H') (ct : ∀ Γ' σ' H' I' ad', P.ct Γ' → S2 K an B σ' H' I' Γ' ad' → Ex I I' → D.ct σ' H') : t D σ H :=
  h _ σ H I ad D s.re ⟨fun Γ' σ' H' I' ad' p z => nx Γ' σ' H' I' ad' p (s.un z) z.gr.i, fun d Γ' v σ' H' I' ad' p z => rt d Γ' v σ' H' I' ad' p (s.un z) z.gr.i,
    fun Γ' σ' H' I' ad' p z => bk Γ' σ' H' I' ad' p (s.un z) z.gr.i, fun Γ' σ' H' I' ad' p z => ct Γ' σ' H' I' ad' p (s.un z) z.gr.i⟩
/-- while -/
theorem rs_while (W : Nat → Ga → Prop) (m0 : Nat) (h0 : W m0 Γ) (turn : ∀ m Γ2, W m Γ2 → ∃ Γ3 b, RT K tt Γ2 b Γ3 ∧ (b = true → RS K an t Γ3 ⟨fun Γ4 => ∃ m', m' < m ∧ W m' Γ4, P.rt, P.nx, fun Γ4 => ∃ m', m' < m ∧ W m' Γ4⟩) ∧ (b = false → P.nx Γ3)) :
    RS K an (tWhile tt t) Γ P := fun B σ H I ad D s e => by
  refine ⟨fun m σ2 H2 => ∃ Γ2 I2 ad2, W m Γ2 ∧ S2 K an B σ2 H2 I2 Γ2 ad2, ⟨m0, Γ, I, ad, h0, s⟩, ?_⟩
  rintro m σ2 H2 ⟨Γ2, I2, ad2, hw, z⟩
  obtain ⟨Γ3, b, ht, t1, t2⟩ := turn m Γ2 hw
  refine ht σ2 H2 I2 ad2 z.s _ fun H3 I3 ad3 s3 g3 b3 => ?_
  have z3 := z.go s3 g3 b3
  cases b with
  | true =>
    rw [if_pos rfl]
    refine ⟨fun σ4 H4 => ∃ m', m' < m ∧ ∃ Γ4 I4 ad4, W m' Γ4 ∧ S2 K an B σ4 H4 I4 Γ4 ad4, fun σ4 H4 q => q, ?_⟩
    exact t1 rfl B σ2 H3 I3 ad3 _ z3 ⟨fun Γ4 σ4 H4 I4 ad4 p s4 => by
      obtain ⟨m', hm, w⟩ := p
      exact ⟨m', hm, Γ4, I4, ad4, w, s4⟩, e.rt, e.nx, fun Γ4 σ4 H4 I4 ad4 p s4 => by
      obtain ⟨m', hm, w⟩ := p
      exact ⟨m', hm, Γ4, I4, ad4, w, s4⟩⟩
  | false =>
    rw [if_neg Bool.false_ne_true]
    exact e.nx Γ3 σ2 H3 I3 ad3 (t2 rfl) z3
/-- for -/
theorem rs_for (h : RI K wi Γ ds Γ1) (W : Nat → Ga → Prop) (h0 : W 0 Γ1) (turn : ∀ i d Γ2, ds[i]? = some d → W i Γ2 → ∃ Γ3 ws, RG K g d Γ2 Γ3 ws ∧ (an = true → 0 ∉ ws) ∧ RS K an t Γ3 ⟨W (i + 1), P.rt, P.nx, W (i + 1)⟩) (hn : ∀ Γ2, W ds.length Γ2 → P.nx Γ2) : RS K an (tFor wi g t) Γ P := fun B σ H I ad D s e =>
  h σ H I ad s.s _ fun J H1 I1 ad1 s1 g1 b1 w => by
    refine for_it (n := ds.length) (G := fun H2 => Ex I1 H2) (Y := fun i H2 x H3 => J.yld i H2 x H3) ⟨fun i H2 hi e => w.goes i H2 hi e, fun H2 e => w.stops H2 e, fun _ _ _ _ _ _ y => y⟩
      (fun i σ2 H2 => ∃ Γ2 I2 ad2, W i Γ2 ∧ S2 K an B σ2 H2 I2 Γ2 ad2 ∧ Ex I1 I2) ⟨Γ1, I1, ad1, h0, s.go s1 g1 b1, Ex.refl I1⟩ ?_ ?_ ?_
    · rintro i σ2 H2 _ ⟨Γ2, I2, ad2, _, z, x⟩
      exact x.trans z.s.sub
    · rintro i x σ2 H2 H3 hi ⟨Γ2, I2, ad2, hw, z, x1⟩ y
      obtain ⟨I3, g3, p3⟩ := w.yields i _ H2 I2 x H3 (List.getElem?_eq_getElem hi) x1 z.s.sub y
      obtain ⟨Γ3, ws, hg, h00, hb⟩ := turn i _ Γ2 (List.getElem?_eq_getElem hi) hw
      have z3 := z.go (z.s.gr g3) g3.no (Sb.refl ad2)
      refine hg σ2 H3 I3 ad2 x _ z3.s p3 fun σ4 H4 I4 ad4 s4 g4 b4 e4 l4 => ?_
      have z4 := z3.go (z3.s.gr g4) g4.no (Sb.refl ad2)
      have z5 : S2 K an B σ4 H4 I4 Γ3 ad4 := ⟨s4, z4.gr, fun p q => z4.fr p (b4.own p q), fun q => ⟨by rw [e4 0 (h00 q)]; exact (z4.anc q).1, by
        rcases b4 0 with k | k
        · rw [k]; exact (z4.anc q).2
        · exact .inr k⟩⟩
      have x4 : Ex I1 I4 := x1.trans (g3.i.trans g4.i)
      exact hb.run z5 _ (fun Γ5 σ5 H5 I5 ad5 w5 s5 x5 => ⟨Γ5, I5, ad5, w5, s5, x4.trans x5⟩) (fun d5 Γ5 v5 σ5 H5 I5 ad5 w5 s5 _ p5 => e.rt d5 Γ5 v5 σ5 H5 I5 ad5 w5 s5 p5)
        (fun Γ5 σ5 H5 I5 ad5 w5 s5 _ => e.nx Γ5 σ5 H5 I5 ad5 w5 s5) (fun Γ5 σ5 H5 I5 ad5 w5 s5 x5 => ⟨Γ5, I5, ad5, w5, s5, x4.trans x5⟩)
    · rintro σ2 H2 ⟨Γ2, I2, ad2, hw, z, _⟩
      exact e.nx Γ2 σ2 H2 I2 ad2 (hn Γ2 hw) z
end
/-! ### defs -/
def gst (N : List Str) (ds : List PyData) : Ga := ds.map Sl.dat ++ List.replicate (N.length - ds.length) .un
section
variable {P : Program} {w : World} {K : PySem.W.Frag} {mg : Str → Option Value} {base : Heap}
theorem start_at {N : List Str} {vs : List V} {i : Nat} {o : Option V} (h : (start N vs)[i]? = some o) : (∃ v, vs[i]? = some v ∧ o = some v) ∨ (vs.length ≤ i ∧ o = none) := by
  unfold L2.start at h
  by_cases hi : i < vs.length
  · rw [List.getElem?_append_left (by simpa using hi), List.getElem?_map] at h
    cases e : vs[i]? with
    | none => rw [e] at h; cases h
    | some v => rw [e] at h; cases h; exact .inl ⟨v, rfl, rfl⟩
  · rw [List.getElem?_append_right (by simpa using hi), List.getElem?_replicate] at h
    split at h
    · cases h; exact .inr ⟨by omega, rfl⟩
    · cases h
theorem gst_at {N : List Str} {ds : List PyData} {i : Nat} {sl : Sl} (h : (gst N ds)[i]? = some sl) : (∃ d, ds[i]? = some d ∧ sl = .dat d) ∨ (ds.length ≤ i ∧ sl = .un) := by
  unfold gst at h
  by_cases hi : i < ds.length
  · rw [List.getElem?_append_left (by simpa using hi), List.getElem?_map] at h
    cases e : ds[i]? with
    | none => rw [e] at h; cases h
    | some v => rw [e] at h; cases h; exact .inl ⟨v, rfl, rfl⟩
  · rw [List.getElem?_append_right (by simpa using hi), List.getElem?_replicate] at h
    split at h
    · cases h; exact .inr ⟨by omega, rfl⟩
    · cases h
theorem s1_start {N : List Str} {vs : List V} {ds : List PyData} {H I : Hp} (hs : Ex I H) (hd : DpAll K I vs ds) : S1 K (start N vs) H I (gst N ds) (fun _ => []) := by
  have hl := Da.len hd
  refine ⟨hs, ?_, fun i o sl h1 h2 => ?_, fun _ _ => rfl, fun i p h => by simp at h, fun i j p h => by simp at h⟩
  · unfold L2.start gst
    rw [List.length_append, List.length_append, List.length_map, List.length_map, List.length_replicate, List.length_replicate, hl]
  · rcases gst_at h2 with ⟨d, h3, rfl⟩ | ⟨_, rfl⟩
    · rcases start_at h1 with ⟨v, h4, rfl⟩ | ⟨h4, _⟩
      · obtain ⟨d', h5, p⟩ := Da.at2 hd h4
        rw [h3] at h5; cases h5
        exact .dat p
      · have := (List.getElem?_eq_some_iff.mp h3).1
        omega
    · exact .un
/-- THE RULE for a def of data -/
theorem fn_pure {x qual : Str} {st : Stmt} {f : Addr} {fd : FuncData} {N ps : List Str} {k : Nat} {F : List PyData → PyData → Prop} (Fn : Fun K x qual st f fd) (S : FnScope N ps (defScope st)) (len : ∀ ds d, F ds d → ds.length = ps.length)
    (body : ∀ (cdv : Value) (A : Around) (outer : List Env) (s : Shared) (H : Hp) (E : XK), Room k (A.deeper (envOfC qual (defScope st) s.heap.objs.size f cdv)) →
      ∃ t, PSs (cxOf CX0 P w K mg base N qual (defScope st) f cdv A outer s H E).nox (defBody st) t ∧ ∀ ds d, F ds d → RS K false t (gst N ds) ⟨fun _ => d = .none, fun d' _ => d' = d, fun _ => False, fun _ => False⟩) :
    FnOk P w K mg base CX0 (k + 1) f fd ps (PR K F) := by
  refine Fn.ok S (fun vs H Q E h => ?_) (fun cdv A outer s H vs Q E hr h => ?_)
  · obtain ⟨I, ds, d, _, hd, hF, _⟩ := h
    rw [Da.len hd]; exact len ds d hF
  · obtain ⟨I, ds, d, hs, hd, hF, q⟩ := h
    obtain ⟨t, ht, hR⟩ := body cdv A outer s H E hr
    refine ⟨t, ht, ?_⟩
    refine hR ds d hF ⟨none, [], No, H, I⟩ (start N vs) H I (fun _ => []) _ ⟨s1_start hs hd, Gr.refl hs, fun p ⟨i, z⟩ => by simp at z, fun z => by cases z⟩ ⟨?_, ?_, ?_, ?_⟩
    · intro Γ σ H' I' ad hd' s'
      exact q .non H' I' s'.gr (by rw [hd']; exact .non)
    · intro d' Γ v σ H' I' ad hd' s' p
      exact q v H' I' s'.gr (by rw [← hd']; exact p)
    · intro Γ σ H' I' ad z; exact z.elim
    · intro Γ σ H' I' ad z; exact z.elim
def gstO (N : List Str) (sl : Sl) (ds : List PyData) : Ga := (gst N (.none :: ds)).set 0 sl
/-- .. whose first parameter is an owned object -/
theorem fn_own {x qual : Str} {st : Stmt} {f : Addr} {fd : FuncData} {N ps : List Str} {k : Nat} {F : Sl → List PyData → PyData → Sl → Prop} (Fn : Fun K x qual st f fd) (S : FnScope N ps (defScope st)) (len : ∀ sl ds d sl', F sl ds d sl' → ds.length + 1 = ps.length ∧ sl'.flat = false)
    (body : ∀ (cdv : Value) (A : Around) (outer : List Env) (s : Shared) (H : Hp) (E : XK), Room k (A.deeper (envOfC qual (defScope st) s.heap.objs.size f cdv)) →
      ∃ t, PSs (cxOf CX0 P w K mg base N qual (defScope st) f cdv A outer s H E).nox (defBody st) t ∧ ∀ sl ds d sl', F sl ds d sl' → RS K true t (gstO N sl ds) ⟨fun Γ => d = .none ∧ Γ[0]? = some sl', fun d' Γ => d' = d ∧ Γ[0]? = some sl', fun _ => False, fun _ => False⟩) :
    FnOk P w K mg base CX0 (k + 1) f fd ps (PO K F) := by
  refine Fn.ok S (fun vs H Q E h => ?_) (fun cdv A outer s H vs Q E hr h => ?_)
  · obtain ⟨I, v0, ws, sl, as, ds, d, sl', rfl, _, _, _, hd, hF, _⟩ := h
    rw [List.length_cons, Da.len hd]; exact (len sl ds d sl' hF).1
  · obtain ⟨I, v0, ws, sl, as, ds, d, sl', rfl, hs, hr0, ho, hd, hF, q⟩ := h
    obtain ⟨t, ht, hR⟩ := body cdv A outer s H E hr
    refine ⟨t, ht, ?_⟩
    have fl := (len sl ds d sl' hF).2
    have hd0 : DpAll K I (.non :: ws) (.none :: ds) := .cons .non hd
    have s0 := s1_start (N := N) hs hd0
    have hN : 0 < (gst N (.none :: ds)).length := by unfold gst; rw [List.length_append, List.map_cons, List.length_cons]; omega
    have s1 := s0.set (i := 0) (o := some v0) (sl := sl) (as := as) hN hr0 ho (fun j p _ _ z => by simp at z)
    have e0 : (start N (V.non :: ws)).set 0 (some v0) = start N (v0 :: ws) := by
      unfold L2.start
      rw [List.map_cons, List.cons_append, List.set_cons_zero, List.map_cons, List.cons_append]
      rfl
    rw [e0] at s1
    have ad0 : adSet (fun _ => []) 0 as 0 = as := adSet_same
    refine hR sl ds d sl' hF ⟨some v0, as, fun p => p ∈ as, H, I⟩ (start N (v0 :: ws)) H I (adSet (fun _ => []) 0 as) _ ⟨s1, Gr.refl hs, fun p ⟨i, z⟩ => ?_, fun _ => ⟨?_, .inl ad0⟩⟩ ⟨?_, ?_, ?_, ?_⟩
    · by_cases e : i = 0
      · subst e; rw [ad0] at z; exact .inl z
      · rw [adSet_ne e] at z; simp at z
    · unfold L2.start; rw [List.map_cons]; rfl
    · intro Γ σ H' I' ad ⟨hd', hΓ⟩ s'
      obtain ⟨z1, z2⟩ := s'.anc rfl
      have r := s'.s.rel 0 _ _ z1 hΓ
      have e : ad 0 = as := z2.resolve_right (r.own_ne fl)
      rw [e] at r
      exact q .non H' I' s'.gr r (fun p hp => s'.s.own 0 p (by rw [e]; exact hp)) (by rw [hd']; exact .non)
    · intro d' Γ v σ H' I' ad ⟨hd', hΓ⟩ s' p
      obtain ⟨z1, z2⟩ := s'.anc rfl
      have r := s'.s.rel 0 _ _ z1 hΓ
      have e : ad 0 = as := z2.resolve_right (r.own_ne fl)
      rw [e] at r
      exact q v H' I' s'.gr r (fun p hp => s'.s.own 0 p (by rw [e]; exact hp)) (by rw [← hd']; exact p)
    · intro Γ σ H' I' ad z; exact z.elim
    · intro Γ σ H' I' ad z; exact z.elim
end
end DL

/-! DL6: more operations: products and floors of ints of any size, zip of any mix, tuple times int. -/
namespace DL
open PySem PySem.Spec PyProof.Rows L2

/-! ### ints of any size -/
theorem op_mulX {X : Cx} : OpR X (binaryOp .Mult) (rI IntMulOk fun i j => .int (i * j)) := opI fun _ _ _ _ _ _ _ hc q => mul_int q hc
/-- the interpreter's own division module may be asked for: what must be known of the heap and the stack -/
structure PyOk (X : Cx) : Prop where
  seer : X.base.NoSeer
  tree : X.prog.given.tree = none
  top : ∃ env l, X.stack = env :: l ∧ env.scope.isGenerator = false ∧ env.scope.isCoroutine = false ∧ env.builtins = builtinsNs ∧ env.globals = mainGlobals
  room : X.A.depth + Builtin.pylongFrames < recursionLimit
theorem PyOk.run {X : Cx} (h : PyOk X) {pins : List (Addr × Obj)} {σ : L2.St} {H : Hp} {s : Shared} (I : Inv X pins σ H s) : PylongRoom (model X.prog X.w) X.A s := by
  obtain ⟨env, l, h1, h2, h3, h4, h5⟩ := h.top
  exact PylongRoom.of I.nolimit h.room (SeerAt.of (h.seer.keeps I.bk) h.tree (I.ok.frames.trans (by rw [h1])) h2 h3 h4 h5)
theorem op_fdivX {X : Cx} (hp : PyOk X) : OpR X (binaryOp .FloorDiv) (rI (fun _ j => j ≠ 0) fun i j => .int (i.fdiv j)) := by
  intro pins s σ H x y v u Q I rx ry h
  obtain ⟨i, j, rfl, rfl, hc, q⟩ := h
  obtain ⟨t, rfl⟩ := rx
  obtain ⟨t', rfl⟩ := ry
  exact floordiv_int hc ⟨.int (i.fdiv j), H, I.tok _, ⟨_, rfl⟩, q⟩ (.inr (hp.run I))
theorem py_of {X : Cx} {k : Nat} {env : Env} {l : List Env} (hN : X.base.NoSeer) (ht : X.prog.given.tree = none) (hr : Room k X.A) (hk : 33 ≤ k := by decide) (hs : X.stack = env :: l := by rfl)
    (h2 : env.scope.isGenerator = false := by rfl) (h3 : env.scope.isCoroutine = false := by rfl) (h4 : env.builtins = builtinsNs := by rfl) (h5 : env.globals = mainGlobals := by rfl) : PyOk X :=
  ⟨hN, ht, ⟨env, l, hs, h2, h3, h4, h5⟩, by have := hr.dp; show X.A.depth + 100 < recursionLimit; omega⟩

/-! ### zip of any two lists, tuples -/
/-- k: a list (true), a tuple (false) -/
def SqK (k : Bool) (K : PySem.W.Frag) (H : Hp) (a : Addr) (xs : List V) : Prop := if k = true then SqL K H a xs else SqT K H a xs
def IsK (k : Bool) (h : Heap) (a : Addr) (its : Array Value) : Prop := if k = true then h.IsList a its else h.IsTuple a its
def ItK (k : Bool) (h : Heap) (it a : Addr) (i : Nat) : Prop := if k = true then h.IsListIter it a i else h.IsTupleIter it a i
theorem sqK_ex {k : Bool} {K : PySem.W.Frag} {H H' : Hp} {a : Addr} {xs : List V} (e : Ex H H') (h : SqK k K H a xs) : SqK k K H' a xs := by
  cases k with
  | true => exact sqL_ex e h
  | false => exact sqT_ex e h
section
variable {X : Cx} {pins : List (Addr × Obj)} {σ : L2.St} {H : Hp} {s : Shared} {k : Bool} {a : Addr} {xs ys : List V}
theorem inv_seq (I : Inv X pins σ H s) (h : SqK k X.K H a xs) : ∃ its : List Value, Vals xs its ∧ IsK k s.heap a its.toArray ∧ a < s.heap.objs.size := by
  cases k with
  | true =>
    obtain ⟨its, rv, p, _⟩ := I.list h
    have q := p.isList
    exact ⟨its, rv, q, by obtain ⟨o, e, _⟩ := q; exact Heap.lt_size e⟩
  | false =>
    obtain ⟨its, rv, p, _⟩ := I.tuple h
    exact ⟨its, rv, p, by obtain ⟨o, e, _⟩ := p; exact Heap.lt_size e⟩
theorem inv_inj (I : Inv X pins σ H s) (h : SqK k X.K H a xs) (h' : SqK k X.K H a ys) : xs = ys := by
  cases k with
  | true => exact I.list_inj h h'
  | false => exact I.tuple_inj h h'
end
theorem draws_k {prog : Program} {w : World} {A : Around} (k : Bool) (hh : A.handled = none) (it l : Addr) (hne : l ≠ it) (its : Array Value) : Draws prog w A it [it, l] its.size (fun i v => its[i]? = some v) (fun i h => ItK k h it l i ∧ IsK k h l its) := by
  cases k with
  | true => exact Draws.list hh it l hne its
  | false => exact Draws.tuple hh it l hne its
theorem itK_obj {k : Bool} {h : Heap} {it a : Addr} {i : Nat} (x : ItK k h it a i) : ∃ o, h.get? it = some o ∧ ∀ v, o.data ≠ .cell v := by
  cases k with
  | true => obtain ⟨o, e, _, d⟩ := x; exact ⟨o, e, fun v q => by rw [d] at q; cases q⟩
  | false => obtain ⟨o, e, _, d⟩ := x; exact ⟨o, e, fun v q => by rw [d] at q; cases q⟩
theorem itK_keep {k : Bool} {h h' : Heap} {it a : Addr} {i : Nat} (x : ItK k h it a i) (e : ∀ o, h.get? it = some o → h'.get? it = some o) : ItK k h' it a i := by
  cases k with
  | true => exact Heap.IsListIter.at x e
  | false => exact Heap.IsTupleIter.at x e
/-- what the five cells of a zip are -/
structure Sep (z TI TO i1 i2 a b : Addr) : Prop where
  zs : ZipSep2 z TI TO i1 i2 [i1, a] [i2, b]
  n1 : a ≠ i1
  n2 : b ≠ i2
def ItX (K : PySem.W.Frag) (k1 k2 : Bool) (a b : Addr) : It :=
  ⟨fun i H => ∃ (xs ys : List V) (x y : V), SqK k1 K H a xs ∧ SqK k2 K H b ys ∧ xs[i]? = some x ∧ ys[i]? = some y,
    fun i H v H' => ∃ T x y, v = .ref T ∧ H T = none ∧ H' = upd H T (.tup [x, y]) ∧ (∀ xs, SqK k1 K H a xs → xs[i]? = some x) ∧ ∀ ys, SqK k2 K H b ys → ys[i]? = some y,
    fun i H => ∃ xs ys : List V, SqK k1 K H a xs ∧ SqK k2 K H b ys ∧ i ≤ xs.length ∧ i ≤ ys.length ∧ (i = xs.length ∨ i = ys.length)⟩
theorem turn_zipX {P : Program} {w : World} {K : PySem.W.Frag} {elts : List Expr} {kk : Nat} {tpos : Pos} {k1 k2 : Bool} {a b z TI TO i1 i2 : Addr} (D : Sep z TI TO i1 i2 a b) :
    Turn P w K (.Tuple elts kk tpos) (ItX K k1 k2 a b) [z, TI, TO, i1, i2] z (fun i h => IsZip h z TI TO .none ∧ IsTupOf2 h TI (.ref i1) (.ref i2) ∧ (∃ x y, IsTupOf2 h TO x y) ∧ ItK k1 h i1 a i ∧ ItK k2 h i2 b i) where
  mem := by simp
  obj := fun i h st c hc => by
    obtain ⟨hz, hTI, ⟨x, y, hTO⟩, h1, h2⟩ := st
    simp only [List.mem_cons, List.not_mem_nil, or_false] at hc
    rcases hc with q | q | q | q | q
    · rw [q]; exact ⟨_, hz, fun v q => nomatch q⟩
    · rw [q]; exact ⟨_, hTI, fun v q => nomatch q⟩
    · rw [q]; exact ⟨_, hTO, fun v q => nomatch q⟩
    · rw [q]; exact itK_obj h1
    · rw [q]; exact itK_obj h2
  keep := fun i h h' st e => by
    obtain ⟨hz, hTI, ⟨x, y, hTO⟩, h1, h2⟩ := st
    exact ⟨e z (by simp) _ hz, e TI (by simp) _ hTI, ⟨x, y, e TO (by simp) _ hTO⟩, itK_keep h1 (e i1 (by simp)), itK_keep h2 (e i2 (by simp))⟩
  item := by
    intro X hP hw hK hc i pins s σ H E I hf st hg
    subst hP hw hK
    obtain ⟨hz, hTI, ⟨x0, y0, hTO⟩, h1, h2⟩ := st
    obtain ⟨xs, ys, x, y, hqx, hqy, hx, hy⟩ := hg
    obtain ⟨its, rv, p, la⟩ := inv_seq I hqx
    obtain ⟨its2, rv2, p2, lb⟩ := inv_seq I hqy
    obtain ⟨u, hu, ru⟩ := rv.get hx
    obtain ⟨u2, hu2, ru2⟩ := rv2.get hy
    have hh : X.A.in1.handled = none := I.ok.hd hc
    have lx := (List.getElem?_eq_some_iff.mp hu).1
    have ly := (List.getElem?_eq_some_iff.mp hu2).1
    have hzl : z < s.heap.objs.size := Heap.lt_size hz
    refine wpAny_pyNext_zipD2_item D.zs (draws_k k1 hh i1 a D.n1 its.toArray) (draws_k k2 hh i2 b D.n2 its2.toArray) hz hTI hTO ⟨h1, p⟩ ⟨h2, p2⟩ (by simpa using lx) (by simpa using ly)
      fun v1 v2 h' tk e1 e2 z' TO' st1 st2 hT hsz hk => ?_
    have ev1 : v1 = u := by
      have q : its[i]? = some v1 := by simpa using e1
      rw [hu] at q; exact (Option.some.inj q).symm
    have ev2 : v2 = u2 := by
      have q : its2[i]? = some v2 := by simpa using e2
      rw [hu2] at q; exact (Option.some.inj q).symm
    subst ev1 ev2
    refine ⟨_, rfl, wpAny_letOwnedTupleGo_zip (s := { s with heap := h', toks := tk }) z' fun h'' z'' sb => ?_⟩
    have hT2 : h''.get? s.heap.objs.size = some { cls := .type "tuple", data := .seq #[v1, v2] } := (sb.2 _ (Nat.ne_of_gt hzl)).trans hT
    have new : ObjOk X.prog X.w (upd H s.heap.objs.size (.tup [x, y])) h'' s.heap.objs.size (.tup [x, y]) :=
      ⟨by show 2 ≤ sizeLine; decide, [v1, v2], .cons ru (.cons ru2 .nil), ⟨_, hT2, rfl, _, rfl⟩⟩
    have I1 : Inv X pins σ (upd H s.heap.objs.size (.tup [x, y])) { s with heap := h'', toks := tk } :=
      I.turnedNew (t' := tk) (ch := [z, TI, TO, i1, i2]) (fun c o hb q => (sb.2 c (fun q' => hb (by simp [q']))).trans (hk c o (fun q' => hb (by simp [q'])) (fun q' => hb (by simp [q'])) (fun q' => hb (by simp [q'])) (fun q' => hb (by simp [q'])) q)) hf (Nat.le_refl _) new
    refine ⟨.ref s.heap.objs.size, _, I1, rfl, ⟨_, x, y, rfl, I.hok.fresh (Nat.le_refl _), rfl, fun l hl => by rw [inv_inj I hl hqx]; exact hx, fun l hl => by rw [inv_inj I hl hqy]; exact hy⟩, ⟨z'', ?_, ⟨v1, v2, ?_⟩, ?_, ?_⟩, fun c hcm => ?_⟩
    · exact (sb.2 _ D.zs.TIz).trans (hk _ _ D.zs.TIz D.zs.TITO D.zs.TIi1 D.zs.TIi2 hTI)
    · exact (sb.2 _ D.zs.TOz).trans TO'
    · exact itK_keep st1.1 fun o q => (sb.2 _ (Ne.symm D.zs.zi1)).trans q
    · exact itK_keep st2.1 fun o q => (sb.2 _ (Ne.symm D.zs.zi2)).trans q
    · have hlt : c < s.heap.objs.size := by
        simp only [List.mem_cons, List.not_mem_nil, or_false] at hcm
        rcases hcm with q | q | q | q | q
        · rw [q]; exact hzl
        · rw [q]; exact Heap.lt_size hTI
        · rw [q]; exact Heap.lt_size hTO
        · rw [q]; obtain ⟨_, e1, _⟩ := itK_obj h1; exact Heap.lt_size e1
        · rw [q]; obtain ⟨_, e2, _⟩ := itK_obj h2; exact Heap.lt_size e2
      rw [upd_ne (Nat.ne_of_lt hlt)]
      exact (hf c hcm).1
  done := by
    intro X hP hw hK hc i pins s σ H E I hf st hg
    subst hP hw hK
    obtain ⟨hz, hTI, ⟨x0, y0, hTO⟩, h1, h2⟩ := st
    obtain ⟨xs, ys, hqx, hqy, e1, e2, e3⟩ := hg
    obtain ⟨its, rv, p, la⟩ := inv_seq I hqx
    obtain ⟨its2, rv2, p2, lb⟩ := inv_seq I hqy
    have hh : X.A.in1.handled = none := I.ok.hd hc
    have l1 := rv.length
    have l2 := rv2.length
    exact wpAny_pyNext_zipD2_end D.zs (draws_k k1 hh i1 a D.n1 its.toArray) (draws_k k2 hh i2 b D.n2 its2.toArray) hz hTI hTO ⟨h1, p⟩ ⟨h2, p2⟩ (by simp; omega) (by simp; omega) (by simp; omega)
      fun h' tk hk => ⟨rfl, I.turnedL (t' := tk) (ch := [z, TI, TO, i1, i2]) (fun c o hb q =>
        hk c o (fun q' => hb (by simp [q'])) (fun q' => hb (by simp [q'])) (fun q' => hb (by simp [q'])) (fun q' => hb (by simp [q'])) q) hf⟩
  self := fun A i s Q E st h => wpAny_pyIter_zip st.1 h
def itObj (k : Bool) (a : Addr) : Obj := if k = true then { cls := .type "list_iterator", data := .fields #[.ref a, .int 0 0] } else { cls := .type "tuple_iterator", data := .fields #[.ref a, .int 0 0] }
theorem begins_k (k : Bool) (a : Addr) (its : Array Value) : Begins (.ref a) (itObj k a) (fun h => IsK k h a its) := by
  cases k with
  | true => exact begins_list a its
  | false => exact begins_tuple a its
theorem itK_new {k : Bool} {h : Heap} {it a : Addr} (e : h.get? it = some (itObj k a)) : ItK k h it a 0 := by
  cases k with
  | true => exact ⟨_, e, rfl, rfl⟩
  | false => exact ⟨_, e, rfl, rfl⟩
def iZipX (K : PySem.W.Frag) (ta : TA) : TI := fun σ H R => ta σ H fun vs H1 => ∃ k1 k2 a b xs ys, vs = [.ref a, .ref b] ∧ SqK k1 K H1 a xs ∧ SqK k2 K H1 b ys ∧ R (ItX K k1 k2 a b) H1
theorem pi_zipX {X : Cx} {e e2 : Expr} {ta : TA} {p pos tpos : Pos} {elts : List Expr} {kk : Nat} (hg : Gl X "zip") (hm : X.mg "zip" = none) (ha : PA X [e, e2] ta)
    (hs : starEach [e, e2] X.env = (false, eval e X.env) :: starEach [e2] X.env := by rfl) (hpl : (backTo pos (starEach [e2] X.env)).any (·.1) = false := by rfl) :
    PI X (.Tuple elts kk tpos) (.Call (.Name "zip" p) [e, e2] [] pos) (iZipX X.K ta) := by
  refine ⟨fun pins s σ H R I h => ?_⟩
  refine Call_ (ld_blt I hg hm PyProof.Rows.boot_zip (PyProof.Rows.callWith_type1 (thn (ha.run pos pins s σ H _ I h) fun us s1 ⟨vs, H1, I1, r1, q1⟩ => ?_) hs hpl))
  obtain ⟨k1, k2, a, b, xs, ys, ex, hx, hy, q⟩ := q1
  subst ex
  cases r1 with
  | cons r rr =>
    cases rr with
    | cons r' rr =>
      cases rr
      cases r
      cases r'
      obtain ⟨its, rv, p1, la⟩ := inv_seq I1 hx
      obtain ⟨its2, rv2, p2, lb⟩ := inv_seq I1 hy
      refine zip_begins2 (begins_k k1 a its.toArray) (begins_k k2 b its2.toArray) p1 p2 fun h' z TI TO o1 o2 hsz hk => wpAny_pyIter_zip z ?_
      have sep : ZipSep2 (s1.heap.objs.size + 4) (s1.heap.objs.size + 2) (s1.heap.objs.size + 3) s1.heap.objs.size (s1.heap.objs.size + 1) [s1.heap.objs.size, a] [s1.heap.objs.size + 1, b] :=
        zip_sep2 (fp1 := [a]) (fp2 := [b]) (fun c hc => by rw [List.mem_singleton.mp hc]; exact la) (fun c hc => by rw [List.mem_singleton.mp hc]; exact lb)
      refine ⟨s1.heap.objs.size + 4, [s1.heap.objs.size + 4, s1.heap.objs.size + 2, s1.heap.objs.size + 3, s1.heap.objs.size, s1.heap.objs.size + 1], _, _, H1, rfl, I1.kept (t' := s1.toks) hk,
        turn_zipX ⟨sep, Nat.ne_of_lt la, Nat.ne_of_lt (Nat.lt_succ_of_lt lb)⟩, ⟨z, TI, ⟨_, _, TO⟩, itK_new o1, itK_new o2⟩, fun c hc => ?_, q⟩
      have hle : s1.heap.objs.size ≤ c := by
        simp only [List.mem_cons, List.not_mem_nil, or_false] at hc
        rcases hc with z | z | z | z | z <;> rw [z] <;> first | exact Nat.le_refl _ | exact Nat.le_add_right _ _
      exact I1.fpOk hle (I1.hok.fresh hle)
section
variable {K : PySem.W.Frag} {Γ Γ1 : Ga} {tr : TA} {ds es : List PyData} {I : Hp}
/-- the items of a list or a tuple -/
def seqD : PyData → Option (List PyData)
  | .list ds => some ds
  | .tuple ds => some ds
  | _ => none
theorem dp_seq {x : V} {d : PyData} (h : Dp K I x d) (e : seqD d = some ds) : ∃ k p vs, x = .ref p ∧ SqK k K I p vs ∧ DpAll K I vs ds := by
  cases h with
  | lst a b => cases e; exact ⟨true, _, _, rfl, a, b⟩
  | tup a b => cases e; exact ⟨false, _, _, rfl, a, b⟩
  | _ => cases e
theorem wd_zipX {k1 k2 : Bool} {a b : Addr} {xs ys : List PyData} {vs ws : List V} (ha : SqK k1 K I a vs) (hb : SqK k2 K I b ws) (da : DpAll K I vs xs) (db : DpAll K I ws ys) : WD K (ItX K k1 k2 a b) (zipD xs ys) I := by
  have l1 := Da.len da
  have l2 := Da.len db
  refine ⟨fun i H hi e => ?_, fun H e => ⟨vs, ws, sqK_ex e ha, sqK_ex e hb, ?_⟩, fun i d H I1 x H' e u v y => ?_⟩
  · rw [zip_len] at hi
    exact ⟨vs, ws, vs[i]'(by omega), ws[i]'(by omega), sqK_ex e ha, sqK_ex e hb, List.getElem?_eq_getElem _, List.getElem?_eq_getElem _⟩
  · rw [zip_len]; omega
  · obtain ⟨T, p, q, rfl, hT, rfl, f1, f2⟩ := y
    obtain ⟨d1, d2, e1, e2, rfl⟩ := zip_at e
    obtain ⟨v1, q1, r1⟩ := Da.at da e1
    obtain ⟨v2, q2, r2⟩ := Da.at db e2
    have z1 := f1 vs (sqK_ex (u.trans v) ha)
    have z2 := f2 ws (sqK_ex (u.trans v) hb)
    rw [q1] at z1; rw [q2] at z2; cases z1; cases z2
    exact ⟨_, (pair_dp (Dp.ex r1 u) (Dp.ex r2 u) v hT).1, (pair_dp (Dp.ex r1 u) (Dp.ex r2 u) v hT).2⟩
theorem ri_zip {d1 d2 : PyData} (h : RA K tr Γ [d1, d2] Γ1) (h1 : seqD d1 = some ds) (h2 : seqD d2 = some es) : RI K (iZipX K tr) Γ (zipD ds es) Γ1 := fun σ H I ad s R q => h σ H I ad s _ fun vs H1 I1 ad1 s1 g1 b1 p1 => by
  obtain ⟨v, w, rfl, q1, q2⟩ := da2 p1
  obtain ⟨k1, a, xs, rfl, ha, da⟩ := dp_seq q1 h1
  obtain ⟨k2, b, ys, rfl, hb, db⟩ := dp_seq q2 h2
  exact ⟨k1, k2, a, b, xs, ys, rfl, sqK_ex s1.sub ha, sqK_ex s1.sub hb, q _ H1 I1 ad1 s1 g1 b1 (wd_zipX ha hb da db)⟩
end

/-! ### tuple * 1 -/
theorem tuple_mul1 (l : Addr) (items : Array Value) (n : Nat) (dd : Option Addr) (sl : Array (Option Value)) (u : Tok) :
    Meets (Builtin.«tuple.__mul__» ⟨[.ref l, .int 1 u], []⟩) (fun _ R s => s.heap.get? l = some { cls := .type "tuple", dict := dd, data := .seq items n, slots := sl } ∧ R (.ok (.ret (Value.ref l))) s) :=
  .of_wp fun prog w A R s h => by
    obtain ⟨hp, g, d, tk, os⟩ := s
    obtain ⟨hl, h⟩ := h
    have f1 := AutoSeq1.idx_int
    have c1 : (items.isEmpty || (1 : Int) == 1) = true := by simp
    wp_walk using wpAny_loadPart' hl
    exact ⟨_, rfl, h⟩
def rRep1 (K : PySem.W.Frag) : R2 := fun x y H Q => ∃ l xs, x = .ref l ∧ y = .int 1 ∧ SqT K H l xs ∧ Q (.ref l) H
theorem op_rep1 {X : Cx} : OpR X (binaryOp .Mult) (rRep1 X.K) := by
  intro pins s σ H x y v u Q I rx ry h
  obtain ⟨l, xs, rfl, rfl, hT, q⟩ := h
  cases rx
  obtain ⟨t, rfl⟩ := ry
  obtain ⟨its, r, ⟨⟨cls, dd, data, sl⟩, ho, hc, n, hd⟩, hs⟩ := I.tuple hT
  simp only at hc hd
  subst hc hd
  refine wpAny_binaryOp_repeat_ref (T := "tuple") (U := "int") (by decide) ⟨_, ho, rfl⟩ (fun s' => typeIs_int s' 1 t) noFill_tuple_mul F.fills_int_mul F.slot_int_rmul repeat_tuple F.slot_int_index.lookup
    (call_meets F.slot_int_rmul (typeIs_int s 1 t) F.entry_int_rmul (F.args_int_rmul_2 _ _) (int_rmul_tuple 1 t l its.toArray n dd sl)
      ⟨ho, rfl, ⟨_, ho, rfl⟩, call_meets F.slot_tuple_mul ⟨_, ho, rfl⟩ F.entry_tuple_mul (F.args_tuple_mul_2 _ _) (tuple_mul1 l its.toArray n dd sl t) ⟨ho, ?_⟩⟩)
  exact ⟨.ref l, H, I, rfl, q⟩

/-! ### + and *, whatever the operands are -/
abbrev rAddX (K : PySem.W.Frag) : R2 := fun x y H Q => rI0 (fun i j => V.int (i + j)) x y H Q ∨ (rCatA K x y H Q ∨ rCat x y H Q)
theorem op_addX {X : Cx} : OpR X (binaryOp .Add) (rAddX X.K) := op_add.or (op_catA.or op_cat)
abbrev rMulX (K : PySem.W.Frag) : R2 := fun x y H Q => rI IntMulOk (fun i j => V.int (i * j)) x y H Q ∨ (rRep x y H Q ∨ (rRep1 K x y H Q ∨ rRepT K x y H Q))
theorem op_mulA {X : Cx} : OpR X (binaryOp .Mult) (rMulX X.K) := op_mulX.or (op_rep.or (op_rep1.or op_repT))
abbrev rEqX (K : PySem.W.Frag) : R2 := fun x y H Q => rEq x y H Q ∨ rEqD K x y H Q
abbrev rNeX (K : PySem.W.Frag) : R2 := fun x y H Q => rNe x y H Q ∨ rNeD K x y H Q
theorem op_eqX {X : Cx} (hu : X.A.units + 64 < cLine) : OpR X (compareOp .Eq) (rEqX X.K) := op_eq.or (op_eqD hu)
theorem op_neX {X : Cx} (hu : X.A.units + 64 < cLine) : OpR X (compareOp .NotEq) (rNeX X.K) := op_ne.or (op_neD hu)
theorem sl_any {X : Cx} : SlR X (rSlAny X.K) := SlR.or sl_list sl_tupA
section
variable {K : PySem.W.Frag} {Γ Γ1 Γ2 : Ga} {ta tb te : TE} {d d1 d2 : PyData} {ds es : List PyData} {i j : Int}
theorem re_addI (ha : RE K ta Γ (.int i) Γ1) (hb : RE K tb Γ1 (.int j) Γ2) : RE K (tOp (rAddX K) ta tb) Γ (.int (i + j)) Γ2 := re_op ha hb (od_l od_add)
theorem re_addT (ha : RE K ta Γ (.tuple ds) Γ1) (hb : RE K tb Γ1 (.tuple es) Γ2) (hz : ds.length + es.length ≤ sizeLine) : RE K (tOp (rAddX K) ta tb) Γ (.tuple (ds ++ es)) Γ2 := re_op ha hb (od_r (od_l (od_catT hz)))
theorem rl_addL (ha : RL K ta Γ ds Γ1) (hb : RL K tb Γ1 es Γ2) (hz : ds.length + es.length ≤ sizeLine) : RL K (tOp (rAddX K) ta tb) Γ (ds ++ es) Γ2 := fun σ H I ad s Q q =>
  ha σ H I ad s _ fun p us H1 I1 ad1 s1 g1 b1 hp hi hu hd => hb σ H1 I1 ad1 s1 _ fun p2 ws H2 I2 ad2 s2 g2 b2 hp2 hi2 hw hd2 => by
    have no1 : ¬ Own ad1 p := fun z => s.free hp (b1.own p z)
    refine .inr (.inr ⟨p, p2, us, ws, rfl, rfl, g2.h p _ no1 hu, hw, by rw [Da.len hd, Da.len hd2]; exact hz, fun l hl => ?_⟩)
    exact q l _ _ I2 ad2 (s2.fresh hl).1 (g1.trans ((g2.mono b1.own).trans (s2.fresh hl).2.no)) (b1.trans b2) (g1.k l (g2.k l hl)) (s2.sub.non_ hl) upd_same (Da.app (Da.ex hd g2.i) hd2)
theorem re_subI (ha : RE K ta Γ (.int i) Γ1) (hb : RE K tb Γ1 (.int j) Γ2) : RE K (tOp (rI0 fun i j => V.int (i - j)) ta tb) Γ (.int (i - j)) Γ2 := re_op ha hb od_sub
theorem re_mulI (ha : RE K ta Γ (.int i) Γ1) (hb : RE K tb Γ1 (.int j) Γ2) (hm : IntMulOk i j) : RE K (tOp (rMulX K) ta tb) Γ (.int (i * j)) Γ2 := re_op ha hb (od_l (od_mul hm))
theorem rl_mulL (ha : RL K ta Γ ds Γ1) (hb : RE K tb Γ1 (.int j) Γ2) (h0 : 0 ≤ j ∧ j ≤ 1000000) (hz : ds.length * j.toNat ≤ sizeLine) : RL K (tOp (rMulX K) ta tb) Γ (List.replicate j.toNat ds).flatten Γ2 := fun σ H I ad s Q q =>
  ha σ H I ad s _ fun p us H1 I1 ad1 s1 g1 b1 hp hi hu hd => hb σ H1 I1 ad1 s1 _ fun y H2 I2 ad2 s2 g2 b2 p2 => by
    cases p2
    have no1 : ¬ Own ad1 p := fun z => s.free hp (b1.own p z)
    refine .inr (.inl ⟨p, j, us, rfl, rfl, g2.h p _ no1 hu, by omega, by omega, by rw [Da.len hd]; exact hz, fun l hl => ?_⟩)
    exact q l _ _ I2 ad2 (s2.fresh hl).1 (g1.trans ((g2.mono b1.own).trans (s2.fresh hl).2.no)) (b1.trans b2) (g1.k l (g2.k l hl)) (s2.sub.non_ hl) upd_same (da_rep (Da.ex hd g2.i) _)
/-- (x,) * n, n from 1 on -/
theorem re_mulT (ha : RE K ta Γ (.tuple [d]) Γ1) (hb : RE K tb Γ1 (.int j) Γ2) (h0 : 1 ≤ j ∧ j ≤ 1000) : RE K (tOp (rMulX K) ta tb) Γ (.tuple (List.replicate j.toNat d)) Γ2 := fun σ H I ad s Q q =>
  ha σ H I ad s _ fun x H1 I1 ad1 s1 g1 b1 p1 => hb σ H1 I1 ad1 s1 _ fun y H2 I2 ad2 s2 g2 b2 p2 => by
    cases p2
    have p1' := Dp.ex p1 g2.i
    obtain ⟨a, xs, rfl, h1, h2⟩ := dp_tup p1'
    have gg := g1.trans (g2.mono b1.own)
    by_cases hj : j = 1
    · subst hj
      exact .inr (.inr (.inl ⟨a, xs, rfl, rfl, sqT_ex s2.sub h1, q _ H2 I2 ad2 s2 gg (b1.trans b2) p1'⟩))
    · obtain ⟨v, rfl, hv⟩ := da1 h2
      refine .inr (.inr (.inr ⟨a, j, [v], rfl, rfl, sqT_ex s2.sub h1, by simp, by omega, h0.2, by simp, fun p hp => ?_⟩))
      have e : ∀ n : Nat, DpAll K I2 (List.replicate n [v]).flatten (List.replicate n d) := fun n => by
        induction n with
        | zero => exact .nil
        | succ n ih => rw [List.replicate_succ, List.replicate_succ, List.flatten_cons]; exact .cons hv ih
      exact q _ _ _ ad2 (s2.gr (Gr.new s2.sub hp)) (gg.trans (Gr.new s2.sub hp).no) (b1.trans b2) (.tup (.inl (.inl upd_same)) (Da.ex (e _) (Ex.new_ (s2.sub.non_ hp))))
theorem re_eqI (ha : RE K ta Γ (.int i) Γ1) (hb : RE K tb Γ1 (.int j) Γ2) : RE K (tOp (rEqX K) ta tb) Γ (.bool (decide (i = j))) Γ2 := re_op ha hb (od_l od_eqI)
theorem re_neI (ha : RE K ta Γ (.int i) Γ1) (hb : RE K tb Γ1 (.int j) Γ2) : RE K (tOp (rNeX K) ta tb) Γ (.bool (!decide (i = j))) Γ2 := re_op ha hb (od_l od_neI)
theorem re_eqD (ha : RE K ta Γ d1 Γ1) (hb : RE K tb Γ1 d2 Γ2) (h1 : SeqAt.shaped d1 = true) (h2 : SeqAt.shaped d2 = true) : RE K (tOp (rEqX K) ta tb) Γ (.bool (PyData.eqv d1 d2)) Γ2 := re_op ha hb (od_r (od_eqD h1 h2))
theorem re_neD (ha : RE K ta Γ d1 Γ1) (hb : RE K tb Γ1 d2 Γ2) (h1 : SeqAt.shaped d1 = true) (h2 : SeqAt.shaped d2 = true) : RE K (tOp (rNeX K) ta tb) Γ (.bool (!PyData.eqv d1 d2)) Γ2 := re_op ha hb (od_r (od_neD h1 h2))
theorem re_fdivI {C : Int → Int → Prop} (ha : RE K ta Γ (.int i) Γ1) (hb : RE K tb Γ1 (.int j) Γ2) (h : C i j) : RE K (tOp (rI C fun i j => V.int (i.fdiv j)) ta tb) Γ (.int (i.fdiv j)) Γ2 := re_op ha hb (od_fdiv h)
theorem re_modI (ha : RE K ta Γ (.int i) Γ1) (hb : RE K tb Γ1 (.int j) Γ2) (h : j ≠ 0) : RE K (tOp (rI (fun _ j => j ≠ 0) fun i j => V.int (i.fmod j)) ta tb) Γ (.int (i.fmod j)) Γ2 := re_op ha hb (od_mod h)
theorem re_powI (ha : RE K ta Γ (.int i) Γ1) (hb : RE K tb Γ1 (.int j) Γ2) (h : CPow i j) : RE K (tOp (rI CPow fun i j => V.int (i ^ j.toNat)) ta tb) Γ (.int (i ^ j.toNat)) Γ2 := re_op ha hb (od_pow h)
theorem re_ixL (ha : RE K ta Γ (.list ds) Γ1) (hb : RE K tb Γ1 (.int i) Γ2) (e : atI ds i = some d) : RE K (tOp (rIx K) ta tb) Γ d Γ2 := re_op ha hb (od_ixL e)
theorem re_ixT (ha : RE K ta Γ (.tuple ds) Γ1) (hb : RE K tb Γ1 (.int i) Γ2) (e : atI ds i = some d) : RE K (tOp (rIx K) ta tb) Γ d Γ2 := re_op ha hb (od_ixT e)
theorem re_ixS (ha : RE K ta Γ d1 Γ1) (hs : seqD d1 = some ds) (hb : RE K tb Γ1 (.int i) Γ2) (e : atI ds i = some d) : RE K (tOp (rIx K) ta tb) Γ d Γ2 := by
  cases d1 <;> first | cases hs | skip
  · exact re_ixL ha hb e
  · exact re_ixT ha hb e
/-- isinstance(e, T), T a built-in class -/
theorem re_isi {T : String} {b : Bool} (h : RE K te Γ d Γ1) (hb : (match d with
    | .none => PySem.W.kitOne K (.type "NoneType") (.type T) | .bool _ => PySem.W.kitOne K (.type "bool") (.type T) | .int _ => PySem.W.kitOne K (.type "int") (.type T) | .str _ => PySem.W.kitOne K (.type "str") (.type T)
    | .list _ => PySem.W.kitOne K (.type "list") (.type T) | .tuple _ => PySem.W.kitOne K (.type "tuple") (.type T) | .dict _ => none) = some b) : RE K (tCB (rIsi K) (tCons te (tCons (tC (.ty T)) tNil))) Γ (.bool b) Γ1 := fun σ H I ad s Q q =>
  h σ H I ad s _ fun v H1 I1 ad1 s1 g1 b1 p1 => by
    have fin := q (.bl b) H1 I1 ad1 s1 g1 b1 (.bl b)
    cases p1 with
    | non => exact ⟨_, _, _, _, b, rfl, .ty T, .base .non, hb, fin⟩
    | bl x => exact ⟨_, _, _, _, b, rfl, .ty T, .base (.bl x), hb, fin⟩
    | int x => exact ⟨_, _, _, _, b, rfl, .ty T, .base (.int x), hb, fin⟩
    | str x => exact ⟨_, _, _, _, b, rfl, .ty T, .base (.str x), hb, fin⟩
    | lst a _ =>
      rcases sqL_ex s1.sub a with (a | ⟨o, a⟩) | ⟨o, its, n, a, c, _⟩
      · exact ⟨_, _, _, _, b, rfl, .ty T, .base (.lst a), hb, fin⟩
      · exact ⟨_, _, _, _, b, rfl, .ty T, .base (.frz a), hb, fin⟩
      · exact ⟨_, _, _, _, b, rfl, .ty T, .kList a c, hb, fin⟩
    | tup a _ =>
      rcases sqT_ex s1.sub a with (a | ⟨o, a⟩) | ⟨o, its, n, a, c, _⟩
      · exact ⟨_, _, _, _, b, rfl, .ty T, .base (.tup a), hb, fin⟩
      · exact ⟨_, _, _, _, b, rfl, .ty T, .fTuple a, hb, fin⟩
      · exact ⟨_, _, _, _, b, rfl, .ty T, .kTuple a c, hb, fin⟩
end
end DL

/-! DL7: defs that are called by name, the surroundings, targets of any kind. -/
namespace DL
open PySem PySem.Spec PyProof.Rows L2

structure Sur (P : Program) (mg : Str → Option Value) (base : Heap) : Prop where
  no : ∀ x ∈ (["range", "zip", "len", "sum", "tuple", "list", "int", "sorted", "all", "any", "min", "max", "isinstance", "enumerate", "bool", "abs", "repr", "set", "dict", "str", "reversed"] : List Str), mg x = none
  seer : base.NoSeer
  tree : P.given.tree = none
structure Cal (P : Program) (w : World) (K : PySem.W.Frag) (mg : Str → Option Value) (base : Heap) (x : Str) (k : Nat) (ps : List Str) (sp : Sp) : Prop where
  ex : ∃ f fd, FnOk P w K mg base CX0 k f fd ps sp ∧ mg x = some (.ref f) ∧ PySem.W.keepIn K (.ref f) = true ∧ Binds K fd ps []
structure FunAt (K : PySem.W.Frag) (mg : Str → Option Value) (x : Str) (st : Stmt) : Prop where
  ex : ∃ f fd, Fun K x x st f fd ∧ mg x = some (.ref f)
theorem pe_own {X : Cx} {x : Str} {k : Nat} {ps : List Str} {sp : Sp} {p pos : Pos} {e : Expr} {es : List Expr} {t : TA} (C : Cal X.prog X.w X.K X.mg X.base x k ps sp) (hr : Room k X.A) (hg : Gl X x) (ha : PA X (e :: es) t) (hdb : (x == ("__debug__" : Str)) = false := by decide) (he : starEach (e :: es) X.env = (false, eval e X.env) :: starEach es X.env := by rfl) (hpl : (backTo pos (starEach es X.env)).any (·.1) = false := by rfl) :
    PE X (.Call (.Name x p) (e :: es) [] pos) (tCall sp [] E0 t) := by
  obtain ⟨f, fd, G, hm, hk, hb⟩ := C.ex
  exact pe_call G hr hg hm hk hb .nil pass0 ha hdb he hpl
section
variable {P : Program} {w : World} {K : PySem.W.Frag} {mg : Str → Option Value} {base : Heap}
theorem cal_pure {x : Str} {st : Stmt} {N ps : List Str} {k : Nat} {F : List PyData → PyData → Prop} (A : FunAt K mg x st) (S : FnScope N ps (defScope st))
    (bnd : ∀ (kV doc pm : Value) (an : Option Addr) (cdv ct : Value) (us : List Value), us.length = ps.length → bindArgs (PySem.W.fnOf x x (defArgs st) (defBody st) (defScope st) .none kV doc pm an cdv ct) ⟨us, []⟩ = pure (ps.zip us))
    (len : ∀ ds d, F ds d → ds.length = ps.length)
    (body : ∀ (f : Addr) (cdv : Value) (A : Around) (outer : List Env) (s : Shared) (H : Hp) (E : XK), Room k (A.deeper (envOfC x (defScope st) s.heap.objs.size f cdv)) →
      ∃ t, PSs (cxOf CX0 P w K mg base N x (defScope st) f cdv A outer s H E).nox (defBody st) t ∧ ∀ ds d, F ds d → RS K false t (gst N ds) ⟨fun _ => d = .none, fun d' _ => d' = d, fun _ => False, fun _ => False⟩) :
    Cal P w K mg base x (k + 1) ps (PR K F) := by
  obtain ⟨f, fd, Fn, hm⟩ := A.ex
  exact ⟨f, fd, fn_pure Fn S len (body f), hm, Fn.kp, Fn.binds bnd⟩
theorem cal_own {x : Str} {st : Stmt} {N ps : List Str} {k : Nat} {F : Sl → List PyData → PyData → Sl → Prop} (A : FunAt K mg x st) (S : FnScope N ps (defScope st))
    (bnd : ∀ (kV doc pm : Value) (an : Option Addr) (cdv ct : Value) (us : List Value), us.length = ps.length → bindArgs (PySem.W.fnOf x x (defArgs st) (defBody st) (defScope st) .none kV doc pm an cdv ct) ⟨us, []⟩ = pure (ps.zip us))
    (len : ∀ sl ds d sl', F sl ds d sl' → ds.length + 1 = ps.length ∧ sl'.flat = false)
    (body : ∀ (f : Addr) (cdv : Value) (A : Around) (outer : List Env) (s : Shared) (H : Hp) (E : XK), Room k (A.deeper (envOfC x (defScope st) s.heap.objs.size f cdv)) →
      ∃ t, PSs (cxOf CX0 P w K mg base N x (defScope st) f cdv A outer s H E).nox (defBody st) t ∧ ∀ sl ds d sl', F sl ds d sl' → RS K true t (gstO N sl ds) ⟨fun Γ => d = .none ∧ Γ[0]? = some sl', fun d' Γ => d' = d ∧ Γ[0]? = some sl', fun _ => False, fun _ => False⟩) :
    Cal P w K mg base x (k + 1) ps (PO K F) := by
  obtain ⟨f, fd, Fn, hm⟩ := A.ex
  exact ⟨f, fd, fn_own Fn S len (body f), hm, Fn.kp, Fn.binds bnd⟩
end
/-- a, b = a tuple or a list -/
abbrev gAny (K : PySem.W.Frag) (n : Nat) (t : TGs) : TG := fun v σ H Q => gTup K n t v σ H Q ∨ gUnl K n t v σ H Q
theorem PG.or {X : Cx} {e : Expr} {g h : TG} (a : PG X e g) (b : PG X e h) : PG X e (fun v σ H Q => g v σ H Q ∨ h v σ H Q) :=
  ⟨fun pins s σ H v u Q I r q => q.elim (a.run pins s σ H v u Q I r) (b.run pins s σ H v u Q I r)⟩
theorem pg_any {X : Cx} {pos : Pos} {es : List Expr} {k : Nat} {t : TGs} {n : Nat} (hc : X.calm = true) (h : PGs X es t)
    (hn : (assignEach es X.env).length = n := by rfl) (hst : (assignEach es X.env).findIdx? (·.1) = none := by rfl) : PG X (.Tuple es k pos) (gAny X.K n t) := PG.or (pg_tup hc h hn hst) (pg_unl hc h hn hst)
section
variable {K : PySem.W.Frag} {Γ Γ1 : Ga} {gs : TGs} {ds : List PyData} {n : Nat} {ws : List Nat}
theorem rg_anyT (h : RGs K gs ds Γ Γ1 ws) (hn : ds.length = n := by rfl) : RG K (gAny K n gs) (.tuple ds) Γ Γ1 ws := fun σ H I ad x Q s p q => .inl (rg_tup h hn σ H I ad x Q s p q)
theorem rg_anyL (h : RGs K gs ds Γ Γ1 ws) (hn : ds.length = n := by rfl) : RG K (gAny K n gs) (.list ds) Γ Γ1 ws := fun σ H I ad x Q s p q => .inr (rg_unl h hn σ H I ad x Q s p q)
end

/-! ### the rules with the written part named (in a block X.K is not yet reduced) -/
section
variable {X : Cx} {e e2 a b o l tg : Expr} {es : List Expr} {te ta tb tl to : TE} {t : TA} {p pos tpos cpos apos p2 : Pos} {name : Str}
theorem kAdd (K : PySem.W.Frag) (h : X.K = K := by rfl) : OpR X (binaryOp .Add) (rAddX K) := by subst h; exact op_addX
theorem kMul (K : PySem.W.Frag) (h : X.K = K := by rfl) : OpR X (binaryOp .Mult) (rMulX K) := by subst h; exact op_mulA
theorem kEq (K : PySem.W.Frag) (hu : X.A.units + 64 < cLine) (h : X.K = K := by rfl) : OpR X (compareOp .Eq) (rEqX K) := by subst h; exact op_eqX hu
theorem kNe (K : PySem.W.Frag) (hu : X.A.units + 64 < cLine) (h : X.K = K := by rfl) : OpR X (compareOp .NotEq) (rNeX K) := by subst h; exact op_neX hu
theorem kIn (K : PySem.W.Frag) (h : X.K = K := by rfl) : OpR X (compareOp .In) (rIn K false) := by subst h; exact op_in_seq
theorem kNotIn (K : PySem.W.Frag) (h : X.K = K := by rfl) : OpR X (compareOp .NotIn) (rIn K true) := by subst h; exact op_notIn_seq
theorem kIx (K : PySem.W.Frag) (h : X.K = K := by rfl) : IxR X (rIx K) := by subst h; exact ix_seq
theorem kSl (K : PySem.W.Frag) (h : X.K = K := by rfl) : SlR X (rSlAny K) := by subst h; exact sl_any
theorem kSeq (K : PySem.W.Frag) (hl : PE X l tl) (h : X.K = K := by rfl) : PI X tg l (iSeq K tl) := by subst h; exact pi_seq hl
theorem kZip (K : PySem.W.Frag) {elts : List Expr} {kk : Nat} (hg : Gl X "zip") (hm : X.mg "zip" = none) (ha : PA X [e, e2] t)
    (hs : starEach [e, e2] X.env = (false, eval e X.env) :: starEach [e2] X.env := by rfl) (hpl : (backTo pos (starEach [e2] X.env)).any (·.1) = false := by rfl) (h : X.K = K := by rfl) :
    PI X (.Tuple elts kk tpos) (.Call (.Name "zip" p) [e, e2] [] pos) (iZipX K t) := by subst h; exact pi_zipX hg hm ha hs hpl
theorem kAny (K : PySem.W.Frag) {k : Nat} {gs : TGs} {n : Nat} (hc : X.calm = true) (h0 : PGs X es gs)
    (hn : (assignEach es X.env).length = n := by rfl) (hst : (assignEach es X.env).findIdx? (·.1) = none := by rfl) (h : X.K = K := by rfl) : PG X (.Tuple es k pos) (gAny K n gs) := by subst h; exact pg_any hc h0 hn hst
theorem kTuple (K : PySem.W.Frag) (hg : Gl X "tuple") (hm : X.mg "tuple" = none) (ha : PE X a ta) (na : starEach [a] X.env = (false, eval a X.env) :: starEach [] X.env := by rfl) (h : X.K = K := by rfl) :
    PE X (.Call (.Name "tuple" p) [a] [] pos) (tThen ta (kTup K)) := by subst h; exact pe_tupleOf hg hm ha na
theorem kLen (K : PySem.W.Frag) (h : X.K = K := by rfl) : CallR X (.builtin "len") (rLen K) := by subst h; exact call_len
theorem kSum (K : PySem.W.Frag) (hc : X.calm = true) (h : X.K = K := by rfl) : CallR X (.builtin "sum") (rSum K) := by subst h; exact cr_sum hc
theorem kAll (K : PySem.W.Frag) (hc : X.calm = true) (h : X.K = K := by rfl) : CallR X (.builtin "all") (rAll K) := by subst h; exact cr_all hc
theorem kAnyB (K : PySem.W.Frag) (hc : X.calm = true) (h : X.K = K := by rfl) : CallR X (.builtin "any") (rAny K) := by subst h; exact cr_any hc
theorem kSorted (K : PySem.W.Frag) (h : X.K = K := by rfl) : CallR X (.builtin "sorted") (rSorted K) := by subst h; exact cr_sorted
theorem kList (K : PySem.W.Frag) (h : X.K = K := by rfl) : CallR X (.type "list") (rListOf K) := by subst h; exact call_list_of
theorem kIsi (K : PySem.W.Frag) (h : X.K = K := by rfl) : CallR X (.builtin "isinstance") (rIsi K) := by subst h; exact call_isi
theorem kIndex (K : PySem.W.Frag) (h : X.K = K := by rfl) : MtR X "list.index" (rIndex K) := by subst h; exact mt_index
theorem kMeth (K : PySem.W.Frag) {T id : String} {r : V → List V → Hp → VK → Prop} (pa : PlainAttrs T) (slot : Slot T name id) (hty : typeOf (.builtin id) = pure (.type "method_descriptor")) (hm : MtR X id r) (ho : PE X o to) (ha : PA X (e :: es) t)
    (hbase : attributeBase o name X.env (eval o X.env) = eval o X.env := by rfl)
    (hfew : ((backTo cpos (starEach (e :: es) X.env)).all (fun x => !x.1) && (backToKw cpos (keywordEach [] X.env)).all (fun x => x.1.isSome)
      && decide ((e :: es).length + ([] : List Keyword).length + (if ([] : List Keyword).isEmpty then 0 else 1) < 30)) = true := by rfl)
    (hline : (apos.endLine == cpos.line) = true := by rfl) (hs : starEach (e :: es) X.env = (false, eval e X.env) :: starEach es X.env := by rfl) (hplain : (backTo cpos (starEach es X.env)).any (·.1) = false := by rfl) (h : X.K = K := by rfl) :
    PE X (.Call (.Attribute o name apos) (e :: es) [] cpos) (tBM K T r to t) := by subst h; exact pe_bm pa slot hty hm ho ha hbase hfew hline hs hplain
end
end DL

/-! DL8: comprehensions in short: pure ones, by a list of any type and what each item gives. -/
namespace DL
open PySem PySem.Spec PyProof.Rows L2
def flatAt (Γ : Ga) (vs : List Nat) : Bool := vs.all fun j => match Γ[j]? with
  | some sl => sl.flat
  | none => false
section
variable {K : PySem.W.Frag} {Γ Γ1 Γ2 Γ' : Ga} {d d1 d2 : PyData} {ds es : List PyData} {te : TE} {tr : TA} {wi : TI} {tt : TT} {i j : Nat} {α β : Type}
theorem flat_of {vs : List Nat} (h : flatAt Γ vs = true) : ∀ j ∈ vs, ∃ sl, Γ[j]? = some sl ∧ sl.flat = true ∧ Γ[j]? = some sl := fun j hj => by
  have := List.all_eq_true.mp h j hj
  cases e : Γ[j]? with
  | none => rw [e] at this; cases this
  | some sl => rw [e] at this; exact ⟨sl, rfl, this, rfl⟩
theorem flat_lt {vs : List Nat} (h : flatAt Γ vs = true) {j : Nat} (hj : j ∈ vs) : j < Γ.length := by
  obtain ⟨sl, e, _⟩ := flat_of h j hj
  exact (List.getElem?_eq_some_iff.mp e).1
theorem set_un {j : Nat} (h : j < Γ.length) (hu : Γ[j]? = some .un) : Γ.set j .un = Γ := by
  apply List.ext_getElem?
  intro k
  by_cases z : j = k
  · subst z; rw [List.getElem?_set_self h, hu]
  · rw [List.getElem?_set_ne z]
theorem wipe_set {vs : List Nat} {sl : Sl} (hj : j ∈ vs) : wipeG ((wipeG Γ vs).set j sl) vs = wipeG Γ vs := by
  apply List.ext_getElem?
  intro k
  by_cases hk : k ∈ vs
  · by_cases hb : k < Γ.length
    · rw [wipeG_in hk (by rw [List.length_set, wipeG_length]; exact hb), wipeG_in hk hb]
    · rw [List.getElem?_eq_none (by rw [wipeG_length, List.length_set, wipeG_length]; omega), List.getElem?_eq_none (by rw [wipeG_length]; omega)]
  · rw [wipeG_out hk, List.getElem?_set_ne (fun z => hk (by rw [← z]; exact hj))]
theorem rt_yes : RT K tYes Γ true Γ := fun σ H I ad s Q q => q H I ad s (Gr.refl s.sub) (Sb.refl ad)
/-- [e for x in xs] -/
theorem rl_map (xs : List α) (en out : α → PyData) (h : RI K wi Γ (xs.map en) Γ1) (hl : xs.length ≤ 1000000) (elt : ∀ x ∈ xs, RE K te ((wipeG Γ1 [j]).set j (.dat (en x))) (out x) ((wipeG Γ1 [j]).set j (.dat (en x))))
    (hf : flatAt Γ1 [j] = true := by rfl) : RL K (tLc wi (gName j) tYes te [j]) Γ (xs.map out) Γ1 := by
  have key := rl_lc (Γ' := Γ1) (vs := [j]) (ws := [j]) (g := gName j) (tt := tYes) (te := te) h (fun _ => wipeG Γ1 [j]) (fun n => (xs.take n).map out) (by rw [List.length_map]; exact hl) rfl (by simp) rfl (flat_of hf) (fun k hk => hk) fun n d e => by
    rw [List.getElem?_map] at e
    cases q : xs[n]? with
    | none => rw [q] at e; cases e
    | some x =>
      rw [q] at e; cases e
      have hj : j < (wipeG Γ1 [j]).length := by rw [wipeG_length]; exact flat_lt hf (by simp)
      refine ⟨_, _, true, rg_name hj, rt_yes, fun _ => ⟨out x, _, elt x (List.mem_of_getElem? q), wipe_set (by simp), ?_⟩, fun z => by cases z⟩
      rw [List.take_add_one, q, List.map_append]; rfl
  rw [List.length_map, List.take_length] at key
  exact key
/-- [e for a, b in xs] -/
theorem rl_mapP (xs : List α) (e1 e2 out : α → PyData) (h : RI K wi Γ (xs.map fun x => .tuple [e1 x, e2 x]) Γ1) (hl : xs.length ≤ 1000000)
    (elt : ∀ x ∈ xs, RE K te (((wipeG Γ1 [i, j]).set i (.dat (e1 x))).set j (.dat (e2 x))) (out x) (((wipeG Γ1 [i, j]).set i (.dat (e1 x))).set j (.dat (e2 x))))
    (hf : flatAt Γ1 [i, j] = true := by rfl) : RL K (tLc wi (gAny K 2 (gCons (gName i) (gCons (gName j) gNil))) tYes te [i, j]) Γ (xs.map out) Γ1 := by
  have key := rl_lc (Γ' := Γ1) (vs := [i, j]) (ws := [i] ++ ([j] ++ [])) (g := gAny K 2 (gCons (gName i) (gCons (gName j) gNil))) (tt := tYes) (te := te) h (fun _ => wipeG Γ1 [i, j]) (fun n => (xs.take n).map out) (by rw [List.length_map]; exact hl) rfl (by simp) rfl (flat_of hf) (fun k hk => by simpa using hk) fun n d e => by
    rw [List.getElem?_map] at e
    cases q : xs[n]? with
    | none => rw [q] at e; cases e
    | some x =>
      rw [q] at e; cases e
      have hi : i < (wipeG Γ1 [i, j]).length := by rw [wipeG_length]; exact flat_lt hf (by simp)
      have hj : j < ((wipeG Γ1 [i, j]).set i (.dat (e1 x))).length := by rw [List.length_set, wipeG_length]; exact flat_lt hf (by simp)
      refine ⟨_, _, true, rg_anyT (rgs_cons (rg_name hi) (rgs_cons (rg_name hj) rgs_nil)), rt_yes, fun _ => ⟨out x, _, elt x (List.mem_of_getElem? q), ?_, ?_⟩, fun z => by cases z⟩
      · apply List.ext_getElem?
        intro k
        by_cases hk : k ∈ [i, j]
        · by_cases hb : k < Γ1.length
          · rw [wipeG_in hk (by rw [List.length_set, List.length_set, wipeG_length]; exact hb), wipeG_in hk hb]
          · rw [List.getElem?_eq_none (by rw [wipeG_length, List.length_set, List.length_set, wipeG_length]; omega), List.getElem?_eq_none (by rw [wipeG_length]; omega)]
        · rw [wipeG_out hk, List.getElem?_set_ne (fun z => hk (by rw [← z]; simp)), List.getElem?_set_ne (fun z => hk (by rw [← z]; simp))]
      · rw [List.take_add_one, q, List.map_append]; rfl
  rw [List.length_map, List.take_length] at key
  exact key
/-- [e for x in xs if c] -/
theorem rl_filt (xs : List α) (en out : α → PyData) (c : α → Bool) (h : RI K wi Γ (xs.map en) Γ1) (hl : xs.length ≤ 1000000)
    (tst : ∀ x ∈ xs, RT K tt ((wipeG Γ1 [j]).set j (.dat (en x))) (c x) ((wipeG Γ1 [j]).set j (.dat (en x))))
    (elt : ∀ x ∈ xs, c x = true → RE K te ((wipeG Γ1 [j]).set j (.dat (en x))) (out x) ((wipeG Γ1 [j]).set j (.dat (en x))))
    (hf : flatAt Γ1 [j] = true := by rfl) : RL K (tLc wi (gName j) tt te [j]) Γ ((xs.filter c).map out) Γ1 := by
  have key := rl_lc (Γ' := Γ1) (vs := [j]) (ws := [j]) (g := gName j) (tt := tt) (te := te) h (fun _ => wipeG Γ1 [j]) (fun n => ((xs.take n).filter c).map out) (by rw [List.length_map]; exact hl) rfl (by simp) rfl (flat_of hf) (fun k hk => hk) fun n d e => by
    rw [List.getElem?_map] at e
    cases q : xs[n]? with
    | none => rw [q] at e; cases e
    | some x =>
      rw [q] at e; cases e
      have hj : j < (wipeG Γ1 [j]).length := by rw [wipeG_length]; exact flat_lt hf (by simp)
      have hm := List.mem_of_getElem? q
      refine ⟨_, _, c x, rg_name hj, tst x hm, fun z => ⟨out x, _, elt x hm z, wipe_set (by simp), ?_⟩, fun z => ⟨wipe_set (by simp), ?_⟩⟩
      · rw [List.take_add_one, q, List.filter_append, List.map_append]
        show _ ++ List.map out (List.filter c [x]) = _
        rw [List.filter_cons, if_pos z]; rfl
      · rw [List.take_add_one, q, List.filter_append, List.map_append]
        show _ ++ List.map out (List.filter c [x]) = _
        rw [List.filter_cons, if_neg (by rw [z]; exact Bool.false_ne_true)]
        simp
  rw [List.length_map, List.take_length] at key
  exact key
theorem zipD_map (a : α → PyData) (b : β → PyData) : ∀ (xs : List α) (ys : List β), zipD (xs.map a) (ys.map b) = (List.zip xs ys).map fun p => .tuple [a p.1, b p.2]
  | [], _ => by simp [zipD]
  | _ :: _, [] => by simp [zipD]
  | x :: xs, y :: ys => by
    have ih := zipD_map a b xs ys
    unfold zipD at ih ⊢
    simp only [List.map_cons, List.zipWith_cons_cons, List.zip_cons_cons, ih]
theorem ri_zip2 {xs : List α} {ys : List β} {a : α → PyData} {b : β → PyData} (h : RA K tr Γ [d1, d2] Γ1) (h1 : seqD d1 = some (xs.map a)) (h2 : seqD d2 = some (ys.map b)) : RI K (iZipX K tr) Γ ((List.zip xs ys).map fun p => .tuple [a p.1, b p.2]) Γ1 := by
  rw [← zipD_map]; exact ri_zip h h1 h2
theorem ri_seq {xs : List α} {a : α → PyData} (h : RE K te Γ d Γ1) (h1 : seqD d = some (xs.map a)) : RI K (iSeq K te) Γ (xs.map a) Γ1 := by
  cases d <;> first | cases h1 | skip
  · exact ri_seqL h
  · exact ri_seqT h
theorem ri_range {n : Nat} (h : RA K tr Γ [.int (n : Int)] Γ1) (hn : n ≤ 1000000) : RI K (iRng1 tr) Γ ((List.range n).map fun (i : Nat) => .int (i : Int)) Γ1 := by
  have := ri_range1 h (by omega) (by omega)
  unfold rgD at this
  simpa using this
theorem cd_sumM {xs : List α} {g : α → Int} : CD K (rSum K) [.list (xs.map fun x => .int (g x))] (.int (xs.map g).sum) := by
  have := cd_sum (K := K) (ns := xs.map g)
  rw [List.map_map] at this; exact this
theorem cd_allM {xs : List α} {g : α → Bool} : CD K (rAll K) [.list (xs.map fun x => .bool (g x))] (.bool (xs.all g)) := by
  have := cd_all (K := K) (bs := xs.map g)
  rw [List.map_map, List.all_map] at this; exact this
theorem cd_anyM {xs : List α} {g : α → Bool} : CD K (rAny K) [.list (xs.map fun x => .bool (g x))] (.bool (xs.any g)) := by
  have := cd_any (K := K) (bs := xs.map g)
  rw [List.map_map, List.any_map] at this; exact this
theorem cd_len (h : seqD d = some ds) : CD K (rLen K) [d] (.int (ds.length : Int)) := by
  cases d <;> first | cases h | skip
  · exact cd_lenL
  · exact cd_lenT
theorem re_tupleS (h : RE K te Γ d Γ1) (hs : seqD d = some ds) : RE K (tThen te (kTup K)) Γ (.tuple ds) Γ1 := by
  cases d <;> first | cases hs | skip
  · exact re_tupleL h
  · exact re_tupleT h
theorem cdl_list (h : seqD d = some ds) : CDL K (rListOf K) [d] ds := by
  cases d <;> first | cases h | skip
  · exact cdl_listL
  · exact cdl_listT
theorem at_nat {xs : List PyData} {k : Nat} (h : xs[k]? = some d) : atI xs (k : Int) = some d := atI_nat h
variable {an : Bool} {t u : TS} {P : Po}
/-- a statement, then the rest, with a word between them -/
theorem rs_cut (M : Ga → Prop) (h : RS K an t Γ ⟨M, P.rt, P.bk, P.ct⟩) (k : ∀ Γ1, M Γ1 → RS K an u Γ1 P) : RS K an (tSeq t u) Γ P :=
  rs_seq (h.imp k (fun _ _ z => z) (fun _ z => z) (fun _ z => z))
end
end DL

/-! DL9: equality of data by what they hold, the index of a number in a list. -/
namespace DL
open PySem PySem.Spec PyProof.Rows L2
/-- data that may be compared, of a depth -/
def Shp (n : Nat) (d : PyData) : Prop := d.canLay0 = true ∧ d.depth ≤ n
theorem Shp.sh {n : Nat} {d : PyData} (h : Shp n d) (hn : n ≤ 64 := by decide) : SeqAt.shaped d = true := by
  unfold SeqAt.shaped
  rw [h.1, Bool.true_and]
  exact decide_eq_true (Nat.le_trans h.2 hn)
theorem shp_all {n : Nat} : ∀ {ds : List PyData}, (∀ d ∈ ds, Shp n d) → PyData.canLayAll0 ds = true ∧ PyData.depthAll ds ≤ n
  | [], _ => ⟨rfl, Nat.zero_le _⟩
  | d :: ds, h => by
    have a := h d (by simp)
    have b := shp_all (ds := ds) fun x hx => h x (by simp [hx])
    simp only [PyData.canLayAll0, PyData.depthAll, a.1, b.1]
    exact ⟨rfl, Nat.max_le.mpr ⟨a.2, b.2⟩⟩
theorem shp_int {i : Int} {n : Nat} : Shp n (.int i) := ⟨rfl, Nat.zero_le _⟩
theorem shp_bool {b : Bool} {n : Nat} : Shp n (.bool b) := ⟨rfl, Nat.zero_le _⟩
theorem shp_none {n : Nat} : Shp n .none := ⟨rfl, Nat.zero_le _⟩
theorem shp_tup {n : Nat} {ds : List PyData} (h : ∀ d ∈ ds, Shp n d) : Shp (n + 1) (.tuple ds) := by
  obtain ⟨a, b⟩ := shp_all h
  exact ⟨by simp only [PyData.canLay0]; exact a, by simp only [PyData.depth]; omega⟩
theorem shp_lst {n : Nat} {ds : List PyData} (h : ∀ d ∈ ds, Shp n d) : Shp (n + 1) (.list ds) := by
  obtain ⟨a, b⟩ := shp_all h
  exact ⟨by simp only [PyData.canLay0]; exact a, by simp only [PyData.depth]; omega⟩
theorem shp_mapT {n : Nat} {α : Type} {f : α → PyData} {xs : List α} (h : ∀ x ∈ xs, Shp n (f x)) : Shp (n + 1) (.tuple (xs.map f)) := shp_tup fun d hd => by
  obtain ⟨x, hx, rfl⟩ := List.mem_map.mp hd
  exact h x hx
theorem shp_mapL {n : Nat} {α : Type} {f : α → PyData} {xs : List α} (h : ∀ x ∈ xs, Shp n (f x)) : Shp (n + 1) (.list (xs.map f)) := shp_lst fun d hd => by
  obtain ⟨x, hx, rfl⟩ := List.mem_map.mp hd
  exact h x hx
theorem eqv_int (i j : Int) : PyData.eqv (.int i) (.int j) = decide (i = j) := by
  simp only [PyData.eqv]
  by_cases h : i = j
  · subst h; simp
  · simp [h]
theorem eqvAll_map {α : Type} [DecidableEq α] {f : α → PyData} (h : ∀ a b, PyData.eqv (f a) (f b) = decide (a = b)) : ∀ xs ys : List α, PyData.eqvAll (xs.map f) (ys.map f) = decide (xs = ys)
  | [], [] => by simp [PyData.eqvAll]
  | [], _ :: _ => by simp [PyData.eqvAll]
  | _ :: _, [] => by simp [PyData.eqvAll]
  | x :: xs, y :: ys => by
    simp only [List.map_cons, PyData.eqvAll, h, eqvAll_map h xs ys]
    by_cases a : x = y
    · subst a; simp
    · simp [a]
theorem eqv_tup {α : Type} [DecidableEq α] {f : α → PyData} (h : ∀ a b, PyData.eqv (f a) (f b) = decide (a = b)) (xs ys : List α) : PyData.eqv (.tuple (xs.map f)) (.tuple (ys.map f)) = decide (xs = ys) := by
  simp only [PyData.eqv]; exact eqvAll_map h xs ys
theorem eqv_lst {α : Type} [DecidableEq α] {f : α → PyData} (h : ∀ a b, PyData.eqv (f a) (f b) = decide (a = b)) (xs ys : List α) : PyData.eqv (.list (xs.map f)) (.list (ys.map f)) = decide (xs = ys) := by
  simp only [PyData.eqv]; exact eqvAll_map h xs ys
section
variable {K : PySem.W.Frag} {Γ Γ1 Γ2 : Ga} {d : PyData} {ds : List PyData} {te ta tb : TE} {an : Bool} {P : Po}
/-- xs.index(n) -/
theorem re_index {ns : List Int} {n : Int} {j : Nat} (h : RE K ta Γ (.list (ns.map .int)) Γ1) (hb : RE K tb Γ1 (.int n) Γ2) (hj : ns[j]? = some n) (hno : ∀ m, m < j → ns[m]? ≠ some n) : RE K (tBM K "list" (rIndex K) ta (tCons tb tNil)) Γ (.int (j : Int)) Γ2 := fun σ H I ad s Q q =>
  h σ H I ad s _ fun x H1 I1 ad1 s1 g1 b1 p1 => by
    obtain ⟨a, xs, rfl, h1, h2⟩ := dp_lst p1
    have := Da.of_ints h2; subst this
    refine ⟨.inl ⟨rfl, _, sqL_ex s1.sub h1⟩, hb σ H1 I1 ad1 s1 _ fun y H2 I2 ad2 s2 g2 b2 p2 => ?_⟩
    cases p2
    refine ⟨a, ns.map V.int, .int n, j, .int n, rfl, rfl, sqL_ex s2.sub (sqL_ex g2.i h1), rfl, flat_ints ns, by rw [List.getElem?_map, hj]; rfl, by simp [eqV], fun m z' hm hz => ?_, q _ H2 I2 ad2 s2 (g1.trans (g2.mono b1.own)) (b1.trans b2) (.int _)⟩
    rw [List.getElem?_map] at hz
    obtain ⟨w, hw, rfl⟩ := Option.map_eq_some_iff.mp hz
    have : w ≠ n := fun e => hno m hm (by rw [hw, e])
    simpa [eqV] using this
end
end DL
namespace DL
open PySem PySem.Spec PyProof.Rows L2
section
variable {K : PySem.W.Frag} {Γ Γ1 Γ2 : Ga} {d : PyData} {ds : List PyData} {te ta tb : TE}
theorem re_inS {n : Int} {ns : List Int} (ha : RE K ta Γ (.int n) Γ1) (hb : RE K tb Γ1 d Γ2) (hs : seqD d = some (ns.map .int)) : RE K (tOp (rIn K false) ta tb) Γ (.bool (decide (n ∈ ns))) Γ2 := by
  cases d <;> first | cases hs | skip
  · exact re_op ha hb od_inL
  · exact re_op ha hb od_inT
theorem re_niS {n : Int} {ns : List Int} (ha : RE K ta Γ (.int n) Γ1) (hb : RE K tb Γ1 d Γ2) (hs : seqD d = some (ns.map .int)) : RE K (tOp (rIn K true) ta tb) Γ (.bool (!decide (n ∈ ns))) Γ2 := by
  cases d <;> first | cases hs | skip
  · exact re_op ha hb od_niL
  · exact re_op ha hb od_niT
/-- .. of a number that is there -/
theorem re_indexI {ns : List Int} {n : Int} (h : RE K ta Γ (.list (ns.map .int)) Γ1) (hb : RE K tb Γ1 (.int n) Γ2) (hm : n ∈ ns) : RE K (tBM K "list" (rIndex K) ta (tCons tb tNil)) Γ (.int ((ns.idxOf n : Nat) : Int)) Γ2 :=
  re_index h hb (by
    have := List.idxOf_lt_length_of_mem hm
    rw [List.getElem?_eq_getElem this, List.getElem_idxOf]) fun m hlt e => by
    have h1 := (List.getElem?_eq_some_iff.mp e)
    obtain ⟨h2, h3⟩ := h1
    have := List.not_of_lt_findIdx (p := fun x => x == n) (xs := ns) (i := m) hlt
    rw [h3] at this
    simp at this
end
end DL

/-! DL10: xs[a:c] = ys. -/
namespace DL
open PySem PySem.Spec PyProof.Rows L2
def gSlc (to : TE) (tl th : TO) : TG := fun v σ H Q => to σ H fun o H1 => tl σ H1 fun l H2 => th σ H2 fun u H3 => ∃ (p b : Addr) (xs ys : List V) (a c : Int), o = .ref p ∧ v = .ref b ∧ l = some a ∧ u = some c ∧ H3 p = some (.lst xs) ∧ H3 b = some (.lst ys) ∧ p ≠ b ∧
  0 ≤ a ∧ a ≤ c ∧ c ≤ xs.length ∧ xs.length + ys.length ≤ sizeLine ∧ Q σ (upd H3 p (.lst (xs.take a.toNat ++ ys ++ xs.drop c.toNat)))
theorem part_rel {v : Value} {a : Int} (h : IsPart v (some a)) : RelV (.int a) v := by
  cases h with
  | int i t => exact ⟨t, rfl⟩
theorem pg_slc {X : Cx} {o : Expr} {lo hi : Option Expr} {to : TE} {tl th : TO} {pos p2 : Pos} (ho : PE X o to) (hl : L2.PO X lo tl) (hh : L2.PO X hi th)
    (ha : ∀ v, assign (.Subscript o (.Slice lo hi none p2) pos) X.env v = (do
      let ov ← holding [v] (eval o X.env)
      let iv ← holding [v, ov] (eval (.Slice lo hi none p2) X.env)
      standAt pos
      holding [v, ov, iv] (setItem ov iv v)
      release [iv, v, ov] []) := by intro _; rfl) : PG X (.Subscript o (.Slice lo hi none p2) pos) (gSlc to tl th) := by
  refine ⟨fun pins s σ H v u Q I r h => ?_⟩
  rw [ha]
  refine wpAny_bind (wpAny_holding (thn (ho.run pins s σ H _ I h) fun ov s1 ⟨x, H1, I1, r1, q1⟩ => ?_))
  refine wpAny_bind (wpAny_holding (wpAny_Slice (thn (hl.run pins s1 σ H1 _ I1 q1) fun vl s2 ⟨l, H2, I2, pl, q2⟩ => thn (hh.run pins s2 σ H2 _ I2 q2) fun vu s3 ⟨m, H3, I3, pu, q3⟩ => ?_)))
  rw [evalPart_none]
  refine wpAny_pure ?_
  have I4 : Inv X pins σ H3 { s3 with heap := s3.heap.push { cls := .type "slice", data := .fields #[vl, vu, .none] } } := I3.kept (t' := s3.toks) fun b ob q => Heap.get?_push_of_some _ q
  obtain ⟨p, b, xs, ys, a, c, rfl, rfl, rfl, rfl, hp, hb, hne, h0, hac, hc, hz, q⟩ := q3
  cases r1
  cases r
  refine wpAny_bind (wpAny_standAt (wpAny_bind (wpAny_holding ?_)))
  exact set_slice I4 hp hb hne (Heap.IsSliceOf.new ..) (part_rel pl) (part_rel pu) h0 hac hc hz fun s' I5 => wpAny_release ⟨σ, _, I5, q⟩
section
variable {K : PySem.W.Frag} {Γ Γ1 : Ga} {ds es : List PyData} {te : TE} {tl th : TO} {an : Bool} {P : Po} {i : Nat} {a c : Int}
theorem rs_slc (h : RL K te Γ es Γ1) (h1 : Γ1[i]? = some (.lst ds)) (hl : RO K tl Γ1 (some a) Γ1) (hh : RO K th Γ1 (some c) Γ1) (h0 : 0 ≤ a) (hac : a ≤ c) (hc : c ≤ ds.length) (hz : ds.length + es.length ≤ sizeLine)
    (hr : P.nx (Γ1.set i (.lst (ds.take a.toNat ++ es ++ ds.drop c.toNat)))) : RS K an (tAsg te (gSlc (tVar i) tl th)) Γ P := fun B σ H I ad D s e =>
  h σ H I ad s.s _ fun q us H1 I1 ad1 s1 g1 b1 hq hq1 hu hdu => by
    have z1 := s.go s1 g1 b1
    obtain ⟨o, eo, r⟩ := s1.get h1
    obtain ⟨p, vs, rfl, _, _, _⟩ := r.lst_
    refine ⟨_, eo, hl σ H1 I1 ad1 s1 _ fun H2 I2 ad2 s2 g2 b2 => hh σ H2 I2 ad2 s2 _ fun H3 I3 ad3 s3 g3 b3 => ?_⟩
    have z3 := (z1.go s2 g2 b2).go s3 g3 b3
    obtain ⟨p', ws, e1, ha, hp3, hd3⟩ := (s3.rel i _ _ eo h1).lst_
    cases e1
    have no1 : ¬ Own ad1 q := fun z => s.s.free hq (b1.own q z)
    have q3 : H3 q = some (.lst us) := g3.h q _ (fun z => no1 (b2.own q z)) (g2.h q _ no1 hu)
    have pi : I3 p = none := s3.own i p (by rw [ha]; simp)
    have ne : p ≠ q := fun z => no1 ((b2.trans b3).own q ⟨i, by rw [ha, z]; simp⟩)
    refine ⟨p, q, ws, us, a, c, rfl, rfl, rfl, rfl, hp3, q3, ne, h0, hac, by rw [Da.len hd3]; exact hc, by rw [Da.len hd3, Da.len hdu]; exact hz, ?_⟩
    have gi : Ex I1 I3 := g2.i.trans g3.i
    exact e.nx _ σ _ I3 ad3 hr (z3.put eo h1 ha (Gr.mut s3.sub (by simp) pi hp3) (fun q hq => by rw [List.mem_singleton.mp hq]; exact pi) (.lst upd_same (Da.app (Da.app (Da.take _ hd3) (Da.ex hdu gi)) (Da.drop _ hd3))))
end
end DL

/-! DL11: comprehensions whose turns change the state, slices by numbers. -/
namespace DL
open PySem PySem.Spec PyProof.Rows L2
section
variable {K : PySem.W.Frag} {Γ : Ga} {te : TE} {wi : TI} {tt : TT} {j : Nat} {α : Type}
/-- [e for x in xs], turn n leads from the state G n to G (n + 1) -/
theorem rl_mapS (xs : List α) (en : α → PyData) (G : Nat → Ga) (out : Nat → PyData) (sl : Sl) (h : RI K wi Γ (xs.map en) (G 0)) (hl : xs.length ≤ 1000000)
    (elt : ∀ n x, xs[n]? = some x → RE K te ((wipeG (G n) [j]).set j (.dat (en x))) (out n) ((wipeG (G (n + 1)) [j]).set j (.dat (en x))))
    (hf : ∀ n, (G n)[j]? = some sl := by (intro _; rfl)) (hs : sl.flat = true := by rfl) : RL K (tLc wi (gName j) tYes te [j]) Γ ((List.range xs.length).map out) (G xs.length) := by
  have key := rl_lc (Γ' := G xs.length) (vs := [j]) (ws := [j]) (g := gName j) (tt := tYes) (te := te) h (fun n => wipeG (G n) [j]) (fun n => (List.range n).map out) (by rw [List.length_map]; exact hl) rfl (by simp) (by rw [List.length_map]) (fun k hk => by
    rw [List.mem_singleton] at hk; subst hk; exact ⟨sl, hf _, hs, hf _⟩) (fun k hk => hk) fun n d e => by
    rw [List.getElem?_map] at e
    obtain ⟨x, q, rfl⟩ := Option.map_eq_some_iff.mp e
    have hj : j < (wipeG (G n) [j]).length := by rw [wipeG_length]; exact (List.getElem?_eq_some_iff.mp (hf n)).1
    refine ⟨_, _, true, rg_name hj, rt_yes, fun _ => ⟨out n, _, elt n x q, wipe_set (by simp), ?_⟩, fun z => by cases z⟩
    rw [List.range_succ, List.map_append]; rfl
  rw [List.length_map] at key
  exact key
/-- [e for x in xs if c], the test of turn n leads from the state G n to G (n + 1) -/
theorem rl_filtS (xs : List α) (en : α → PyData) (G : Nat → Ga) (out : Nat → PyData) (c : Nat → Bool) (sl : Sl) (h : RI K wi Γ (xs.map en) (G 0)) (hl : xs.length ≤ 1000000)
    (tst : ∀ n x, xs[n]? = some x → RT K tt ((wipeG (G n) [j]).set j (.dat (en x))) (c n) ((wipeG (G (n + 1)) [j]).set j (.dat (en x))))
    (elt : ∀ n x, xs[n]? = some x → RE K te ((wipeG (G (n + 1)) [j]).set j (.dat (en x))) (out n) ((wipeG (G (n + 1)) [j]).set j (.dat (en x))))
    (hf : ∀ n, (G n)[j]? = some sl := by (intro _; rfl)) (hs : sl.flat = true := by rfl) : RL K (tLc wi (gName j) tt te [j]) Γ (((List.range xs.length).filter c).map out) (G xs.length) := by
  have key := rl_lc (Γ' := G xs.length) (vs := [j]) (ws := [j]) (g := gName j) (tt := tt) (te := te) h (fun n => wipeG (G n) [j]) (fun n => ((List.range n).filter c).map out) (by rw [List.length_map]; exact hl) rfl (by simp) (by rw [List.length_map]) (fun k hk => by
    rw [List.mem_singleton] at hk; subst hk; exact ⟨sl, hf _, hs, hf _⟩) (fun k hk => hk) fun n d e => by
    rw [List.getElem?_map] at e
    obtain ⟨x, q, rfl⟩ := Option.map_eq_some_iff.mp e
    have hj : j < (wipeG (G n) [j]).length := by rw [wipeG_length]; exact (List.getElem?_eq_some_iff.mp (hf n)).1
    refine ⟨_, _, c n, rg_name hj, tst n x q, fun z => ⟨out n, _, elt n x q, wipe_set (by simp), ?_⟩, fun z => ⟨wipe_set (by simp), ?_⟩⟩
    · rw [List.range_succ, List.filter_append, List.map_append, List.filter_cons, if_pos z]; rfl
    · rw [List.range_succ, List.filter_append, List.map_append, List.filter_cons, if_neg (by rw [z]; exact Bool.false_ne_true)]; simp
  rw [List.length_map] at key
  exact key
end
theorem cut_to (ds : List PyData) (k : Nat) : cutD ds none (some (k : Int)) = ds.take k := by
  unfold cutD
  rw [HT.sIx_none, HT.sIx_nat, List.drop_zero, Nat.sub_zero]
  by_cases h : k ≤ ds.length
  · rw [Nat.min_eq_left h]
  · rw [Nat.min_eq_right (by omega), List.take_length, List.take_of_length_le (by omega)]
theorem cut_from (ds : List PyData) (k : Nat) : cutD ds (some (k : Int)) none = ds.drop k := by
  unfold cutD
  rw [HT.sIx_none, HT.sIx_nat]
  by_cases h : k ≤ ds.length
  · rw [Nat.min_eq_left h, List.take_of_length_le (by rw [List.length_drop]; omega)]
  · rw [Nat.min_eq_right (by omega), List.drop_length, List.drop_eq_nil_of_le (by omega)]; simp
end DL
namespace DL
open PySem PySem.Spec PyProof.Rows L2
section
variable {K : PySem.W.Frag} {Γ : Ga} {i : Nat} {ds : List PyData}
/-- len of an owned list -/
theorem re_lenO (h : Γ[i]? = some (.lst ds)) : RE K (tCB (rLen K) (tCons (tVar i) tNil)) Γ (.int (ds.length : Int)) Γ := fun σ H I ad s Q q => by
  obtain ⟨o, eo, r⟩ := s.get h
  obtain ⟨p, vs, rfl, _, hp, hd⟩ := r.lst_
  exact ⟨_, eo, .ref p, ds.length, rfl, .inl ⟨vs, .inl (.inl hp), (Da.len hd).symm⟩, q _ H I ad s (Gr.refl s.sub) (Sb.refl ad) (.int _)⟩
end
end DL

/-! DL12: repr of data, a new stream, the entry of a law. -/
namespace DL
open PySem PySem.Spec PyProof.Rows L2
/-! ### repr -/
def rRepr (K : PySem.W.Frag) : List V → Hp → VK → Prop := fun xs H Q => ∃ (x : V) (d : PyData), xs = [x] ∧ Dp K H x d ∧ (∃ ds, seqD d = some ds) ∧ d.showable = true ∧ d.hasDict = false ∧ d.depth ≤ 64 ∧ d.shown.length ≤ sizeLine ∧ Q (.str d.shown) H
theorem cr_repr {X : Cx} (hg : X.A.guards = some []) (hu : X.A.units + 70 < cLine) : CallR X (.builtin "repr") (rRepr X.K) := by
  intro pins s σ H xs us Q I r h
  obtain ⟨x, d, rfl, hd, ⟨ds, hs⟩, h1, h2, h3, h4, q⟩ := h
  cases r with
  | cons rx rr =>
    cases rr
    obtain ⟨as, hr⟩ := Dp.reads I d x _ hd rx
    have hp : ∃ p, x = .ref p := by
      obtain ⟨_, p, _, e, _⟩ := dp_seq hd hs
      exact ⟨p, e⟩
    obtain ⟨p, rfl⟩ := hp
    cases rx
    exact repr_of_reads' hr h1 (fun z => by rw [h2] at z; cases z) hg (by omega) (fun _ _ e => e) (fun h' u tk hk => ⟨.str d.shown, H, I.kept hk, ⟨u, rfl⟩, q⟩) h4
section
variable {K : PySem.W.Frag} {Γ Γ1 : Ga} {d : PyData} {ds : List PyData} {te : TE} {tr : TA} {an : Bool} {P : Po} {i j : Nat}
theorem cd_repr (hs : seqD d = some ds) (h1 : d.showable = true) (h2 : d.hasDict = false) (h3 : d.depth ≤ 64) (h4 : d.shown.length ≤ sizeLine) : CD K (rRepr K) [d] (.str d.shown) := fun I H vs e p Q q => by
  obtain ⟨v, rfl, h⟩ := da1 p
  exact ⟨v, d, rfl, Dp.ex h e, ⟨ds, hs⟩, h1, h2, h3, h4, q _ H I (Gr.refl e) (.str _)⟩
/-- two texts -/
theorem od_neS {x y : Str} : OD K rNe (.str x) (.str y) (.bool (!decide (x = y))) := fun I H u v e p1 p2 Q q => by
  cases p1; cases p2
  have : decide ((V.str x) = (V.str y)) = decide (x = y) := by
    by_cases h : x = y
    · subst h; simp
    · rw [decide_eq_false h, decide_eq_false (fun z => h (V.str.inj z))]
  have e2 := q (.bl (!decide (V.str x = V.str y))) H I (Gr.refl e) (by rw [this]; exact .bl _)
  exact ⟨rfl, e2⟩
/-! ### a new stream -/
theorem rs_newStm {cs : List Int} {a b c : Int} (h : Γ[j]? = some (.dat (.list (cs.map .int)))) (hr : P.nx (Γ.set i (.stm cs a b c))) (hi : i < Γ.length := by (simp; done)) (h0 : an = true → i ≠ 0 := by decide) :
    RS K an (tAsg (tLst (tCons (tCB (rListOf K) (tCons (tVar j) tNil)) (tCons (tC (.int a)) (tCons (tC (.int b)) (tCons (tC (.int c)) tNil))))) (gName i)) Γ P := fun B σ H I ad D s e => by
  have key : RL K (tCB (rListOf K) (tCons (tVar j) tNil)) Γ (cs.map .int) Γ := rl_cb (ra_cons (re_var h) ra_nil) cdl_listL
  refine key σ H I ad s.s _ fun l vs H1 I1 ad1 s1 g1 b1 hl hl1 hv hd => ?_
  have := Da.of_ints hd; subst this
  refine ⟨by show 4 ≤ 16777216; omega, fun p hp => ?_⟩
  have z := s.go s1 g1 b1
  have ne : p ≠ l := fun q => by rw [q, hv] at hp; cases hp
  have z2 := z.go (s1.fresh (o := .lst [.ref l, .int a, .int b, .int c]) hp).1 (s1.fresh hp).2.no (Sb.refl ad1)
  have nl : ¬ Own ad1 l := fun q => s.s.free hl (b1.own l q)
  have np : ¬ Own ad1 p := s1.free hp
  have ip : I1 p = none := s1.sub.non_ hp
  have r : SR K I1 (upd H1 p (.lst [.ref l, .int a, .int b, .int c])) (some (.ref p)) (.stm cs a b c) [p, l] := .stm upd_same (by rw [upd_ne (Ne.symm ne)]; exact hv)
  have own : ∀ q ∈ [p, l], I1 q = none := fun q hq => by
    rcases List.mem_cons.mp hq with rfl | hq
    · exact ip
    · rw [List.mem_singleton.mp hq]; exact hl1
  refine e.nx _ _ _ I1 (adSet ad1 i [p, l]) hr ⟨z2.s.set hi r own (fun k q _ hq hk => ?_), z2.gr, fun q ⟨k, hk⟩ => ?_, fun hh => ⟨by rw [List.getElem?_set_ne (h0 hh)]; exact (z2.anc hh).1, by rw [adSet_ne (Ne.symm (h0 hh))]; exact (z2.anc hh).2⟩⟩
  · rcases List.mem_cons.mp hq with rfl | hq
    · exact np ⟨k, hk⟩
    · rw [List.mem_singleton.mp hq] at hk; exact nl ⟨k, hk⟩
  · by_cases hki : k = i
    · subst hki
      rw [adSet_same] at hk
      rcases List.mem_cons.mp hk with rfl | hk
      · exact .inr (z.gr.k _ hp)
      · rw [List.mem_singleton.mp hk]; exact .inr (s.gr.k _ hl)
    · rw [adSet_ne hki] at hk; exact z2.fr q ⟨k, hk⟩
end
/-! ### the entry -/
def scH (K : PySem.W.Frag) (a : Addr) (o : Obj) (ns : List Int) : Hp := fun b => if b = a ∧ K.lookup a = none then some (.frz o (.lst (ns.map V.int))) else none
theorem scH_some {K : PySem.W.Frag} {a b : Addr} {o : Obj} {ns : List Int} {u : HO} (h : scH K a o ns b = some u) : b = a ∧ K.lookup a = none ∧ u = .frz o (.lst (ns.map V.int)) := by
  unfold scH at h
  split at h
  · rename_i z; cases h; exact ⟨z.1, z.2, rfl⟩
  · cases h
theorem scH_ne {K : PySem.W.Frag} {a b : Addr} {o : Obj} {ns : List Int} (h : b ≠ a) : scH K a o ns b = none := by
  unfold scH; rw [if_neg fun z => h z.1]
section
variable {P : Program} {w : World} {K : PySem.W.Frag} {mg mb : Str → Option Value} {fa a : Addr} {fd : FuncData} {x x0 : Str} {st : Stmt} {N : List Str} {s₁ : Shared} {vs : List Value} {ns : List Int} {k : Nat}
theorem law_at (KX : K.In s₁.heap) (hns : s₁.heap.Ns mainGlobals mg) (hb : s₁.heap.Ns builtinsNs mb) (hbb : ∀ x : Str, x ≠ "__name__" → mb x = bootBuiltins x) (hlim : s₁.heap.NoLimit) (hseer : s₁.heap.NoSeer) (hg : s₁.gens = #[])
    (ha : s₁.heap.get? a = some { cls := .type "list", data := .seq vs.toArray }) (hi : IntsAre vs ns) (hl : ns.length ≤ sizeLine) (hr : Room (k + 1) callerA)
    (Fn : Fun K x x st fa fd) (S : FnScope N [x0] (defScope st)) (hbind : ∀ (s : Shared) (u : Value), BindsTo s fd ⟨[u], []⟩ [(x0, u)])
    (body : ∀ (base : Heap) (cdv : Value) (H : Hp), base.NoSeer → K.In base → base.Ns mainGlobals mg →
      ∃ t, PSs (cxOf CX0 P w K mg base N x (defScope st) fa cdv callerA [] s₁ H (fun _ _ _ => False)).nox (defBody st) t ∧
        RS K false t (gst N [.list (ns.map .int)]) ⟨fun _ => False, fun d' _ => d' = .bool true, fun _ => False, fun _ => False⟩) :
    codeAny (model P w) callerA (.call (.ref fa) ⟨[.ref a], []⟩) (fun r s' => r = .ok (.ret (.bool true)) ∧ OldK s₁.heap s'.heap ∧ s'.os = s₁.os ∧ AllBare s'.gens) s₁ := by
  have rv := vals_ints hi
  have lenV := hi.length
  -- the script alone is tracked, unless it is an object of the written part
  generalize hH : scH K a { cls := .type "list", data := .seq vs.toArray } ns = H
  have Hs : ∀ {b u}, H b = some u → b = a ∧ K.lookup a = none ∧ u = .frz { cls := .type "list", data := .seq vs.toArray } (.lst (ns.map V.int)) := fun {b u} h => by rw [← hH] at h; exact scH_some h
  have Hn : ∀ {b}, b ≠ a → H b = none := fun {b} h => by rw [← hH]; exact scH_ne h
  have notA : ∀ {b : Addr} {o : Obj}, s₁.heap.get? b = some o → o.cls ≠ .type "list" ∨ (∃ es ep, o.data = .dict es ep) → b ≠ a := fun {b o} e h z => by
    subst z
    rw [ha] at e
    cases e
    rcases h with h | ⟨es, ep, h⟩
    · exact h rfl
    · have h' : Data.seq vs.toArray _ = Data.dict es ep := h
      cases h'
  have there : ∀ {b : Addr} {o : Obj}, s₁.heap.get? b = some o → b ≠ a → (hidT s₁.heap H).get? b = some o := fun e n => hidT_get e (Hn n)
  have ns_ : ∀ {b : Addr} {m : Str → Option Value}, s₁.heap.Ns b m → (hidT s₁.heap H).Ns b m := fun {b m} h => by
    obtain ⟨o, es, ep, e, d, r⟩ := h
    exact ⟨o, es, ep, there e (notA e (.inr ⟨es, ep, d⟩)), d, r⟩
  have hK : K.In (hidT s₁.heap H) := fun b o e => hidT_get (KX b o e) (by
    cases q : H b with
    | none => rfl
    | some u =>
      obtain ⟨rfl, z, _⟩ := Hs q
      rw [z] at e; cases e)
  have hM : L2.Mod K mg (hidT s₁.heap H) := ⟨hK, ns_ hns, ⟨mb, ns_ hb, hbb⟩, let ⟨mc, h1, h2⟩ := hlim; ⟨mc, ns_ h1, h2⟩⟩
  have seer : (hidT s₁.heap H).NoSeer := by
    obtain ⟨⟨mc, a1, a2⟩, ⟨mm, b1, b2⟩, ⟨mb', c1, c2⟩, ⟨mg', bm, ob, d1, d2, d3, d4, d5⟩⟩ := hseer
    exact ⟨⟨mc, ns_ a1, a2⟩, ⟨mm, ns_ b1, b2⟩, ⟨mb', ns_ c1, c2⟩, ⟨mg', bm, ob, ns_ d1, d2, there d3 (notA d3 (.inl (by rw [d4]; decide))), d4, d5⟩⟩
  have hok : HOk P w H s₁.heap := fun b u h => by
    obtain ⟨rfl, _, rfl⟩ := Hs h
    exact ⟨ha, by rw [List.length_map]; exact hl, vs, _, rv, ha⟩
  have e0 : Env0 P w K mg (hidT s₁.heap H) callerA [] s₁ H := ⟨rfl, hM, fun b o e => of_hidT e, Nat.le_of_eq (hidT_size _ _), trivial, fun b hb => absurd hb List.not_mem_nil, hok, .of_eq hg⟩
  have sq : SqL K H a (ns.map V.int) := by
    cases hk : K.lookup a with
    | none => exact .inl (.inr ⟨{ cls := .type "list", data := .seq vs.toArray }, by rw [← hH]; unfold scH; rw [if_pos ⟨rfl, hk⟩]⟩)
    | some o =>
      have e := KX a o hk
      rw [ha] at e
      cases e
      exact .inr ⟨_, vs.toArray, _, hk, rfl, rfl, rfl, by rw [List.size_toArray, lenV]; exact hl, by simpa using rv⟩
  have hE : Ex H H := Ex.refl H
  have hd : DpAll K H [.ref a] [.list (ns.map .int)] := .cons (.lst sq (Da.ints ns)) .nil
  obtain ⟨oc, od, kV, doc, pm, an, cdv, ct, osl, rfl, lk, hcd⟩ := Fn.ex
  have hkind : ∀ y ∈ [x0].zip [Value.ref a], (defScope st).names.lookup y.1 = some .local ∨ ((defScope st).names.lookup y.1 = some .cell ∧ ((cellsFrom (s₁.heap.objs.size + 1) (defScope st).names []).lookup y.1).isSome = true) := fun y hy => by
    rcases S.par y.1 (List.of_mem_zip (a := y.1) (b := y.2) hy).1 with q | q
    · exact .inl q
    · exact .inr ⟨q, PySem.W.cellsFrom_some _ _ _ (.inl q)⟩
  obtain ⟨t, ht, hR⟩ := body (hidT s₁.heap H) cdv H seer hK (ns_ hns)
  refine codeAny_call_function hr.depth (KX _ _ lk) rfl S.co S.gen rfl (PySem.W.codeRec_of KX hcd) (hbind s₁ (.ref a) _ _ _ _ ?_)
  refine wpAny_newFunctionEnv_cells S.kind hkind fun env he s1 y => ?_
  subst he
  refine ⟨hlim.keeps y.toInCall.keep, codeAny_func ?_⟩
  have I0 := inv_start (CX := CX0) (N := N) (E := fun _ _ _ => False) S hr.hd e0 (vs := [.ref a]) (us := [.ref a]) rfl (.cons rfl .nil) y
  have hq : t { nx := fun _ _ => False, rt := fun v H' => v = .bl true ∧ Ex H H' } (start N [.ref a]) H := by
    refine hR ⟨none, [], No, H, H⟩ (start N [.ref a]) H H (fun _ => []) _ ⟨s1_start hE hd, Gr.refl hE, fun p ⟨i, z⟩ => by simp at z, fun z => by cases z⟩ ⟨?_, ?_, ?_, ?_⟩
    · intro Γ σ H' I' ad z; exact z.elim
    · intro d' Γ v σ H' I' ad z s' p
      have z' : d' = .bool true := z
      subst z'
      cases p
      exact ⟨rfl, fun q o hq => s'.gr.h q o (fun z => z) hq⟩
    · intro Γ σ H' I' ad z; exact z.elim
    · intro Γ σ H' I' ad z; exact z.elim
  refine wpAny_mono (ht.nox.run [] s1 (start N [.ref a]) H _ I0 hq) (fun fl s' hs => ?_) fun e s' hs => ?_
  · cases fl with
    | ret u =>
      obtain ⟨v, σ', H', J, rv', hv, hex⟩ := hs
      subst hv
      obtain rfl : u = Value.bool true := rv'
      refine ⟨rfl, OldK.of_keep fun b o e => ?_, J.os, J.bare⟩
      cases q : H b with
      | none => exact J.base.keep b o e q (fun z => absurd z List.not_mem_nil) (fun z => absurd z List.not_mem_nil)
      | some u =>
        obtain ⟨_, _, rfl⟩ := Hs q
        obtain ⟨e1, _⟩ := hok b _ q
        obtain ⟨e2, _⟩ := J.hok b _ (hex b _ q)
        rw [e] at e1; cases e1
        exact e2
    | next =>
      obtain ⟨_, _, _, q⟩ := hs
      exact False.elim q
    | brk =>
      obtain ⟨_, _, _, q⟩ := hs
      exact False.elim q
    | cont =>
      obtain ⟨_, _, _, q⟩ := hs
      exact False.elim q
  · exact wpAny_mono hs (fun _ _ z => False.elim z) (fun _ _ z => False.elim z)
end
end DL
namespace DL
open PySem PySem.Spec PyProof.Rows L2
theorem kRepr {X : Cx} (K : PySem.W.Frag) (hg : X.A.guards = some []) (hu : X.A.units + 70 < cLine) (h : X.K = K := by rfl) : CallR X (.builtin "repr") (rRepr K) := by subst h; exact cr_repr hg hu
/-! ### what may be shown -/
structure Sh (k : Nat) (d : PyData) : Prop where
  shp : Shp k d
  shb : d.showable = true
  dic : d.hasDict = false
  int : d.intsShort 13 = true
theorem sh_int {i : Int} (h : i.natAbs < 10 ^ 12) {k : Nat} : Sh k (.int i) := ⟨shp_int, by
  simp only [PyData.showable]
  refine decide_eq_true ?_
  by_cases z : i.natAbs = 0
  · rw [z]; decide
  · rw [Nat.log2_lt z]
    exact Nat.lt_of_lt_of_le h (Nat.le_trans (show (10 : Nat) ^ 12 ≤ 2 ^ 40 by decide) (Nat.pow_le_pow_right (by decide) (by decide))), rfl, by
  simp only [PyData.intsShort]
  exact decide_eq_true (PyData.shown_int_le h)⟩
theorem sh_all {k : Nat} : ∀ {ds : List PyData}, (∀ d ∈ ds, Sh k d) → PyData.showableAll ds = true ∧ PyData.hasDictAll ds = false ∧ PyData.intsShortAll 13 ds = true
  | [], _ => ⟨rfl, rfl, rfl⟩
  | d :: ds, h => by
    have a := h d (by simp)
    obtain ⟨b1, b2, b3⟩ := sh_all (ds := ds) fun x hx => h x (by simp [hx])
    simp only [PyData.showableAll, PyData.hasDictAll, PyData.intsShortAll, a.shb, a.dic, a.int, b1, b2, b3]
    exact ⟨rfl, rfl, rfl⟩
theorem sh_lst {k : Nat} {ds : List PyData} (h : ∀ d ∈ ds, Sh k d) : Sh (k + 1) (.list ds) := by
  obtain ⟨b1, b2, b3⟩ := sh_all h
  exact ⟨shp_lst fun d hd => (h d hd).shp, by simp only [PyData.showable]; exact b1, by simp only [PyData.hasDict]; exact b2, by simp only [PyData.intsShort]; exact b3⟩
theorem sh_tup {k : Nat} {ds : List PyData} (h : ∀ d ∈ ds, Sh k d) : Sh (k + 1) (.tuple ds) := by
  obtain ⟨b1, b2, b3⟩ := sh_all h
  exact ⟨shp_tup fun d hd => (h d hd).shp, by simp only [PyData.showable]; exact b1, by simp only [PyData.hasDict]; exact b2, by simp only [PyData.intsShort]; exact b3⟩
theorem wt_all {W : Nat} : ∀ {ds : List PyData}, (∀ d ∈ ds, d.weight ≤ W) → PyData.weightAll ds ≤ (W + 1) * ds.length
  | [], _ => Nat.zero_le _
  | d :: ds, h => by
    have a := h d (by simp)
    have b := wt_all (ds := ds) fun x hx => h x (by simp [hx])
    simp only [PyData.weightAll, List.length_cons, Nat.mul_succ]
    omega
theorem wt_int {i : Int} (h : i.natAbs < 10 ^ 12) : (PyData.int i).weight ≤ 40 := by
  simp only [PyData.weight]
  split
  · omega
  · rename_i z
    have z' : i.natAbs ≠ 0 := by
      intro q
      apply z
      have : i = 0 := by omega
      subst this; rfl
    have : i.natAbs.log2 < 40 := (Nat.log2_lt z').mpr (Nat.lt_of_lt_of_le h (by decide))
    omega
theorem Sh.fits {k : Nat} {d : PyData} (h : Sh k d) (hk : k ≤ 64) (hw : d.weight ≤ 2 ^ 20) : d.shown.length ≤ sizeLine := by
  have hl : PyData.layable0 d = true := by
    unfold PyData.layable0
    rw [h.shp.1, decide_eq_true (Nat.le_trans h.shp.2 hk), decide_eq_true hw]; rfl
  exact Nat.le_trans (shown_le13 hl h.int) (by show _ ≤ 16777216; omega)
end DL

/-! DL13: statements that are never reached; enumerate over a list or a tuple. -/
namespace DL
open PySem PySem.Spec PyProof.Rows L2
/-- a statement, a body that is never reached -/
def tNever : TS := fun _ _ _ => False
theorem ps_never {X : Cx} {st : Stmt} : PS X st tNever := ⟨fun _ _ _ _ _ _ h => h.elim⟩
theorem pss_never {X : Cx} {sts : List Stmt} : PSs X sts tNever := ⟨fun _ _ _ _ _ _ h => h.elim⟩
/-- enumerate(v): what its two new cells are -/
theorem enum1_meets {v : Value} {o : Obj} {Hh : Heap → Prop} (B : Begins v o Hh) :
    Meets (Builtin.«enumerate.__new__» ⟨[.type "enumerate", v], []⟩) (fun _ R s => Hh s.heap ∧
      R (.ok (.ret (.ref (s.heap.push o).objs.size))) { s with heap := (s.heap.push o).push { cls := .type "enumerate", data := .fields #[.none, .bool false, .ref s.heap.objs.size, rawInt 0, .none, .none] } }) :=
  .of_wp fun prog w A R s hh => by
    obtain ⟨hp, gs, dd, tk, os⟩ := s
    have hsub := sub_enumerate
    have itr : ∀ {A' : Around} {E : Value → Shared → Prop} {Q : Value → Shared → Prop}, Q (.ref hp.objs.size) ⟨hp.push o, gs, dd, tk, os⟩ → wpAny (model prog w) A' (pyIter v) Q E ⟨hp, gs, dd, tk, os⟩ := fun q => B.iter prog w _ _ _ _ hh.1 q
    wp_walk using itr
    refine wpAny_stack_any fun st => wpAny_pure ?_
    split
    · rename_i c _ _ _ _ _
      cases (c == Value.type "enumerate") <;> (wp_walk using itr; exact ⟨_, rfl, hh.2⟩)
    · wp_walk using itr
      exact ⟨_, rfl, hh.2⟩
section
variable {prog : Program} {w : World} {A : Around} {E : Value → Shared → Prop} {s : Shared}
theorem enum1_begins {v : Value} {o : Obj} {Hh : Heap → Prop} {Q : Value → Shared → Prop} (B : Begins v o Hh) (h1 : Hh s.heap)
    (h : ∀ h', IsEnum h' (s.heap.objs.size + 1) s.heap.objs.size 0 .none → h'.get? s.heap.objs.size = some o → (∀ b o, s.heap.get? b = some o → h'.get? b = some o) → Q (.ref (s.heap.objs.size + 1)) { s with heap := h' }) :
    wpAny (model prog w) A (call (.type "enumerate") [v]) Q E s := by
  refine callType_new F.called_enumerate (by decide) (F.typeCall_enumerate_1 _) (F.newCall_enumerate_1 _) (fun obj => F.args_object_init_2 obj _) F.entry_enumerate_new (enum1_meets B) ⟨h1, ?_⟩
  have sz : (s.heap.push o).objs.size = s.heap.objs.size + 1 := Heap.size_push ..
  have en := Heap.get?_push_size (s.heap.push o) (o := { cls := .type "enumerate", data := .fields #[.none, .bool false, .ref s.heap.objs.size, rawInt 0, .none, .none] }) rfl
  show _ ∧ _
  rw [sz] at en ⊢
  exact ⟨⟨_, en, rfl⟩, h _ en (Heap.get?_push_of_some _ (Heap.get?_push_size _ B.free)) fun b o x => Heap.get?_push_of_some _ (Heap.get?_push_of_some _ x)⟩
end
/-- the list or tuple at a, item by item with its number -/
def ItE (K : PySem.W.Frag) (k : Bool) (a : Addr) : It :=
  ⟨fun i H => ∃ (xs : List V) (x : V), SqK k K H a xs ∧ xs[i]? = some x, fun i H v H' => ∃ T x, v = .ref T ∧ H T = none ∧ H' = upd H T (.tup [.int (i : Nat), x]) ∧ ∀ xs, SqK k K H a xs → xs[i]? = some x,
    fun i H => ∃ xs : List V, SqK k K H a xs ∧ i = xs.length⟩
theorem turn_enumX {P : Program} {w : World} {K : PySem.W.Frag} {elts : List Expr} {kk : Nat} {tpos : Pos} {k : Bool} {a e it : Addr} (hne : e ≠ it) (ha : a ≠ it) (hea : e ≠ a) :
    Turn P w K (.Tuple elts kk tpos) (ItE K k a) [e, it] e (fun i h => (∃ old, IsEnum h e it ((i : Nat) : Int) old) ∧ ItK k h it a i) where
  mem := by simp
  obj := fun i h st b hb => by
    obtain ⟨⟨old, he⟩, hi⟩ := st
    rcases List.mem_cons.mp hb with z | z
    · rw [z]; exact ⟨_, he, fun v q => nomatch q⟩
    · rw [List.mem_singleton.mp z]; exact itK_obj hi
  keep := fun i h h' st kp => let ⟨⟨old, he⟩, hi⟩ := st; ⟨⟨old, kp e (by simp) _ he⟩, itK_keep hi (kp it (by simp))⟩
  item := by
    intro X hP hw hK hc i pins s σ H E I hf st hg
    subst hP hw hK
    obtain ⟨⟨old, he⟩, hit⟩ := st
    obtain ⟨xs, x, hq, hx⟩ := hg
    obtain ⟨its, rv, p, la⟩ := inv_seq I hq
    obtain ⟨u, hu, ru⟩ := rv.get hx
    have lx := (List.getElem?_eq_some_iff.mp hu).1
    have hel : e < s.heap.objs.size := Heap.lt_size he
    have hh : X.A.in1.handled = none := I.ok.hd hc
    refine wpAny_pyNext_enum_itemD (draws_k k hh it a ha its.toArray) he ⟨hit, p⟩ (by simpa using lx) hne (by simp [hne, hea]) fun v h' tk e1 ho st' hT hsz hk => ?_
    have ev : v = u := by
      have q : its[i]? = some v := by simpa using e1
      rw [hu] at q; exact (Option.some.inj q).symm
    subst ev
    refine ⟨_, rfl, wpAny_letOwnedTupleGo_enum (s := { s with heap := h', toks := tk + 1 }) ho fun h'' he' sb => ?_⟩
    have hT2 : h''.get? s.heap.objs.size = some { cls := .type "tuple", data := .seq #[.int i tk, v] } := (sb.2 _ (Nat.ne_of_gt hel)).trans hT
    have new : ObjOk X.prog X.w (upd H s.heap.objs.size (.tup [.int (i : Nat), x])) h'' s.heap.objs.size (.tup [.int (i : Nat), x]) :=
      ⟨by show 2 ≤ sizeLine; decide, [.int i tk, v], .cons ⟨_, rfl⟩ (.cons ru .nil), ⟨_, hT2, rfl, _, rfl⟩⟩
    have I1 : Inv X pins σ (upd H s.heap.objs.size (.tup [.int (i : Nat), x])) { s with heap := h'', toks := tk + 1 } :=
      I.turnedNew (t' := tk + 1) (ch := [e, it]) (fun b ob hb q => (sb.2 b (fun z => hb (by simp [z]))).trans (hk b ob (fun z => hb (by simp [z])) (fun z => hb (by simp [z])) q)) hf (Nat.le_refl _) new
    refine ⟨.ref s.heap.objs.size, _, I1, rfl, ⟨_, x, rfl, I.hok.fresh (Nat.le_refl _), rfl, fun ys hy => by rw [inv_inj I hy hq]; exact hx⟩, ⟨⟨v, ?_⟩, itK_keep st'.1 fun o q => (sb.2 it (Ne.symm hne)).trans q⟩, fun b hb => ?_⟩
    · have e2 : ((i + 1 : Nat) : Int) = (i : Int) + 1 := by omega
      rw [e2]; exact he'
    · have hlt : b < s.heap.objs.size := by
        rcases List.mem_cons.mp hb with z | z
        · rw [z]; exact hel
        · rw [List.mem_singleton.mp z]; obtain ⟨_, e2, _⟩ := itK_obj hit; exact Heap.lt_size e2
      rw [upd_ne (Nat.ne_of_lt hlt)]
      exact (hf b hb).1
  done := by
    intro X hP hw hK hc i pins s σ H E I hf st hg
    subst hP hw hK
    obtain ⟨⟨old, he⟩, hit⟩ := st
    obtain ⟨xs, hq, hx⟩ := hg
    obtain ⟨its, rv, p, la⟩ := inv_seq I hq
    have hl := rv.length
    have hn : i = its.toArray.size := by rw [List.size_toArray]; omega
    obtain ⟨f0, f1, f2, f3, f4, f5⟩ := hf it (by simp)
    have hh : X.A.in1.handled = none := I.ok.hd hc
    refine wpAny_pyNext_enum_endD (draws_k k hh it a ha its.toArray) he (by rw [← hn]; exact ⟨hit, p⟩) fun h' eb => ⟨rfl, I.turned (t' := s.toks) (fun b o hb q => eb b o hb q) f0 f1 f3 f4 f5⟩
  self := fun A i s Q E st h => let ⟨⟨_, he⟩, _⟩ := st; wpAny_pyIter_enum he h
def iEnumX (K : PySem.W.Frag) (ta : TA) : TI := fun σ H R => ta σ H fun vs H1 => ∃ k a xs, vs = [.ref a] ∧ SqK k K H1 a xs ∧ R (ItE K k a) H1
theorem kEnum {X : Cx} (K : PySem.W.Frag) {e : Expr} {ta : TA} {p pos tpos : Pos} {elts : List Expr} {kk : Nat} (hg : Gl X "enumerate") (hm : X.mg "enumerate" = none) (ha : PA X [e] ta) (hs : starEach [e] X.env = [(false, eval e X.env)] := by rfl) (hKK : X.K = K := by rfl) :
    PI X (.Tuple elts kk tpos) (.Call (.Name "enumerate" p) [e] [] pos) (iEnumX K ta) := by
  subst hKK
  refine ⟨fun pins s σ H R I h => ?_⟩
  refine Call_ (ld_blt I hg hm PyProof.Rows.boot_enumerate (PyProof.Rows.callWith_type1 (thn (ha.run pos pins s σ H _ I h) fun us s1 ⟨vs, H1, I1, r1, q1⟩ => ?_) hs rfl))
  obtain ⟨k, a, xs, ex, hq, q⟩ := q1
  subst ex
  cases r1 with
  | cons r rr =>
    cases rr
    cases r
    obtain ⟨its, rv, p', la⟩ := inv_seq I1 hq
    refine enum1_begins (begins_k k a its.toArray) p' fun h' he o1 hk => wpAny_pyIter_enum he ?_
    refine ⟨s1.heap.objs.size + 1, [s1.heap.objs.size + 1, s1.heap.objs.size], _, _, H1, rfl, I1.kept (t' := s1.toks) hk, turn_enumX (Nat.succ_ne_self _) (Nat.ne_of_lt la) (Nat.ne_of_gt (Nat.lt_succ_of_lt la)), ⟨⟨.none, he⟩, itK_new o1⟩, fun b hb => ?_, q⟩
    have hle : s1.heap.objs.size ≤ b := by
      rcases List.mem_cons.mp hb with z | z
      · rw [z]; exact Nat.le_add_right _ _
      · rw [List.mem_singleton.mp z]; exact Nat.le_refl _
    exact I1.fpOk hle (I1.hok.fresh hle)
section
variable {K : PySem.W.Frag} {Γ Γ1 : Ga} {tr : TA} {ds : List PyData} {d : PyData} {I : Hp}
/-- (0, x), (1, y) .. -/
def enumD (ds : List PyData) : List PyData := ds.mapIdx fun i x => .tuple [.int (i : Int), x]
theorem wd_enumX {k : Bool} {a : Addr} {vs : List V} (ha : SqK k K I a vs) (hd : DpAll K I vs ds) : WD K (ItE K k a) (enumD ds) I := by
  have hl := Da.len hd
  have el : (enumD ds).length = ds.length := by simp [enumD]
  refine ⟨fun i H hi e => ?_, fun H e => ⟨vs, sqK_ex e ha, by rw [el, hl]⟩, fun i d H I1 x H' e u v y => ?_⟩
  · rw [el] at hi
    exact ⟨vs, vs[i]'(by omega), sqK_ex e ha, List.getElem?_eq_getElem _⟩
  · obtain ⟨T, z, rfl, hT, rfl, f⟩ := y
    unfold enumD at e
    rw [List.getElem?_mapIdx] at e
    obtain ⟨d1, e1, rfl⟩ := Option.map_eq_some_iff.mp e
    obtain ⟨v1, q1, r1⟩ := Da.at hd e1
    have := f vs (sqK_ex (u.trans v) ha)
    rw [q1] at this; cases this
    exact ⟨_, (pair_dp (.int _) (Dp.ex r1 u) v hT).1, (pair_dp (.int _) (Dp.ex r1 u) v hT).2⟩
theorem ri_enum (h : RA K tr Γ [d] Γ1) (h1 : seqD d = some ds) : RI K (iEnumX K tr) Γ (enumD ds) Γ1 := fun σ H I ad s R q => h σ H I ad s _ fun vs H1 I1 ad1 s1 g1 b1 p1 => by
  obtain ⟨v, rfl, hv⟩ := da1 p1
  obtain ⟨k, p, ws, rfl, hq, hd⟩ := dp_seq hv h1
  exact ⟨k, p, ws, rfl, sqK_ex s1.sub hq, q _ H1 I1 ad1 s1 g1 b1 (wd_enumX hq hd)⟩
end
end DL

/-! DL14: *=, global constants, items of an owned list, abs, max, places of truth, nested comprehensions. -/
namespace DL
open PySem PySem.Spec PyProof.Rows L2
theorem Da.set {K : PySem.W.Frag} {H : Hp} {v : V} {d : PyData} : ∀ {vs : List V} {ds : List PyData} (k : Nat), DpAll K H vs ds → Dp K H v d → DpAll K H (vs.set k v) (ds.set k d)
  | _, _, _, .nil, _ => .nil
  | _, _, 0, .cons _ b, p => .cons p b
  | _, _, k + 1, .cons a b, p => .cons a (Da.set k b p)
/-- ints, with a condition -/
def ipC (C : Int → Int → Prop) (f : Int → Int → Int) : TIp := fun x y H Q => ∃ i j, x = .int i ∧ y = .int j ∧ C i j ∧ Q (.int (f i j)) H
theorem ip_mulC {X : Cx} : PIp X .Mult (ipC IntMulOk fun i j => i * j) := by
  intro pins s σ H x y v u Q I r1 r2 h
  obtain ⟨i, j, rfl, rfl, hc, q⟩ := h
  obtain ⟨t, rfl⟩ := r1
  obtain ⟨t', rfl⟩ := r2
  exact imul_int ⟨.int _, H, I.tok _, ⟨_, rfl⟩, q⟩ hc
section
variable {K : PySem.W.Frag} {Γ Γ1 Γ2 : Ga} {d d1 : PyData} {ds : List PyData} {te ta tb : TE} {tr : TA} {an : Bool} {P : Po} {i : Nat}
theorem rs_augC {C : Int → Int → Prop} {f : Int → Int → Int} {x y : Int} (hx : Γ[i]? = some (.dat (.int x))) (h : RE K te Γ (.int y) Γ1) (hc : C x y) (hr : P.nx (Γ1.set i (.dat (.int (f x y))))) (hi : i < Γ1.length := by (simp; done)) (h0 : an = true → i ≠ 0 := by decide) : RS K an (tAug i te (ipC C f)) Γ P := fun B σ H I ad D s e => by
  obtain ⟨o, eo, r⟩ := s.s.get hx
  generalize ad i = as at r
  cases r with
  | dat q =>
    cases q
    refine ⟨_, eo, h σ H I ad s.s _ fun v H1 I1 ad1 s1 g1 b1 p1 => ?_⟩
    cases p1
    exact ⟨x, y, rfl, rfl, hc, e.nx _ _ H1 I1 _ hr ((s.go s1 g1 b1).setD hi (.int _) h0)⟩
/-- abs(i) -/
theorem cd_abs {n : Int} : CD K (fun xs H Q => ∃ i, xs = [.int i] ∧ Q (.int (if i < 0 then -i else i)) H) [.int n] (.int (if n < 0 then -n else n)) := fun I H vs e p Q q => by
  obtain ⟨v, rfl, h⟩ := da1 p
  cases h
  exact ⟨n, rfl, q _ H I (Gr.refl e) (.int _)⟩
/-- xs[k] = e of an owned list -/
theorem rs_item {k : Nat} {tk : TE} (hv : RE K te Γ d Γ1) (h : Γ1[i]? = some (.lst ds)) (hk : RE K tk Γ1 (.int (k : Int)) Γ1) (hl : k < ds.length) (hr : P.nx (Γ1.set i (.lst (ds.set k d)))) : RS K an (tAsg te (gSub (tVar i) tk rSetL)) Γ P := fun B σ H I ad D s e =>
  hv σ H I ad s.s _ fun v H1 I1 ad1 s1 g1 b1 p1 => by
    obtain ⟨o, eo, r⟩ := s1.get h
    obtain ⟨p, vs, rfl, _, _, _⟩ := r.lst_
    refine ⟨_, eo, hk σ H1 I1 ad1 s1 _ fun x H2 I2 ad2 s2 g2 b2 p2 => ?_⟩
    cases p2
    obtain ⟨p', ws, e1, ha, hp, hd⟩ := (s2.rel i _ _ eo h).lst_
    cases e1
    have pi : I2 p = none := s2.own i p (by rw [ha]; simp)
    have hw : k < ws.length := by rw [Da.len hd]; exact hl
    refine ⟨p, ws, _, k, rfl, rfl, hp, ?_, ?_⟩
    · unfold ixN
      rw [if_pos (by omega), if_pos (by simp; omega)]
      simp
    exact e.nx _ σ _ I2 ad2 hr (((s.go s1 g1 b1).go s2 g2 b2).put eo h ha (Gr.mut s2.sub (by simp) pi hp) (fun q hq => by rw [List.mem_singleton.mp hq]; exact pi) (.lst upd_same (Da.set k hd (Dp.ex p1 g2.i))))
/-- an item of an owned list, as data -/
theorem re_itemO {k : Nat} (h : Γ[i]? = some (.lst ds)) (ht : RE K te Γ (.int (k : Int)) Γ1) (h1 : Γ1[i]? = some (.lst ds)) (e : ds[k]? = some d) : RE K (tOp (rIx K) (tVar i) te) Γ d Γ1 := fun σ H I ad s Q q => by
  obtain ⟨o, eo, r⟩ := s.get h
  obtain ⟨p, vs, rfl, _, _, _⟩ := r.lst_
  refine ⟨_, eo, ht σ H I ad s _ fun x H1 I1 ad1 s1 g1 b1 p1 => ?_⟩
  cases p1
  obtain ⟨p', ws, e1, _, hp, hd⟩ := (s1.rel i _ _ eo h1).lst_
  cases e1
  obtain ⟨v, hv, hdp⟩ := Da.at hd e
  exact .inl ⟨p, _, _, v, rfl, rfl, .inl (.inl hp), atI_nat hv, q _ H1 I1 ad1 s1 g1 b1 hdp⟩
end
end DL

/-! DL15: a, *b = t. -/
namespace DL
open PySem PySem.Spec PyProof.Rows L2
section
variable {prog : Program} {w : World} {A : Around} {E : Value → Shared → Prop} {s : Shared}
/-- what stands behind the first item of a tuple's iterator -/
theorem walks_rest (hh : A.handled = none) {it t : Addr} (hne : t ≠ it) {items : Array Value} (k : Nat) (hk : k ≤ items.size) :
    WalksS prog w A it [it, t] [it] (fun a b => a = b) (items.size - k) (fun i v => items[k + i]? = some v) (fun i s => s.heap.IsTupleIter it t (k + i) ∧ s.heap.IsTuple t items) where
  sub := fun b hb => by rw [List.mem_singleton.mp hb]; simp
  grefl := fun _ => rfl
  gtrans := fun _ _ _ h1 h2 => h1.trans h2
  frame := fun i s h' tk st _ kp => ⟨Heap.IsTupleIter.at st.1 fun o q => kp it (by simp) o q, st.2.at fun o q => kp t (by simp) o q⟩
  item := fun i s Q E hi st hQ => by
    have hlt : k + i < items.size := by omega
    refine wpAny_pyNext_tuple_item st.1 st.2 (x := items[k + i]) (Array.getElem?_eq_getElem hlt) fun h₁ hit hs => ?_
    refine hQ _ _ (Array.getElem?_eq_getElem hlt) ⟨hit, st.2.extBut hs.extBut hne⟩ ⟨fun b o hb e => hs.extBut b o (fun z => hb (by simp [z])) e, rfl, rfl, rfl, Nat.le_refl _⟩
  done := fun s Q E st hQ => by
    have e : k + (items.size - k) = items.size := by omega
    rw [e] at st
    exact wpAny_pyNext_tuple_end hh st.1 st.2 (Array.getElem?_eq_none (Nat.le_refl _)) fun h₁ hs => hQ _ ⟨fun b o hb e => hs b o (fun z => hb (by simp [z])) e, rfl, rfl, rfl, Nat.le_refl _⟩
  self := fun _ _ _ _ st hQ => wpAny_pyIter_tupleiter st.1 hQ
theorem unpack_star {t : Addr} {x : Value} {xs : List Value} {Q : List Value → Shared → Prop} (hh : A.handled = none) (ht : s.heap.IsTuple t (x :: xs).toArray) (hz : (x :: xs).length ≤ sizeLine)
    (hQ : ∀ (h' : Heap) (tk : Nat), (∀ b o, s.heap.get? b = some o → h'.get? b = some o) → Q [x, .ref h'.objs.size] { s with heap := h'.push { cls := .type "list", data := .seq xs.toArray }, toks := tk }) :
    wpAny (model prog w) A (unpackItems (.ref t) 2 (some 1)) Q E s := by
  have hlt : t ≠ s.heap.objs.size := by obtain ⟨o, ho, _⟩ := ht; exact Nat.ne_of_lt (Heap.lt_size ho)
  unfold unpackItems
  refine wpAny_bind ?_
  unfold notIterableAtAll
  refine wpAny_bind (wpAny_specialOf ht.typeIs F.slot_tuple_iter.lookup ?_)
  refine wpAny_pure ?_
  simp only [Bool.false_eq_true, if_false]
  refine wpAny_bind (wpAny_holding (wpAny_pyIter_tuple ht ?_))
  refine wpAny_bind (wpAny_holding (wpAny_draw_tuple hlt 1 0 _ _ ⟨_, Heap.get?_push_size _ rfl, rfl, rfl⟩ (ht.push _) (by simp) fun h₁ hit₁ hs₁ => ?_))
  have e1 : List.take 1 (List.drop 0 (x :: xs).toArray.toList) = [x] := rfl
  rw [e1]
  rw [if_neg (by simp)]
  have ht₁ : h₁.IsTuple t (x :: xs).toArray := (ht.push _).extBut hs₁.extBut hlt
  have keep₁ : ∀ b o, s.heap.get? b = some o → h₁.get? b = some o := fun b o e => hs₁.extBut b o (Nat.ne_of_lt (Heap.lt_size e)) (Heap.get?_push_of_some _ e)
  have hsz : ∀ b ∈ [s.heap.objs.size, t], b < h₁.objs.size := fun b hb => by
    rcases List.mem_cons.mp hb with z | z
    · rw [z]; obtain ⟨o, e, _⟩ := hit₁; exact Heap.lt_size e
    · rw [List.mem_singleton.mp z]; obtain ⟨o, e, _⟩ := ht₁; exact Heap.lt_size e
  refine wpAny_bind (wpAny_holding (wpAny_collect_iter (T := "tuple_iterator") (n := (x :: xs).toArray.size - 1) (.inr (.inr (.inr rfl))) (walks_rest (A := A.in1) hh hlt 1 (by simp)) (fun i s st => st.1.typeIs) ⟨hit₁, ht₁⟩ hsz (by simp) (fun s' acc hm ha => ?_) (by simp at hz ⊢; omega)))
  have hacc : acc.toList = xs := by
    obtain ⟨a1, a2⟩ := ha
    have l1 : acc.size = xs.length := by rw [a1]; simp
    apply List.ext_getElem?
    intro j
    by_cases hj : j < xs.length
    · have h1 : acc[j]? = some (acc[j]'(by omega)) := Array.getElem?_eq_getElem (by omega)
      have h2 := a2 j _ h1
      rw [Array.getElem?_toList, h1, ← h2]
      rw [List.getElem?_toArray, Nat.add_comm 1 j, List.getElem?_cons_succ]
    · rw [List.getElem?_eq_none (by rw [Array.length_toList]; omega), List.getElem?_eq_none (by omega)]
  rw [hacc]
  show wpAny _ _ (if xs.length < 2 - 1 - 1 then _ else _) _ _ _
  rw [if_neg (by omega)]
  refine wpAny_bind (wpAny_newList ?_ (by rw [List.length_take]; simp at hz; omega))
  refine wpAny_pure ?_
  have e2 : ([x] ++ [Value.ref s'.heap.objs.size] ++ List.drop (xs.length - (2 - 1 - 1)) xs) = [x, .ref s'.heap.objs.size] := by simp
  rw [e2]
  have e3 : List.take (xs.length - (2 - 1 - 1)) xs = xs := List.take_of_length_le (by omega)
  rw [e3]
  have hk : ∀ b o, s.heap.get? b = some o → s'.heap.get? b = some o := fun b o e => hm.heap b o (by rw [List.mem_singleton]; exact Nat.ne_of_lt (Heap.lt_size e)) (keep₁ b o e)
  have es : s' = { s with heap := s'.heap, toks := s'.toks } := by
    obtain ⟨h2, g2, d2, t2, o2⟩ := s'
    obtain ⟨h0, g0, d0, t0, o0⟩ := s
    have m1 : g0 = g2 := hm.gens
    have m2 : d2 = d0 := hm.drawn
    have m3 : o2 = o0 := hm.os
    subst m1 m2 m3
    rfl
  have := hQ s'.heap s'.toks hk
  rw [es]
  exact this
end
/-- a, *b = a tuple -/
def gStar (K : PySem.W.Frag) (t : TGs) : TG := fun v σ H Q => ∃ a x xs, v = .ref a ∧ SqT K H a (x :: xs) ∧ (x :: xs).length ≤ sizeLine ∧ ∀ p, H p = none → t [x, .ref p] σ (upd H p (.lst xs)) Q
theorem pg_star {X : Cx} {pos : Pos} {es es' : List Expr} {k : Nat} {t : TGs} (hc : X.calm = true) (h : PGs X es' t)
    (hm : (assignEach es X.env).map (·.2) = (assignEach es' X.env).map (·.2) := by rfl) (hn : (assignEach es X.env).length = 2 := by rfl) (hst : (assignEach es X.env).findIdx? (·.1) = some 1 := by rfl) : PG X (.Tuple es k pos) (gStar X.K t) := by
  refine ⟨fun pins s σ H v u Q I r hw => ?_⟩
  obtain ⟨a, x, xs, e1, hq, hz, hw⟩ := hw
  subst e1
  cases r
  obtain ⟨its, rv, ht, _⟩ := I.tuple hq
  cases rv with
  | cons r0 rr =>
    rename_i u0 us
    rw [PyProof.Rows.assign_Tuple]
    refine wpAny_bind (wpAny_standAt ?_)
    unfold unpack
    rw [hn, hst, hm]
    have hl := rr.length
    have pl : s.heap.IsTuple a (u0 :: us).toArray := ht
    refine wpAny_bind (wpAny_holding (unpack_star (I.ok.hd hc) pl (by simp at hz ⊢; omega) fun h' tk hk => ?_))
    have I1 : Inv X pins σ H { s with heap := h', toks := tk } := I.kept hk
    have I2 : Inv X pins σ (upd H h'.objs.size (.lst xs)) { s with heap := h'.push { cls := .type "list", data := .seq us.toArray }, toks := tk } :=
      I1.laid (t' := tk) (fun b o q => Heap.get?_push_of_some _ q) (Nat.le_refl _) (show ObjOk X.prog X.w _ _ _ (.lst xs) from ⟨by simp at hz; omega, us, _, rr, Heap.get?_push_size _ rfl⟩)
    exact h.run pins _ σ _ _ _ Q I2 (.cons r0 (.cons (show RelV (V.ref h'.objs.size) (.ref h'.objs.size) from rfl) .nil)) (hw _ (I1.hok.fresh (Nat.le_refl _)))
section
variable {K : PySem.W.Frag} {Γ Γ1 : Ga} {d : PyData} {ds : List PyData} {t : TGs} {ws : List Nat}
theorem rg_star (h : RGs K t [d, .list ds] Γ Γ1 ws) (hz : (d :: ds).length ≤ sizeLine) : RG K (gStar K t) (.tuple (d :: ds)) Γ Γ1 ws := fun σ H I ad x Q s p q => by
  obtain ⟨a, vs, rfl, hs, hd⟩ := dp_tup p
  cases hd with
  | cons p1 p2 =>
    rename_i v us
    refine ⟨a, v, us, rfl, sqT_ex s.sub hs, by rw [List.length_cons, Da.len p2]; exact hz, fun l hl => ?_⟩
    have g := Gr.new s.sub (o := .lst us) hl
    have s1 := s.gr g
    have d2 : Dp K (upd I l (.lst us)) (.ref l) (.list ds) := .lst (.inl (.inl upd_same)) (Da.ex p2 g.i)
    exact h σ _ _ ad _ Q s1 (.cons (Dp.ex p1 g.i) (.cons d2 .nil)) fun σ2 H2 I2 ad2 s2 g2 b2 e2 l2 => q σ2 H2 I2 ad2 s2 (g.trans g2) b2 e2 l2
end
end DL

/-! DL16: constants of the text, isinstance of two classes, sets of ints, None in a list, is True, max of a list, a list of bools, nested comprehensions, a new list in a tuple. -/
namespace DL
open PySem PySem.Spec PyProof.Rows L2
/-- a constant of the text -/
def Glo (mg : Str → Option Value) (x : Str) (v : V) : Prop := ∃ u, mg x = some u ∧ RelV v u
theorem pe_gl {X : Cx} {x : Str} {v : V} {pos : Pos} (g : Glo X.mg x v) (hg : Gl X x) (hn : x ≠ "__name__" := by decide) (hd : (x == ("__debug__" : Str)) = false := by decide) : PE X (.Name x pos) (tC v) := by
  obtain ⟨u, h, r⟩ := g
  exact pe_glob hg h r hd
/-- is True, is False -/
def tIsB (c : Bool) (ta : TE) : TE := fun σ H Q => ta σ H fun x H1 => ∃ b, x = .bl b ∧ Q (.bl (b == c)) H1
theorem pc_isB {X : Cx} {a : Expr} {ta : TE} {c : Bool} {j pos'} (ha : PE X a ta) : PC X .Is a (.Constant (.bool c) j pos') (tIsB c ta) := by
  refine ⟨fun pins s σ H Q I h => ?_⟩
  refine thn (ha.run pins s σ H _ I h) fun v s1 ⟨x, H1, I1, r1, b, e, q1⟩ => ?_
  subst e
  cases r1
  exact Constant_bool (is_bool ⟨.bl _, H1, I1, rfl, q1⟩)
section
variable {K : PySem.W.Frag} {Γ Γ1 Γ2 Γ3 Γ' : Ga} {d d1 d2 d3 : PyData} {ds es : List PyData} {te ta tb : TE} {tr : TA} {i j k : Nat} {wi wi1 : TI} {α : Type} {tt : TT}
theorem re_isB {b c : Bool} (h : RE K te Γ (.bool b) Γ1) : RE K (tIsB c te) Γ (.bool (b == c)) Γ1 := fun σ H I ad s Q q => h σ H I ad s _ fun x H1 I1 ad1 s1 g1 b1 p1 => by
  cases p1
  exact ⟨b, rfl, q _ H1 I1 ad1 s1 g1 b1 (.bl _)⟩
/-- isinstance(e, (list, tuple)) -/
theorem re_isi2 {S T : String} {b1 : Bool} (h : RE K te Γ d Γ1) (hk : ∀ t, (match d with
    | .none => t = .type "NoneType" | .bool _ => t = .type "bool" | .int _ => t = .type "int" | .str _ => t = .type "str"
    | .list _ => t = .type "list" | .tuple _ => t = .type "tuple" | .dict _ => False) → PySem.W.kitAny K t [.type S, .type T] = some b1) :
    RE K (tCB (rIsiT K) (tCons te (tCons (tTup (tCons (tC (.ty S)) (tCons (tC (.ty T)) tNil))) tNil))) Γ (.bool b1) Γ1 := fun σ H I ad s Q q =>
  h σ H I ad s _ fun v H1 I1 ad1 s1 g1 c1 p1 => by
    refine ⟨by show 2 ≤ 16777216; decide, fun p hp => ?_⟩
    have sf := s1.fresh (o := .tup [.ty S, .ty T]) hp
    have s2 := s1.gr (Gr.new (o := .tup [.ty S, .ty T]) s1.sub hp)
    have fin := q (.bl b1) (upd H1 p (.tup [.ty S, .ty T])) I1 ad1 sf.1 (g1.trans sf.2.no) c1 (.bl b1)
    have up : Ex H1 (upd H1 p (.tup [.ty S, .ty T])) := Ex.new_ hp
    have pr : Paired ClsV [.ty S, .ty T] [.type S, .type T] := .cons (.ty S) (.cons (.ty T) .nil)
    have hs : Ex I1 (upd H1 p (.tup [.ty S, .ty T])) := s1.sub.trans up
    cases p1 with
    | non => exact ⟨_, p, _, _, _, b1, rfl, upd_same, pr, .base .non, hk _ rfl, fin⟩
    | bl x => exact ⟨_, p, _, _, _, b1, rfl, upd_same, pr, .base (.bl x), hk _ rfl, fin⟩
    | int x => exact ⟨_, p, _, _, _, b1, rfl, upd_same, pr, .base (.int x), hk _ rfl, fin⟩
    | str x => exact ⟨_, p, _, _, _, b1, rfl, upd_same, pr, .base (.str x), hk _ rfl, fin⟩
    | lst a _ =>
      rcases sqL_ex hs a with (a | ⟨o, a⟩) | ⟨o, its, n, a, c, _⟩
      · exact ⟨_, p, _, _, _, b1, rfl, upd_same, pr, .base (.lst a), hk _ rfl, fin⟩
      · exact ⟨_, p, _, _, _, b1, rfl, upd_same, pr, .base (.frz a), hk _ rfl, fin⟩
      · exact ⟨_, p, _, _, _, b1, rfl, upd_same, pr, .kList a c, hk _ rfl, fin⟩
    | tup a _ =>
      rcases sqT_ex hs a with (a | ⟨o, a⟩) | ⟨o, its, n, a, c, _⟩
      · exact ⟨_, p, _, _, _, b1, rfl, upd_same, pr, .base (.tup a), hk _ rfl, fin⟩
      · exact ⟨_, p, _, _, _, b1, rfl, upd_same, pr, .fTuple a, hk _ rfl, fin⟩
      · exact ⟨_, p, _, _, _, b1, rfl, upd_same, pr, .kTuple a c, hk _ rfl, fin⟩
/-- len(set(ints)), all different -/
theorem re_lenSet {ns : List Int} (h : RE K te Γ (.list (ns.map .int)) Γ1) (hn : ns.Nodup) (hl : ns.length ≤ 4000) : RE K (RZ.tLenSetI K te) Γ (.int (ns.length : Int)) Γ1 := fun σ H I ad s Q q =>
  h σ H I ad s _ fun x H1 I1 ad1 s1 g1 b1 p1 => by
    obtain ⟨a, xs, rfl, h1, h2⟩ := dp_lst p1
    have := Da.of_ints h2; subst this
    exact ⟨a, ns, rfl, sqL_ex s1.sub h1, hn, hl, q _ H1 I1 ad1 s1 g1 b1 (.int _)⟩
/-- None in a list of ints -/
theorem re_noneIn {ns : List Int} (h : RE K te Γ (.list (ns.map .int)) Γ1) : RE K (tOp (rIn K false) (tC .non) te) Γ (.bool false) Γ1 := fun σ H I ad s Q q =>
  h σ H I ad s _ fun x H1 I1 ad1 s1 g1 b1 p1 => by
    obtain ⟨a, xs, rfl, h1, h2⟩ := dp_lst p1
    have := Da.of_ints h2; subst this
    have e : inV .non (ns.map V.int) = false := by
      unfold inV
      rw [List.any_map, List.any_eq_false]
      intro n _
      show ¬ eqV (.int n) .non = true
      exact Bool.false_ne_true
    exact ⟨a, _, rfl, .inl (sqL_ex s1.sub h1), rfl, flat_ints ns, q _ H1 I1 ad1 s1 g1 b1 (by rw [e]; exact .bl _)⟩
/-- max of a list of ints -/
theorem cd_maxL {ns : List Int} {m : Int} (h0 : m ∈ ns) (h1 : ∀ y ∈ ns, y ≤ m) : CD K (rMax K) [.list (ns.map .int)] (.int m) := fun I H vs e p Q q => by
  obtain ⟨v, rfl, h⟩ := da1 p
  obtain ⟨a, xs, rfl, h2, h3⟩ := dp_lst h
  have := Da.of_ints h3; subst this
  refine ⟨a, ns, rfl, sqL_ex e h2, List.length_pos_of_mem h0, fun m' hm' hx => ?_⟩
  have : m' = m := Int.le_antisymm (h1 m' hm') (hx m h0)
  subst this
  exact q _ H I (Gr.refl e) (.int _)
/-- bools.index(True) -/
theorem re_indexB {bs : List Bool} {j : Nat} (h : RE K ta Γ (.list (bs.map .bool)) Γ1) (hb : RE K tb Γ1 (.bool true) Γ2) (hj : bs[j]? = some true) (hno : ∀ m, m < j → bs[m]? ≠ some true) : RE K (tBM K "list" (rIndex K) ta (tCons tb tNil)) Γ (.int (j : Int)) Γ2 := fun σ H I ad s Q q =>
  h σ H I ad s _ fun x H1 I1 ad1 s1 g1 b1 p1 => by
    obtain ⟨a, xs, rfl, h1, h2⟩ := dp_lst p1
    have := Da.of_bools h2; subst this
    refine ⟨.inl ⟨rfl, _, sqL_ex s1.sub h1⟩, hb σ H1 I1 ad1 s1 _ fun y H2 I2 ad2 s2 g2 b2 p2 => ?_⟩
    cases p2
    refine ⟨a, bs.map V.bl, .bl true, j, .bl true, rfl, rfl, sqL_ex s2.sub (sqL_ex g2.i h1), rfl, by rw [List.all_map]; exact List.all_eq_true.mpr fun _ _ => rfl, by rw [List.getElem?_map, hj]; rfl, by simp [eqV], fun m z' hm hz => ?_, q _ H2 I2 ad2 s2 (g1.trans (g2.mono b1.own)) (b1.trans b2) (.int _)⟩
    rw [List.getElem?_map] at hz
    obtain ⟨w, hw, rfl⟩ := Option.map_eq_some_iff.mp hz
    have : w ≠ true := fun e => hno m hm (by rw [hw, e])
    simpa [eqV] using this
/-- [e for a, b in xs if c] -/
theorem rl_filtP (xs : List α) (e1 e2 out : α → PyData) (c : α → Bool) (h : RI K wi Γ (xs.map fun x => .tuple [e1 x, e2 x]) Γ1) (hl : xs.length ≤ 1000000)
    (tst : ∀ x ∈ xs, RT K tt (((wipeG Γ1 [i, j]).set i (.dat (e1 x))).set j (.dat (e2 x))) (c x) (((wipeG Γ1 [i, j]).set i (.dat (e1 x))).set j (.dat (e2 x))))
    (elt : ∀ x ∈ xs, c x = true → RE K te (((wipeG Γ1 [i, j]).set i (.dat (e1 x))).set j (.dat (e2 x))) (out x) (((wipeG Γ1 [i, j]).set i (.dat (e1 x))).set j (.dat (e2 x))))
    (hf : flatAt Γ1 [i, j] = true := by rfl) : RL K (tLc wi (gAny K 2 (gCons (gName i) (gCons (gName j) gNil))) tt te [i, j]) Γ ((xs.filter c).map out) Γ1 := by
  have key := rl_lc (Γ' := Γ1) (vs := [i, j]) (ws := [i] ++ ([j] ++ [])) (g := gAny K 2 (gCons (gName i) (gCons (gName j) gNil))) (tt := tt) (te := te) h (fun _ => wipeG Γ1 [i, j]) (fun n => ((xs.take n).filter c).map out) (by rw [List.length_map]; exact hl) rfl (by simp) rfl (flat_of hf) (fun k hk => by simpa using hk) fun n d e => by
    rw [List.getElem?_map] at e
    cases q : xs[n]? with
    | none => rw [q] at e; cases e
    | some x =>
      rw [q] at e; cases e
      have hi : i < (wipeG Γ1 [i, j]).length := by rw [wipeG_length]; exact flat_lt hf (by simp)
      have hj : j < ((wipeG Γ1 [i, j]).set i (.dat (e1 x))).length := by rw [List.length_set, wipeG_length]; exact flat_lt hf (by simp)
      have hm := List.mem_of_getElem? q
      have wp : wipeG (((wipeG Γ1 [i, j]).set i (.dat (e1 x))).set j (.dat (e2 x))) [i, j] = wipeG Γ1 [i, j] := by
        apply List.ext_getElem?
        intro k
        by_cases hk : k ∈ [i, j]
        · by_cases hb : k < Γ1.length
          · rw [wipeG_in hk (by rw [List.length_set, List.length_set, wipeG_length]; exact hb), wipeG_in hk hb]
          · rw [List.getElem?_eq_none (by rw [wipeG_length, List.length_set, List.length_set, wipeG_length]; omega), List.getElem?_eq_none (by rw [wipeG_length]; omega)]
        · rw [wipeG_out hk, List.getElem?_set_ne (fun z => hk (by rw [← z]; simp)), List.getElem?_set_ne (fun z => hk (by rw [← z]; simp))]
      refine ⟨_, _, c x, rg_anyT (rgs_cons (rg_name hi) (rgs_cons (rg_name hj) rgs_nil)), tst x hm, fun z => ⟨out x, _, elt x hm z, wp, ?_⟩, fun z => ⟨wp, ?_⟩⟩
      · rw [List.take_add_one, q, List.filter_append, List.map_append]
        show _ ++ List.map out (List.filter c [x]) = _
        rw [List.filter_cons, if_pos z]; rfl
      · rw [List.take_add_one, q, List.filter_append, List.map_append]
        show _ ++ List.map out (List.filter c [x]) = _
        rw [List.filter_cons, if_neg (by rw [z]; exact Bool.false_ne_true)]
        simp
  rw [List.length_map, List.take_length] at key
  exact key
end
/-! ### a new list inside a tuple -/
def PT (K : PySem.W.Frag) (F : List PyData → List PyData → PyData → PyData → Prop) : Sp := fun vs H Q _ => ∃ (I : Hp) (ds xs : List PyData) (d2 d3 : PyData), Ex I H ∧ DpAll K I vs ds ∧ F ds xs d2 d3 ∧
  ∀ t p v2 v3 us H' I', Gr No I H I' H' → H' t = some (.tup [.ref p, v2, v3]) → H p = none → I' p = none → H' p = some (.lst us) → DpAll K I' us xs → Dp K I' v2 d2 → Dp K I' v3 d3 → Q (.ref t) H'
def RX (K : PySem.W.Frag) (t : TS) (Γ : Ga) (xs : List PyData) (d2 d3 : PyData) : Prop :=
  ∀ (B : Bs) (σ : L2.St) (H I : Hp) (ad : Ads) (D : Ends), (∀ p, ¬ B.M p) → S2 K false B σ H I Γ ad →
    (∀ t p v2 v3 us H' I', Gr B.M B.I B.H I' H' → H' t = some (.tup [.ref p, v2, v3]) → B.H p = none → I' p = none → H' p = some (.lst us) → DpAll K I' us xs → Dp K I' v2 d2 → Dp K I' v3 d3 → D.rt (.ref t) H') → t D σ H
section
variable {K : PySem.W.Frag} {Γ Γ1 Γ2 Γ3 Γ' : Ga} {d d1 d2 d3 : PyData} {ds es xs : List PyData} {te ta tb : TE} {tr : TA} {i j k : Nat} {t u : TS} {an : Bool} {P : Po} {E : XK}
theorem rx_seq (h : RS K false t Γ ⟨fun Γ1 => RX K u Γ1 xs d2 d3, fun _ _ => False, fun _ => False, fun _ => False⟩) : RX K (tSeq t u) Γ xs d2 d3 := fun B σ H I ad D hM s e =>
  h B σ H I ad { D with nx := u D } s ⟨fun Γ1 σ1 H1 I1 ad1 p s1 => p B σ1 H1 I1 ad1 D hM s1 e, fun d Γ v σ H I ad z => z.elim, fun Γ σ H I ad z => z.elim, fun Γ σ H I ad z => z.elim⟩
theorem rx_ret (h : Γ[i]? = some (.lst xs)) (ha : RE K ta Γ d2 Γ1) (hb : RE K tb Γ1 d3 Γ2) (h2 : Γ2[i]? = some (.lst xs)) : RX K (tRet (tTup (tCons (tVar i) (tCons ta (tCons tb tNil))))) Γ xs d2 d3 := fun B σ H I ad D hM s e => by
  obtain ⟨o, eo, r⟩ := s.s.get h
  obtain ⟨p, us, rfl, ea, hp, hd⟩ := r.lst_
  refine ⟨_, eo, ha σ H I ad s.s _ fun v2 H1 I1 ad1 s1 g1 b1 p1 => hb σ H1 I1 ad1 s1 _ fun v3 H2 I2 ad2 s2 g2 b2 p2 => ⟨by show 3 ≤ 16777216; decide, fun t ht => ?_⟩⟩
  have z := (s.go s1 g1 b1).go s2 g2 b2
  have r2 := s2.rel i _ _ eo h2
  obtain ⟨p', us', ep, ea', hp', hd'⟩ := r2.lst_
  cases ep
  have own : Own ad2 p := ⟨i, by rw [ea']; simp⟩
  have hB : B.H p = none := by
    rcases z.fr p own with q | q
    · exact absurd q (hM p)
    · exact q
  have ne : p ≠ t := fun q => by rw [q, ht] at hp'; cases hp'
  have fr := s2.fresh (o := .tup [.ref p, v2, v3]) ht
  refine e t p v2 v3 us' _ I2 (z.gr.trans fr.2.no) upd_same hB (s2.own i p (by rw [ea']; simp)) (by rw [upd_ne ne]; exact hp') hd' (Dp.ex p1 g2.i) p2
/-- a, b, c = f(..) -/
theorem rs_call3 {F : List PyData → List PyData → PyData → PyData → Prop} (hr : RA K tr Γ ds Γ1) (hf : F ds xs d2 d3) (hn : P.nx (((Γ1.set i (.lst xs)).set j (.dat d2)).set k (.dat d3))) (hi : i < Γ1.length := by (simp; done)) (hj : j < Γ1.length := by (simp; done)) (hk : k < Γ1.length := by (simp; done))
    (i0 : an = true → i ≠ 0 := by decide) (j0 : an = true → j ≠ 0 := by decide) (k0 : an = true → k ≠ 0 := by decide) :
    RS K an (tAsg (tCall (PT K F) [] E tr) (gAny K 3 (gCons (gName i) (gCons (gName j) (gCons (gName k) gNil))))) Γ P := fun B σ H I ad D s e =>
  hr σ H I ad s.s _ fun vs H1 I1 ad1 s1 g1 b1 p1 => by
    show PT K F (vs ++ []) H1 _ E
    rw [List.append_nil]
    refine ⟨I1, ds, xs, d2, d3, s1.sub, p1, hf, fun t p v2 v3 us H2 I2 g2 ht hp hi2 hu hd q2 q3 => .inl ?_⟩
    have z := (s.go s1 g1 b1).go (s1.gr g2) g2.no (Sb.refl ad1)
    have z1 := z.setO (i := i) (p := p) (sl := .lst xs) hi (.lst hu hd) hi2 (s1.free hp) ((s.go s1 g1 b1).gr.k p hp) i0
    have z2 := z1.setD (i := j) (by rw [List.length_set]; exact hj) q2 j0
    have z3 := z2.setD (i := k) (by rw [List.length_set, List.length_set]; exact hk) q3 k0
    refine ⟨t, _, rfl, .inl (.inl ht), rfl, ⟨_, _, rfl, ⟨_, _, rfl, ⟨_, _, rfl, ⟨rfl, e.nx _ _ _ _ _ hn z3⟩⟩⟩⟩⟩
end
section
variable {P : Program} {w : World} {K : PySem.W.Frag} {mg : Str → Option Value} {base : Heap}
theorem cal_pt {x : Str} {st : Stmt} {N ps : List Str} {k : Nat} {F : List PyData → List PyData → PyData → PyData → Prop} (A : FunAt K mg x st) (S : FnScope N ps (defScope st))
    (bnd : ∀ (kV doc pm : Value) (an : Option Addr) (cdv ct : Value) (us : List Value), us.length = ps.length → bindArgs (PySem.W.fnOf x x (defArgs st) (defBody st) (defScope st) .none kV doc pm an cdv ct) ⟨us, []⟩ = pure (ps.zip us))
    (len : ∀ ds xs d2 d3, F ds xs d2 d3 → ds.length = ps.length)
    (body : ∀ (f : Addr) (cdv : Value) (A : Around) (outer : List Env) (s : Shared) (H : Hp) (E : XK), Room k (A.deeper (envOfC x (defScope st) s.heap.objs.size f cdv)) →
      ∃ t, PSs (cxOf CX0 P w K mg base N x (defScope st) f cdv A outer s H E).nox (defBody st) t ∧ ∀ ds xs d2 d3, F ds xs d2 d3 → RX K t (gst N ds) xs d2 d3) :
    Cal P w K mg base x (k + 1) ps (PT K F) := by
  obtain ⟨f, fd, Fn, hm⟩ := A.ex
  refine ⟨f, fd, ?_, hm, Fn.kp, Fn.binds bnd⟩
  refine Fn.ok S (fun vs H Q E h => ?_) (fun cdv A outer s H vs Q E hr h => ?_)
  · obtain ⟨I, ds, xs, d2, d3, _, hd, hF, _⟩ := h
    rw [Da.len hd]; exact len ds xs d2 d3 hF
  · obtain ⟨I, ds, xs, d2, d3, hs, hd, hF, q⟩ := h
    obtain ⟨t, ht, hR⟩ := body f cdv A outer s H E hr
    refine ⟨t, ht, ?_⟩
    refine hR ds xs d2 d3 hF ⟨none, [], No, H, I⟩ (start N vs) H I (fun _ => []) _ (fun p z => z) ⟨s1_start hs hd, Gr.refl hs, fun p ⟨i, z⟩ => by simp at z, fun z => by cases z⟩ ?_
    intro t p v2 v3 us H' I' g1 g2 g3 g4 g5 g6 g7 g8
    exact q t p v2 v3 us H' I' g1 g2 g3 g4 g5 g6 g7 g8
end
end DL

/-! DL17: [y for x in xs for y in ..]. -/
namespace DL
open PySem PySem.Spec PyProof.Rows L2
section
variable {K : PySem.W.Frag} {Γ Γ1 : Ga} {te : TE} {i j : Nat} {wi wi1 : TI} {α : Type}
theorem rl_lc2 (xs : List α) (en : α → PyData) (ys : α → List PyData) (h : RI K wi Γ (xs.map en) Γ1) (hne : i ≠ j)
    (hin : ∀ x ∈ xs, RI K wi1 ((wipeG Γ1 [i, j]).set i (.dat (en x))) (ys x) ((wipeG Γ1 [i, j]).set i (.dat (en x))))
    (hz : (xs.flatMap ys).length ≤ 1000000) (hf : flatAt Γ1 [i, j] = true := by rfl) :
    RL K (tLc2 wi (gName i) tYes wi1 (gName j) tYes (tVar j) [i, j] [j]) Γ (xs.flatMap ys) Γ1 := fun σ H I ad s Q q => h σ H I ad s _ fun J H1 I1 ad1 s1 g1 b1 W D hD => by
  have hID : I1 D = none := s1.sub.non_ hD
  have hi : i < Γ1.length := flat_lt hf (by simp)
  have hj : j < Γ1.length := flat_lt hf (by simp)
  have hls : σ.length = Γ1.length := s1.len
  let vs := [i, j]
  -- the state at any time, over slots G of the state τ
  let Stt : L2.St → Ga → List PyData → Hp → Prop := fun τ G res H2 => ∃ I2 ad2 acc, S1 K τ H2 I2 G ad2 ∧ Gr (fun p => Own ad1 p ∨ p = D) I1 (upd H1 D (.lst [])) I2 H2 ∧ Sb (wipeA ad1 vs) ad2 ∧ I2 D = none ∧ H2 D = some (.lst acc) ∧ DpAll K I2 acc res
  have noD : ∀ ad2, Sb (wipeA ad1 vs) ad2 → ¬ Own ad2 D := fun ad2 b z => s1.free hD ((wipeA_sb ad1 vs).own D (b.own D z))
  let F0 := L2.wipe σ vs
  let G0 := wipeG Γ1 vs
  have lx : (xs.map en).length = xs.length := List.length_map _
  refine ⟨fun n m H2 => m = xs.length - n ∧ n ≤ xs.length ∧ Stt F0 G0 ((xs.take n).flatMap ys) H2, ⟨xs.length, by simp, Nat.zero_le _, I1, wipeA ad1 vs, [], (s1.fresh hD).1.wiped vs, Gr.refl (s1.sub.upd_ hID), Sb.refl _, hID, upd_same, .nil⟩, ?_⟩
  rintro n m H2 ⟨rfl, hn, I2, ad2, acc, t, gr, sb, hI2, hacc, hd⟩
  by_cases hlt : n < xs.length
  · refine .inr ⟨W.goes n H2 (by rw [lx]; exact hlt) (gr.i.trans t.sub), fun H' => Stt F0 G0 ((xs.take (n + 1)).flatMap ys) H', fun H' p' => ⟨xs.length - (n + 1), by omega, rfl, hlt, p'⟩, fun x H3 y => ?_⟩
    have hx : (xs.map en)[n]? = some (en xs[n]) := by rw [List.getElem?_map, List.getElem?_eq_getElem hlt]; rfl
    have hmem : xs[n] ∈ xs := List.getElem_mem hlt
    generalize hxn : xs[n] = xn at hx hmem
    obtain ⟨I3, g3, p3⟩ := W.yields n _ H2 I2 x H3 hx gr.i t.sub y
    have hiF : i < G0.length := by show i < (wipeG Γ1 [i, j]).length; rw [wipeG_length]; exact hi
    have s4 : S1 K (F0.set i (some x)) H3 I3 (G0.set i (.dat (en xn))) (adSet ad2 i []) := (t.gr g3).setD hiF p3
    have sb4 : Sb (wipeA ad1 vs) (adSet ad2 i []) := sb.trans (adSet_sb i)
    have gr3 : Gr (fun p => Own ad1 p ∨ p = D) I1 (upd H1 D (.lst [])) I3 H3 := gr.trans g3.no
    have h2D : H2 D ≠ none := by rw [hacc]; exact fun z => nomatch z
    have a3 : H3 D = some (.lst acc) := g3.h D _ (fun z => z) hacc
    have i3 : I3 D = none := g3.f D hI2 h2D fun z => z
    -- what is wiped
    have lF : F0.length = Γ1.length := by show (L2.wipe σ [i, j]).length = _; rw [wipe_length]; exact hls
    have F0i : F0[i]? = some none := wipe_in (by simp [vs]) (by omega)
    have F0j : F0[j]? = some none := wipe_in (by simp [vs]) (by omega)
    have G0i : G0[i]? = some .un := wipeG_in (by simp [vs]) hi
    have G0j : G0[j]? = some .un := wipeG_in (by simp [vs]) hj
    have back : ∀ (τ : L2.St), τ.length = F0.length → (∀ k, k ≠ i → k ≠ j → τ[k]? = F0[k]?) → L2.wipe τ vs = F0 := fun τ hl hk => by
      have e : L2.wipe τ vs = L2.wipe F0 vs := wipe_eq (ws := vs) (by rw [wipe_length]; exact hl) (fun k hk2 => by
        rw [wipe_out hk2]
        exact hk k (fun z => hk2 (by simp [vs, z])) (fun z => hk2 (by simp [vs, z]))) (fun k h => h)
      rw [e]
      apply List.ext_getElem?
      intro k
      by_cases z : k ∈ vs
      · by_cases z2 : k < F0.length
        · rw [wipe_in z z2]
          rcases List.mem_cons.mp z with rfl | z3
          · exact F0i.symm
          · rw [List.mem_singleton.mp z3]; exact F0j.symm
        · rw [List.getElem?_eq_none (by rw [wipe_length]; omega), List.getElem?_eq_none (by omega)]
      · rw [wipe_out z]
    have backG : ∀ (G : Ga), G.length = G0.length → (∀ k, k ≠ i → k ≠ j → G[k]? = G0[k]?) → wipeG G vs = G0 := fun G hl hk => by
      apply List.ext_getElem?
      intro k
      by_cases z : k ∈ vs
      · by_cases z2 : k < G.length
        · rw [wipeG_in z z2]
          rcases List.mem_cons.mp z with rfl | z3
          · exact G0i.symm
          · rw [List.mem_singleton.mp z3]; exact G0j.symm
        · rw [List.getElem?_eq_none (by rw [wipeG_length]; omega), List.getElem?_eq_none (by omega)]
      · rw [wipeG_out z]
        exact hk k (fun e => z (by simp [vs, e])) (fun e => z (by simp [vs, e]))
    let F1 := F0.set i (some x)
    let G1 := G0.set i (.dat (en xn))
    have e1 : L2.wipe F1 vs = F0 := back F1 (List.length_set ..) fun k h1 h2 => List.getElem?_set_ne (Ne.symm h1)
    have F1j : F1[j]? = some none := by show (F0.set i (some x))[j]? = _; rw [List.getElem?_set_ne hne]; exact F0j
    have G1j : G1[j]? = some .un := by show (G0.set i (.dat (en xn)))[j]? = _; rw [List.getElem?_set_ne hne]; exact G0j
    have wF1 : L2.wipe F1 [j] = F1 := by
      show F1.set j none = F1
      apply List.ext_getElem?
      intro k
      by_cases z : j = k
      · subst z; rw [List.getElem?_set_self (by show j < (F0.set i (some x)).length; rw [List.length_set]; omega), F1j]
      · rw [List.getElem?_set_ne z]
    show L2.wipe F1 vs = L2.wipe σ vs ∧ _
    refine ⟨e1, ?_⟩
    unfold tYes
    dsimp only
    rw [if_pos rfl]
    refine hin xn hmem F1 H3 I3 _ s4 _ fun J1 H5 I5 ad5 s5 g5 b5 W1 => ?_
    have own4 : ∀ p, Own (adSet ad2 i []) p → (Own ad1 p ∨ p = D) := fun p z => .inl ((wipeA_sb ad1 vs).own p (sb4.own p z))
    have gr5 : Gr (fun p => Own ad1 p ∨ p = D) I1 (upd H1 D (.lst [])) I5 H5 := gr3.trans (g5.mono own4)
    have a5 : H5 D = some (.lst acc) := g5.h D _ (noD _ sb4) a3
    have i5 : I5 D = none := g5.f D i3 (by rw [a3]; exact fun z => nomatch z) (noD _ sb4)
    refine ⟨fun l k H6 => k = (ys xn).length - l ∧ l ≤ (ys xn).length ∧ ∃ I6 ad6 acc6, S1 K F1 H6 I6 G1 ad6 ∧ Gr (fun p => Own ad1 p ∨ p = D) I1 (upd H1 D (.lst [])) I6 H6 ∧ Sb (wipeA ad1 vs) ad6 ∧ I6 D = none ∧ H6 D = some (.lst acc6) ∧ DpAll K I6 acc6 ((xs.take n).flatMap ys ++ (ys xn).take l) ∧ Ex I5 I6,
      ⟨(ys xn).length, by simp, Nat.zero_le _, I5, ad5, acc, s5, gr5, sb4.trans b5, i5, a5, by rw [List.take_zero, List.append_nil]; exact Da.ex (Da.ex hd g3.i) g5.i, Ex.refl I5⟩, ?_⟩
    rintro l k H6 ⟨rfl, hl, I6, ad6, acc6, t6, gr6, sb6, i6, a6, d6, x6⟩
    by_cases hll : l < (ys xn).length
    · refine .inr ⟨W1.goes l H6 hll (x6.trans t6.sub), fun H' => ∃ I6 ad6 acc6, S1 K F1 H' I6 G1 ad6 ∧ Gr (fun p => Own ad1 p ∨ p = D) I1 (upd H1 D (.lst [])) I6 H' ∧ Sb (wipeA ad1 vs) ad6 ∧ I6 D = none ∧ H' D = some (.lst acc6) ∧ DpAll K I6 acc6 ((xs.take n).flatMap ys ++ (ys xn).take (l + 1)) ∧ Ex I5 I6, fun H' p' => ⟨(ys xn).length - (l + 1), by omega, rfl, hll, p'⟩, fun y H7 yy => ?_⟩
      obtain ⟨I7, g7, p7⟩ := W1.yields l _ H6 I6 y H7 (List.getElem?_eq_getElem hll) x6 t6.sub yy
      have s7 := t6.gr g7
      have e2 : L2.wipe (F1.set j (some y)) [j] = L2.wipe F1 [j] := by
        show (F1.set j (some y)).set j none = F1.set j none
        rw [List.set_set]
      show L2.wipe ((L2.wipe F1 [j]).set j (some y)) [j] = L2.wipe F1 [j] ∧ _
      rw [wF1]
      refine ⟨by rw [e2, wF1], ?_⟩
      rw [if_pos rfl]
      have a7 : H7 D = some (.lst acc6) := g7.h D _ (fun z => z) a6
      have i7 : I7 D = none := g7.f D i6 (by rw [a6]; exact fun z => nomatch z) fun z => z
      have tot : ((xs.take n).flatMap ys ++ (ys xn).take l).length ≤ 1000000 := by
        have e3 : xs = xs.take n ++ (xn :: xs.drop (n + 1)) := by
          rw [← hxn, ← List.drop_eq_getElem_cons hlt, List.take_append_drop]
        rw [e3, List.flatMap_append, List.flatMap_cons, List.length_append, List.length_append] at hz
        rw [List.length_append, List.length_take]
        omega
      have la : acc6.length ≤ 1000000 := by rw [Da.len d6]; exact tot
      refine ⟨y, by rw [List.getElem?_set_self (by show j < (F0.set i (some x)).length; rw [List.length_set]; omega)], acc6, a7, by show acc6.length < 16777216; omega, I7, ad6, acc6 ++ [y], ?_, ?_, sb6, i7, upd_same, ?_, x6.trans g7.i⟩
      · exact s7.other a7 i7 (noD ad6 sb6)
      · exact (gr6.trans g7.no).trans (Gr.mut s7.sub (.inr rfl) i7 a7)
      · rw [List.take_add_one, List.getElem?_eq_getElem hll, ← List.append_assoc]
        exact Da.app (Da.ex d6 g7.i) (Da.one p7)
    · have el : l = (ys xn).length := by omega
      subst el
      refine .inl ⟨W1.stops H6 (x6.trans t6.sub), I6, wipeA ad6 vs, acc6, ?_, gr6, sb6.trans (wipeA_sb ad6 vs), i6, a6, ?_⟩
      · have s8 := t6.wiped vs
        rw [e1, backG G1 (List.length_set ..) fun k h1 h2 => List.getElem?_set_ne (Ne.symm h1)] at s8
        exact s8
      · rw [List.take_length] at d6
        rw [List.take_add_one, List.getElem?_eq_getElem hlt, hxn, List.flatMap_append]
        show DpAll K I6 acc6 (_ ++ List.flatMap ys [xn])
        rw [List.flatMap_cons, List.flatMap_nil, List.append_nil]
        exact d6
  · have en' : n = xs.length := by omega
    subst en'
    refine .inl ⟨by have := W.stops H2 (gr.i.trans t.sub); rw [lx] at this; exact this, ?_⟩
    rw [List.take_length] at hd
    refine q D acc H2 I2 ad2 (S1.back s1 t gr.i (flat_of hf)) ?_ (b1.trans ((wipeA_sb ad1 vs).trans sb)) (g1.k D hD) hI2 hacc hd
    refine g1.trans ⟨gr.i, fun a o na ha => ?_, fun a ha => ?_, t.sub, fun a ha hna nma => ?_⟩
    · have ne : a ≠ D := fun z => by rw [z, hD] at ha; cases ha
      exact gr.h a o (fun z => z.elim (fun z => na (b1.own a z)) ne) (by rw [upd_ne ne]; exact ha)
    · have := gr.k a ha
      by_cases ne : a = D
      · rw [ne]; exact hD
      · rw [upd_ne ne] at this; exact this
    · have ne : a ≠ D := fun z => hna (by rw [z]; exact hD)
      exact gr.f a ha (by rw [upd_ne ne]; exact hna) fun z => z.elim (fun z => nma (b1.own a z)) ne
end
theorem kIsiT {X : Cx} (K : PySem.W.Frag) (h : X.K = K := by rfl) : CallR X (.builtin "isinstance") (rIsiT K) := by subst h; exact call_isiT
theorem kMax {X : Cx} (K : PySem.W.Frag) (hc : X.calm = true) (h : X.K = K := by rfl) : CallR X (.builtin "max") (rMax K) := by subst h; exact cr_max hc
theorem kLenSet {X : Cx} {a : Expr} {ta : TE} {p p2 q pos : Pos} (K : PySem.W.Frag) (hg : Gl X "len") (hm : X.mg "len" = none) (hg2 : Gl X "set") (hm2 : X.mg "set" = none) (ha : PE X a ta) (hc : X.calm = true := by rfl)
    (na : starEach [a] X.env = (false, eval a X.env) :: starEach [] X.env := by rfl) (h : X.K = K := by rfl) : PE X (.Call (.Name "len" p) [.Call (.Name "set" p2) [a] [] q] [] pos) (RZ.tLenSetI K ta) := by
  subst h; exact RZ.pe_lenSetI hg hm hg2 hm2 ha hc na
theorem kStar {X : Cx} {pos : Pos} {es : List Expr} {k : Nat} {t : TGs} (K : PySem.W.Frag) (h : PG X (.Tuple es k pos) (gStar X.K t)) (hk : X.K = K := by rfl) : PG X (.Tuple es k pos) (gStar K t) := by subst hk; exact h
end DL

/-! DL18: a < b < c; texts compared; enumerated lists. -/
namespace DL
open PySem PySem.Spec PyProof.Rows L2
section
variable {K : PySem.W.Frag} {Γ Γ1 Γ2 Γ3 Γ' : Ga} {d d1 d2 d3 : PyData} {ds es : List PyData} {te ta tb tc : TE} {b c : Bool} {r r' : R2}
theorem re_chain (ha : RE K ta Γ d1 Γ1) (hb : RE K tb Γ1 d2 Γ2) (hr : OD K r d1 d2 (.bool b)) (hc : RE K tc Γ2 d3 Γ2) (hr' : OD K r' d2 d3 (.bool c)) : RE K (tChain r r' ta tb tc) Γ (.bool (b && c)) Γ2 := fun σ H I ad s Q q =>
  ha σ H I ad s _ fun x H1 I1 ad1 s1 g1 b1 p1 => hb σ H1 I1 ad1 s1 _ fun y H2 I2 ad2 s2 g2 b2 p2 => hr I2 H2 x y s2.sub (Dp.ex p1 g2.i) p2 _ fun v H3 I3 g3 p3 => by
    cases p3
    refine ⟨b, rfl, ?_⟩
    have s3 := s2.gr g3
    have g13 := g1.trans ((g2.mono b1.own).trans g3.no)
    cases b with
    | false =>
      rw [if_neg Bool.false_ne_true]
      exact q _ H3 I3 ad2 s3 g13 (b1.trans b2) (.bl _)
    | true =>
      rw [if_pos rfl]
      exact hc σ H3 I3 ad2 s3 _ fun w H4 I4 ad4 s4 g4 b4 p4 => hr' I4 H4 y w s4.sub (Dp.ex p2 (g3.i.trans g4.i)) p4 Q fun v H5 I5 g5 p5 =>
        q v H5 I5 ad4 (s4.gr g5) (g13.trans ((g4.mono (b1.trans b2).own).trans g5.no)) (b1.trans (b2.trans b4)) p5
theorem dec_str {x y : Str} : decide (V.str x = V.str y) = decide (x = y) := by
  by_cases h : x = y
  · subst h; simp
  · rw [decide_eq_false h, decide_eq_false (fun z => h (V.str.inj z))]
theorem od_eqS {x y : Str} : OD K rEq (.str x) (.str y) (.bool (decide (x = y))) := fun I H u v e p1 p2 Q q => by
  cases p1; cases p2
  exact ⟨rfl, q _ H I (Gr.refl e) (by rw [dec_str]; exact .bl _)⟩
theorem re_eqS {x y : Str} (ha : RE K ta Γ (.str x) Γ1) (hb : RE K tb Γ1 (.str y) Γ2) : RE K (tOp (rEqX K) ta tb) Γ (.bool (decide (x = y))) Γ2 := re_op ha hb (od_l od_eqS)
theorem enumD_get {i : Nat} (h : (enumD ds)[i]? = some d) : ∃ x, ds[i]? = some x ∧ d = .tuple [.int (i : Int), x] := by
  unfold enumD at h
  rw [List.getElem?_mapIdx] at h
  obtain ⟨x, hx, rfl⟩ := Option.map_eq_some_iff.mp h
  exact ⟨x, hx, rfl⟩
theorem enumD_len : (enumD ds).length = ds.length := by unfold enumD; rw [List.length_mapIdx]
end
end DL

/-! DL19: list(xs) of an owned list. -/
namespace DL
open PySem PySem.Spec PyProof.Rows L2
section
variable {K : PySem.W.Frag} {Γ : Ga} {ds : List PyData} {i : Nat}
theorem rl_listO (h : Γ[i]? = some (.lst ds)) : RL K (tCB (rListOf K) (tCons (tVar i) tNil)) Γ ds Γ := fun σ H I ad s Q q => by
  obtain ⟨o, eo, r⟩ := s.get h
  obtain ⟨p, vs, rfl, ea, hp, hd⟩ := r.lst_
  exact ⟨_, eo, ⟨p, vs, rfl, .inl (.inl (.inl hp)), fun l hl => q l vs _ I ad (s.fresh hl).1 (s.fresh hl).2.no (Sb.refl ad) hl (s.sub.non_ hl) upd_same hd⟩⟩
end
end DL

/-! DL20: defs of an owned object whose answer is told by a relation alone. -/
namespace DL
open PySem PySem.Spec PyProof.Rows L2
def PD {α : Type} (K : PySem.W.Frag) (Pre : α → Sl → List PyData → Prop) (G : α → PyData → Sl → Prop) : Sp := fun vs H Q _ => ∃ (a : α) (I : Hp) (v0 : V) (ws : List V) (sl : Sl) (as : List Addr) (ds : List PyData),
  vs = v0 :: ws ∧ Ex I H ∧ SR K I H (some v0) sl as ∧ (∀ p ∈ as, I p = none) ∧ DpAll K I ws ds ∧ Pre a sl ds ∧
  ∀ d sl', G a d sl' → ∀ v H' I', Gr (fun p => p ∈ as) I H I' H' → SR K I' H' (some v0) sl' as → (∀ p ∈ as, I' p = none) → Dp K I' v d → Q v H'
section
variable {K : PySem.W.Frag} {Γ Γ1 : Ga} {ds : List PyData} {sl : Sl} {tr : TA} {i j : Nat} {an : Bool} {P : Po} {E : XK} {α : Type} {Pre : α → Sl → List PyData → Prop} {G : α → PyData → Sl → Prop}
/-- x = f(own, ..) -/
theorem rs_callD (h : Γ[i]? = some sl) (hr : RA K tr Γ ds Γ1) (h1 : Γ1[i]? = some sl) (ho : sl.flat = false) (a : α) (hp : Pre a sl ds) (hn : ∀ d sl', G a d sl' → P.nx ((Γ1.set i sl').set j (.dat d))) (hj : j < Γ1.length := by (simp; done)) (j0 : an = true → j ≠ 0 := by decide) :
    RS K an (tAsg (tCall (PD K Pre G) [] E (tCons (tVar i) tr)) (gName j)) Γ P := fun B σ H I ad D s e => by
  obtain ⟨o, eo, _⟩ := s.s.get h
  have hv : ∃ v, o = some v := by
    have r := s.s.rel i o sl eo h
    generalize ad i = as at r
    cases r <;> first | exact ⟨_, rfl⟩ | simp [Sl.flat] at ho
  obtain ⟨v0, rfl⟩ := hv
  refine ⟨v0, eo, hr σ H I ad s.s _ fun vs H1 I1 ad1 s1 g1 b1 p1 => ?_⟩
  show PD K Pre G ((v0 :: vs) ++ []) H1 _ E
  rw [List.append_nil]
  refine ⟨a, I1, v0, vs, sl, ad1 i, ds, rfl, s1.sub, s1.rel i _ _ eo h1, fun p hp => s1.own i p hp, p1, hp, fun d sl' hG v H2 I2 g2 r2 o2 p2 => ?_⟩
  have z := (s.go s1 g1 b1).put eo h1 rfl g2 o2 r2
  exact e.nx _ _ _ _ _ (hn d sl' hG) (z.setD (i := j) (by rw [List.length_set]; exact hj) p2 j0)
end
section
variable {P : Program} {w : World} {K : PySem.W.Frag} {mg : Str → Option Value} {base : Heap}
theorem cal_ownD {x : Str} {st : Stmt} {N ps : List Str} {k : Nat} {α : Type} {Pre : α → Sl → List PyData → Prop} {G : α → PyData → Sl → Prop} (A : FunAt K mg x st) (S : FnScope N ps (defScope st))
    (bnd : ∀ (kV doc pm : Value) (an : Option Addr) (cdv ct : Value) (us : List Value), us.length = ps.length → bindArgs (PySem.W.fnOf x x (defArgs st) (defBody st) (defScope st) .none kV doc pm an cdv ct) ⟨us, []⟩ = pure (ps.zip us))
    (len : ∀ a sl ds, Pre a sl ds → ds.length + 1 = ps.length ∧ ∀ d sl', G a d sl' → sl'.flat = false)
    (body : ∀ (f : Addr) (cdv : Value) (A : Around) (outer : List Env) (s : Shared) (H : Hp) (E : XK), Room k (A.deeper (envOfC x (defScope st) s.heap.objs.size f cdv)) →
      ∃ t, PSs (cxOf CX0 P w K mg base N x (defScope st) f cdv A outer s H E).nox (defBody st) t ∧ ∀ a sl ds, Pre a sl ds → RS K true t (gstO N sl ds) ⟨fun Γ => ∃ sl', Γ[0]? = some sl' ∧ G a .none sl', fun d' Γ => ∃ sl', Γ[0]? = some sl' ∧ G a d' sl', fun _ => False, fun _ => False⟩) :
    Cal P w K mg base x (k + 1) ps (PD K Pre G) := by
  obtain ⟨f, fd, Fn, hm⟩ := A.ex
  refine ⟨f, fd, ?_, hm, Fn.kp, Fn.binds bnd⟩
  refine Fn.ok S (fun vs H Q E h => ?_) (fun cdv A outer s H vs Q E hr h => ?_)
  · obtain ⟨a, I, v0, ws, sl, as, ds, rfl, _, _, _, hd, hF, _⟩ := h
    rw [List.length_cons, Da.len hd]; exact (len a sl ds hF).1
  · obtain ⟨a0, I, v0, ws, sl, as, ds, rfl, hs, hr0, ho, hd, hF, q⟩ := h
    obtain ⟨t, ht, hR⟩ := body f cdv A outer s H E hr
    refine ⟨t, ht, ?_⟩
    have fl := (len a0 sl ds hF).2
    have hd0 : DpAll K I (.non :: ws) (.none :: ds) := .cons .non hd
    have s0 := s1_start (N := N) hs hd0
    have hN : 0 < (gst N (.none :: ds)).length := by unfold gst; rw [List.length_append, List.map_cons, List.length_cons]; omega
    have s1 := s0.set (i := 0) (o := some v0) (sl := sl) (as := as) hN hr0 ho (fun j p _ _ z => by simp at z)
    have e0 : (start N (V.non :: ws)).set 0 (some v0) = start N (v0 :: ws) := by
      unfold L2.start
      rw [List.map_cons, List.cons_append, List.set_cons_zero, List.map_cons, List.cons_append]
      rfl
    rw [e0] at s1
    have ad0 : adSet (fun _ => []) 0 as 0 = as := adSet_same
    have fin : ∀ (d : PyData) (sl' : Sl) (Γ : Ga) (v : V) (σ : L2.St) (H' I' : Hp) (ad : Ads), Γ[0]? = some sl' → G a0 d sl' → S2 K true ⟨some v0, as, fun p => p ∈ as, H, I⟩ σ H' I' Γ ad → Dp K I' v d → Q v H' := fun d sl' Γ v σ H' I' ad hΓ hG s' p => by
      obtain ⟨o, eo, r⟩ := s'.s.get hΓ
      have a := s'.anc rfl
      rw [a.1] at eo
      have eo : some v0 = o := Option.some.inj eo
      subst eo
      have hne := r.own_ne (fl d sl' hG)
      have ha : ad 0 = as := by
        rcases a.2 with z | z
        · exact z
        · exact absurd z hne
      rw [ha] at r
      exact q d sl' hG v H' I' s'.gr r (fun p hp => s'.s.own 0 p (by rw [ha]; exact hp)) p
    refine hR a0 sl ds hF ⟨some v0, as, fun p => p ∈ as, H, I⟩ (start N (v0 :: ws)) H I (adSet (fun _ => []) 0 as) _ ⟨s1, Gr.refl hs, fun p ⟨i, z⟩ => ?_, fun _ => ⟨?_, .inl ad0⟩⟩ ⟨?_, ?_, ?_, ?_⟩
    · by_cases e : i = 0
      · subst e; rw [ad0] at z; exact .inl z
      · rw [adSet_ne e] at z; simp at z
    · unfold L2.start; rw [List.map_cons]; rfl
    · intro Γ σ H' I' ad ⟨sl', hΓ, hG⟩ s'
      exact fin .none sl' Γ .non σ H' I' ad hΓ hG s' .non
    · intro d' Γ v σ H' I' ad ⟨sl', hΓ, hG⟩ s' p
      exact fin d' sl' Γ v σ H' I' ad hΓ hG s' p
    · intro Γ σ H' I' ad z; exact z.elim
    · intro Γ σ H' I' ad z; exact z.elim
end
end DL

namespace K87
open PySem PySem.Spec PyProof.Rows L2 DL
open PySem.Builtin.Int (intBits)
variable {P : Program} {w : World} {K : PySem.W.Frag} {mg : Str → Option Value} {base : Heap}
/-- a list or tuple of ints -/
def Sq (d : PyData) (xs : List Int) : Prop := seqD d = some (xs.map .int)
def vec (xs : List Int) : PyData := .tuple (xs.map .int)
theorem sq_vec (xs : List Int) : Sq (vec xs) xs := rfl
def dotL (f v : List Int) : Int := ((List.zip f v).map fun p => p.1 * p.2).sum
def scaleL (k : Int) (f : List Int) : List Int := f.map fun x => k * x
def combL (k : Int) (f : List Int) (l : Int) (g : List Int) : List Int := (List.zip f g).map fun p => k * p.1 + l * p.2
def unitL (n : Nat) (k : Int) : List Int := (List.range n).map fun (i : Nat) => if (i : Int) = k then 1 else 0
/-! ### bezout -/
abbrev T3 := Int × Int × Int
def trip (z : T3) : PyData := .tuple [.int z.1, .int z.2.1, .int z.2.2]
def sub3 (q : Int) (l r : T3) : T3 := (l.1 - q * r.1, l.2.1 - q * r.2.1, l.2.2 - q * r.2.2)
inductive BzRun : Nat → T3 → T3 → T3 → Prop where
  | stop {l r : T3} : r.1 = 0 → BzRun 0 l r l
  | step {n : Nat} {l r z : T3} : r.1 ≠ 0 → IntMulOk (l.1.fdiv r.1) r.1 → IntMulOk (l.1.fdiv r.1) r.2.1 → IntMulOk (l.1.fdiv r.1) r.2.2 → BzRun n r (sub3 (l.1.fdiv r.1) l r) z → BzRun (n + 1) l r z
def bzStart (a b : Int) : T3 := if a ≠ 0 ∧ b.fmod a = 0 then (0, 0, 1) else (b, 0, 1)
def neg3 (z : T3) : T3 := if z.1 < 0 then (-z.1, -z.2.1, -z.2.2) else z
/-! ### small numbers, vectors, echelons -/
def Sm (x : Int) : Prop := intBits x ≤ 60000000
theorem Sm.mul {x y : Int} (a : Sm x) (b : Sm y) : IntMulOk x y := IntMulOk.of_le a b (by decide)
theorem Sm.one {x : Int} (h : x.natAbs < 2 ^ 64) : Sm x := Nat.le_trans (intBits_le_iff.mpr h) (by decide)
theorem Sm.abs {x y : Int} (a : Sm y) (h : x.natAbs ≤ y.natAbs) : Sm x := intBits_le_of_natAbs h a
theorem Sm.neg {x : Int} (a : Sm x) : Sm (-x) := a.abs (by omega)
theorem Sm.fdiv {x y : Int} (a : Sm x) : Sm (x.fdiv y) := a.abs (natAbs_fdiv_le x y)
abbrev Vc := List Int
def at_ (v : Vc) (j : Nat) : Int := v.getD j 0
def Vn (n : Nat) (v : Vc) : Prop := v.length = n ∧ ∀ x ∈ v, Sm x
theorem at_get {v : Vc} {j : Nat} (h : j < v.length) : v[j]? = some (at_ v j) := by
  unfold at_; rw [List.getD_eq_getElem?_getD, List.getElem?_eq_getElem h]; rfl
theorem at_mem {v : Vc} {j : Nat} (h : j < v.length) : at_ v j ∈ v := List.mem_of_getElem? (at_get h)
theorem at_sm {n : Nat} {v : Vc} {j : Nat} (h : Vn n v) (hj : j < n) : Sm (at_ v j) := h.2 _ (at_mem (by rw [h.1]; exact hj))
theorem at_dat {v : Vc} {j : Nat} (h : j < v.length) : atI (v.map PyData.int) (j : Int) = some (.int (at_ v j)) := at_nat (by rw [List.getElem?_map, at_get h]; rfl)
theorem re_at {te tk : TE} {Γ Γ1 Γ2 : Ga} {d : PyData} {v : Vc} {j : Nat} (ha : RE K te Γ d Γ1) (hs : Sq d v) (hb : RE K tk Γ1 (.int (j : Int)) Γ2) (h : j < v.length) : RE K (tOp (rIx K) te tk) Γ (.int (at_ v j)) Γ2 := re_ixS ha hs hb (at_dat h)
abbrev Ec := List (Nat × Vc)
def gE (E : Ec) (p : Nat) : Option Vc := (E.find? fun q => decide (q.1 = p)).map (·.2)
def pE (E : Ec) (p : Nat) (r : Vc) : Ec := if (E.any fun q => decide (q.1 = p)) = true then E.map (fun q => if q.1 = p then (q.1, r) else q) else E ++ [(p, r)]
def ecD (E : Ec) : List (Int × PyData) := E.map fun p => ((p.1 : Int), vec p.2)
def dicE (E : Ec) : Sl := .dic (ecD E)
theorem dec_nat {p q : Nat} : decide ((p : Int) = (q : Int)) = decide (p = q) := by
  by_cases h : p = q
  · subst h; simp
  · rw [decide_eq_false h, decide_eq_false (by omega)]
theorem getD_E (E : Ec) (p : Nat) : getD (ecD E) (p : Int) = (gE E p).map vec := by
  induction E with
  | nil => rfl
  | cons q r ih =>
    unfold getD gE ecD at ih ⊢
    rw [List.map_cons, List.find?_cons, List.find?_cons]
    show Option.map _ (match decide ((q.1 : Int) = (p : Int)) with | true => some ((q.1 : Int), vec q.2) | false => _) = _
    rw [dec_nat]
    cases decide (q.1 = p) with
    | true => rfl
    | false => exact ih
theorem any_E (E : Ec) (p : Nat) : ((ecD E).any fun q => decide (q.1 = (p : Int))) = E.any fun q => decide (q.1 = p) := by
  unfold ecD
  rw [List.any_map]
  congr 1
  funext q
  exact dec_nat
theorem putD_E (E : Ec) (p : Nat) (r : Vc) : putD (ecD E) (p : Int) (vec r) = ecD (pE E p r) := by
  unfold putD pE
  rw [any_E]
  by_cases z : (E.any fun q => decide (q.1 = p)) = true
  · rw [if_pos z, if_pos z]
    unfold ecD
    rw [List.map_map, List.map_map]
    apply List.map_congr_left
    intro q _
    show (if (q.1 : Int) = (p : Int) then ((q.1 : Int), vec r) else ((q.1 : Int), vec q.2)) = _
    by_cases h : q.1 = p
    · rw [if_pos (by omega)]; simp [h]
    · rw [if_neg (by omega)]; simp [h]
  · rw [if_neg z, if_neg z]
    unfold ecD
    rw [List.map_append]; rfl
theorem gE_any (E : Ec) (p : Nat) : (gE E p).isSome = E.any fun q => decide (q.1 = p) := by
  unfold gE
  rw [Option.isSome_map, Bool.eq_iff_iff, List.find?_isSome, List.any_eq_true]
theorem gE_pE (E : Ec) (p : Nat) (r : Vc) (j : Nat) : gE (pE E p r) j = if j = p then some r else gE E j := by
  unfold pE
  by_cases z : (E.any fun q => decide (q.1 = p)) = true
  · rw [if_pos z]
    induction E with
    | nil => simp at z
    | cons q t ih =>
      unfold gE at ih ⊢
      rw [List.map_cons, List.find?_cons, List.find?_cons]
      by_cases h : q.1 = p
      · by_cases hj : j = p
        · subst hj; simp [h]
        · simp only [h, if_true, if_neg hj]
          rw [decide_eq_false (fun q => hj q.symm)]
          simp only
          by_cases z2 : (t.any fun q => decide (q.1 = p)) = true
          · have := ih z2; rw [if_neg hj] at this; exact this
          · have e : t.map (fun q => if q.1 = p then (q.1, r) else q) = t := by
              conv => rhs; rw [← List.map_id t]
              apply List.map_congr_left
              intro u hu
              rw [if_neg (fun q => z2 (List.any_eq_true.mpr ⟨u, hu, by simpa using q⟩))]; rfl
            rw [e]
      · have z2 : (t.any fun q => decide (q.1 = p)) = true := by simpa [h] using z
        simp only [if_neg h]
        by_cases hj : q.1 = j
        · subst hj; simp [h]
        · simp only [decide_eq_false hj]
          exact ih z2
  · rw [if_neg z]
    unfold gE
    rw [List.find?_append]
    by_cases hj : j = p
    · subst hj
      have : E.find? (fun q => decide (q.1 = j)) = none := by
        rw [List.find?_eq_none]
        intro u hu q
        exact z (List.any_eq_true.mpr ⟨u, hu, q⟩)
      rw [this]; simp
    · have : [(p, r)].find? (fun q => decide (q.1 = j)) = none := by
        rw [List.find?_cons, decide_eq_false (fun q => hj q.symm)]; rfl
      rw [this, if_neg hj]; simp
def KeyOk (n : Nat) (E : Ec) : Prop := (E.map (·.1)).Nodup ∧ ∀ q ∈ E, q.1 < n
theorem keys_pE {E : Ec} {p : Nat} {r : Vc} : (pE E p r).map (·.1) = if (E.any fun q => decide (q.1 = p)) = true then E.map (·.1) else E.map (·.1) ++ [p] := by
  unfold pE
  split
  · rw [List.map_map]
    apply List.map_congr_left
    intro q _
    show (if q.1 = p then (q.1, r) else q).1 = q.1
    split <;> rfl
  · rw [List.map_append]; rfl
theorem KeyOk.put {n : Nat} {E : Ec} {p : Nat} {r : Vc} (h : KeyOk n E) (hp : p < n) : KeyOk n (pE E p r) := by
  have e := keys_pE (E := E) (p := p) (r := r)
  constructor
  · rw [e]
    split
    · exact h.1
    · rename_i z
      rw [List.nodup_append]
      refine ⟨h.1, by simp, fun a ha b hb => ?_⟩
      rw [List.mem_singleton] at hb
      subst hb
      intro hab
      subst hab
      obtain ⟨q, hq, rfl⟩ := List.mem_map.mp ha
      exact z (List.any_eq_true.mpr ⟨q, hq, by simp⟩)
  · intro q hq
    have : q.1 ∈ (pE E p r).map (·.1) := List.mem_map_of_mem hq
    rw [e] at this
    split at this
    · obtain ⟨u, hu, e⟩ := List.mem_map.mp this
      rw [← e]; exact h.2 u hu
    · rcases List.mem_append.mp this with z | z
      · obtain ⟨u, hu, e⟩ := List.mem_map.mp z
        rw [← e]; exact h.2 u hu
      · rw [List.mem_singleton.mp z]; exact hp
def keysE (n : Nat) (E : Ec) : List Nat := (List.range n).filter fun p => (gE E p).isSome
theorem mem_keys {n : Nat} {E : Ec} (h : KeyOk n E) {p : Nat} : p ∈ keysE n E ↔ p ∈ E.map (·.1) := by
  unfold keysE
  rw [List.mem_filter, List.mem_range, gE_any, List.any_eq_true, List.mem_map]
  constructor
  · rintro ⟨_, q, hq, e⟩; exact ⟨q, hq, of_decide_eq_true e⟩
  · rintro ⟨q, hq, rfl⟩; exact ⟨h.2 q hq, q, hq, by simp⟩
theorem keys_pw (n : Nat) (E : Ec) : ((keysE n E).map Int.ofNat).Pairwise (· ≤ ·) := by
  rw [List.pairwise_map]
  refine List.Pairwise.filter _ ?_
  refine List.Pairwise.imp ?_ (List.pairwise_lt_range (n := n))
  intro a b h
  exact Int.ofNat_le.mpr (Nat.le_of_lt h)
theorem keys_perm {n : Nat} {E : Ec} (h : KeyOk n E) : ((keysE n E).map Int.ofNat).Perm ((ecD E).map (·.1)) := by
  have e : (ecD E).map (·.1) = (E.map (·.1)).map Int.ofNat := by
    unfold ecD; rw [List.map_map, List.map_map]; rfl
  rw [e]
  refine List.Perm.map _ ?_
  have nd : (keysE n E).Nodup := List.filter_sublist.nodup List.nodup_range
  rw [List.perm_ext_iff_of_nodup nd h.1]
  intro a
  exact mem_keys h
theorem keys_sorted {n : Nat} {E : Ec} (h : KeyOk n E) : ∀ ys : List Int, ys.Perm ((ecD E).map (·.1)) → ys.Pairwise (· ≤ ·) → ys = (keysE n E).map Int.ofNat := fun ys hp hs =>
  List.Perm.eq_of_pairwise (fun a b _ _ h1 h2 => Int.le_antisymm h1 h2) hs (keys_pw n E) (hp.trans (keys_perm h).symm)
theorem keys_len {n : Nat} {E : Ec} (h : KeyOk n E) : (ecD E).length ≤ n := by
  have : ((ecD E).map (·.1)).length = ((keysE n E).map Int.ofNat).length := (keys_perm h).length_eq.symm
  rw [List.length_map, List.length_map] at this
  rw [this]
  exact Nat.le_trans (List.length_filter_le _ _) (by rw [List.length_range]; exact Nat.le_refl n)
theorem keys_get {n : Nat} {E : Ec} {p : Nat} (h : p ∈ keysE n E) : ∃ r, gE E p = some r := by
  have := (List.mem_filter.mp h).2
  cases e : gE E p with
  | none => rw [e] at this; cases this
  | some r => exact ⟨r, rfl⟩
def EOk (n : Nat) (E : Ec) : Prop := KeyOk n E ∧ ∀ p r, gE E p = some r → p < n ∧ Vn n r ∧ at_ r p ≠ 0
/-! ### lowered -/
def lowStep (E : Ec) (c : Nat) (v : Vc) (p : Nat) : Vc := if c < p then (match gE E p with | some row => combL 1 v (-((at_ v p).fdiv (at_ row p))) row | none => v) else v
def lowF (n : Nat) (E : Ec) (c : Nat) (v : Vc) : Vc := (keysE n E).foldl (lowStep E c) v
def LowOk (n : Nat) (E : Ec) (c : Nat) (v : Vc) : Prop := ∀ i, Vn n (((keysE n E).take i).foldl (lowStep E c) v)
/-! ### add_vector -/
inductive AddRun (n : Nat) : Nat → Ec → Vc → Ec → Prop where
  | stop {E : Ec} {v : Vc} : AddRun n n E v E
  | zero {c : Nat} {E E' : Ec} {v : Vc} : c < n → Vn n v → at_ v c = 0 → AddRun n (c + 1) E v E' → AddRun n c E v E'
  | new {c : Nat} {E : Ec} {v : Vc} : c < n → Vn n v → at_ v c ≠ 0 → gE E c = none → KeyOk n E → AddRun n c E v (pE E c (if at_ v c < 0 then scaleL (-1) v else v))
  | step {c k : Nat} {E E' : Ec} {v row : Vc} {z : T3} {g s t : Int} : c < n → Vn n v → at_ v c ≠ 0 → EOk n E → gE E c = some row → BzRun k (at_ row c, 1, 0) (bzStart (at_ row c) (at_ v c)) z → neg3 z = (g, s, t) → g ≠ 0 → Sm s → Sm t →
      LowOk n E c (combL s row t v) → EOk n (pE E c (lowF n E c (combL s row t v))) → LowOk n (pE E c (lowF n E c (combL s row t v))) c (combL ((at_ row c).fdiv g) v (-((at_ v c).fdiv g)) row) →
      AddRun n (c + 1) (pE E c (lowF n E c (combL s row t v))) (lowF n (pE E c (lowF n E c (combL s row t v))) c (combL ((at_ row c).fdiv g) v (-((at_ v c).fdiv g)) row)) E' → AddRun n c E v E'
/-! ### matrices -/
/-- rows, each a list or a tuple, in a list or a tuple -/
def SqM (d : PyData) (rows : List Vc) : Prop := ∃ rs : List (PyData × Vc), seqD d = some (rs.map (·.1)) ∧ (∀ p ∈ rs, Sq p.1 p.2) ∧ rs.map (·.2) = rows
def matT (rows : List Vc) : PyData := .tuple (rows.map vec)
def lsv (v : Vc) : PyData := .list (v.map .int)
theorem sq_lsv (v : Vc) : Sq (lsv v) v := rfl
theorem sqm_map {d : PyData} {rows : List Vc} {f : Vc → PyData} (hf : ∀ v, Sq (f v) v) (h : seqD d = some (rows.map f)) : SqM d rows :=
  ⟨rows.map fun r => (f r, r), by rw [h, List.map_map]; rfl, fun p hp => by
    obtain ⟨r, _, rfl⟩ := List.mem_map.mp hp
    exact hf r, by rw [List.map_map]; exact List.map_id _⟩
theorem sqm_T (rows : List Vc) : SqM (matT rows) rows := sqm_map sq_vec rfl
theorem shp_vec (v : Vc) : Shp 1 (vec v) := shp_mapT fun _ _ => shp_int
theorem shp_mat (m : List Vc) : Shp 2 (matT m) := shp_mapT fun v _ => shp_vec v
theorem eqv_vec (a b : Vc) : PyData.eqv (vec a) (vec b) = decide (a = b) := eqv_tup eqv_int a b
theorem eqv_mat (a b : List Vc) : PyData.eqv (matT a) (matT b) = decide (a = b) := eqv_tup eqv_vec a b
theorem vec_set {Γ : Ga} {i : Nat} {sl : Sl} (h : Γ[i]? = some sl) : Γ.set i sl = Γ := by
  apply List.ext_getElem?
  intro k
  by_cases z : i = k
  · subst z; rw [List.getElem?_set_self (List.getElem?_eq_some_iff.mp h).1, h]
  · rw [List.getElem?_set_ne z]
/-! ### hermite -/
inductive HRun (n : Nat) : List Vc → Ec → Ec → Prop where
  | nil {E : Ec} : HRun n [] E E
  | cons {r : Vc} {rs : List Vc} {E E1 E2 : Ec} : r.length = n → AddRun n 0 E r E1 → HRun n rs E1 E2 → HRun n (r :: rs) E E2
def hermF (n : Nat) (E : Ec) : List Vc := (keysE n E).map fun p => lowF n E p ((gE E p).getD [])
/-! ### whole, is_forgetting -/
def unitsL (n : Nat) : List Vc := (List.range n).map fun (k : Nat) => unitL n (k : Int)
/-! ### mapped, matrix_product, pulled -/
def mapS (acc : Vc) (p : Int × Vc) : Vc := combL 1 acc p.1 p.2
def mapF (n : Nat) (v : Vc) (rows : List Vc) : Vc := (List.zip v rows).foldl mapS (List.replicate n 0)
def MapOk (n : Nat) (v : Vc) (rows : List Vc) : Prop := (∀ i, Vn n (((List.zip v rows).take i).foldl mapS (List.replicate n 0))) ∧ (∀ x ∈ v, Sm x) ∧ ∀ r ∈ rows, Vn n r
theorem unit_sm {n : Nat} {k : Int} : ∀ x ∈ unitL n k, Sm x := fun x hx => by
  unfold unitL at hx
  obtain ⟨i, _, rfl⟩ := List.mem_map.mp hx
  exact Sm.one (by split <;> decide)
theorem unit_len {n : Nat} {k : Int} : (unitL n k).length = n := by simp [unitL]
/-! ### pulled, rows of units -/
def urow (n : Nat) (c f : Int) : Vc := scaleL f (unitL n c)
theorem sm1 : Sm 1 := Sm.one (by decide)
theorem sm0 : Sm 0 := Sm.one (by decide)
def splitF (n : Nat) (c : Int) (p : Nat) : List Vc := (List.range n).flatMap fun (k : Nat) => List.replicate (if (k : Int) = c then p else 1) (urow n k 1)
theorem rep_one {α : Type} {x : α} : ∀ m : Nat, (List.replicate m [x]).flatten = List.replicate m x
  | 0 => rfl
  | m + 1 => by rw [List.replicate_succ, List.replicate_succ, List.flatten_cons, rep_one m]; rfl
def unitMF (n : Nat) (c f : Int) : List Vc := (List.range n).map fun (k : Nat) => urow n k (if (k : Int) = c then f else 1)
def orderF (ps : List Int) : List Vc := ps.map fun p => urow ps.length p 1
def keptF (n : Nat) (cs : List Int) : List Int := ((List.range n).filter fun (k : Nat) => decide ((k : Int) = cs.headD 0) || !decide ((k : Int) ∈ cs)).map Int.ofNat
def placeF (n : Nat) (cs : List Int) (k : Nat) : Int := if (k : Int) ∈ cs then cs.headD 0 else (k : Int)
def joinF (n : Nat) (cs : List Int) : List Vc := (List.range n).map fun (k : Nat) => urow (keptF n cs).length (((keptF n cs).idxOf (placeF n cs k) : Nat) : Int) 1
def dropF (n : Nat) (c : Int) : List Vc := (List.range n).map fun (k : Nat) => urow (n - 1) ((k : Int) - if (k : Int) > c then 1 else 0) (if (k : Int) = c then 0 else 1)
theorem zip_range {α : Type} (f v : Vc) (g : Int → Int → α) (h : f.length = v.length) : (List.range f.length).map (fun k => g (at_ f k) (at_ v k)) = (List.zip f v).map fun p => g p.1 p.2 := by
  apply List.ext_getElem
  · rw [List.length_map, List.length_map, List.length_zip, List.length_range]; omega
  · intro i h1 h2
    rw [List.length_map, List.length_range] at h1
    rw [List.getElem_map, List.getElem_map, List.getElem_zip, List.getElem_range]
    have a : at_ f i = f[i] := by have := at_get h1; rw [List.getElem?_eq_getElem h1] at this; exact (Option.some.inj this).symm
    have b : at_ v i = v[i]'(by omega) := by have := at_get (v := v) (j := i) (by omega); rw [List.getElem?_eq_getElem (by omega)] at this; exact (Option.some.inj this).symm
    show g _ _ = g _ _
    rw [a, b]
def lstM (rows : List Vc) : PyData := .list (rows.map vec)
/-! ### the law's elimination -/
inductive EuRun (n : Nat) (f : Vc) : Nat → Vc → Vc → Vc → Vc → Prop where
  | stop {l r : Vc} : Vn n l → Vn n r → dotL f r = 0 → EuRun n f 0 l r l r
  | step {k : Nat} {l r l' r' : Vc} : Vn n l → Vn n r → dotL f r ≠ 0 → Sm (0 - (dotL f l).fdiv (dotL f r)) → EuRun n f k r (combL 1 l (0 - (dotL f l).fdiv (dotL f r)) r) l' r' → EuRun n f (k + 1) l r l' r'
inductive StRun (n : Nat) (f : Vc) : List Vc → List Vc → Option Vc → List Vc → Option Vc → Prop where
  | nil {lv : List Vc} {ld : Option Vc} : StRun n f [] lv ld lv ld
  | zero {r : Vc} {rs lv lv' : List Vc} {ld' : Option Vc} : Vn n r → dotL f r = 0 → StRun n f rs (lv ++ [r]) none lv' ld' → StRun n f (r :: rs) lv none lv' ld'
  | first {r : Vc} {rs lv lv' : List Vc} {ld' : Option Vc} : Vn n r → dotL f r ≠ 0 → StRun n f rs lv (some r) lv' ld' → StRun n f (r :: rs) lv none lv' ld'
  | go {k : Nat} {r l l2 r2 : Vc} {rs lv lv' : List Vc} {ld' : Option Vc} : EuRun n f k l r l2 r2 → StRun n f rs (lv ++ [r2]) (some l2) lv' ld' → StRun n f (r :: rs) lv (some l) lv' ld'
def ldD : Option Vc → PyData
  | none => .none
  | some v => vec v
theorem EuRun.vn {n k : Nat} {f l r l' r' : Vc} (h : EuRun n f k l r l' r') : Vn n l ∧ Vn n r := by
  cases h with
  | stop a b _ => exact ⟨a, b⟩
  | step a b _ _ _ => exact ⟨a, b⟩
/-! ### membership by the law -/
inductive InRun (n : Nat) : Nat → List Vc → Vc → Bool → Prop where
  | done {rows : List Vc} {v : Vc} : InRun n n rows v true
  | no {k : Nat} {rows lv : List Vc} {ld : Option Vc} {v : Vc} : k < n → rows.length ≤ 1000 → Vn n v → StRun n (unitL n k) rows [] none lv ld → dotL (unitL n k) v ≠ 0 → (∀ l, ld = some l → Vn n l ∧ dotL (unitL n k) l ≠ 0 ∧ (dotL (unitL n k) v).fmod (dotL (unitL n k) l) ≠ 0) → InRun n k rows v false
  | skip {k : Nat} {rows lv : List Vc} {v : Vc} {b : Bool} : k < n → rows.length ≤ 1000 → Vn n v → StRun n (unitL n k) rows [] none lv none → dotL (unitL n k) v = 0 → InRun n (k + 1) lv v b → InRun n k rows v b
  | red {k : Nat} {rows lv : List Vc} {l v : Vc} {b : Bool} : k < n → rows.length ≤ 1000 → Vn n v → StRun n (unitL n k) rows [] none lv (some l) → Vn n l → dotL (unitL n k) l ≠ 0 → (dotL (unitL n k) v).fmod (dotL (unitL n k) l) = 0 → Sm (0 - (dotL (unitL n k) v).fdiv (dotL (unitL n k) l)) →
      InRun n (k + 1) lv (combL 1 v (0 - (dotL (unitL n k) v).fdiv (dotL (unitL n k) l)) l) b → InRun n k rows v b
theorem unit_vn {n : Nat} {k : Int} : Vn n (unitL n k) := ⟨unit_len, unit_sm⟩
end K87

namespace K87
open PySem PySem.Spec PyProof.Rows L2 DL
open PySem.Builtin.Int (intBits)
abbrev Fv := Nat → Int
/-! ### sums -/
def sm : Nat → Fv → Int
  | 0, _ => 0
  | n + 1, f => sm n f + f n
theorem sm_congr {f g : Fv} : ∀ {n : Nat}, (∀ p, p < n → f p = g p) → sm n f = sm n g
  | 0, _ => rfl
  | n + 1, h => by
    show sm n f + f n = sm n g + g n
    rw [sm_congr (fun p hp => h p (by omega)), h n (by omega)]
theorem sm_zero {n : Nat} {f : Fv} (h : ∀ p, p < n → f p = 0) : sm n f = 0 := by
  induction n with
  | zero => rfl
  | succ n ih => show sm n f + f n = 0; rw [ih (fun p hp => h p (by omega)), h n (by omega)]; rfl
theorem sm_lin (a b : Int) (f g : Fv) : ∀ n, sm n (fun p => a * f p + b * g p) = a * sm n f + b * sm n g
  | 0 => by simp [sm]
  | n + 1 => by
    show sm n _ + (a * f n + b * g n) = a * (sm n f + f n) + b * (sm n g + g n)
    rw [sm_lin a b f g n]; grind
theorem sm_abs {f : Fv} {B : Nat} : ∀ {n : Nat}, (∀ p, p < n → (f p).natAbs ≤ B) → (sm n f).natAbs ≤ n * B
  | 0, _ => by show (0 : Int).natAbs ≤ _; omega
  | n + 1, h => by
    have h1 := sm_abs (n := n) (fun p hp => h p (by omega))
    have h2 := h n (by omega)
    have h3 : (sm n f + f n).natAbs ≤ (sm n f).natAbs + (f n).natAbs := Int.natAbs_add_le _ _
    show (sm n f + f n).natAbs ≤ (n + 1) * B
    rw [Nat.succ_mul]; omega
theorem sm_one {f : Fv} {c : Nat} : ∀ {n : Nat}, c < n → (∀ p, p < n → p ≠ c → f p = 0) → sm n f = f c
  | 0, h, _ => by omega
  | n + 1, h, hz => by
    show sm n f + f n = f c
    by_cases e : c = n
    · subst e; rw [sm_zero (fun p hp => hz p (by omega) (by omega))]; omega
    · rw [sm_one (n := n) (by omega) (fun p hp => hz p (by omega)), hz n (by omega) (by omega)]; omega
/-! ### lattices -/
inductive Lat (G : Fv → Prop) : Fv → Prop where
  | zero : Lat G fun _ => 0
  | add {u g : Fv} (k : Int) : Lat G u → G g → Lat G fun j => u j + k * g j
theorem Lat.of {G : Fv → Prop} {g : Fv} (h : G g) : Lat G g := by
  have := Lat.add (G := G) 1 Lat.zero h
  have e : (fun j => (0 : Int) + 1 * g j) = g := by funext j; omega
  rw [← e]; exact this
theorem Lat.eq {G : Fv → Prop} {g h : Fv} (a : Lat G g) (e : ∀ j, g j = h j) : Lat G h := by
  have : g = h := funext e
  rw [← this]; exact a
theorem Lat.lin {G : Fv → Prop} {u v : Fv} (a : Lat G u) (b : Lat G v) (k : Int) : Lat G fun j => u j + k * v j := by
  induction b with
  | zero => exact a.eq fun j => by show u j = u j + k * 0; omega
  | @add v g m b hg ih => exact (Lat.add (k * m) ih hg).eq fun j => by grind
theorem Lat.lin2 {G : Fv → Prop} {u v : Fv} (a : Lat G u) (b : Lat G v) (x y : Int) : Lat G fun j => x * u j + y * v j :=
  ((Lat.zero.lin a x).lin b y).eq fun j => by omega
theorem Lat.into {G H : Fv → Prop} {u : Fv} (a : Lat G u) (h : ∀ g, G g → Lat H g) : Lat H u := by
  induction a with
  | zero => exact .zero
  | add k _ hg ih => exact ih.lin (h _ hg) k
theorem Lat.mono {G H : Fv → Prop} {u : Fv} (a : Lat G u) (h : ∀ g, G g → H g) : Lat H u := a.into fun g hg => .of (h g hg)
/-- what holds of the generators and is closed -/
theorem Lat.ind {G : Fv → Prop} {S : Fv → Prop} {u : Fv} (a : Lat G u) (h0 : S fun _ => 0) (h1 : ∀ u g k, S u → G g → S fun j => u j + k * g j) : S u := by
  induction a with
  | zero => exact h0
  | add k _ hg ih => exact h1 _ _ k ih hg
/-! ### vectors -/
theorem comb_len {k l : Int} {f g : Vc} {n : Nat} (hf : f.length = n) (hg : g.length = n) : (combL k f l g).length = n := by
  unfold combL; rw [List.length_map, List.length_zip]; omega
theorem at_out {v : Vc} {j : Nat} (h : v.length ≤ j) : at_ v j = 0 := by
  unfold at_; rw [List.getD_eq_getElem?_getD, List.getElem?_eq_none h]; rfl
theorem at_comb {k l : Int} {f g : Vc} (h : f.length = g.length) (j : Nat) : at_ (combL k f l g) j = k * at_ f j + l * at_ g j := by
  by_cases hj : j < f.length
  · have e1 := at_get hj
    have e2 := at_get (v := g) (j := j) (by omega)
    have hz : (List.zip f g)[j]? = some (at_ f j, at_ g j) := by rw [List.getElem?_zip_eq_some]; exact ⟨e1, e2⟩
    have := at_get (v := combL k f l g) (j := j) (by rw [comb_len rfl h.symm]; exact hj)
    unfold combL at this
    rw [List.getElem?_map, hz] at this
    exact (Option.some.inj this).symm
  · rw [at_out (v := f) (by omega), at_out (v := g) (by omega), at_out (by rw [comb_len rfl h.symm]; omega)]; omega
theorem at_scale {k : Int} {f : Vc} (j : Nat) : at_ (scaleL k f) j = k * at_ f j := by
  by_cases hj : j < f.length
  · have := at_get (v := scaleL k f) (j := j) (by unfold scaleL; rw [List.length_map]; exact hj)
    unfold scaleL at this
    rw [List.getElem?_map, at_get hj] at this
    exact (Option.some.inj this).symm
  · rw [at_out (v := f) (by omega), at_out (by unfold scaleL; rw [List.length_map]; omega)]; omega
theorem scale_len {k : Int} {f : Vc} : (scaleL k f).length = f.length := by simp [scaleL]
theorem at_unit {n k : Nat} (j : Nat) : at_ (unitL n (k : Int)) j = if j < n ∧ j = k then 1 else 0 := by
  by_cases hj : j < n
  · have := at_get (v := unitL n (k : Int)) (j := j) (by rw [unit_len]; exact hj)
    unfold unitL at this
    rw [List.getElem?_map, List.getElem?_range hj] at this
    have := (Option.some.inj this).symm
    unfold unitL
    rw [this]
    by_cases e : j = k
    · subst e; simp [hj]
    · have : ¬ (j : Int) = (k : Int) := by omega
      simp [e, this]
  · rw [at_out (by rw [unit_len]; omega), if_neg (fun h => hj h.1)]
theorem vc_ext {n : Nat} {f g : Vc} (hf : f.length = n) (hg : g.length = n) (h : ∀ j, j < n → at_ f j = at_ g j) : f = g := by
  apply List.ext_getElem?
  intro j
  by_cases hj : j < n
  · rw [at_get (by omega), at_get (by omega), h j hj]
  · rw [List.getElem?_eq_none (by omega), List.getElem?_eq_none (by omega)]
theorem sm_front (f : Fv) : ∀ n, sm (n + 1) f = f 0 + sm n (fun j => f (j + 1))
  | 0 => by show 0 + f 0 = f 0 + 0; omega
  | n + 1 => by
    show sm (n + 1) f + f (n + 1) = f 0 + (sm n _ + f (n + 1))
    rw [sm_front f n]; omega
theorem sum_sm : ∀ (xs : List Int), xs.sum = sm xs.length (fun j => xs.getD j 0)
  | [] => rfl
  | x :: xs => by
    rw [List.sum_cons, List.length_cons, sm_front, sum_sm xs]
    rfl
theorem dot_sm {f v : Vc} {n : Nat} (hf : f.length = n) (hv : v.length = n) : dotL f v = sm n (fun j => at_ f j * at_ v j) := by
  unfold dotL
  rw [sum_sm, List.length_map, List.length_zip, hf, hv, Nat.min_self]
  apply sm_congr
  intro p hp
  rw [List.getD_eq_getElem?_getD, List.getElem?_map]
  have hz : (List.zip f v)[p]? = some (at_ f p, at_ v p) := by rw [List.getElem?_zip_eq_some]; exact ⟨at_get (by omega), at_get (by omega)⟩
  rw [hz]; rfl
theorem dot_unit {n k : Nat} {v : Vc} (hk : k < n) (hv : v.length = n) : dotL (unitL n (k : Int)) v = at_ v k := by
  rw [dot_sm unit_len hv, sm_one hk (fun p hp e => by rw [at_unit, if_neg (fun h => e h.2)]; omega), at_unit, if_pos ⟨hk, rfl⟩]; omega
/-- bounded by B -/
def Bd (n B : Nat) (v : Vc) : Prop := v.length = n ∧ ∀ j, (at_ v j).natAbs ≤ B
theorem Bd.vn {n B : Nat} {v : Vc} (h : Bd n B v) (hB : ∀ x : Int, x.natAbs ≤ B → Sm x) : Vn n v := ⟨h.1, fun x hx => by
  obtain ⟨j, hj, e⟩ := List.getElem_of_mem hx
  have : at_ v j = x := by
    have := at_get hj
    rw [List.getElem?_eq_getElem hj] at this
    rw [← Option.some.inj this]; exact e
  exact hB x (by rw [← this]; exact h.2 j)⟩
theorem Bd.mono {n B C : Nat} {v : Vc} (h : Bd n B v) (hB : B ≤ C) : Bd n C v := ⟨h.1, fun j => Nat.le_trans (h.2 j) hB⟩
theorem natAbs_lin (a b x y : Int) : (a * x + b * y).natAbs ≤ a.natAbs * x.natAbs + b.natAbs * y.natAbs := by
  have h1 := Int.natAbs_add_le (a * x) (b * y)
  rw [Int.natAbs_mul, Int.natAbs_mul] at h1; exact h1
theorem Bd.comb {n B C S T : Nat} {f g : Vc} {k l : Int} (hf : Bd n B f) (hg : Bd n C g) (hk : k.natAbs ≤ S) (hl : l.natAbs ≤ T) : Bd n (S * B + T * C) (combL k f l g) :=
  ⟨comb_len hf.1 hg.1, fun j => by
    rw [at_comb (by rw [hf.1, hg.1])]
    exact Nat.le_trans (natAbs_lin _ _ _ _) (Nat.add_le_add (Nat.mul_le_mul hk (hf.2 j)) (Nat.mul_le_mul hl (hg.2 j)))⟩
/-! ### Euclid -/
/-- what a turn does to the numbers and to what stands by the cofactors -/
theorem eu_sign {x y : Int} (hy : y ≠ 0) : 0 ≤ y * (x - x.fdiv y * y) ∧ (x - x.fdiv y * y).natAbs < y.natAbs := by
  have e : x - x.fdiv y * y = x.fmod y := by rw [Int.fmod_def, Int.mul_comm]
  rw [e]
  rcases Int.lt_or_gt_of_ne hy with h | h
  · have e2 : x.fmod y = -((-x).fmod (-y)) := by rw [Int.neg_fmod_neg]; omega
    have h1 := Int.fmod_nonneg_of_pos (-x) (show 0 < -y by omega)
    have h2 := Int.fmod_lt_of_pos (-x) (show 0 < -y by omega)
    rw [e2]
    refine ⟨?_, by omega⟩
    rw [Int.mul_neg, ← Int.neg_mul]
    exact Int.mul_nonneg (by omega) h1
  · have h1 := Int.fmod_nonneg_of_pos x h
    have h2 := Int.fmod_lt_of_pos x h
    exact ⟨Int.mul_nonneg (by omega) h1, by omega⟩
theorem natAbs_same {x y : Int} (h : 0 ≤ x * y) (q : Int) (hq : q = x.fdiv y) (hy : y ≠ 0) : (x - q * y).natAbs + q.natAbs * y.natAbs ≤ x.natAbs := by
  subst hq
  have e : x - x.fdiv y * y = x.fmod y := by rw [Int.fmod_def, Int.mul_comm]
  have key : ∀ a b : Int, 0 ≤ a → 0 < b → (a - a.fdiv b * b).natAbs + (a.fdiv b).natAbs * b.natAbs ≤ a.natAbs := by
    intro a b ha hb
    have e : a - a.fdiv b * b = a.fmod b := by rw [Int.fmod_def, Int.mul_comm]
    have h1 := Int.fmod_nonneg_of_pos a hb
    have h2 : 0 ≤ a.fdiv b := Int.fdiv_nonneg ha (by omega)
    have h3 : 0 ≤ a.fdiv b * b := Int.mul_nonneg h2 (by omega)
    rw [← Int.natAbs_mul]
    rw [e] at *
    have := Int.mul_fdiv_add_fmod a b
    rw [Int.mul_comm] at this
    omega
  rcases Int.lt_or_gt_of_ne hy with h1 | h1
  · have hx : x ≤ 0 := by
      by_cases z : x ≤ 0
      · exact z
      · have : x * y < 0 := Int.mul_neg_of_pos_of_neg (by omega) h1
        omega
    have := key (-x) (-y) (by omega) (by omega)
    rw [Int.neg_fdiv_neg] at this
    have e3 : -x - x.fdiv y * -y = -(x - x.fdiv y * y) := by rw [Int.mul_neg]; omega
    rw [e3, Int.natAbs_neg, Int.natAbs_neg, Int.natAbs_neg] at this
    exact this
  · have hx : 0 ≤ x := by
      by_cases z : 0 ≤ x
      · exact z
      · have : x * y < 0 := Int.mul_neg_of_neg_of_pos (by omega) h1
        omega
    exact key x y hx h1
/-- the cofactors of one of the two: a of x, c of y; with the same sign -/
structure Cf (K : Nat) (x y a c : Int) : Prop where
  ha : a.natAbs ≤ K
  hc : c.natAbs ≤ K
  hs : x.natAbs * c.natAbs + y.natAbs * a.natAbs ≤ K
theorem Cf.step {K : Nat} {x y a c : Int} (h : Cf K x y a c) (hs : 0 ≤ x * y) (hy : y ≠ 0) : Cf K y (x - x.fdiv y * y) c (a - x.fdiv y * c) := by
  have k := natAbs_same hs _ rfl hy
  generalize x.fdiv y = q at k
  have e : y.natAbs * (a - q * c).natAbs + (x - q * y).natAbs * c.natAbs ≤ K := by
    have h1 : (a - q * c).natAbs ≤ a.natAbs + q.natAbs * c.natAbs := by
      have := Int.natAbs_sub_le a (q * c)
      rw [Int.natAbs_mul] at this; exact this
    have h2 : y.natAbs * (a - q * c).natAbs ≤ y.natAbs * a.natAbs + y.natAbs * (q.natAbs * c.natAbs) := by rw [← Nat.mul_add]; exact Nat.mul_le_mul_left _ h1
    have h3 : ((x - q * y).natAbs + q.natAbs * y.natAbs) * c.natAbs ≤ x.natAbs * c.natAbs := Nat.mul_le_mul_right _ k
    have h4 : y.natAbs * (q.natAbs * c.natAbs) = q.natAbs * y.natAbs * c.natAbs := by rw [← Nat.mul_assoc, Nat.mul_comm y.natAbs]
    rw [Nat.add_mul] at h3
    have := h.hs
    omega
  refine ⟨h.hc, ?_, e⟩
  have hp : 1 ≤ y.natAbs := by omega
  have : (a - q * c).natAbs ≤ y.natAbs * (a - q * c).natAbs := Nat.le_mul_of_pos_left _ hp
  omega
/-- the first turn, from (A, B): behind it x = B, y = A mod B -/
theorem cf_first1 {A B : Int} : Cf (B.natAbs + 1) B (A - A.fdiv B * B) 0 (1 - A.fdiv B * 0) := by
  rw [Int.mul_zero, Int.sub_zero]
  exact ⟨by simp, by simp, by simp⟩
theorem cf_first2 {A B : Int} (hB : B ≠ 0) : Cf (A.natAbs + 2 * B.natAbs) B (A - A.fdiv B * B) 1 (0 - A.fdiv B * 1) := by
  have ⟨_, h⟩ := eu_sign (x := A) hB
  have hq : (A.fdiv B).natAbs * B.natAbs ≤ A.natAbs + (A - A.fdiv B * B).natAbs := by
    rw [← Int.natAbs_mul]; omega
  have hp : 1 ≤ B.natAbs := by omega
  have hq2 : (A.fdiv B).natAbs ≤ (A.fdiv B).natAbs * B.natAbs := Nat.le_mul_of_pos_right _ hp
  have e : (0 - A.fdiv B * 1).natAbs = (A.fdiv B).natAbs := by rw [Int.mul_one]; omega
  refine ⟨by simp; omega, by rw [e]; omega, ?_⟩
  rw [e, Nat.mul_comm B.natAbs]
  simp
  omega
end K87

namespace K87
open PySem PySem.Spec PyProof.Rows L2 DL
open PySem.Builtin.Int (intBits)
/-! ### bezout -/
theorem bz_run {A B : Int} {K : Nat} (hS : ∀ x : Int, x.natAbs ≤ K → Sm x) : ∀ (m : Nat) (x y a b c d : Int), y.natAbs ≤ m → 0 ≤ x * y → Cf K x y a c → Cf K x y b d → x.natAbs ≤ K → y.natAbs ≤ K → x = a * A + b * B → y = c * A + d * B → (x ≠ 0 ∨ y ≠ 0) →
    ∃ (k : Nat) (z : T3), BzRun k (x, a, b) (y, c, d) z ∧ z.2.1.natAbs ≤ K ∧ z.2.2.natAbs ≤ K ∧ z.1 = z.2.1 * A + z.2.2 * B ∧ z.1 ∣ x ∧ z.1 ∣ y ∧ z.1 ≠ 0 := by
  intro m
  induction m with
  | zero =>
    intro x y a b c d hy hs h1 h2 hx hyK ex ey hne
    have : y = 0 := by omega
    subst this
    have hx0 : x ≠ 0 := by rcases hne with h | h; exact h; exact absurd rfl h
    exact ⟨0, _, .stop rfl, h1.ha, h2.ha, ex, Int.dvd_refl x, Int.dvd_zero x, hx0⟩
  | succ m ih =>
    intro x y a b c d hy hs h1 h2 hx hyK ex ey hne
    by_cases y0 : y = 0
    · subst y0
      have hx0 : x ≠ 0 := by rcases hne with h | h; exact h; exact absurd rfl h
      exact ⟨0, _, .stop rfl, h1.ha, h2.ha, ex, Int.dvd_refl x, Int.dvd_zero x, hx0⟩
    · have ⟨sg, lt⟩ := eu_sign (x := x) y0
      have g1 := h1.step hs y0
      have g2 := h2.step hs y0
      have hq : (x.fdiv y).natAbs ≤ K := Nat.le_trans (natAbs_fdiv_le x y) hx
      obtain ⟨k, z, r, z1, z2, z3, z4, z5, z6⟩ := ih y (x - x.fdiv y * y) c d (a - x.fdiv y * c) (b - x.fdiv y * d) (by omega) sg g1 g2 hyK (by omega) ey (by rw [ex, ey]; grind) (.inl y0)
      refine ⟨k + 1, z, .step y0 ((hS _ hq).mul (hS _ hyK)) ((hS _ hq).mul (hS _ h1.hc)) ((hS _ hq).mul (hS _ h2.hc)) r, z1, z2, z3, ?_, z4, z6⟩
      have : x = (x - x.fdiv y * y) + x.fdiv y * y := by omega
      rw [this]
      exact Int.dvd_add z5 (Int.dvd_mul_of_dvd_right z4)
theorem bez_ex {A B : Int} {K : Nat} (hA : 0 < A) (hK : A.natAbs + 2 * B.natAbs + 1 ≤ K) (hS : ∀ x : Int, x.natAbs ≤ K → Sm x) :
    ∃ (k : Nat) (z : T3) (g s t : Int), BzRun k (A, 1, 0) (bzStart A B) z ∧ neg3 z = (g, s, t) ∧ 0 < g ∧ g = s * A + t * B ∧ g ∣ A ∧ g ∣ B ∧ s.natAbs ≤ K ∧ t.natAbs ≤ K := by
  have main : ∃ (k : Nat) (z : T3), BzRun k (A, 1, 0) (bzStart A B) z ∧ z.2.1.natAbs ≤ K ∧ z.2.2.natAbs ≤ K ∧ z.1 = z.2.1 * A + z.2.2 * B ∧ z.1 ∣ A ∧ z.1 ∣ B ∧ z.1 ≠ 0 := by
    unfold bzStart
    by_cases h : A ≠ 0 ∧ B.fmod A = 0
    · rw [if_pos h]
      refine ⟨0, (A, 1, 0), .stop rfl, by show (1 : Int).natAbs ≤ K; simp; omega, by show (0 : Int).natAbs ≤ K; simp, by show A = 1 * A + 0 * B; omega, Int.dvd_refl A, ?_, by show A ≠ 0; omega⟩
      exact Int.dvd_of_fmod_eq_zero h.2
    · rw [if_neg h]
      have hB : B ≠ 0 := fun z => h ⟨by omega, by rw [z]; exact Int.zero_fmod A⟩
      have ⟨sg, lt⟩ := eu_sign (x := A) hB
      have hq : (A.fdiv B).natAbs ≤ K := Nat.le_trans (natAbs_fdiv_le A B) (by omega)
      have c1 := cf_first1 (A := A) (B := B)
      have c2 := cf_first2 (A := A) hB
      have m1 : Cf K B (A - A.fdiv B * B) 0 (1 - A.fdiv B * 0) := ⟨Nat.le_trans c1.ha (by omega), Nat.le_trans c1.hc (by omega), Nat.le_trans c1.hs (by omega)⟩
      have m2 : Cf K B (A - A.fdiv B * B) 1 (0 - A.fdiv B * 1) := ⟨Nat.le_trans c2.ha (by omega), Nat.le_trans c2.hc (by omega), Nat.le_trans c2.hs (by omega)⟩
      obtain ⟨k, z, r, z1, z2, z3, z4, z5, z6⟩ := bz_run (A := A) (B := B) hS _ B (A - A.fdiv B * B) 0 1 (1 - A.fdiv B * 0) (0 - A.fdiv B * 1) (Nat.le_refl _) sg m1 m2 (by omega) (by omega) (by omega) (by grind) (.inl hB)
      refine ⟨k + 1, z, .step hB ((hS _ hq).mul (hS B (by omega))) ((hS _ hq).mul (hS 0 (by simp))) ((hS _ hq).mul (hS 1 (by simp; omega))) r, z1, z2, z3, ?_, z4, z6⟩
      have : A = (A - A.fdiv B * B) + A.fdiv B * B := by omega
      rw [this]
      exact Int.dvd_add z5 (Int.dvd_mul_of_dvd_right z4)
  obtain ⟨k, z, r, z1, z2, z3, z4, z5, z6⟩ := main
  by_cases hn : z.1 < 0
  · refine ⟨k, z, -z.1, -z.2.1, -z.2.2, r, by unfold neg3; rw [if_pos hn], by omega, by grind, Int.neg_dvd.mpr z4, Int.neg_dvd.mpr z5, by omega, by omega⟩
  · refine ⟨k, z, z.1, z.2.1, z.2.2, r, by unfold neg3; rw [if_neg hn], by omega, z3, z4, z5, z1, z2⟩
/-! ### the law's inner loop -/
theorem eu_core {n k : Nat} (hk : k < n) {L R : Vc} {K X W : Nat} (hL : Bd n X L) (hR : Bd n X R) (hS : ∀ x : Int, x.natAbs ≤ K * X + K * X → Sm x) (hSW : ∀ x : Int, x.natAbs ≤ W → Sm x) :
    ∀ (m : Nat) (l r : Vc) (a b c d : Int), (at_ r k).natAbs ≤ m → 0 ≤ at_ l k * at_ r k → Cf K (at_ l k) (at_ r k) a c → Cf K (at_ l k) (at_ r k) b d → (at_ l k).natAbs ≤ W → (at_ r k).natAbs ≤ W → l.length = n → r.length = n →
    (∀ j, at_ l j = a * at_ L j + b * at_ R j) → (∀ j, at_ r j = c * at_ L j + d * at_ R j) → (at_ l k ≠ 0 ∨ at_ r k ≠ 0) →
    ∃ (q : Nat) (l' r' : Vc), EuRun n (unitL n k) q l r l' r' ∧ Bd n (K * X + K * X) l' ∧ Bd n (K * X + K * X) r' ∧ at_ r' k = 0 ∧ at_ l' k ≠ 0 ∧ (at_ l' k).natAbs ≤ W ∧
      (∃ a b c d : Int, (∀ j, at_ l' j = a * at_ L j + b * at_ R j) ∧ ∀ j, at_ r' j = c * at_ L j + d * at_ R j) ∧ (∃ a b c d : Int, (∀ j, at_ l j = a * at_ l' j + b * at_ r' j) ∧ ∀ j, at_ r j = c * at_ l' j + d * at_ r' j) := by
  have bd : ∀ (v : Vc) (a b : Int), v.length = n → a.natAbs ≤ K → b.natAbs ≤ K → (∀ j, at_ v j = a * at_ L j + b * at_ R j) → Bd n (K * X + K * X) v := fun v a b hv ha hb h => ⟨hv, fun j => by
    rw [h j]
    exact Nat.le_trans (natAbs_lin _ _ _ _) (Nat.add_le_add (Nat.mul_le_mul ha (hL.2 j)) (Nat.mul_le_mul hb (hR.2 j)))⟩
  have stop : ∀ (l r : Vc) (a b c d : Int), at_ r k = 0 → Cf K (at_ l k) (at_ r k) a c → Cf K (at_ l k) (at_ r k) b d → (at_ l k).natAbs ≤ W → l.length = n → r.length = n → (∀ j, at_ l j = a * at_ L j + b * at_ R j) → (∀ j, at_ r j = c * at_ L j + d * at_ R j) → at_ l k ≠ 0 →
      ∃ (q : Nat) (l' r' : Vc), EuRun n (unitL n k) q l r l' r' ∧ Bd n (K * X + K * X) l' ∧ Bd n (K * X + K * X) r' ∧ at_ r' k = 0 ∧ at_ l' k ≠ 0 ∧ (at_ l' k).natAbs ≤ W ∧
      (∃ a b c d : Int, (∀ j, at_ l' j = a * at_ L j + b * at_ R j) ∧ ∀ j, at_ r' j = c * at_ L j + d * at_ R j) ∧ (∃ a b c d : Int, (∀ j, at_ l j = a * at_ l' j + b * at_ r' j) ∧ ∀ j, at_ r j = c * at_ l' j + d * at_ r' j) := by
    intro l r a b c d h0 h1 h2 hlW hl hr el er hne
    have b1 := bd l a b hl h1.ha h2.ha el
    have b2 := bd r c d hr h1.hc h2.hc er
    exact ⟨0, l, r, .stop (b1.vn hS) (b2.vn hS) (by rw [dot_unit hk hr]; exact h0), b1, b2, h0, hne, hlW, ⟨a, b, c, d, el, er⟩, ⟨1, 0, 0, 1, fun j => by omega, fun j => by omega⟩⟩
  intro m
  induction m with
  | zero =>
    intro l r a b c d hm hs h1 h2 hlW hrW hl hr el er hne
    have h0 : at_ r k = 0 := by omega
    exact stop l r a b c d h0 h1 h2 hlW hl hr el er (by rcases hne with h | h; exact h; exact absurd h0 h)
  | succ m ih =>
    intro l r a b c d hm hs h1 h2 hlW hrW hl hr el er hne
    by_cases y0 : at_ r k = 0
    · exact stop l r a b c d y0 h1 h2 hlW hl hr el er (by rcases hne with h | h; exact h; exact absurd y0 h)
    · have ⟨sg, lt⟩ := eu_sign (x := at_ l k) y0
      have g1 := h1.step hs y0
      have g2 := h2.step hs y0
      have hq : ((at_ l k).fdiv (at_ r k)).natAbs ≤ W := Nat.le_trans (natAbs_fdiv_le _ _) hlW
      have en : ∀ j, at_ (combL 1 l (0 - (at_ l k).fdiv (at_ r k)) r) j = at_ l j - (at_ l k).fdiv (at_ r k) * at_ r j := fun j => by
        rw [at_comb (by rw [hl, hr])]; grind
      obtain ⟨q, l', r', run, z1, z2, z3, z4, z5, z6, ⟨a', b', c', d', f1, f2⟩⟩ := ih r (combL 1 l (0 - (at_ l k).fdiv (at_ r k)) r) c d (a - (at_ l k).fdiv (at_ r k) * c) (b - (at_ l k).fdiv (at_ r k) * d)
        (by rw [en]; omega) (by rw [en]; exact sg) (by rw [en]; exact g1) (by rw [en]; exact g2) hrW (by rw [en]; omega) hr (comb_len hl hr) er (fun j => by rw [en, el, er]; grind) (.inl y0)
      have d1 := dot_unit hk hl
      have d2 := dot_unit hk hr
      refine ⟨q + 1, l', r', .step ((bd l a b hl h1.ha h2.ha el).vn hS) ((bd r c d hr h1.hc h2.hc er).vn hS) (by rw [d2]; exact y0) (by rw [d1, d2]; exact hSW _ (by omega)) (by rw [d1, d2]; exact run), z1, z2, z3, z4, z5, z6, ?_⟩
      refine ⟨c' + (at_ l k).fdiv (at_ r k) * a', d' + (at_ l k).fdiv (at_ r k) * b', a', b', fun j => ?_, f1⟩
      have e1 := f2 j
      rw [en] at e1
      have e2 := f1 j
      have : at_ l j = (at_ l j - (at_ l k).fdiv (at_ r k) * at_ r j) + (at_ l k).fdiv (at_ r k) * at_ r j := by omega
      rw [this, e1, e2]; grind
theorem eu_ex {n k : Nat} (hk : k < n) {L R : Vc} {B X K : Nat} (hL : Bd n X L) (hR : Bd n X R) (hLB : (at_ L k).natAbs ≤ B) (hRB : (at_ R k).natAbs ≤ B) (hK : 3 * B + 1 ≤ K) (hX : 1 ≤ X) (hS : ∀ x : Int, x.natAbs ≤ K * X + K * X → Sm x) (hne : at_ L k ≠ 0) :
    ∃ (q : Nat) (l' r' : Vc), EuRun n (unitL n k) q L R l' r' ∧ Bd n (K * X + K * X) l' ∧ Bd n (K * X + K * X) r' ∧ at_ r' k = 0 ∧ at_ l' k ≠ 0 ∧ (at_ l' k).natAbs ≤ B ∧
      (∃ a b c d : Int, (∀ j, at_ l' j = a * at_ L j + b * at_ R j) ∧ ∀ j, at_ r' j = c * at_ L j + d * at_ R j) ∧ (∃ a b c d : Int, (∀ j, at_ L j = a * at_ l' j + b * at_ r' j) ∧ ∀ j, at_ R j = c * at_ l' j + d * at_ r' j) := by
  have hKX : K ≤ K * X := Nat.le_mul_of_pos_right _ hX
  have hSB : ∀ x : Int, x.natAbs ≤ B → Sm x := fun x h => hS x (by omega)
  have b1 : Bd n (K * X + K * X) L := hL.mono (by have := Nat.le_mul_of_pos_left X (show 0 < K by omega); omega)
  have b2 : Bd n (K * X + K * X) R := hR.mono (by have := Nat.le_mul_of_pos_left X (show 0 < K by omega); omega)
  by_cases y0 : at_ R k = 0
  · exact ⟨0, L, R, .stop (b1.vn hS) (b2.vn hS) (by rw [dot_unit hk hR.1]; exact y0), b1, b2, y0, hne, hLB, ⟨1, 0, 0, 1, fun j => by omega, fun j => by omega⟩, ⟨1, 0, 0, 1, fun j => by omega, fun j => by omega⟩⟩
  · have ⟨sg, lt⟩ := eu_sign (x := at_ L k) y0
    have c1 := cf_first1 (A := at_ L k) (B := at_ R k)
    have c2 := cf_first2 (A := at_ L k) y0
    have en : ∀ j, at_ (combL 1 L (0 - (at_ L k).fdiv (at_ R k)) R) j = at_ L j - (at_ L k).fdiv (at_ R k) * at_ R j := fun j => by
      rw [at_comb (by rw [hL.1, hR.1])]; grind
    have hq : ((at_ L k).fdiv (at_ R k)).natAbs ≤ B := Nat.le_trans (natAbs_fdiv_le _ _) hLB
    obtain ⟨q, l', r', run, z1, z2, z3, z4, z5, z6, ⟨a', b', c', d', f1, f2⟩⟩ := eu_core hk hL hR hS hSB _ R (combL 1 L (0 - (at_ L k).fdiv (at_ R k)) R) 0 1 (1 - (at_ L k).fdiv (at_ R k) * 0) (0 - (at_ L k).fdiv (at_ R k) * 1) (Nat.le_refl _)
      (by rw [en]; exact sg) (by rw [en]; exact ⟨Nat.le_trans c1.ha (by omega), Nat.le_trans c1.hc (by omega), Nat.le_trans c1.hs (by omega)⟩) (by rw [en]; exact ⟨Nat.le_trans c2.ha (by omega), Nat.le_trans c2.hc (by omega), Nat.le_trans c2.hs (by omega)⟩) hRB (by rw [en]; omega) hR.1 (comb_len hL.1 hR.1) (fun j => by omega) (fun j => by rw [en]; grind) (.inl y0)
    have d1 := dot_unit hk hL.1
    have d2 := dot_unit hk hR.1
    refine ⟨q + 1, l', r', .step (b1.vn hS) (b2.vn hS) (by rw [d2]; exact y0) (by rw [d1, d2]; exact hSB _ (by omega)) (by rw [d1, d2]; exact run), z1, z2, z3, z4, z5, z6, ?_⟩
    refine ⟨c' + (at_ L k).fdiv (at_ R k) * a', d' + (at_ L k).fdiv (at_ R k) * b', a', b', fun j => ?_, f1⟩
    have e1 := f2 j
    rw [en] at e1
    have e2 := f1 j
    have : at_ L j = (at_ L j - (at_ L k).fdiv (at_ R k) * at_ R j) + (at_ L k).fdiv (at_ R k) * at_ R j := by omega
    rw [this, e1, e2]; grind
end K87

namespace K87
open PySem PySem.Spec PyProof.Rows L2 DL
open PySem.Builtin.Int (intBits)
theorem sm_pow {s : Nat} (hs : s < 60000000) {x : Int} (h : x.natAbs ≤ 2 ^ s) : Sm x := by
  have : intBits x ≤ s + 1 := intBits_le_iff.mpr (Nat.lt_of_le_of_lt h (Nat.pow_lt_pow_right (by decide) (by omega)))
  unfold Sm
  omega
theorem pow_mono2 {a b : Nat} (h : a ≤ b) : 2 ^ a ≤ 2 ^ b := Nat.pow_le_pow_right (by decide) h
theorem one_pow2 (a : Nat) : 1 ≤ 2 ^ a := Nat.one_le_two_pow
/-! ### spans -/
structure SpEq (G H : Fv → Prop) : Prop where
  l : ∀ g, G g → Lat H g
  r : ∀ g, H g → Lat G g
theorem SpEq.iff {G H : Fv → Prop} (h : SpEq G H) {u : Fv} : Lat G u ↔ Lat H u := ⟨fun a => a.into h.l, fun a => a.into h.r⟩
theorem SpEq.trans {G H I : Fv → Prop} (a : SpEq G H) (b : SpEq H I) : SpEq G I := ⟨fun g hg => b.iff.mp (a.l g hg), fun g hg => a.iff.mpr (b.r g hg)⟩
theorem SpEq.same {G H : Fv → Prop} (h : ∀ g, G g ↔ H g) : SpEq G H := ⟨fun g hg => .of ((h g).mp hg), fun g hg => .of ((h g).mpr hg)⟩
def Gr (rows : List Vc) : Fv → Prop := fun g => ∃ r ∈ rows, g = at_ r
def Go (ld : Option Vc) : Fv → Prop := fun g => ∃ l, ld = some l ∧ g = at_ l
def Gl (lv : List Vc) (ld : Option Vc) (rs : List Vc) : Fv → Prop := fun g => Gr lv g ∨ Go ld g ∨ Gr rs g
theorem lat2 {G : Fv → Prop} {u v w : Fv} {a b : Int} (h1 : Lat G u) (h2 : Lat G v) (e : ∀ j, w j = a * u j + b * v j) : Lat G w := (h1.lin2 h2 a b).eq fun j => (e j).symm
/-! ### one column of the law's elimination -/
structure LdOk (n k s e : Nat) (l : Vc) : Prop where
  b : Bd n (2 ^ e) l
  z : ∀ j, j < k → at_ l j = 0
  p : (at_ l k).natAbs ≤ 2 ^ s
  ne : at_ l k ≠ 0
theorem st_ex {n k s : Nat} (hk : k < n) : ∀ (rows : List Vc) (e : Nat) (lv : List Vc) (ld : Option Vc), s ≤ e → (∀ r ∈ rows, Bd n (2 ^ s) r ∧ ∀ j, j < k → at_ r j = 0) → (∀ l, ld = some l → LdOk n k s e l) → e + (s + 3) * rows.length < 60000000 →
    ∃ (nw : List Vc) (ld' : Option Vc), StRun n (unitL n k) rows lv ld (lv ++ nw) ld' ∧ (∀ r ∈ nw, Bd n (2 ^ (e + (s + 3) * rows.length)) r ∧ ∀ j, j ≤ k → at_ r j = 0) ∧ nw.length ≤ rows.length ∧ (∀ l, ld' = some l → LdOk n k s (e + (s + 3) * rows.length) l) ∧
      SpEq (Gl lv ld rows) (Gl (lv ++ nw) ld' []) := by
  intro rows
  induction rows with
  | nil =>
    intro e lv ld hse hr hl hS
    refine ⟨[], ld, by rw [List.append_nil]; exact .nil, fun r hr => by simp at hr, Nat.le_refl _, fun l h => by simpa using hl l h, ?_⟩
    rw [List.append_nil]
    exact .same fun g => Iff.rfl
  | cons r rs ih =>
    intro e lv ld hse hr hl hS
    have hlen : (s + 3) * (r :: rs).length = (s + 3) * rs.length + (s + 3) := by rw [List.length_cons, Nat.mul_succ]
    rw [hlen] at hS ⊢
    have hr1 := hr r (by simp)
    have hrs : ∀ r ∈ rs, Bd n (2 ^ s) r ∧ ∀ j, j < k → at_ r j = 0 := fun x hx => hr x (by simp [hx])
    have hvn : Vn n r := hr1.1.vn fun x hx => sm_pow (s := s) (by omega) hx
    have dr := dot_unit hk hr1.1.1
    have up : ∀ {e1 : Nat} {l : Vc}, e1 ≤ e + (s + 3) → LdOk n k s e1 l → LdOk n k s (e + (s + 3)) l := fun he h => ⟨h.b.mono (pow_mono2 he), h.z, h.p, h.ne⟩
    have upB : ∀ {v : Vc}, Bd n (2 ^ s) v → Bd n (2 ^ (e + ((s + 3) * rs.length + (s + 3)))) v := fun h => h.mono (pow_mono2 (by omega))
    cases ld with
    | none =>
      by_cases h0 : at_ r k = 0
      · obtain ⟨nw, ld', run, n1, n2, n3, n4⟩ := ih (e + (s + 3)) (lv ++ [r]) none (by omega) hrs (fun l h => nomatch h) (by omega)
        refine ⟨r :: nw, ld', ?_, ?_, by simp; omega, ?_, ?_⟩
        · have := StRun.zero hvn (by rw [dr]; exact h0) run
          rw [List.append_assoc] at this; exact this
        · intro x hx
          rcases List.mem_cons.mp hx with rfl | hx
          · exact ⟨upB hr1.1, fun j hj => by
              by_cases z : j = k
              · rw [z]; exact h0
              · exact hr1.2 j (by omega)⟩
          · exact ⟨(n1 x hx).1.mono (pow_mono2 (by omega)), (n1 x hx).2⟩
        · intro l h
          have := n3 l h
          exact ⟨this.b.mono (pow_mono2 (by omega)), this.z, this.p, this.ne⟩
        · rw [List.append_assoc] at n4
          refine SpEq.trans (.same fun g => ?_) n4
          unfold Gl Gr Go
          simp only [List.mem_append, List.mem_cons, List.not_mem_nil, or_false]
          constructor
          · rintro (⟨x, hx, rfl⟩ | h | ⟨x, rfl | hx, rfl⟩)
            · exact .inl ⟨x, .inl hx, rfl⟩
            · exact .inr (.inl h)
            · exact .inl ⟨x, .inr rfl, rfl⟩
            · exact .inr (.inr ⟨x, hx, rfl⟩)
          · rintro (⟨x, hx | rfl, rfl⟩ | h | ⟨x, hx, rfl⟩)
            · exact .inl ⟨x, hx, rfl⟩
            · exact .inr (.inr ⟨x, .inl rfl, rfl⟩)
            · exact .inr (.inl h)
            · exact .inr (.inr ⟨x, .inr hx, rfl⟩)
      · obtain ⟨nw, ld', run, n1, n2, n3, n4⟩ := ih (e + (s + 3)) lv (some r) (by omega) hrs (fun l h => by
          cases h
          exact ⟨hr1.1.mono (pow_mono2 (by omega)), hr1.2, hr1.1.2 k, h0⟩) (by omega)
        refine ⟨nw, ld', .first hvn (by rw [dr]; exact h0) run, fun x hx => ⟨(n1 x hx).1.mono (pow_mono2 (by omega)), (n1 x hx).2⟩, by rw [List.length_cons]; omega, fun l h => ?_, ?_⟩
        · have := n3 l h
          exact ⟨this.b.mono (pow_mono2 (by omega)), this.z, this.p, this.ne⟩
        · refine SpEq.trans (.same fun g => ?_) n4
          unfold Gl Gr Go
          simp only [List.mem_cons]
          constructor
          · rintro (h | ⟨l, h, _⟩ | ⟨x, rfl | hx, rfl⟩)
            · exact .inl h
            · cases h
            · exact .inr (.inl ⟨x, rfl, rfl⟩)
            · exact .inr (.inr ⟨x, hx, rfl⟩)
          · rintro (h | ⟨l, h, rfl⟩ | ⟨x, hx, rfl⟩)
            · exact .inl h
            · cases h; exact .inr (.inr ⟨r, .inl rfl, rfl⟩)
            · exact .inr (.inr ⟨x, .inr hx, rfl⟩)
    | some l =>
      have hl1 := hl l rfl
      have hB : 3 * 2 ^ s + 1 ≤ 2 ^ (s + 2) := by
        have := one_pow2 s
        rw [Nat.pow_add]; omega
      have hX : 2 ^ (s + 2) * 2 ^ e + 2 ^ (s + 2) * 2 ^ e = 2 ^ (e + (s + 3)) := by
        rw [← Nat.pow_add, ← Nat.two_mul, ← Nat.pow_succ']
        congr 1
        omega
      obtain ⟨q, l2, r2, eu, b1, b2, z1, z2, z3, ⟨a, b, c, d, f1, f2⟩, ⟨a', b', c', d', g1, g2⟩⟩ := eu_ex hk hl1.b (hr1.1.mono (pow_mono2 hse)) hl1.p (hr1.1.2 k) hB (one_pow2 e) (fun x hx => sm_pow (s := e + (s + 3)) (by omega) (by rw [← hX]; exact hx)) hl1.ne
      rw [hX] at b1 b2
      have zl : ∀ j, j < k → at_ l2 j = 0 := fun j hj => by rw [f1, hl1.z j hj, hr1.2 j hj]; omega
      have zr : ∀ j, j ≤ k → at_ r2 j = 0 := fun j hj => by
        by_cases z : j = k
        · rw [z]; exact z1
        · rw [f2, hl1.z j (by omega), hr1.2 j (by omega)]; omega
      obtain ⟨nw, ld', run, n1, n2, n3, n4⟩ := ih (e + (s + 3)) (lv ++ [r2]) (some l2) (by omega) hrs (fun x h => by
        cases h
        exact ⟨b1, zl, z3, z2⟩) (by omega)
      refine ⟨r2 :: nw, ld', ?_, ?_, by simp; omega, ?_, ?_⟩
      · have := StRun.go eu run
        rw [List.append_assoc] at this; exact this
      · intro x hx
        rcases List.mem_cons.mp hx with rfl | hx
        · exact ⟨b2.mono (pow_mono2 (by omega)), zr⟩
        · exact ⟨(n1 x hx).1.mono (pow_mono2 (by omega)), (n1 x hx).2⟩
      · intro x h
        have := n3 x h
        exact ⟨this.b.mono (pow_mono2 (by omega)), this.z, this.p, this.ne⟩
      · rw [List.append_assoc] at n4
        refine SpEq.trans ⟨fun g hg => ?_, fun g hg => ?_⟩ n4
        · have i1 : Lat (Gl (lv ++ [r2]) (some l2) rs) (at_ l2) := .of (.inr (.inl ⟨l2, rfl, rfl⟩))
          have i2 : Lat (Gl (lv ++ [r2]) (some l2) rs) (at_ r2) := .of (.inl ⟨r2, by simp, rfl⟩)
          rcases hg with ⟨x, hx, rfl⟩ | ⟨x, hx, rfl⟩ | ⟨x, hx, rfl⟩
          · exact .of (.inl ⟨x, by simp [hx], rfl⟩)
          · cases hx; exact lat2 i1 i2 g1
          · rcases List.mem_cons.mp hx with rfl | hx
            · exact lat2 i1 i2 g2
            · exact .of (.inr (.inr ⟨x, hx, rfl⟩))
        · have i1 : Lat (Gl lv (some l) (r :: rs)) (at_ l) := .of (.inr (.inl ⟨l, rfl, rfl⟩))
          have i2 : Lat (Gl lv (some l) (r :: rs)) (at_ r) := .of (.inr (.inr ⟨r, by simp, rfl⟩))
          rcases hg with ⟨x, hx, rfl⟩ | ⟨x, hx, rfl⟩ | ⟨x, hx, rfl⟩
          · rcases List.mem_append.mp hx with hx | hx
            · exact .of (.inl ⟨x, hx, rfl⟩)
            · rw [List.mem_singleton] at hx; subst hx; exact lat2 i1 i2 f2
          · cases hx; exact lat2 i1 i2 f1
          · exact .of (.inr (.inr ⟨x, by simp [hx], rfl⟩))
/-! ### membership -/
def itS (m : Nat) : Nat → Nat → Nat
  | 0, s => s
  | i + 1, s => itS m i ((s + 3) * m + 2 * s + 1)
theorem le_itS (m : Nat) : ∀ i s, s ≤ itS m i s
  | 0, _ => Nat.le_refl _
  | i + 1, s => Nat.le_trans (by omega) (le_itS m i ((s + 3) * m + 2 * s + 1))
/-- the coordinate at k of a lattice vector, from the rows with 0 there and one lead -/
theorem lead_div {lv : List Vc} {ld : Option Vc} {k : Nat} {u : Fv} (h : Lat (Gl lv ld []) u) (hz : ∀ r ∈ lv, at_ r k = 0) : ∃ (a : Int) (w : Fv), Lat (Gr lv) w ∧ (∀ l, ld = some l → ∀ j, u j = w j + a * at_ l j) ∧ (ld = none → ∀ j, u j = w j) ∧ w k = 0 := by
  induction h with
  | zero => exact ⟨0, fun _ => 0, .zero, fun l _ j => by omega, fun _ j => rfl, rfl⟩
  | @add u g m _ hg ih =>
    obtain ⟨a, w, h1, h2, h3, h4⟩ := ih
    rcases hg with ⟨x, hx, rfl⟩ | ⟨x, hx, rfl⟩ | ⟨x, hx, _⟩
    · exact ⟨a, fun j => w j + m * at_ x j, .add m h1 ⟨x, hx, rfl⟩, fun l hl j => by show u j + m * at_ x j = w j + m * at_ x j + a * at_ l j; rw [h2 l hl j]; omega, fun hn j => by show u j + m * at_ x j = w j + m * at_ x j; rw [h3 hn j], by show w k + m * at_ x k = 0; rw [h4, hz x hx]; omega⟩
    · exact ⟨a + m, w, h1, fun l hl j => by
        rw [hx] at hl; cases hl
        show u j + m * at_ x j = w j + (a + m) * at_ x j
        rw [h2 x hx j]; grind, fun hn => by (rw [hx] at hn; cases hn), h4⟩
    · simp at hx
theorem in_ex {n m : Nat} : ∀ (i k s : Nat) (rows : List Vc) (v : Vc), k + i = n → rows.length ≤ m → m ≤ 1000 → (∀ r ∈ rows, Bd n (2 ^ s) r ∧ ∀ j, j < k → at_ r j = 0) → Bd n (2 ^ s) v → (∀ j, j < k → at_ v j = 0) → itS m i s < 60000000 →
    ∃ b : Bool, InRun n k rows v b ∧ (b = true ↔ Lat (Gr rows) (at_ v)) := by
  intro i
  induction i with
  | zero =>
    intro k s rows v hk hm hm2 hr hv hz hS
    have : k = n := by omega
    subst this
    refine ⟨true, .done, ⟨fun _ => ?_, fun _ => rfl⟩⟩
    exact Lat.zero.eq fun j => by
      by_cases hj : j < k
      · exact (hz j hj).symm
      · exact (at_out (by rw [hv.1]; omega)).symm
  | succ i ih =>
    intro k s rows v hk hm hm2 hr hv hz hS
    have hkn : k < n := by omega
    have hS : itS m i ((s + 3) * m + 2 * s + 1) < 60000000 := hS
    have hS2 := le_itS m i ((s + 3) * m + 2 * s + 1)
    have hml : (s + 3) * rows.length ≤ (s + 3) * m := Nat.mul_le_mul_left _ hm
    obtain ⟨nw, ld, run, n1, n2, n3, n4⟩ := st_ex hkn rows s [] none (Nat.le_refl _) hr (fun l h => nomatch h) (by omega)
    rw [List.nil_append] at run n4
    have sp : ∀ u, Lat (Gr rows) u ↔ Lat (Gl nw ld []) u := fun u => (SpEq.trans (.same fun g => by
      unfold Gl Gr Go
      constructor
      · exact fun h => .inr (.inr h)
      · rintro (⟨x, hx, _⟩ | ⟨x, hx, _⟩ | h)
        · simp at hx
        · cases hx
        · exact h) n4).iff
    have hvn : Vn n v := hv.vn fun x hx => sm_pow (s := s) (by omega) hx
    have dv := dot_unit hkn hv.1
    have hz2 : ∀ r ∈ nw, at_ r k = 0 := fun r hr => (n1 r hr).2 k (Nat.le_refl _)
    have nwb : ∀ r ∈ nw, Bd n (2 ^ ((s + 3) * m + 2 * s + 1)) r ∧ ∀ j, j < k + 1 → at_ r j = 0 := fun r hr => ⟨(n1 r hr).1.mono (pow_mono2 (by omega)), fun j hj => (n1 r hr).2 j (by omega)⟩
    have hm1 : rows.length ≤ 1000 := by omega
    cases ld with
    | none =>
      by_cases h0 : at_ v k = 0
      · obtain ⟨b, r, hb⟩ := ih (k + 1) ((s + 3) * m + 2 * s + 1) nw v (by omega) (by omega) hm2 nwb (hv.mono (pow_mono2 (by omega))) (fun j hj => by
          by_cases z : j = k
          · rw [z]; exact h0
          · exact hz j (by omega)) hS
        refine ⟨b, .skip hkn hm1 hvn run (by rw [dv]; exact h0) r, hb.trans ?_⟩
        rw [sp]
        constructor
        · exact fun h => h.mono fun g hg => .inl hg
        · intro h
          obtain ⟨a, w, h1, _, h3, _⟩ := lead_div h hz2
          exact h1.eq fun j => (h3 rfl j).symm
      · refine ⟨false, .no hkn hm1 hvn run (by rw [dv]; exact h0) (fun l h => nomatch h), ⟨fun h => (nomatch h), fun h => ?_⟩⟩
        rw [sp] at h
        obtain ⟨a, w, _, _, h3, h4⟩ := lead_div h hz2
        exact absurd ((h3 rfl k).trans h4) h0
    | some l =>
      have hl := n3 l rfl
      have hlv : Vn n l := hl.b.vn fun x hx => sm_pow (s := s + (s + 3) * rows.length) (by omega) hx
      have dl := dot_unit hkn hl.b.1
      by_cases hd : (at_ v k).fmod (at_ l k) = 0
      · have hq : (0 - (at_ v k).fdiv (at_ l k)).natAbs ≤ 2 ^ s := by
          have h1 := natAbs_fdiv_le (at_ v k) (at_ l k)
          have h2 := hv.2 k
          omega
        have ev : ∀ j, at_ (combL 1 v (0 - (at_ v k).fdiv (at_ l k)) l) j = at_ v j - (at_ v k).fdiv (at_ l k) * at_ l j := fun j => by
          rw [at_comb (by rw [hv.1, hl.b.1])]; grind
        have evk : at_ v k - (at_ v k).fdiv (at_ l k) * at_ l k = 0 := by
          have := Int.mul_fdiv_add_fmod (at_ v k) (at_ l k)
          rw [hd, Int.mul_comm] at this; omega
        have bv : Bd n (2 ^ ((s + 3) * m + 2 * s + 1)) (combL 1 v (0 - (at_ v k).fdiv (at_ l k)) l) := by
          refine (Bd.comb (S := 1) (T := 2 ^ s) hv hl.b (by decide) hq).mono ?_
          rw [← Nat.pow_add, Nat.one_mul]
          have h1 : 2 ^ s ≤ 2 ^ ((s + 3) * m + 2 * s) := pow_mono2 (by omega)
          have h2 : 2 ^ (s + (s + (s + 3) * rows.length)) ≤ 2 ^ ((s + 3) * m + 2 * s) := pow_mono2 (by omega)
          rw [Nat.pow_succ]; omega
        obtain ⟨b, r, hb⟩ := ih (k + 1) ((s + 3) * m + 2 * s + 1) nw (combL 1 v (0 - (at_ v k).fdiv (at_ l k)) l) (by omega) (by omega) hm2 nwb bv (fun j hj => by
          rw [ev]
          by_cases z : j = k
          · rw [z]; exact evk
          · rw [hz j (by omega), hl.z j (by omega)]; omega) hS
        refine ⟨b, .red hkn hm1 hvn run hlv (by rw [dl]; exact hl.ne) (by rw [dl, dv]; exact hd) (by rw [dl, dv]; exact sm_pow (s := s) (by omega) hq) (by rw [dl, dv]; exact r), hb.trans ?_⟩
        rw [sp]
        constructor
        · intro h
          have h1 : Lat (Gl nw (some l) []) (at_ (combL 1 v (0 - (at_ v k).fdiv (at_ l k)) l)) := h.mono fun g hg => .inl hg
          have h2 : Lat (Gl nw (some l) []) (at_ l) := .of (.inr (.inl ⟨l, rfl, rfl⟩))
          exact (h1.lin h2 ((at_ v k).fdiv (at_ l k))).eq fun j => by rw [ev]; omega
        · intro h
          have h2 : Lat (Gl nw (some l) []) (at_ l) := .of (.inr (.inl ⟨l, rfl, rfl⟩))
          have h1 : Lat (Gl nw (some l) []) (at_ (combL 1 v (0 - (at_ v k).fdiv (at_ l k)) l)) := (h.lin h2 (0 - (at_ v k).fdiv (at_ l k))).eq fun j => by rw [ev]; grind
          obtain ⟨a, w, w1, w2, _, w4⟩ := lead_div h1 hz2
          have e := w2 l rfl k
          rw [ev, evk, w4] at e
          have ha : a = 0 := by
            have : a * at_ l k = 0 := by omega
            rcases Int.mul_eq_zero.mp this with h | h
            · exact h
            · exact absurd h hl.ne
          exact w1.eq fun j => by rw [w2 l rfl j, ha]; omega
      · have hne : at_ v k ≠ 0 := fun z => hd (by rw [z]; exact Int.zero_fmod _)
        refine ⟨false, .no hkn hm1 hvn run (by rw [dv]; exact hne) (fun x h => by
          cases h
          exact ⟨hlv, by rw [dl]; exact hl.ne, by rw [dl, dv]; exact hd⟩), ⟨fun h => (nomatch h), fun h => ?_⟩⟩
        rw [sp] at h
        obtain ⟨a, w, _, w2, _, w4⟩ := lead_div h hz2
        have e := w2 l rfl k
        rw [w4] at e
        refine absurd ?_ hd
        have : at_ v k = a * at_ l k := by omega
        rw [this]
        exact Int.mul_fmod_left _ _
end K87

namespace K87
open PySem PySem.Spec PyProof.Rows L2 DL
open PySem.Builtin.Int (intBits)
/-! ### lowering -/
def GE (E : Ec) : Fv → Prop := fun g => ∃ p r, gE E p = some r ∧ g = at_ r
def GEc (E : Ec) (c : Nat) : Fv → Prop := fun g => ∃ p r, c < p ∧ gE E p = some r ∧ g = at_ r
def lowN (E : Ec) (c m : Nat) (w : Vc) : Vc := ((List.range m).filter fun p => (gE E p).isSome).foldl (lowStep E c) w
theorem lowN_succ (E : Ec) (c m : Nat) (w : Vc) : lowN E c (m + 1) w = if (gE E m).isSome = true then lowStep E c (lowN E c m w) m else lowN E c m w := by
  unfold lowN
  rw [List.range_succ, List.filter_append, List.foldl_append, List.filter_cons]
  by_cases h : (gE E m).isSome = true
  · rw [if_pos h, if_pos h]; rfl
  · rw [if_neg h, if_neg h]; rfl
theorem take_filter {α : Type} (p : α → Bool) : ∀ (l : List α) (i : Nat), ∃ m, (l.filter p).take i = (l.take m).filter p
  | [], i => ⟨0, by simp⟩
  | x :: l, 0 => ⟨0, by simp⟩
  | x :: l, i + 1 => by
    by_cases h : p x = true
    · obtain ⟨m, e⟩ := take_filter p l i
      refine ⟨m + 1, ?_⟩
      rw [List.filter_cons, if_pos h, List.take_succ_cons, List.take_succ_cons, List.filter_cons, if_pos h, e]
    · obtain ⟨m, e⟩ := take_filter p l (i + 1)
      refine ⟨m + 1, ?_⟩
      rw [List.filter_cons, if_neg h, List.take_succ_cons, List.filter_cons, if_neg h, e]
theorem lowOk_of {n c : Nat} {E : Ec} {w : Vc} (h : ∀ m, m ≤ n → Vn n (lowN E c m w)) : LowOk n E c w := fun i => by
  unfold keysE
  obtain ⟨m, e⟩ := take_filter (fun p => (gE E p).isSome) (List.range n) i
  rw [e]
  have : (List.range n).take m = List.range (min m n) := by rw [List.take_range]
  rw [this]
  exact h _ (Nat.min_le_right _ _)
theorem low_ex {n c : Nat} {E : Ec} {w : Vc} {X Y : Nat} (hX : 1 ≤ X) (hR : ∀ p r, c < p → gE E p = some r → p < n ∧ Bd n X r ∧ (∀ j, j < p → at_ r j = 0) ∧ 0 < at_ r p) (hw : Bd n Y w) : ∀ m,
    Bd n (Y * (2 * X) ^ m) (lowN E c m w) ∧ (∀ j, j ≤ c → at_ (lowN E c m w) j = at_ w j) ∧ (∀ q r, c < q → q < m → gE E q = some r → 0 ≤ at_ (lowN E c m w) q ∧ at_ (lowN E c m w) q < at_ r q) ∧
      ∃ u, Lat (GEc E c) u ∧ ∀ j, at_ (lowN E c m w) j = at_ w j + u j := by
  intro m
  induction m with
  | zero => exact ⟨by rw [Nat.pow_zero, Nat.mul_one]; exact hw, fun j _ => rfl, fun q r _ h => by omega, fun _ => 0, .zero, fun j => by show at_ w j = at_ w j + 0; omega⟩
  | succ m ih =>
    obtain ⟨i1, i2, i3, u, i4, i5⟩ := ih
    have up : Y * (2 * X) ^ m ≤ Y * (2 * X) ^ (m + 1) := Nat.mul_le_mul_left _ (Nat.pow_le_pow_right (by omega) (by omega))
    rw [lowN_succ]
    cases hg : gE E m with
    | none =>
      rw [if_neg (by simp)]
      refine ⟨i1.mono up, i2, fun q r hq hq2 e => i3 q r hq ?_ e, u, i4, i5⟩
      by_cases z : q = m
      · rw [z, hg] at e; cases e
      · omega
    | some row =>
      rw [if_pos (by simp)]
      unfold lowStep
      by_cases hc : c < m
      · rw [if_pos hc, hg]
        obtain ⟨h1, h2, h3, h4⟩ := hR m row hc hg
        generalize lowN E c m w = v at i1 i2 i3 i5
        show Bd n _ (combL 1 v (-((at_ v m).fdiv (at_ row m))) row) ∧ _
        have ev : ∀ j, at_ (combL 1 v (-((at_ v m).fdiv (at_ row m))) row) j = at_ v j - (at_ v m).fdiv (at_ row m) * at_ row j := fun j => by
          rw [at_comb (by rw [i1.1, h2.1])]; grind
        refine ⟨?_, fun j hj => ?_, fun q r hq hq2 e => ?_, fun j => u j + (-((at_ v m).fdiv (at_ row m))) * at_ row j, .add _ i4 ⟨m, row, hc, hg, rfl⟩, fun j => ?_⟩
        · have hq : (-((at_ v m).fdiv (at_ row m))).natAbs ≤ Y * (2 * X) ^ m := by
            rw [Int.natAbs_neg]
            exact Nat.le_trans (natAbs_fdiv_le _ _) (i1.2 m)
          refine (Bd.comb (S := 1) i1 h2 (by decide) hq).mono ?_
          rw [Nat.pow_succ, ← Nat.mul_assoc Y, Nat.one_mul]
          generalize Y * (2 * X) ^ m = z
          have : z * 1 ≤ z * X := Nat.mul_le_mul_left _ hX
          have e2 : z * (2 * X) = z * X + z * X := by rw [Nat.mul_comm 2 X, ← Nat.mul_assoc, Nat.mul_two]
          rw [e2]; omega
        · rw [ev, h3 j (by omega), i2 j hj]; omega
        · by_cases z : q = m
          · subst z
            rw [hg] at e; cases e
            rw [ev]
            have ef : at_ v q - (at_ v q).fdiv (at_ row q) * at_ row q = (at_ v q).fmod (at_ row q) := by rw [Int.fmod_def, Int.mul_comm]
            rw [ef]
            exact ⟨Int.fmod_nonneg_of_pos _ h4, Int.fmod_lt_of_pos _ h4⟩
          · rw [ev, h3 q (by omega)]
            have := i3 q r hq (by omega) e
            omega
        · rw [ev, i5]; grind
      · rw [if_neg hc]
        exact ⟨i1.mono up, i2, fun q r hq hq2 e => i3 q r hq (by omega) e, u, i4, i5⟩
theorem lowF_N (n : Nat) (E : Ec) (c : Nat) (w : Vc) : lowF n E c w = lowN E c n w := rfl
/-! ### relations -/
def dfc (D : Nat → Int) (C : Nat → Nat → Int) (x : Fv) (j : Nat) : Int := D j * x j - sm j (fun p => C j p * x p)
theorem dfc_lin (D : Nat → Int) (C : Nat → Nat → Int) (x y z : Fv) (a b : Int) (h : ∀ j, z j = a * x j + b * y j) (j : Nat) : dfc D C z j = a * dfc D C x j + b * dfc D C y j := by
  unfold dfc
  have e : sm j (fun p => C j p * z p) = a * sm j (fun p => C j p * x p) + b * sm j (fun p => C j p * y p) := by
    rw [← sm_lin]
    apply sm_congr
    intro p _
    rw [h p]; grind
  rw [e, h j]; grind
theorem dfc_lat {D : Nat → Int} {C : Nat → Nat → Int} {G : Fv → Prop} {u : Fv} {j : Nat} (h : Lat G u) (h0 : ∀ g, G g → dfc D C g j = 0) : dfc D C u j = 0 := by
  induction h with
  | zero =>
    unfold dfc
    rw [sm_zero (fun p _ => by show C j p * 0 = 0; omega)]; show D j * 0 - 0 = 0; omega
  | @add u g k _ hg ih =>
    rw [dfc_lin D C u g (fun j => u j + k * g j) 1 k (fun j => by omega), ih, h0 g hg]; omega
/-- what the pivot columns and the defects bound -/
theorem ent_bd {n κ P : Nat} {D : Nat → Int} {C : Nat → Nat → Int} {S : Nat → Prop} (hD : ∀ j, D j ≠ 0) (hC : ∀ j p, (C j p).natAbs ≤ κ) (hCS : ∀ j p, ¬ S p → C j p = 0) {x : Fv} (hp : ∀ p, S p → (x p).natAbs ≤ P) {j B : Nat} (hj : j < n) (hd : (dfc D C x j).natAbs ≤ B) :
    (x j).natAbs ≤ n * (κ * P) + B := by
  have h1 : (sm j (fun p => C j p * x p)).natAbs ≤ j * (κ * P) := sm_abs fun p _ => by
    rw [Int.natAbs_mul]
    by_cases s : S p
    · exact Nat.mul_le_mul (hC j p) (hp p s)
    · rw [hCS j p s]; simp
  have h2 : (D j * x j).natAbs ≤ n * (κ * P) + B := by
    unfold dfc at hd
    have : j * (κ * P) ≤ n * (κ * P) := Nat.mul_le_mul_right _ (by omega)
    omega
  rw [Int.natAbs_mul] at h2
  have hd1 : 1 ≤ (D j).natAbs := by have := hD j; omega
  exact Nat.le_trans (Nat.le_mul_of_pos_left _ hd1) h2
end K87

namespace K87
open PySem PySem.Spec PyProof.Rows L2 DL
open PySem.Builtin.Int (intBits)
/-! ### the product of the pivots -/
def pr : Nat → Fv → Int
  | 0, _ => 1
  | n + 1, f => pr n f * f n
theorem pr_congr {f g : Fv} : ∀ {n : Nat}, (∀ p, p < n → f p = g p) → pr n f = pr n g
  | 0, _ => rfl
  | n + 1, h => by
    show pr n f * f n = pr n g * g n
    rw [pr_congr (fun p hp => h p (by omega)), h n (by omega)]
theorem pr_pos {f : Fv} : ∀ {n : Nat}, (∀ p, p < n → 0 < f p) → 0 < pr n f
  | 0, _ => by show (0 : Int) < 1; omega
  | n + 1, h => Int.mul_pos (pr_pos fun p hp => h p (by omega)) (h n (by omega))
/-- one factor changes -/
theorem pr_upd {f g : Fv} {c : Nat} {k : Int} (hk : f c = g c * k) : ∀ {n : Nat}, c < n → (∀ p, p < n → p ≠ c → f p = g p) → pr n f = pr n g * k
  | 0, h, _ => by omega
  | n + 1, h, hn => by
    show pr n f * f n = pr n g * g n * k
    by_cases z : c = n
    · subst z
      rw [hk, pr_congr (fun p hp => hn p (by omega) (by omega))]; grind
    · rw [pr_upd hk (n := n) (by omega) (fun p hp => hn p (by omega)), hn n (by omega) (by omega)]; grind
theorem pr_ge {f : Fv} {c : Nat} : ∀ {n : Nat}, c < n → (∀ p, p < n → 0 < f p) → f c ≤ pr n f
  | 0, h, _ => by omega
  | n + 1, h, hp => by
    show f c ≤ pr n f * f n
    have h1 := pr_pos (n := n) (f := f) fun p hq => hp p (by omega)
    by_cases z : c = n
    · subst z
      have := hp c (by omega)
      have h2 : 1 * f c ≤ pr c f * f c := Int.mul_le_mul_of_nonneg_right (by omega) (by omega)
      omega
    · have h2 := pr_ge (n := n) (c := c) (by omega) fun p hq => hp p (by omega)
      have h3 := hp n (by omega)
      have h4 : pr n f * 1 ≤ pr n f * f n := Int.mul_le_mul_of_nonneg_left (by omega) (by omega)
      omega
def pvt (E : Ec) (p : Nat) : Int := match gE E p with
  | some r => at_ r p
  | none => 1
def prE (n : Nat) (E : Ec) : Int := pr n (pvt E)
end K87

namespace K87
open PySem PySem.Spec PyProof.Rows L2 DL
open PySem.Builtin.Int (intBits)
/-! ### a vector is added -/
def Sp (E : Ec) (p : Nat) : Prop := (gE E p).isSome = true
def GEv (E : Ec) (v : Vc) : Fv → Prop := fun g => GE E g ∨ g = at_ v
def cnt (b : Nat → Bool) (c : Nat) : Nat := ((List.range c).filter b).length
theorem cnt_succ (b : Nat → Bool) (c : Nat) : cnt b (c + 1) = cnt b c + if b c = true then 1 else 0 := by
  unfold cnt
  rw [List.range_succ, List.filter_append, List.length_append, List.filter_cons]
  by_cases h : b c = true
  · rw [if_pos h, if_pos h]; rfl
  · rw [if_neg h, if_neg h]; rfl
theorem cnt_mono (b : Nat → Bool) {c : Nat} : ∀ {d : Nat}, c ≤ d → cnt b c ≤ cnt b d
  | 0, h => by have : c = 0 := by omega
               subst this; exact Nat.le_refl _
  | d + 1, h => by
    by_cases z : c = d + 1
    · rw [z]; exact Nat.le_refl _
    · rw [cnt_succ]; have := cnt_mono b (c := c) (d := d) (by omega); omega
structure RelOk (κ : Nat) (S : Nat → Prop) (D : Nat → Int) (C : Nat → Nat → Int) : Prop where
  d0 : ∀ j, D j ≠ 0
  dk : ∀ j, (D j).natAbs ≤ κ
  ck : ∀ j p, (C j p).natAbs ≤ κ
  cs : ∀ j p, ¬ S p → C j p = 0
/-- the numbers of a state -/
structure Nums (n κ P T Δ X rk : Nat) : Prop where
  p1 : 1 ≤ P
  t : (3 * P + 1) * rk ≤ T
  a : rk ≤ T
  x : n * (κ * P) + T * Δ + P ≤ X
  s : ∀ x : Int, x.natAbs ≤ ((3 * P + 1) * X + (3 * P + 1) * X) * (2 * X) ^ n → Sm x
structure RowA (n P T c : Nat) (S : Nat → Prop) (D : Nat → Int) (C : Nat → Nat → Int) (δ : Nat → Int) (p : Nat) (r : Vc) : Prop where
  hl : r.length = n
  hp : p < n
  hz : ∀ j, j < p → at_ r j = 0
  pos : 0 < at_ r p
  hq : ∀ q, S q → (at_ r q).natAbs ≤ P
  hd : ∃ β : Int, β.natAbs ≤ T ∧ (c ≤ p → β = 0) ∧ ∀ j, j < n → ¬ S j → dfc D C (at_ r) j = β * δ j
structure ASt (n P T rk c : Nat) (b : Nat → Bool) (D : Nat → Int) (C : Nat → Nat → Int) (δ : Nat → Int) (E : Ec) (v : Vc) (α : Int) : Prop where
  key : KeyOk n E
  sp : ∀ p, Sp E p ↔ b p = true
  rows : ∀ p r, gE E p = some r → RowA n P T c (fun p => b p = true) D C δ p r
  vl : v.length = n
  vz : ∀ j, j < c → at_ v j = 0
  vp : ∀ q, b q = true → (at_ v q).natAbs ≤ P
  vd : ∀ j, j < n → ¬ b j = true → dfc D C (at_ v) j = α * δ j
  a0 : α ≠ 0
  ab : (α * prE n E).natAbs ≤ rk
section
variable {n κ P T Δ X rk c : Nat} {b : Nat → Bool} {D : Nat → Int} {C : Nat → Nat → Int} {δ : Nat → Int} {E : Ec} {v : Vc} {α : Int}
theorem row_bd (N : Nums n κ P T Δ X rk) (R : RelOk κ (fun p => b p = true) D C) (hδ : ∀ j, (δ j).natAbs ≤ Δ) {x : Vc} (hl : x.length = n) (hq : ∀ q, b q = true → (at_ x q).natAbs ≤ P) {γ : Int} (hγ : γ.natAbs ≤ T) (hd : ∀ j, j < n → ¬ b j = true → dfc D C (at_ x) j = γ * δ j) : Bd n X x :=
  ⟨hl, fun j => by
    have hx := N.x
    by_cases hj : j < n
    · by_cases h : b j = true
      · have := hq j h; omega
      · have h1 := ent_bd R.d0 R.ck R.cs hq (j := j) (B := T * Δ) hj (by rw [hd j hj h, Int.natAbs_mul]; exact Nat.mul_le_mul hγ (hδ j))
        omega
    · rw [at_out (by omega)]; simp⟩
theorem RowA.bd {p : Nat} {r : Vc} (h : RowA n P T c (fun p => b p = true) D C δ p r) (N : Nums n κ P T Δ X rk) (R : RelOk κ (fun p => b p = true) D C) (hδ : ∀ j, (δ j).natAbs ≤ Δ) : Bd n X r := by
  obtain ⟨β, h1, _, h3⟩ := h.hd
  exact row_bd N R hδ h.hl h.hq h1 h3
theorem ASt.prp (a : ASt n P T rk c b D C δ E v α) : 0 < prE n E := pr_pos fun p hp => by
  unfold pvt
  cases h : gE E p with
  | none => show (0 : Int) < 1; omega
  | some r => exact (a.rows p r h).pos
theorem ASt.al (a : ASt n P T rk c b D C δ E v α) : α.natAbs ≤ rk := by
  have h1 := a.ab
  have h2 := a.prp
  rw [Int.natAbs_mul] at h1
  exact Nat.le_trans (Nat.le_mul_of_pos_right _ (by omega)) h1
theorem ASt.bd (a : ASt n P T rk c b D C δ E v α) (N : Nums n κ P T Δ X rk) (R : RelOk κ (fun p => b p = true) D C) (hδ : ∀ j, (δ j).natAbs ≤ Δ) : Bd n X v :=
  row_bd N R hδ a.vl a.vp (Nat.le_trans a.al N.a) a.vd
theorem Nums.smX (N : Nums n κ P T Δ X rk) : ∀ x : Int, x.natAbs ≤ X → Sm x := fun x h => N.s x (by
  have hX : 1 ≤ X := by have := N.x; have := N.p1; omega
  have h1 : 1 ≤ (2 * X) ^ n := Nat.one_le_pow _ _ (by omega)
  have h2 : X ≤ (3 * P + 1) * X + (3 * P + 1) * X := by
    have := Nat.le_mul_of_pos_left X (show 0 < 3 * P + 1 by omega)
    omega
  exact Nat.le_trans h (Nat.le_trans h2 (Nat.le_mul_of_pos_right _ h1)))
theorem eok_of (key : KeyOk n E) (rows : ∀ p r, gE E p = some r → RowA n P T c (fun p => b p = true) D C δ p r) (N : Nums n κ P T Δ X rk) (R : RelOk κ (fun p => b p = true) D C) (hδ : ∀ j, (δ j).natAbs ≤ Δ) : EOk n E :=
  ⟨key, fun p r h => ⟨(rows p r h).hp, ((rows p r h).bd N R hδ).vn N.smX, by have := (rows p r h).pos; omega⟩⟩
/-- one turn at a pivot -/
theorem add_step (N : Nums n κ P T Δ X rk) (R : RelOk κ (fun p => b p = true) D C) (hδ : ∀ j, (δ j).natAbs ≤ Δ) (a : ASt n P T rk c b D C δ E v α) (hc : c < n) {row : Vc} (hg : gE E c = some row) (hv : at_ v c ≠ 0) :
    ∃ (E2 : Ec) (v2 : Vc) (α2 : Int), ASt n P T rk (c + 1) b D C δ E2 v2 α2 ∧ SpEq (GEv E v) (GEv E2 v2) ∧ E2.length = E.length ∧ ∀ E', AddRun n (c + 1) E2 v2 E' → AddRun n c E v E' := by
  have hcb : b c = true := (a.sp c).mp (by unfold Sp; rw [hg]; rfl)
  have hrow := a.rows c row hg
  have hX : 1 ≤ X := by have := N.x; have := N.p1; omega
  have bv := a.bd N R hδ
  have br := hrow.bd N R hδ
  have hA : (at_ row c).natAbs ≤ P := hrow.hq c hcb
  have hB : (at_ v c).natAbs ≤ P := a.vp c hcb
  have hPX : P ≤ X := by have := N.x; omega
  have smK : ∀ x : Int, x.natAbs ≤ 3 * P + 1 → Sm x := fun x h => N.s x (by
    have h1 : 1 ≤ (2 * X) ^ n := Nat.one_le_pow _ _ (by omega)
    have h2 : 3 * P + 1 ≤ (3 * P + 1) * X + (3 * P + 1) * X := by
      have := Nat.le_mul_of_pos_right (3 * P + 1) hX
      omega
    exact Nat.le_trans h (Nat.le_trans h2 (Nat.le_mul_of_pos_right _ h1)))
  obtain ⟨k, z, g, s, t, run, e3, g0, hgst, gA, gB, hs, ht⟩ := bez_ex (A := at_ row c) (B := at_ v c) (K := 3 * P + 1) hrow.pos (by omega) smK
  obtain ⟨A', hA'⟩ := gA
  obtain ⟨B', hB'⟩ := gB
  have fA : (at_ row c).fdiv g = A' := by rw [hA']; exact Int.mul_fdiv_cancel_left _ (by omega)
  have fB : (at_ v c).fdiv g = B' := by rw [hB']; exact Int.mul_fdiv_cancel_left _ (by omega)
  have hA1 : A'.natAbs ≤ P := by rw [← fA]; exact Nat.le_trans (natAbs_fdiv_le _ _) hA
  have hB1 : B'.natAbs ≤ P := by rw [← fB]; exact Nat.le_trans (natAbs_fdiv_le _ _) hB
  have hA0 : A' ≠ 0 := fun h => by rw [h] at hA'; have := hrow.pos; omega
  have det : s * A' + t * B' = 1 := by
    have : g * (s * A' + t * B') = g * 1 := by
      rw [Int.mul_one]
      conv => rhs; rw [hgst, hA', hB']
      grind
    exact Int.eq_of_mul_eq_mul_left (by omega) this
  have gP : g.natAbs ≤ P := by
    have : g.natAbs ∣ (at_ row c).natAbs := Int.natAbs_dvd_natAbs.mpr ⟨A', hA'⟩
    have := Nat.le_of_dvd (by have := hrow.pos; omega) this
    omega
  have ll : row.length = v.length := by rw [hrow.hl, a.vl]
  -- better
  have eb : ∀ j, at_ (combL s row t v) j = s * at_ row j + t * at_ v j := fun j => at_comb ll j
  have er : ∀ j, at_ (combL A' v (-B') row) j = A' * at_ v j + (-B') * at_ row j := fun j => at_comb ll.symm j
  have bb : Bd n ((3 * P + 1) * X + (3 * P + 1) * X) (combL s row t v) := Bd.comb br bv hs ht
  have brs : Bd n ((3 * P + 1) * X + (3 * P + 1) * X) (combL A' v (-B') row) := Bd.comb bv br (by omega) (by omega)
  have hRE : ∀ p r, c < p → gE E p = some r → p < n ∧ Bd n X r ∧ (∀ j, j < p → at_ r j = 0) ∧ 0 < at_ r p := fun p r _ h => ⟨(a.rows p r h).hp, (a.rows p r h).bd N R hδ, (a.rows p r h).hz, (a.rows p r h).pos⟩
  have smN : ∀ {Y : Nat} {m : Nat} {w : Vc}, m ≤ n → Y = (3 * P + 1) * X + (3 * P + 1) * X → Bd n (Y * (2 * X) ^ m) w → Vn n w := fun hm hY h => h.vn fun x hx => N.s x (Nat.le_trans hx (by rw [hY]; exact Nat.mul_le_mul_left _ (Nat.pow_le_pow_right (by omega) hm)))
  have lz : ∀ j, j < n → ¬ b j = true → ∀ g, GEc E c g → dfc D C g j = 0 := fun j hj hb g hg => by
    obtain ⟨p, r, hcp, hgp, rfl⟩ := hg
    obtain ⟨β, _, h2, h3⟩ := (a.rows p r hgp).hd
    rw [h3 j hj hb, h2 (by omega)]; omega
  have L1 := low_ex hX hRE bb
  have lok1 : LowOk n E c (combL s row t v) := lowOk_of fun m hm => smN hm rfl (L1 m).1
  obtain ⟨b1, b2, b3, u1, b4, b5⟩ := L1 n
  rw [← lowF_N] at b1 b2 b3 b5
  generalize hbt : lowF n E c (combL s row t v) = bt at b1 b2 b3 b5
  have btl : bt.length = n := b1.1
  -- the new echelon
  have gE2 : ∀ p, gE (pE E c bt) p = if p = c then some bt else gE E p := fun p => gE_pE E c bt p
  have key2 : KeyOk n (pE E c bt) := a.key.put hc
  have sp2 : ∀ p, Sp (pE E c bt) p ↔ b p = true := fun p => by
    unfold Sp
    rw [gE2]
    by_cases h : p = c
    · rw [if_pos h, h]; simp [hcb]
    · rw [if_neg h]; exact a.sp p
  have zb : ∀ j, j < c → at_ (combL s row t v) j = 0 := fun j hj => by rw [eb, hrow.hz j hj, a.vz j hj]; omega
  have cb : at_ (combL s row t v) c = g := by rw [eb]; exact hgst.symm
  have qb : ∀ q, b q = true → (at_ bt q).natAbs ≤ P := fun q hq => by
    by_cases h1 : q ≤ c
    · rw [b2 q h1]
      by_cases h2 : q = c
      · rw [h2, cb]; exact gP
      · rw [zb q (by omega)]; simp
    · have hs : Sp E q := (a.sp q).mpr hq
      unfold Sp at hs
      obtain ⟨r, hgr⟩ := Option.isSome_iff_exists.mp hs
      have hrq := a.rows q r hgr
      have h3 := b3 q r (by omega) hrq.hp hgr
      have h4 := hrq.hq q hq
      omega
  have αT : α.natAbs ≤ rk := a.al
  have db : ∀ j, j < n → ¬ b j = true → dfc D C (at_ bt) j = (t * α) * δ j := fun j hj hb => by
    have e1 : dfc D C (at_ bt) j = 1 * dfc D C (at_ (combL s row t v)) j + 1 * dfc D C u1 j := dfc_lin D C _ _ _ 1 1 (fun j => by rw [b5]; omega) j
    have e2 := dfc_lin D C (at_ row) (at_ v) (at_ (combL s row t v)) s t eb j
    obtain ⟨β, _, h2, h3⟩ := hrow.hd
    rw [e1, dfc_lat b4 (lz j hj hb), e2, h3 j hj hb, h2 (Nat.le_refl _), a.vd j hj hb]; grind
  have rowBt : RowA n P T (c + 1) (fun p => b p = true) D C δ c bt := by
    refine ⟨btl, hc, fun j hj => by rw [b2 j (by omega)]; exact zb j hj, by rw [b2 c (Nat.le_refl _), cb]; exact g0, qb, t * α, ?_, fun h => by omega, db⟩
    rw [Int.natAbs_mul]
    exact Nat.le_trans (Nat.mul_le_mul ht αT) N.t
  have rows2 : ∀ p r, gE (pE E c bt) p = some r → RowA n P T (c + 1) (fun p => b p = true) D C δ p r := fun p r h => by
    rw [gE2] at h
    by_cases hp : p = c
    · rw [if_pos hp] at h; cases h; rw [hp]; exact rowBt
    · rw [if_neg hp] at h
      have x := a.rows p r h
      obtain ⟨β, h1, h2, h3⟩ := x.hd
      exact ⟨x.hl, x.hp, x.hz, x.pos, x.hq, β, h1, fun hh => h2 (by omega), h3⟩
  have eok2 := eok_of key2 rows2 N R hδ
  -- the rest
  have hRE2 : ∀ p r, c < p → gE (pE E c bt) p = some r → p < n ∧ Bd n X r ∧ (∀ j, j < p → at_ r j = 0) ∧ 0 < at_ r p := fun p r hp h => by
    rw [gE2, if_neg (by omega)] at h
    exact hRE p r hp h
  have L2 := low_ex hX hRE2 brs
  have lok2 : LowOk n (pE E c bt) c (combL A' v (-B') row) := lowOk_of fun m hm => smN hm rfl (L2 m).1
  obtain ⟨c1, c2, c3, u2, c4, c5⟩ := L2 n
  rw [← lowF_N] at c1 c2 c3 c5
  have c4' : Lat (GEc E c) u2 := c4.mono fun g hg => by
    obtain ⟨p, r, hcp, hgp, e⟩ := hg
    rw [gE2, if_neg (by omega)] at hgp
    exact ⟨p, r, hcp, hgp, e⟩
  generalize hrt : lowF n (pE E c bt) c (combL A' v (-B') row) = rt at c1 c2 c3 c5
  have cr : at_ (combL A' v (-B') row) c = 0 := by rw [er, hA', hB']; grind
  have zr : ∀ j, j < c + 1 → at_ rt j = 0 := fun j hj => by
    rw [c2 j (by omega)]
    by_cases h : j = c
    · rw [h]; exact cr
    · rw [er, a.vz j (by omega), hrow.hz j (by omega)]; omega
  have st2 : ASt n P T rk (c + 1) b D C δ (pE E c bt) rt (A' * α) := by
    refine ⟨key2, sp2, rows2, c1.1, zr, fun q hq => ?_, fun j hj hb => ?_, ?_, ?_⟩
    · by_cases h1 : q ≤ c
      · rw [zr q (by omega)]; simp
      · have hs : Sp (pE E c bt) q := (sp2 q).mpr hq
        unfold Sp at hs
        obtain ⟨r, hgr⟩ := Option.isSome_iff_exists.mp hs
        have hrq := rows2 q r hgr
        have h3 := c3 q r (by omega) hrq.hp hgr
        have h4 := hrq.hq q hq
        omega
    · have e1 : dfc D C (at_ rt) j = 1 * dfc D C (at_ (combL A' v (-B') row)) j + 1 * dfc D C u2 j := dfc_lin D C _ _ _ 1 1 (fun j => by rw [c5]; omega) j
      have e2 := dfc_lin D C (at_ v) (at_ row) (at_ (combL A' v (-B') row)) A' (-B') er j
      obtain ⟨β, _, h2, h3⟩ := hrow.hd
      rw [e1, dfc_lat c4' (lz j hj hb), e2, h3 j hj hb, h2 (Nat.le_refl _), a.vd j hj hb]; grind
    · exact Int.mul_ne_zero hA0 a.a0
    · have e : prE n E = prE n (pE E c bt) * A' := by
        unfold prE
        refine pr_upd (c := c) ?_ hc fun p _ hp => ?_
        · unfold pvt
          rw [hg, gE2, if_pos rfl]
          show at_ row c = at_ bt c * A'
          rw [b2 c (Nat.le_refl _), cb]; exact hA'
        · unfold pvt
          rw [gE2, if_neg hp]
      have h1 := a.ab
      rw [e] at h1
      have h2 : A' * α * prE n (pE E c bt) = α * (prE n (pE E c bt) * A') := by grind
      rw [h2]; exact h1
  refine ⟨pE E c bt, rt, A' * α, st2, ?_, ?_, ?_⟩
  · -- the same lattice
    have m1 : Lat (GEv (pE E c bt) rt) (at_ bt) := .of (.inl ⟨c, bt, by rw [gE2, if_pos rfl], rfl⟩)
    have m2 : Lat (GEv (pE E c bt) rt) (at_ rt) := .of (.inr rfl)
    have mu1 : Lat (GEv (pE E c bt) rt) u1 := b4.mono fun g hg => by
      obtain ⟨p, r, hcp, hgp, e⟩ := hg
      exact .inl ⟨p, r, by rw [gE2, if_neg (by omega)]; exact hgp, e⟩
    have mu2 : Lat (GEv (pE E c bt) rt) u2 := c4'.mono fun g hg => by
      obtain ⟨p, r, hcp, hgp, e⟩ := hg
      exact .inl ⟨p, r, by rw [gE2, if_neg (by omega)]; exact hgp, e⟩
    have mb : Lat (GEv (pE E c bt) rt) (at_ (combL s row t v)) := lat2 (a := 1) (b := -1) m1 mu1 fun j => by rw [b5]; omega
    have mr : Lat (GEv (pE E c bt) rt) (at_ (combL A' v (-B') row)) := lat2 (a := 1) (b := -1) m2 mu2 fun j => by rw [c5]; omega
    have n1 : Lat (GEv E v) (at_ row) := .of (.inl ⟨c, row, hg, rfl⟩)
    have n2 : Lat (GEv E v) (at_ v) := .of (.inr rfl)
    have nu1 : Lat (GEv E v) u1 := b4.mono fun g hg => by
      obtain ⟨p, r, _, hgp, e⟩ := hg
      exact .inl ⟨p, r, hgp, e⟩
    have nu2 : Lat (GEv E v) u2 := c4'.mono fun g hg => by
      obtain ⟨p, r, _, hgp, e⟩ := hg
      exact .inl ⟨p, r, hgp, e⟩
    have nb : Lat (GEv E v) (at_ (combL s row t v)) := lat2 n1 n2 eb
    have nr : Lat (GEv E v) (at_ (combL A' v (-B') row)) := lat2 n2 n1 er
    refine ⟨fun g hg => ?_, fun g hg => ?_⟩
    · rcases hg with ⟨p, r, hgp, rfl⟩ | rfl
      · by_cases hp : p = c
        · subst hp
          rw [hg] at hgp; cases hgp
          exact lat2 (a := A') (b := -t) mb mr fun j => by
            rw [eb, er]
            have : at_ row j = (s * A' + t * B') * at_ row j := by rw [det]; omega
            grind
        · exact .of (.inl ⟨p, r, by rw [gE2, if_neg hp]; exact hgp, rfl⟩)
      · exact lat2 (a := B') (b := s) mb mr fun j => by
          rw [eb, er]
          have : at_ v j = (s * A' + t * B') * at_ v j := by rw [det]; omega
          grind
    · rcases hg with ⟨p, r, hgp, rfl⟩ | rfl
      · rw [gE2] at hgp
        by_cases hp : p = c
        · rw [if_pos hp] at hgp; cases hgp
          exact lat2 (a := 1) (b := 1) nb nu1 fun j => by rw [b5]; omega
        · rw [if_neg hp] at hgp
          exact .of (.inl ⟨p, r, hgp, rfl⟩)
      · exact lat2 (a := 1) (b := 1) nr nu2 fun j => by rw [c5]; omega
  · have : (E.any fun q => decide (q.1 = c)) = true := by rw [← gE_any, hg]; rfl
    unfold pE
    rw [if_pos this, List.length_map]
  · intro E' h
    have eokE := eok_of a.key a.rows N R hδ
    exact .step hc (bv.vn N.smX) hv eokE hg run e3 (by omega) (smK s hs) (smK t ht) lok1 (by rw [hbt]; exact eok2) (by rw [hbt, fA, fB]; exact lok2) (by rw [hbt, fA, fB, hrt]; exact h)
end
end K87

namespace K87
open PySem PySem.Spec PyProof.Rows L2 DL
open PySem.Builtin.Int (intBits)
section
variable {n κ P T Δ X rk : Nat} {b : Nat → Bool} {D : Nat → Int} {C : Nat → Nat → Int} {δ : Nat → Int}
/-- a vector through all columns -/
theorem add_all (N : Nums n κ P T Δ X rk) (R : RelOk κ (fun p => b p = true) D C) (hδ : ∀ j, (δ j).natAbs ≤ Δ) : ∀ (i c : Nat) (E : Ec) (v : Vc) (α : Int), c + i = n → ASt n P T rk c b D C δ E v α →
    ∃ E', AddRun n c E v E' ∧ SpEq (GEv E v) (GE E') ∧
      ((KeyOk n E' ∧ (∀ p, Sp E' p ↔ b p = true) ∧ (∀ p r, gE E' p = some r → RowA n P T n (fun p => b p = true) D C δ p r) ∧ E'.length = E.length ∧ (∀ j, j < n → ¬ b j = true → δ j = 0) ∧ (prE n E').natAbs ≤ rk) ∨
       (∃ c1 E1 v1 α1, ASt n P T rk c1 b D C δ E1 v1 α1 ∧ c1 < n ∧ ¬ b c1 = true ∧ at_ v1 c1 ≠ 0 ∧ E1.length = E.length ∧ E' = pE E1 c1 (if at_ v1 c1 < 0 then scaleL (-1) v1 else v1))) := by
  intro i
  induction i with
  | zero =>
    intro c E v α hc a
    have : c = n := by omega
    subst this
    refine ⟨E, .stop, ?_, .inl ⟨a.key, a.sp, a.rows, rfl, fun j hj hb => ?_, ?_⟩⟩
    · refine ⟨fun g hg => ?_, fun g hg => .of (.inl hg)⟩
      rcases hg with hg | rfl
      · exact .of hg
      · exact Lat.zero.eq fun j => by
          by_cases hj : j < c
          · exact (a.vz j hj).symm
          · exact (at_out (by rw [a.vl]; omega)).symm
    · have h1 := a.vd j hj hb
      have h2 : dfc D C (at_ v) j = 0 := by
        unfold dfc
        rw [a.vz j hj, sm_zero (fun p hp => by rw [a.vz p (by omega)]; omega)]; omega
      rw [h2] at h1
      rcases Int.mul_eq_zero.mp h1.symm with h | h
      · exact absurd h a.a0
      · exact h
    · have h1 := a.ab
      rw [Int.natAbs_mul] at h1
      exact Nat.le_trans (Nat.le_mul_of_pos_left _ (by have := a.a0; omega)) h1
  | succ i ih =>
    intro c E v α hc a
    have hcn : c < n := by omega
    by_cases hv : at_ v c = 0
    · have a2 : ASt n P T rk (c + 1) b D C δ E v α := by
        refine ⟨a.key, a.sp, fun p r h => ?_, a.vl, fun j hj => ?_, a.vp, a.vd, a.a0, a.ab⟩
        · have x := a.rows p r h
          obtain ⟨β, h1, h2, h3⟩ := x.hd
          exact ⟨x.hl, x.hp, x.hz, x.pos, x.hq, β, h1, fun hh => h2 (by omega), h3⟩
        · by_cases z : j = c
          · rw [z]; exact hv
          · exact a.vz j (by omega)
      obtain ⟨E', r, h⟩ := ih (c + 1) E v α (by omega) a2
      exact ⟨E', .zero hcn ((a.bd N R hδ).vn N.smX) hv r, h⟩
    · cases hg : gE E c with
      | none =>
        refine ⟨_, .new hcn ((a.bd N R hδ).vn N.smX) hv hg a.key, ?_, .inr ⟨c, E, v, α, a, hcn, fun z => ?_, hv, rfl, rfl⟩⟩
        · have hs : ∀ j, at_ (if at_ v c < 0 then scaleL (-1) v else v) j = (if at_ v c < 0 then -1 else 1) * at_ v j := fun j => by
            split
            · rw [at_scale]
            · omega
          refine ⟨fun g hg2 => ?_, fun g hg2 => ?_⟩
          · rcases hg2 with ⟨p, r, hgp, rfl⟩ | rfl
            · exact .of ⟨p, r, by rw [gE_pE, if_neg (fun z => by rw [z, hg] at hgp; cases hgp)]; exact hgp, rfl⟩
            · have : Lat (GE (pE E c (if at_ v c < 0 then scaleL (-1) v else v))) (at_ (if at_ v c < 0 then scaleL (-1) v else v)) := .of ⟨c, _, by rw [gE_pE, if_pos rfl], rfl⟩
              exact lat2 (a := if at_ v c < 0 then -1 else 1) (b := 0) this .zero fun j => by
                rw [hs]; split <;> omega
          · obtain ⟨p, r, hgp, rfl⟩ := hg2
            rw [gE_pE] at hgp
            by_cases z : p = c
            · rw [if_pos z] at hgp
              rw [← Option.some.inj hgp]
              exact lat2 (a := if at_ v c < 0 then -1 else 1) (b := 0) (.of (.inr rfl)) .zero fun j => by rw [hs]; omega
            · rw [if_neg z] at hgp
              exact .of (.inl ⟨p, r, hgp, rfl⟩)
        · have := (a.sp c).mpr z
          unfold Sp at this
          rw [hg] at this; cases this
      | some row =>
        obtain ⟨E2, v2, α2, a2, sp, hl, run⟩ := add_step N R hδ a hcn hg hv
        obtain ⟨E', r, s2, h⟩ := ih (c + 1) E2 v2 α2 (by omega) a2
        rw [hl] at h
        exact ⟨E', run E' r, sp.trans s2, h⟩
end
/-! ### what holds of an echelon -/
structure HRow (n P : Nat) (S : Nat → Prop) (D : Nat → Int) (C : Nat → Nat → Int) (p : Nat) (r : Vc) : Prop where
  hl : r.length = n
  hp : p < n
  hz : ∀ j, j < p → at_ r j = 0
  pos : 0 < at_ r p
  hq : ∀ q, S q → (at_ r q).natAbs ≤ P
  hd : ∀ j, j < n → ¬ S j → dfc D C (at_ r) j = 0
def HInv (n κ P Q : Nat) (E : Ec) : Prop := KeyOk n E ∧ (prE n E).natAbs ≤ Q ∧ ∃ D C, RelOk κ (Sp E) D C ∧ ∀ p r, gE E p = some r → HRow n P (Sp E) D C p r
theorem key_cnt {n : Nat} {E : Ec} (h : KeyOk n E) : cnt (fun p => (gE E p).isSome) n = E.length := by
  have := (keys_perm h).length_eq
  unfold ecD at this
  rw [List.length_map, List.length_map, List.length_map] at this
  exact this
theorem key_len {n : Nat} {E : Ec} (h : KeyOk n E) : E.length ≤ n := by
  rw [← key_cnt h]
  unfold cnt
  exact Nat.le_trans (List.length_filter_le _ _) (by rw [List.length_range]; exact Nat.le_refl n)
/-- the relations over one rank more -/
theorem new_rel {n κ P T Δ X rk c : Nat} {b : Nat → Bool} {D : Nat → Int} {C : Nat → Nat → Int} {δ : Nat → Int} {E : Ec} {v : Vc} {α : Int} (N : Nums n κ P T Δ X rk) (R : RelOk κ (fun p => b p = true) D C) (hδ : ∀ j, (δ j).natAbs ≤ Δ)
    (a : ASt n P T rk c b D C δ E v α) (hc : c < n) (hb : ¬ b c = true) (hv : at_ v c ≠ 0) : HInv n (2 * (Δ * κ)) X (rk * Δ) (pE E c (if at_ v c < 0 then scaleL (-1) v else v)) := by
  have hg : gE E c = none := by
    cases h : gE E c with
    | none => rfl
    | some r => exact absurd ((a.sp c).mp (by unfold Sp; rw [h]; rfl)) hb
  have bv := a.bd N R hδ
  have hs : ∀ j, at_ (if at_ v c < 0 then scaleL (-1) v else v) j = (if at_ v c < 0 then -1 else 1) * at_ v j := fun j => by
    split
    · rw [at_scale]
    · omega
  have hsp : ∀ p, Sp (pE E c (if at_ v c < 0 then scaleL (-1) v else v)) p ↔ (b p = true ∨ p = c) := fun p => by
    unfold Sp
    rw [gE_pE]
    by_cases z : p = c
    · rw [if_pos z]; simp [z]
    · rw [if_neg z]
      simp only [z, or_false]
      exact a.sp p
  have d0 : ∀ j, j < n → j < c → ¬ b j = true → δ j = 0 := fun j hj hjc hbj => by
    have h1 := a.vd j hj hbj
    have h2 : dfc D C (at_ v) j = 0 := by
      unfold dfc
      rw [a.vz j hjc, sm_zero (fun p hp => by rw [a.vz p (by omega)]; omega)]; omega
    rw [h2] at h1
    rcases Int.mul_eq_zero.mp h1.symm with h | h
    · exact absurd h a.a0
    · exact h
  have dc : δ c ≠ 0 := fun z => by
    have h1 := a.vd c hc hb
    rw [z] at h1
    have h2 : dfc D C (at_ v) c = D c * at_ v c := by
      unfold dfc
      rw [sm_zero (fun p hp => by rw [a.vz p hp]; omega)]; omega
    rw [h2] at h1
    have : D c * at_ v c = 0 := by omega
    rcases Int.mul_eq_zero.mp this with h | h
    · exact R.d0 c h
    · exact hv h
  have hpr : (prE n (pE E c (if at_ v c < 0 then scaleL (-1) v else v))).natAbs ≤ rk * Δ := by
    have e : prE n (pE E c (if at_ v c < 0 then scaleL (-1) v else v)) = prE n E * ((if at_ v c < 0 then -1 else 1) * at_ v c) := by
      unfold prE
      refine pr_upd (c := c) ?_ hc fun p _ hp => ?_
      · unfold pvt
        rw [hg, gE_pE, if_pos rfl]
        show at_ (if at_ v c < 0 then scaleL (-1) v else v) c = 1 * ((if at_ v c < 0 then -1 else 1) * at_ v c)
        rw [hs, Int.one_mul]
      · unfold pvt
        rw [gE_pE, if_neg hp]
    have h1 := a.vd c hc hb
    have h2 : dfc D C (at_ v) c = D c * at_ v c := by
      unfold dfc
      rw [sm_zero (fun p hp => by rw [a.vz p hp]; omega)]; omega
    rw [h2] at h1
    have h3 : (at_ v c).natAbs ≤ α.natAbs * (δ c).natAbs := by
      have h4 : (D c).natAbs * (at_ v c).natAbs = α.natAbs * (δ c).natAbs := by rw [← Int.natAbs_mul, ← Int.natAbs_mul, h1]
      have h5 : 1 ≤ (D c).natAbs := by have := R.d0 c; omega
      rw [← h4]; exact Nat.le_mul_of_pos_left _ h5
    have h6 : ((if at_ v c < 0 then -1 else 1) * at_ v c).natAbs = (at_ v c).natAbs := by split <;> omega
    rw [e, Int.natAbs_mul, h6]
    have h7 := a.ab
    rw [Int.natAbs_mul] at h7
    calc (prE n E).natAbs * (at_ v c).natAbs ≤ (prE n E).natAbs * (α.natAbs * (δ c).natAbs) := Nat.mul_le_mul_left _ h3
      _ = α.natAbs * (prE n E).natAbs * (δ c).natAbs := by rw [← Nat.mul_assoc, Nat.mul_comm (prE n E).natAbs]
      _ ≤ rk * Δ := Nat.mul_le_mul h7 (hδ c)
  refine ⟨a.key.put hc, hpr, fun j => δ c * D j, fun j p => if p = c then (if c < j then δ j * D c else 0) else δ c * C j p - (if c < j then δ j else 0) * (if p < c then C c p else 0), ?_, ?_⟩
  · refine ⟨fun j => Int.mul_ne_zero dc (R.d0 j), fun j => ?_, fun j p => ?_, fun j p hp => ?_⟩
    · rw [Int.natAbs_mul]
      have := Nat.mul_le_mul (hδ c) (R.dk j)
      omega
    · have k1 := Nat.mul_le_mul (hδ c) (R.ck j p)
      have k2 := Nat.mul_le_mul (hδ j) (R.dk c)
      have k3 := Nat.mul_le_mul (hδ j) (R.ck c p)
      rw [← Int.natAbs_mul] at k1 k2 k3
      split
      · split
        · omega
        · simp
      · split
        · split
          · omega
          · rw [Int.mul_zero, Int.sub_zero]; omega
        · rw [Int.zero_mul, Int.sub_zero]; omega
    · rw [hsp] at hp
      have h1 : ¬ b p = true := fun z => hp (.inl z)
      have h2 : p ≠ c := fun z => hp (.inr z)
      rw [if_neg h2, R.cs j p h1, R.cs c p h1]
      split <;> split <;> omega
  · -- what holds of any vector with defects in proportion
    have key : ∀ (x : Vc) (γ : Int), (∀ j, j < n → ¬ b j = true → dfc D C (at_ x) j = γ * δ j) → ∀ j, j < n → ¬ (b j = true ∨ j = c) →
        dfc (fun j => δ c * D j) (fun j p => if p = c then (if c < j then δ j * D c else 0) else δ c * C j p - (if c < j then δ j else 0) * (if p < c then C c p else 0)) (at_ x) j = 0 := fun x γ hx j hj hjn => by
      have hbj : ¬ b j = true := fun z => hjn (.inl z)
      have hjc : j ≠ c := fun z => hjn (.inr z)
      have e1 := hx j hj hbj
      have e2 := hx c hc hb
      unfold dfc at e1 e2 ⊢
      by_cases hcj : c < j
      · -- the sum in three parts
        have sA : sm j (fun p => (if p = c then (if c < j then δ j * D c else 0) else δ c * C j p - (if c < j then δ j else 0) * (if p < c then C c p else 0)) * at_ x p)
            = δ c * sm j (fun p => C j p * at_ x p) + 1 * sm j (fun p => if p = c then δ j * D c * at_ x c else -(δ j) * (if p < c then C c p * at_ x p else 0)) := by
          rw [← sm_lin]
          apply sm_congr
          intro p _
          by_cases hp : p = c
          · rw [if_pos hp, if_pos hp, if_pos hcj, hp, R.cs j c hb]; grind
          · rw [if_neg hp, if_neg hp, if_pos hcj]
            split <;> grind
        have sB : sm j (fun p => if p = c then δ j * D c * at_ x c else -(δ j) * (if p < c then C c p * at_ x p else 0)) = 1 * (δ j * D c * at_ x c) + -(δ j) * sm c (fun p => C c p * at_ x p) := by
          have s1 : sm j (fun p => if p = c then δ j * D c * at_ x c else -(δ j) * (if p < c then C c p * at_ x p else 0)) = 1 * sm j (fun p => if p = c then δ j * D c * at_ x c else 0) + -(δ j) * sm j (fun p => if p < c then C c p * at_ x p else 0) := by
            rw [← sm_lin]
            apply sm_congr
            intro p _
            by_cases hp : p = c
            · rw [if_pos hp, if_pos hp, if_neg (by omega)]; omega
            · rw [if_neg hp, if_neg hp]; omega
          have s2 : sm j (fun p => if p = c then δ j * D c * at_ x c else 0) = δ j * D c * at_ x c := by
            rw [sm_one hcj (fun p _ hp => if_neg hp), if_pos rfl]
          have s3 : ∀ k, c ≤ k → sm k (fun p => if p < c then C c p * at_ x p else 0) = sm c (fun p => C c p * at_ x p) := by
            intro k
            induction k with
            | zero => intro h; have : c = 0 := by omega
                      subst this; rfl
            | succ k ih =>
              intro h
              by_cases z : c = k + 1
              · rw [z]
                apply sm_congr
                intro p hp
                rw [if_pos (by omega)]
              · show sm k _ + (if k < c then _ else 0) = _
                rw [ih (by omega), if_neg (by omega)]; omega
          rw [s1, s2, s3 j (by omega)]
        rw [sA, sB]
        grind
      · have hj2 : j < c := by omega
        have sA : sm j (fun p => (if p = c then (if c < j then δ j * D c else 0) else δ c * C j p - (if c < j then δ j else 0) * (if p < c then C c p else 0)) * at_ x p) = δ c * sm j (fun p => C j p * at_ x p) + 0 * sm j (fun p => 0) := by
          rw [← sm_lin]
          apply sm_congr
          intro p hp
          rw [if_neg (by omega), if_neg hcj]; grind
        rw [sA]
        rw [d0 j hj hj2 hbj] at e1
        grind
    have keyS : ∀ (x : Vc) (γ : Int), (∀ j, j < n → ¬ b j = true → dfc D C (at_ x) j = γ * δ j) → ∀ j, j < n → ¬ Sp (pE E c (if at_ v c < 0 then scaleL (-1) v else v)) j →
        dfc (fun j => δ c * D j) (fun j p => if p = c then (if c < j then δ j * D c else 0) else δ c * C j p - (if c < j then δ j else 0) * (if p < c then C c p else 0)) (at_ x) j = 0 := fun x γ hx j hj hjn => key x γ hx j hj (fun z => hjn ((hsp j).mpr z))
    intro p r hgp
    rw [gE_pE] at hgp
    by_cases hp : p = c
    · rw [if_pos hp] at hgp
      have er : r = (if at_ v c < 0 then scaleL (-1) v else v) := (Option.some.inj hgp).symm
      rw [hp]
      refine ⟨?_, hc, fun j hj => ?_, ?_, fun q _ => ?_, ?_⟩
      · rw [er]; split
        · rw [scale_len]; exact a.vl
        · exact a.vl
      · rw [er, hs, a.vz j hj]; omega
      · rw [er, hs]; split <;> omega
      · have := bv.2 q
        rw [er, hs]
        split <;> omega
      · refine keyS r ((if at_ v c < 0 then -1 else 1) * α) fun j hj hbj => ?_
        rw [dfc_lin D C (at_ v) (at_ v) (at_ r) (if at_ v c < 0 then -1 else 1) 0 (fun j => by rw [er, hs]; omega) j, a.vd j hj hbj]; grind
    · rw [if_neg hp] at hgp
      have x := a.rows p r hgp
      obtain ⟨β, h1, _, h3⟩ := x.hd
      have bx := x.bd N R hδ
      exact ⟨x.hl, x.hp, x.hz, x.pos, fun q _ => bx.2 q, keyS r β h3⟩
theorem add_vec {n κ P T X M rk : Nat} {E : Ec} {v : Vc} (N : Nums n κ P T ((n + 1) * (κ * M)) X rk) (h : HInv n κ P rk E) (hv : Bd n M v) (hMP : M ≤ P) :
    ∃ E', AddRun n 0 E v E' ∧ SpEq (GEv E v) (GE E') ∧ ((E'.length = E.length ∧ HInv n κ P rk E') ∨ (E'.length = E.length + 1 ∧ HInv n (2 * ((n + 1) * (κ * M) * κ)) X (rk * ((n + 1) * (κ * M))) E')) := by
  obtain ⟨hk, hQ, D, C, R, hrows⟩ := h
  have R' : RelOk κ (fun p => (gE E p).isSome = true) D C := R
  have hδ : ∀ j, (if j < n then dfc D C (at_ v) j else 0).natAbs ≤ (n + 1) * (κ * M) := fun j => by
    split
    · rename_i hj
      unfold dfc
      have h1 : (D j * at_ v j).natAbs ≤ κ * M := by rw [Int.natAbs_mul]; exact Nat.mul_le_mul (R.dk j) (hv.2 j)
      have h2 : (sm j (fun p => C j p * at_ v p)).natAbs ≤ j * (κ * M) := sm_abs fun p _ => by
        rw [Int.natAbs_mul]; exact Nat.mul_le_mul (R.ck j p) (hv.2 p)
      have h3 : j * (κ * M) ≤ n * (κ * M) := Nat.mul_le_mul_right _ (by omega)
      rw [Nat.succ_mul]
      omega
    · simp
  have a : ASt n P T rk 0 (fun p => (gE E p).isSome) D C (fun j => if j < n then dfc D C (at_ v) j else 0) E v 1 := by
    refine ⟨hk, fun p => Iff.rfl, fun p r hg => ?_, hv.1, fun j hj => by omega, fun q _ => Nat.le_trans (hv.2 q) hMP, fun j hj _ => by rw [if_pos hj]; omega, by decide, by rw [Int.one_mul]; exact hQ⟩
    have x := hrows p r hg
    exact ⟨x.hl, x.hp, x.hz, x.pos, x.hq, 0, by simp, fun _ => rfl, fun j hj hb => by rw [x.hd j hj hb]; omega⟩
  obtain ⟨E', run, sp, h⟩ := add_all N R' hδ n 0 E v 1 (by omega) a
  refine ⟨E', run, sp, ?_⟩
  rcases h with ⟨k1, k2, k3, k4, k5, k6⟩ | ⟨c1, E1, v1, α1, a1, hc1, hb1, hv1, hl1, rfl⟩
  · refine .inl ⟨k4, k1, k6, D, C, ⟨R.d0, R.dk, R.ck, fun j p hp => R.cs j p fun z => hp ((k2 p).mpr z)⟩, fun p r hg => ?_⟩
    have x := k3 p r hg
    refine ⟨x.hl, x.hp, x.hz, x.pos, fun q hq => x.hq q ((k2 q).mp hq), fun j hj hb => ?_⟩
    obtain ⟨β, _, _, h3⟩ := x.hd
    have hb' : ¬ (gE E j).isSome = true := fun z => hb ((k2 j).mpr z)
    rw [h3 j hj hb', k5 j hj hb']; omega
  · refine .inr ⟨?_, new_rel N R' hδ a1 hc1 hb1 hv1⟩
    have hg : (E1.any fun q => decide (q.1 = c1)) = false := by
      rw [← gE_any]
      cases h : gE E1 c1 with
      | none => rfl
      | some r => exact absurd ((a1.sp c1).mp (by unfold Sp; rw [h]; rfl)) hb1
    unfold pE
    rw [if_neg (by rw [hg]; exact Bool.false_ne_true), List.length_append, hl1]; rfl
end K87

namespace K87
open PySem PySem.Spec PyProof.Rows L2 DL
open PySem.Builtin.Int (intBits)
/-! ### the bounds by the rank: coefficients, product of the pivots, entries at pivots -/
def fa (m : Nat) : Nat → Nat
  | 0 => 0
  | r + 1 => 2 * fa m r + m + 4
def fc (m : Nat) : Nat → Nat
  | 0 => 0
  | r + 1 => fc m r + (fa m r + m + 3)
def fq (m : Nat) : Nat → Nat
  | 0 => m
  | r + 1 => fq m r + fc m r + fa m r + m + 6
theorem le_fq (m : Nat) : ∀ r, m ≤ fq m r
  | 0 => Nat.le_refl _
  | r + 1 => by show m ≤ fq m r + fc m r + fa m r + m + 6; omega
def Fits (n m : Nat) : Prop := ∀ r, r ≤ n → 3 + fq m r + fq m (r + 1) + (fq m (r + 1) + 1) * n < 60000000
theorem nums_of {n m r : Nat} (hn : n ≤ 7) (hr : r ≤ n) (hS : Fits n m) : Nums n (2 ^ fa m r) (2 ^ fq m r) ((3 * 2 ^ fq m r + 1) * 2 ^ fc m r) ((n + 1) * (2 ^ fa m r * 2 ^ m)) (2 ^ fq m (r + 1)) (2 ^ fc m r) := by
  have h := hS r hr
  have e : fq m (r + 1) = fq m r + fc m r + fa m r + m + 6 := rfl
  generalize fa m r = a at e
  generalize fc m r = c at e
  generalize hb : fq m r = b at e h
  generalize hx : fq m (r + 1) = x at e h
  have hb1 := one_pow2 b
  have ht : (3 * 2 ^ b + 1) * 2 ^ c ≤ 2 ^ (2 + b + c) := by
    have h1 : 3 * 2 ^ b + 1 ≤ 2 ^ (2 + b) := by rw [Nat.pow_add]; omega
    refine Nat.le_trans (Nat.mul_le_mul_right _ h1) ?_
    rw [← Nat.pow_add]
    exact Nat.le_refl _
  have h8 : n + 1 ≤ 2 ^ 3 := by omega
  refine ⟨hb1, Nat.le_refl _, Nat.le_mul_of_pos_left _ (by omega), ?_, ?_⟩
  · have t1 : n * (2 ^ a * 2 ^ b) ≤ 2 ^ (b + c + a + m + 4) := by
      rw [← Nat.pow_add]
      refine Nat.le_trans (Nat.mul_le_mul_right _ (show n ≤ 2 ^ 3 by omega)) ?_
      rw [← Nat.pow_add]
      exact pow_mono2 (by omega)
    have t2 : (3 * 2 ^ b + 1) * 2 ^ c * ((n + 1) * (2 ^ a * 2 ^ m)) ≤ 2 ^ (b + c + a + m + 5) := by
      refine Nat.le_trans (Nat.mul_le_mul ht (Nat.mul_le_mul_right _ h8)) ?_
      rw [← Nat.pow_add, ← Nat.pow_add, ← Nat.pow_add]
      exact pow_mono2 (by omega)
    have t3 : 2 ^ b ≤ 2 ^ (b + c + a + m + 4) := pow_mono2 (by omega)
    have t4 : 2 ^ (b + c + a + m + 5) = 2 * 2 ^ (b + c + a + m + 4) := by rw [Nat.pow_succ]; omega
    have t5 : 2 ^ x = 4 * 2 ^ (b + c + a + m + 4) := by
      rw [e, show b + c + a + m + 6 = (b + c + a + m + 4) + 2 from rfl, Nat.pow_add]; omega
    rw [t5]; omega
  · intro y hy
    refine sm_pow (s := 3 + b + x + (x + 1) * n) h (Nat.le_trans hy ?_)
    have h1 : 3 * 2 ^ b + 1 ≤ 2 ^ (b + 2) := by rw [Nat.pow_add]; omega
    have h2 : (3 * 2 ^ b + 1) * 2 ^ x ≤ 2 ^ (b + 2 + x) := by
      rw [Nat.pow_add 2 (b + 2) x]; exact Nat.mul_le_mul_right _ h1
    have h3 : (3 * 2 ^ b + 1) * 2 ^ x + (3 * 2 ^ b + 1) * 2 ^ x ≤ 2 ^ (3 + b + x) := by
      have : 2 ^ (3 + b + x) = 2 * 2 ^ (b + 2 + x) := by rw [show 3 + b + x = (b + 2 + x) + 1 by omega, Nat.pow_succ]; omega
      omega
    have h4 : (2 * 2 ^ x) ^ n = 2 ^ ((x + 1) * n) := by rw [← Nat.pow_succ', Nat.pow_mul]
    rw [h4]
    refine Nat.le_trans (Nat.mul_le_mul_right _ h3) ?_
    rw [← Nat.pow_add]
    exact Nat.le_refl _
theorem HInv.mono {n κ P Q κ' P' Q' : Nat} {E : Ec} (h : HInv n κ P Q E) (h1 : κ ≤ κ') (h2 : P ≤ P') (h3 : Q ≤ Q') : HInv n κ' P' Q' E := by
  obtain ⟨k, q, D, C, R, rows⟩ := h
  exact ⟨k, Nat.le_trans q h3, D, C, ⟨R.d0, fun j => Nat.le_trans (R.dk j) h1, fun j p => Nat.le_trans (R.ck j p) h1, R.cs⟩, fun p r hg => by
    have x := rows p r hg
    exact ⟨x.hl, x.hp, x.hz, x.pos, fun q hq => Nat.le_trans (x.hq q hq) h2, x.hd⟩⟩
theorem herm_run {n m : Nat} (hn : n ≤ 7) (hS : Fits n m) : ∀ (rows : List Vc) (E : Ec), (∀ r ∈ rows, Bd n (2 ^ m) r) → HInv n (2 ^ fa m E.length) (2 ^ fq m E.length) (2 ^ fc m E.length) E →
    ∃ E', HRun n rows E E' ∧ SpEq (fun g => GE E g ∨ Gr rows g) (GE E') ∧ HInv n (2 ^ fa m E'.length) (2 ^ fq m E'.length) (2 ^ fc m E'.length) E' := by
  intro rows
  induction rows with
  | nil =>
    intro E _ h
    exact ⟨E, .nil, .same fun g => ⟨fun h => by
      rcases h with h | ⟨x, hx, _⟩
      · exact h
      · simp at hx, fun h => .inl h⟩, h⟩
  | cons v rs ih =>
    intro E hr h
    have N := nums_of hn (key_len h.1) hS
    obtain ⟨E1, run, sp, hE1⟩ := add_vec N h (hr v (by simp)) (pow_mono2 (le_fq m E.length))
    have h1 : HInv n (2 ^ fa m E1.length) (2 ^ fq m E1.length) (2 ^ fc m E1.length) E1 := by
      rcases hE1 with ⟨e, h1⟩ | ⟨e, h1⟩
      · rw [e]; exact h1
      · rw [e]
        have h8 : n + 1 ≤ 2 ^ 3 := by omega
        refine h1.mono ?_ (Nat.le_refl _) ?_
        · show 2 * ((n + 1) * (2 ^ fa m E.length * 2 ^ m) * 2 ^ fa m E.length) ≤ 2 ^ (2 * fa m E.length + m + 4)
          generalize fa m E.length = a
          have t : (n + 1) * (2 ^ a * 2 ^ m) * 2 ^ a ≤ 2 ^ 3 * (2 ^ a * 2 ^ m) * 2 ^ a := Nat.mul_le_mul_right _ (Nat.mul_le_mul_right _ h8)
          rw [← Nat.pow_add, ← Nat.pow_add, ← Nat.pow_add] at t
          have e2 : 2 ^ (2 * a + m + 4) = 2 * 2 ^ (3 + (a + m) + a) := by rw [show 2 * a + m + 4 = (3 + (a + m) + a) + 1 by omega, Nat.pow_succ]; omega
          rw [← Nat.pow_add 2 a m]
          omega
        · show 2 ^ fc m E.length * ((n + 1) * (2 ^ fa m E.length * 2 ^ m)) ≤ 2 ^ (fc m E.length + (fa m E.length + m + 3))
          generalize fa m E.length = a
          generalize fc m E.length = c
          rw [Nat.pow_add 2 c]
          refine Nat.mul_le_mul_left _ ?_
          rw [← Nat.pow_add]
          refine Nat.le_trans (Nat.mul_le_mul_right _ h8) ?_
          rw [← Nat.pow_add]
          exact pow_mono2 (by omega)
    obtain ⟨E', run2, sp2, h2⟩ := ih E1 (fun r hr' => hr r (by simp [hr'])) h1
    refine ⟨E', .cons (hr v (by simp)).1 run run2, ?_, h2⟩
    refine SpEq.trans ⟨fun g hg => ?_, fun g hg => ?_⟩ sp2
    · have up : ∀ u, Lat (GE E1) u → Lat (fun g => GE E1 g ∨ Gr rs g) u := fun u h => h.mono fun g hg => .inl hg
      rcases hg with hg | ⟨x, hx, rfl⟩
      · exact up _ (sp.l g (.inl hg))
      · rcases List.mem_cons.mp hx with rfl | hx
        · exact up _ (sp.l _ (.inr rfl))
        · exact .of (.inr ⟨x, hx, rfl⟩)
    · rcases hg with hg | ⟨x, hx, rfl⟩
      · refine (sp.r g hg).mono fun u hu => ?_
        rcases hu with hu | rfl
        · exact .inl hu
        · exact .inr ⟨v, by simp, rfl⟩
      · exact .of (.inr ⟨x, by simp [hx], rfl⟩)
theorem hinv_nil (n κ P : Nat) (h : 1 ≤ κ) : HInv n κ P 1 [] :=
  ⟨⟨List.nodup_nil, fun q hq => by simp at hq⟩, by
    have : prE n [] = 1 := by
      unfold prE
      induction n with
      | zero => rfl
      | succ n ih => show pr n (pvt []) * 1 = 1; rw [ih]; rfl
    rw [this]; decide, fun _ => 1, fun _ _ => 0, ⟨fun _ => by decide, fun _ => h, fun _ _ => by simp, fun _ _ _ => rfl⟩, fun p r hg => nomatch hg⟩
/-! ### echelons -/
/-- rows in echelon form, pivots positive -/
def Ech (n : Nat) (E : Ec) : Prop := KeyOk n E ∧ ∀ p r, gE E p = some r → r.length = n ∧ p < n ∧ (∀ j, j < p → at_ r j = 0) ∧ 0 < at_ r p
theorem HInv.ech {n κ P Q : Nat} {E : Ec} (h : HInv n κ P Q E) : Ech n E := by
  obtain ⟨k, _, D, C, _, rows⟩ := h
  exact ⟨k, fun p r hg => ⟨(rows p r hg).hl, (rows p r hg).hp, (rows p r hg).hz, (rows p r hg).pos⟩⟩
def GEk (E : Ec) (k : Nat) : Fv → Prop := fun g => ∃ p r, k ≤ p ∧ gE E p = some r ∧ g = at_ r
theorem gek_dec {E : Ec} {k : Nat} {u : Fv} (h : Lat (GEk E k) u) : ∃ (a : Int) (w : Fv), Lat (GEk E (k + 1)) w ∧ (gE E k = none → ∀ j, u j = w j) ∧ ∀ r, gE E k = some r → ∀ j, u j = w j + a * at_ r j := by
  induction h with
  | zero => exact ⟨0, fun _ => 0, .zero, fun _ _ => rfl, fun r _ j => by show (0 : Int) = 0 + 0 * at_ r j; omega⟩
  | @add u g m _ hg ih =>
    obtain ⟨a, w, h1, h2, h3⟩ := ih
    obtain ⟨p, x, hp, hx, rfl⟩ := hg
    by_cases z : p = k
    · subst z
      refine ⟨a + m, w, h1, fun h => by (rw [h] at hx; cases hx), fun r hr j => ?_⟩
      rw [hx] at hr; cases hr
      show u j + m * at_ x j = _
      rw [h3 x hx j]; grind
    · refine ⟨a, fun j => w j + m * at_ x j, .add m h1 ⟨p, x, by omega, hx, rfl⟩, fun h j => ?_, fun r hr j => ?_⟩
      · show u j + m * at_ x j = w j + m * at_ x j
        rw [h2 h j]
      · show u j + m * at_ x j = w j + m * at_ x j + a * at_ r j
        rw [h3 r hr j]; omega
theorem gek_z {n : Nat} {E : Ec} (h : Ech n E) {k : Nat} {u : Fv} (hu : Lat (GEk E (k + 1)) u) : u k = 0 := by
  induction hu with
  | zero => rfl
  | @add u g m _ hg ih =>
    obtain ⟨p, x, hp, hx, rfl⟩ := hg
    show u k + m * at_ x k = 0
    rw [ih, (h.2 p x hx).2.2.1 k (by omega)]; omega
theorem ge_tail {n : Nat} {E : Ec} (h : Ech n E) {u : Fv} (hu : Lat (GE E) u) : ∀ k, (∀ j, j < k → u j = 0) → Lat (GEk E k) u
  | 0, _ => hu.mono fun g hg => by
    obtain ⟨p, r, h1, h2⟩ := hg
    exact ⟨p, r, Nat.zero_le _, h1, h2⟩
  | k + 1, hz => by
    have h1 := ge_tail h hu k fun j hj => hz j (by omega)
    obtain ⟨a, w, w1, w2, w3⟩ := gek_dec h1
    have wz := gek_z h w1
    have uz := hz k (by omega)
    cases hg : gE E k with
    | none => exact w1.eq fun j => (w2 hg j).symm
    | some r =>
      have e := w3 r hg k
      have hpos := (h.2 k r hg).2.2.2
      rw [uz, wz] at e
      have ha : a = 0 := by
        have : a * at_ r k = 0 := by omega
        rcases Int.mul_eq_zero.mp this with h | h
        · exact h
        · omega
      exact w1.eq fun j => by rw [w3 r hg j, ha]; omega
/-- the first coordinate of a lattice vector -/
theorem ge_first {n : Nat} {E : Ec} (h : Ech n E) {u : Fv} (hu : Lat (GE E) u) {k : Nat} (hz : ∀ j, j < k → u j = 0) : (gE E k = none → u k = 0) ∧ ∀ r, gE E k = some r → at_ r k ∣ u k := by
  obtain ⟨a, w, w1, w2, w3⟩ := gek_dec (ge_tail h hu k hz)
  have wz := gek_z h w1
  exact ⟨fun hg => by rw [w2 hg k]; exact wz, fun r hg => ⟨a, by rw [w3 r hg k, wz]; grind⟩⟩
/-- a lattice vector that is 0 or too small at each pivot is 0 -/
theorem ge_small {n : Nat} {E : Ec} (h : Ech n E) {u : Fv} (hu : Lat (GE E) u) (hs : ∀ p r, gE E p = some r → (u p).natAbs < (at_ r p).natAbs) : ∀ k, u k = 0 := by
  have key : ∀ k, ∀ j, j < k → u j = 0 := by
    intro k
    induction k with
    | zero => intro j hj; omega
    | succ k ih =>
      intro j hj
      by_cases z : j = k
      · subst z
        obtain ⟨f1, f2⟩ := ge_first h hu ih
        cases hg : gE E j with
        | none => exact f1 hg
        | some r =>
          have hd := f2 r hg
          have hl := hs j r hg
          exact Int.eq_zero_of_dvd_of_natAbs_lt_natAbs hd hl
      · exact ih j (by omega)
  exact fun k => key (k + 1) k (by omega)
end K87

namespace K87
open PySem PySem.Spec PyProof.Rows L2 DL
open PySem.Builtin.Int (intBits)
/-! ### the reduced echelon is one for each lattice -/
/-- the reduced row at a pivot -/
def zrow (n : Nat) (E : Ec) (p : Nat) : Vc := lowF n E p ((gE E p).getD [])
structure ZRow (n : Nat) (E : Ec) (p : Nat) (r z : Vc) : Prop where
  l : z.length = n
  lo : ∀ j, j ≤ p → at_ z j = at_ r j
  hi : ∀ q r', p < q → gE E q = some r' → 0 ≤ at_ z q ∧ at_ z q < at_ r' q
  d : ∃ u, Lat (GEc E p) u ∧ ∀ j, at_ z j = at_ r j + u j
theorem zrow_ok {n : Nat} {E : Ec} (h : Ech n E) {p : Nat} {r : Vc} (hg : gE E p = some r) : ZRow n E p r (zrow n E p) := by
  -- some bound holds of the finitely many rows
  have bx : ∃ X, 1 ≤ X ∧ ∀ p r, gE E p = some r → Bd n X r := by
    have one : ∀ v : Vc, ∃ X, ∀ j, (at_ v j).natAbs ≤ X := fun v => by
      induction v with
      | nil => exact ⟨0, fun j => by rw [at_out (by simp)]; simp⟩
      | cons x v ih =>
        obtain ⟨X, hX⟩ := ih
        refine ⟨x.natAbs + X, fun j => ?_⟩
        cases j with
        | zero => show x.natAbs ≤ _; omega
        | succ j => have := hX j; show (at_ v j).natAbs ≤ _; omega
    have all : ∀ F : Ec, ∃ X, ∀ q ∈ F, ∀ j, (at_ q.2 j).natAbs ≤ X := fun F => by
      induction F with
      | nil => exact ⟨0, fun q hq => by simp at hq⟩
      | cons q F ih =>
        obtain ⟨X, hX⟩ := ih
        obtain ⟨Y, hY⟩ := one q.2
        refine ⟨X + Y, fun t ht j => ?_⟩
        rcases List.mem_cons.mp ht with rfl | ht
        · have := hY j; omega
        · have := hX t ht j; omega
    obtain ⟨X, hX⟩ := all E
    refine ⟨X + 1, by omega, fun p r hg => ⟨(h.2 p r hg).1, fun j => ?_⟩⟩
    unfold gE at hg
    cases e : E.find? (fun q => decide (q.1 = p)) with
    | none => rw [e] at hg; cases hg
    | some q =>
      rw [e] at hg
      cases hg
      have := hX q (List.mem_of_find?_eq_some e) j
      show (at_ q.2 j).natAbs ≤ X + 1
      omega
  obtain ⟨X, hX, hb⟩ := bx
  obtain ⟨b1, b2, b3, u, b4, b5⟩ := low_ex (c := p) hX (fun q r' _ hq => ⟨(h.2 q r' hq).2.1, hb q r' hq, (h.2 q r' hq).2.2.1, (h.2 q r' hq).2.2.2⟩) (hb p r hg) n
  rw [← lowF_N] at b1 b2 b3 b5
  have e : zrow n E p = lowF n E p r := by unfold zrow; rw [hg]; rfl
  rw [← e] at b1 b2 b3 b5
  exact ⟨b1.1, b2, fun q r' hq hgq => b3 q r' hq (h.2 q r' hgq).2.1 hgq, u, b4, b5⟩
theorem hermF_z (n : Nat) (E : Ec) : hermF n E = (keysE n E).map (zrow n E) := rfl
theorem gec_ge {E : Ec} {c : Nat} {u : Fv} (h : Lat (GEc E c) u) : Lat (GE E) u := h.mono fun g hg => by
  obtain ⟨p, r, _, h1, h2⟩ := hg
  exact ⟨p, r, h1, h2⟩
theorem zrow_lat {n : Nat} {E : Ec} (h : Ech n E) {p : Nat} {r : Vc} (hg : gE E p = some r) : Lat (GE E) (at_ (zrow n E p)) := by
  obtain ⟨u, hu, e⟩ := (zrow_ok h hg).d
  exact lat2 (a := 1) (b := 1) (.of ⟨p, r, hg, rfl⟩) (gec_ge hu) fun j => by rw [e]; omega
theorem mem_keysE {n : Nat} {E : Ec} (h : Ech n E) {p : Nat} : p ∈ keysE n E ↔ ∃ r, gE E p = some r := by
  constructor
  · exact keys_get
  · rintro ⟨r, hg⟩
    exact List.mem_filter.mpr ⟨List.mem_range.mpr (h.2 p r hg).2.1, by rw [hg]; rfl⟩
/-- the rows as they are handed on generate the lattice -/
theorem herm_lat {n : Nat} {E : Ec} (h : Ech n E) (u : Fv) : Lat (Gr (hermF n E)) u ↔ Lat (GE E) u := by
  constructor
  · intro hu
    refine hu.into fun g hg => ?_
    obtain ⟨r, hr, rfl⟩ := hg
    rw [hermF_z] at hr
    obtain ⟨p, hp, rfl⟩ := List.mem_map.mp hr
    obtain ⟨r, hg⟩ := keys_get hp
    exact zrow_lat h hg
  · intro hu
    have key : ∀ k p r, n - k ≤ p → gE E p = some r → Lat (Gr (hermF n E)) (at_ r) := by
      intro k
      induction k with
      | zero =>
        intro p r hp hg
        have := (h.2 p r hg).2.1
        omega
      | succ k ih =>
        intro p r hp hg
        by_cases z : n - k ≤ p
        · exact ih p r z hg
        · obtain ⟨u, hu, e⟩ := (zrow_ok h hg).d
          have h1 : Lat (Gr (hermF n E)) (at_ (zrow n E p)) := .of ⟨_, by rw [hermF_z]; exact List.mem_map.mpr ⟨p, (mem_keysE h).mpr ⟨r, hg⟩, rfl⟩, rfl⟩
          have h2 : Lat (Gr (hermF n E)) u := hu.into fun g hg => by
            obtain ⟨q, r', hq, hgq, rfl⟩ := hg
            exact ih q r' (by omega) hgq
          exact lat2 (a := 1) (b := -1) h1 h2 fun j => by rw [e]; omega
    exact hu.into fun g hg => by
      obtain ⟨p, r, hg, rfl⟩ := hg
      exact key n p r (by omega) hg
/-- the pivots are the lattice's -/
theorem piv_same {n : Nat} {E F : Ec} (hE : Ech n E) (hF : Ech n F) (hl : ∀ u, Lat (GE E) u → Lat (GE F) u) {p : Nat} {r : Vc} (hg : gE E p = some r) : ∃ r', gE F p = some r' ∧ at_ r' p ∣ at_ r p := by
  obtain ⟨_, _, hz, hp⟩ := hE.2 p r hg
  obtain ⟨f1, f2⟩ := ge_first hF (hl _ (.of ⟨p, r, hg, rfl⟩)) hz
  cases h : gE F p with
  | none => have := f1 h; omega
  | some r' => exact ⟨r', rfl, f2 r' h⟩
theorem herm_uniq {n : Nat} {E F : Ec} (hE : Ech n E) (hF : Ech n F) (hl : ∀ u, Lat (GE E) u ↔ Lat (GE F) u) : hermF n E = hermF n F := by
  have pv : ∀ p r, gE E p = some r → ∃ r', gE F p = some r' ∧ at_ r' p = at_ r p := fun p r hg => by
    obtain ⟨r', h1, d1⟩ := piv_same hE hF (fun u => (hl u).mp) hg
    obtain ⟨r'', h2, d2⟩ := piv_same hF hE (fun u => (hl u).mpr) h1
    rw [hg] at h2; cases h2
    exact ⟨r', h1, Int.dvd_antisymm (by have := (hF.2 p r' h1).2.2.2; omega) (by have := (hE.2 p r hg).2.2.2; omega) d1 d2⟩
  have ks : keysE n E = keysE n F := by
    unfold keysE
    apply List.filter_congr
    intro p _
    cases h : gE E p with
    | some r => obtain ⟨r', h1, _⟩ := pv p r h; rw [h1]; rfl
    | none =>
      cases h2 : gE F p with
      | none => rfl
      | some r' =>
        obtain ⟨r, h3, _⟩ := piv_same hF hE (fun u => (hl u).mpr) h2
        rw [h] at h3; cases h3
  rw [hermF_z, hermF_z, ks]
  apply List.map_congr_left
  intro p hp
  rw [← ks] at hp
  obtain ⟨r, hg⟩ := keys_get hp
  obtain ⟨r', hg', e⟩ := pv p r hg
  have z1 := zrow_ok hE hg
  have z2 := zrow_ok hF hg'
  have hd : Lat (GE E) (fun j => 1 * at_ (zrow n E p) j + (-1) * at_ (zrow n F p) j) := (zrow_lat hE hg).lin2 ((hl _).mpr (zrow_lat hF hg')) 1 (-1)
  have h0 := ge_small hE hd fun q rq hq => by
    show (1 * at_ (zrow n E p) q + (-1) * at_ (zrow n F p) q).natAbs < _
    have hpos := (hE.2 q rq hq).2.2.2
    rcases Nat.lt_trichotomy q p with h | h | h
    · rw [z1.lo q (by omega), z2.lo q (by omega), (hE.2 p r hg).2.2.1 q h, (hF.2 p r' hg').2.2.1 q h]
      simp; omega
    · subst h
      rw [z1.lo q (by omega), z2.lo q (by omega), e]
      omega
    · have a1 := z1.hi q rq h hq
      obtain ⟨rq', hq', e'⟩ := pv q rq hq
      have a2 := z2.hi q rq' h hq'
      omega
  refine vc_ext z1.l z2.l fun j _ => ?_
  have := h0 j
  have t : 1 * at_ (zrow n E p) j + (-1) * at_ (zrow n F p) j = 0 := this
  omega
/-! ### bounds from a sublattice of the same rank -/
theorem fin_index {n : Nat} {E S : Ec} (hE : Ech n E) (hS : Ech n S) (hl : ∀ u, Lat (GE S) u → Lat (GE E) u) (hp : ∀ p, (gE E p).isSome = true → (gE S p).isSome = true) : ∀ i k (u : Fv), k + i = n → Lat (GE E) u → (∀ j, j < k → u j = 0) → ∃ N : Int, N ≠ 0 ∧ Lat (GE S) (fun j => N * u j) := by
  intro i
  induction i with
  | zero =>
    intro k u hk hu hz
    have h0 := ge_small hE hu fun p r hg => by
      have := (hE.2 p r hg).2.1
      have := (hE.2 p r hg).2.2.2
      rw [hz p (by omega)]
      simp; omega
    exact ⟨1, by decide, Lat.zero.eq fun j => by rw [h0 j]; omega⟩
  | succ i ih =>
    intro k u hk hu hz
    by_cases hk0 : u k = 0
    · exact ih (k + 1) u (by omega) hu fun j hj => by
        by_cases z : j = k
        · rw [z]; exact hk0
        · exact hz j (by omega)
    · have hs : (gE E k).isSome = true := by
        cases h : gE E k with
        | none => exact absurd ((ge_first hE hu hz).1 h) hk0
        | some r => rfl
      obtain ⟨s, hgs⟩ := Option.isSome_iff_exists.mp (hp k hs)
      obtain ⟨_, _, hsz, hspos⟩ := hS.2 k s hgs
      have hw : Lat (GE E) (fun j => at_ s k * u j + (-(u k)) * at_ s j) := hu.lin2 (hl _ (.of ⟨k, s, hgs, rfl⟩)) _ _
      obtain ⟨N, hN, hL⟩ := ih (k + 1) _ (by omega) hw fun j hj => by
        show at_ s k * u j + (-(u k)) * at_ s j = 0
        by_cases z : j = k
        · rw [z]; grind
        · rw [hz j (by omega), hsz j (by omega)]; omega
      refine ⟨N * at_ s k, Int.mul_ne_zero hN (by omega), ?_⟩
      exact lat2 (a := 1) (b := N * u k) hL (.of ⟨k, s, hgs, rfl⟩) fun j => by grind
/-- the reduced rows are as small as the sublattice tells -/
theorem zrow_bd {n κ P Q : Nat} {E S : Ec} (hE : Ech n E) (hS : HInv n κ P Q S) (hl : ∀ u, Lat (GE S) u → Lat (GE E) u) (hp : ∀ p, (gE E p).isSome = true → (gE S p).isSome = true) {p : Nat} {r : Vc} (hg : gE E p = some r) : Bd n (n * (κ * Q) + Q) (zrow n E p) := by
  have hSe := hS.ech
  have z := zrow_ok hE hg
  have sp : ∀ q, (gE S q).isSome = true → ∃ s, gE S q = some s ∧ (at_ s q).natAbs ≤ Q := fun q hq => by
    obtain ⟨s, hs⟩ := Option.isSome_iff_exists.mp hq
    refine ⟨s, hs, ?_⟩
    obtain ⟨_, hQ, _⟩ := hS
    have pos : ∀ p, p < n → 0 < pvt S p := fun p _ => by
      unfold pvt
      cases h : gE S p with
      | none => show (0 : Int) < 1; omega
      | some t => exact (hSe.2 p t h).2.2.2
    have h1 := pr_ge (f := pvt S) (hSe.2 q s hs).2.1 pos
    have h2 : pvt S q = at_ s q := by unfold pvt; rw [hs]
    rw [h2] at h1
    have h3 : pr n (pvt S) = prE n S := rfl
    have h4 := (hSe.2 q s hs).2.2.2
    omega
  have ep : ∀ q rq, gE E q = some rq → (at_ rq q).natAbs ≤ Q := fun q rq hq => by
    obtain ⟨s, hs, hb⟩ := sp q (hp q (by rw [hq]; rfl))
    obtain ⟨rq', h1, d1⟩ := piv_same hSe hE hl hs
    rw [hq] at h1; cases h1
    have h2 := (hSe.2 q s hs).2.2.2
    have h3 := (hE.2 q rq hq).2.2.2
    have := Int.le_of_dvd h2 d1
    omega
  have same : ∀ q, Sp S q → (gE E q).isSome = true := fun q hq => by
    obtain ⟨s, hs⟩ := Option.isSome_iff_exists.mp hq
    obtain ⟨r', h1, _⟩ := piv_same hSe hE hl hs
    rw [h1]; rfl
  have pq : ∀ q, Sp S q → (at_ (zrow n E p) q).natAbs ≤ Q := fun q hq => by
    obtain ⟨rq, hrq⟩ := Option.isSome_iff_exists.mp (same q hq)
    rcases Nat.lt_trichotomy q p with h | h | h
    · rw [z.lo q (by omega), (hE.2 p r hg).2.2.1 q h]; simp
    · subst h
      rw [z.lo q (by omega)]
      exact ep q r hg
    · have a := z.hi q rq h hrq
      have b := ep q rq hrq
      omega
  obtain ⟨_, _, D, C, R, rows⟩ := hS
  refine ⟨z.l, fun j => ?_⟩
  by_cases hj : j < n
  · by_cases s : Sp S j
    · have := pq j s; omega
    · obtain ⟨N, hN, hL⟩ := fin_index hE hSe hl hp n 0 (at_ (zrow n E p)) (by omega) (zrow_lat hE hg) (fun j hj => by omega)
      have hd : dfc D C (fun j => N * at_ (zrow n E p) j) j = 0 := dfc_lat hL fun g hg => by
        obtain ⟨q, rq, hq, rfl⟩ := hg
        exact (rows q rq hq).hd j hj s
      have e := dfc_lin D C (at_ (zrow n E p)) (at_ (zrow n E p)) (fun j => N * at_ (zrow n E p) j) N 0 (fun j => by omega) j
      rw [hd] at e
      have h0 : dfc D C (at_ (zrow n E p)) j = 0 := by
        have : N * dfc D C (at_ (zrow n E p)) j = 0 := by omega
        rcases Int.mul_eq_zero.mp this with h | h
        · exact absurd h hN
        · exact h
      have := ent_bd R.d0 R.ck R.cs (x := at_ (zrow n E p)) pq (j := j) (B := 0) hj (by rw [h0]; simp)
      exact Nat.le_trans this (Nat.add_le_add_left (Nat.zero_le _) _)
  · rw [at_out (by rw [z.l]; omega)]; simp
end K87

namespace K87
open PySem PySem.Spec PyProof.Rows L2 DL
open PySem.Builtin.Int (intBits)
/-! ### split_by: the rows with the value 0, and one with the least value -/
inductive SpRun (n : Nat) (f : Vc) : List Vc → List Vc → Option Vc → Int → List Vc → Option Vc → Int → Prop where
  | nil {rs : List Vc} {tp : Option Vc} {v : Int} : SpRun n f [] rs tp v rs tp v
  | zero {r : Vc} {bs rs rs' : List Vc} {tp tp' : Option Vc} {v v' : Int} : Vn n r → dotL f r = 0 → SpRun n f bs (rs ++ [r]) tp v rs' tp' v' → SpRun n f (r :: bs) rs tp v rs' tp' v'
  | first {r : Vc} {bs rs rs' : List Vc} {tp' : Option Vc} {v v' : Int} : Vn n r → dotL f r ≠ 0 → SpRun n f bs rs (some (if dotL f r > 0 then r else scaleL (-1) r)) (if dotL f r > 0 then dotL f r else -(dotL f r)) rs' tp' v' → SpRun n f (r :: bs) rs none v rs' tp' v'
  | go {r t : Vc} {bs rs rs' : List Vc} {tp' : Option Vc} {v v' g a b : Int} {k : Nat} {z : T3} : Vn n r → Vn n t → dotL f r ≠ 0 → BzRun k (v, 1, 0) (bzStart v (dotL f r)) z → neg3 z = (g, a, b) → g ≠ 0 → Sm ((dotL f r).fdiv g) → Sm (-(v.fdiv g)) → Sm a → Sm b →
      SpRun n f bs (rs ++ [combL ((dotL f r).fdiv g) t (-(v.fdiv g)) r]) (some (combL a t b r)) g rs' tp' v' → SpRun n f (r :: bs) rs (some t) v rs' tp' v'
/-- the value of a form -/
def val (n : Nat) (f : Vc) (x : Fv) : Int := sm n (fun j => at_ f j * x j)
theorem val_lin (n : Nat) (f : Vc) (a b : Int) (x y z : Fv) (h : ∀ j, z j = a * x j + b * y j) : val n f z = a * val n f x + b * val n f y := by
  unfold val
  rw [← sm_lin]
  apply sm_congr
  intro p _
  rw [h p]; grind
theorem val_dot {n : Nat} {f v : Vc} (hf : f.length = n) (hv : v.length = n) : dotL f v = val n f (at_ v) := dot_sm hf hv
theorem val_abs {n B C : Nat} {f v : Vc} (hf : Bd n C f) (hv : Bd n B v) : (dotL f v).natAbs ≤ n * (C * B) := by
  rw [val_dot hf.1 hv.1]
  exact sm_abs fun p _ => by rw [Int.natAbs_mul]; exact Nat.mul_le_mul (hf.2 p) (hv.2 p)
/-- generators: the rows with 0, the top, and what is left -/
def Gt (rs : List Vc) (tp : Option Vc) (bs : List Vc) : Fv → Prop := fun g => Gr rs g ∨ (∃ t, tp = some t ∧ g = at_ t) ∨ Gr bs g
structure TopOk (n F e : Nat) (f : Vc) (t : Vc) (v : Int) : Prop where
  b : Bd n (2 ^ e) t
  hv : dotL f t = v
  pos : 0 < v
  le : v.natAbs ≤ 2 ^ F
theorem sp_ex {n F s : Nat} {f : Vc} (hf : f.length = n) : ∀ (bs rs : List Vc) (tp : Option Vc) (v : Int) (e : Nat), s ≤ e → (∀ r ∈ bs, Bd n (2 ^ s) r ∧ (dotL f r).natAbs ≤ 2 ^ F) → (∀ t, tp = some t → TopOk n F e f t v) → (tp = none → v = 0) → e + (F + 3) * bs.length + F + 3 < 60000000 →
    ∃ (nw : List Vc) (tp' : Option Vc) (v' : Int), SpRun n f bs rs tp v (rs ++ nw) tp' v' ∧ nw.length ≤ bs.length ∧ (∀ r ∈ nw, Bd n (2 ^ (e + (F + 3) * bs.length)) r ∧ dotL f r = 0) ∧ (∀ t, tp' = some t → TopOk n F (e + (F + 3) * bs.length) f t v') ∧ (tp' = none → v' = 0) ∧ SpEq (Gt rs tp bs) (Gt (rs ++ nw) tp' []) := by
  intro bs
  induction bs with
  | nil =>
    intro rs tp v e hse hb ht hn hS
    refine ⟨[], tp, v, by rw [List.append_nil]; exact .nil, Nat.le_refl _, fun r hr => by simp at hr, fun t h => by simpa using ht t h, hn, ?_⟩
    rw [List.append_nil]; exact .same fun g => Iff.rfl
  | cons r bs ih =>
    intro rs tp v e hse hb ht hn hS
    have hlen : (F + 3) * (r :: bs).length = (F + 3) * bs.length + (F + 3) := by rw [List.length_cons, Nat.mul_succ]
    rw [hlen] at hS ⊢
    obtain ⟨br, hr⟩ := hb r (by simp)
    have hbs : ∀ r ∈ bs, Bd n (2 ^ s) r ∧ (dotL f r).natAbs ≤ 2 ^ F := fun x hx => hb x (by simp [hx])
    have hvn : Vn n r := br.vn fun x hx => sm_pow (s := s) (by omega) hx
    by_cases h0 : dotL f r = 0
    · obtain ⟨nw, tp', v', run, n0, n1, n2, n3, n4⟩ := ih (rs ++ [r]) tp v (e + (F + 3)) (by omega) hbs (fun t h => ⟨(ht t h).b.mono (pow_mono2 (by omega)), (ht t h).hv, (ht t h).pos, (ht t h).le⟩) hn (by omega)
      refine ⟨r :: nw, tp', v', ?_, by simp; omega, fun x hx => ?_, fun t h => ?_, n3, ?_⟩
      · have := SpRun.zero hvn h0 run
        rw [List.append_assoc] at this; exact this
      · rcases List.mem_cons.mp hx with rfl | hx
        · exact ⟨br.mono (pow_mono2 (by omega)), h0⟩
        · exact ⟨(n1 x hx).1.mono (pow_mono2 (by omega)), (n1 x hx).2⟩
      · have := n2 t h
        exact ⟨this.b.mono (pow_mono2 (by omega)), this.hv, this.pos, this.le⟩
      · rw [List.append_assoc] at n4
        refine SpEq.trans (.same fun g => ?_) n4
        unfold Gt Gr
        simp only [List.mem_append, List.mem_cons, List.not_mem_nil, or_false]
        constructor
        · rintro (⟨x, hx, rfl⟩ | h | ⟨x, rfl | hx, rfl⟩)
          · exact .inl ⟨x, .inl hx, rfl⟩
          · exact .inr (.inl h)
          · exact .inl ⟨x, .inr rfl, rfl⟩
          · exact .inr (.inr ⟨x, hx, rfl⟩)
        · rintro (⟨x, hx | rfl, rfl⟩ | h | ⟨x, hx, rfl⟩)
          · exact .inl ⟨x, hx, rfl⟩
          · exact .inr (.inr ⟨x, .inl rfl, rfl⟩)
          · exact .inr (.inl h)
          · exact .inr (.inr ⟨x, .inr hx, rfl⟩)
    · cases tp with
      | none =>
        have hs : ∀ j, at_ (if dotL f r > 0 then r else scaleL (-1) r) j = (if dotL f r > 0 then 1 else -1) * at_ r j := fun j => by
          split
          · omega
          · rw [at_scale]
        have hl : (if dotL f r > 0 then r else scaleL (-1) r).length = n := by
          split
          · exact br.1
          · rw [scale_len]; exact br.1
        have top : TopOk n F (e + (F + 3)) f (if dotL f r > 0 then r else scaleL (-1) r) (if dotL f r > 0 then dotL f r else -(dotL f r)) := by
          refine ⟨⟨hl, fun j => ?_⟩, ?_, by split <;> omega, by split <;> omega⟩
          · rw [hs]
            have h1 := br.2 j
            have h2 : 2 ^ s ≤ 2 ^ (e + (F + 3)) := pow_mono2 (by omega)
            split <;> omega
          · rw [val_dot hf hl, val_lin n f (if dotL f r > 0 then 1 else -1) 0 (at_ r) (at_ r) _ (fun j => by rw [hs]; omega), ← val_dot hf br.1]
            split <;> omega
        obtain ⟨nw, tp', v', run, n0, n1, n2, n3, n4⟩ := ih rs (some _) _ (e + (F + 3)) (by omega) hbs (fun t h => by cases h; exact top) (fun h => nomatch h) (by omega)
        refine ⟨nw, tp', v', .first hvn h0 run, by simp; omega, fun x hx => ⟨(n1 x hx).1.mono (pow_mono2 (by omega)), (n1 x hx).2⟩, fun t h => ?_, n3, SpEq.trans ⟨fun g hg => ?_, fun g hg => ?_⟩ n4⟩
        · have := n2 t h
          exact ⟨this.b.mono (pow_mono2 (by omega)), this.hv, this.pos, this.le⟩
        · rcases hg with h | ⟨t, h, _⟩ | ⟨x, hx, rfl⟩
          · exact .of (.inl h)
          · cases h
          · rcases List.mem_cons.mp hx with rfl | hx
            · exact lat2 (a := if dotL f x > 0 then 1 else -1) (b := 0) (.of (.inr (.inl ⟨_, rfl, rfl⟩))) .zero fun j => by rw [hs]; split <;> omega
            · exact .of (.inr (.inr ⟨x, hx, rfl⟩))
        · rcases hg with h | ⟨t, h, rfl⟩ | ⟨x, hx, rfl⟩
          · exact .of (.inl h)
          · cases h
            exact lat2 (a := if dotL f r > 0 then 1 else -1) (b := 0) (.of (.inr (.inr ⟨r, by simp, rfl⟩))) .zero fun j => by rw [hs]; omega
          · exact .of (.inr (.inr ⟨x, by simp [hx], rfl⟩))
      | some t =>
        have tok := ht t rfl
        have hK : v.natAbs + 2 * (dotL f r).natAbs + 1 ≤ 2 ^ (F + 2) := by
          have := tok.le
          have h1 := one_pow2 F
          rw [Nat.pow_add]; omega
        have smK : ∀ x : Int, x.natAbs ≤ 2 ^ (F + 2) → Sm x := fun x hx => sm_pow (s := F + 2) (by omega) hx
        obtain ⟨k, z, g, a, b, run0, e3, g0, hg, gA, gB, ha, hb'⟩ := bez_ex (A := v) (B := dotL f r) (K := 2 ^ (F + 2)) tok.pos hK smK
        obtain ⟨A', hA'⟩ := gA
        obtain ⟨B', hB'⟩ := gB
        have fA : v.fdiv g = A' := by rw [hA']; exact Int.mul_fdiv_cancel_left _ (by omega)
        have fB : (dotL f r).fdiv g = B' := by rw [hB']; exact Int.mul_fdiv_cancel_left _ (by omega)
        have bA : (-A').natAbs ≤ 2 ^ (F + 2) := by rw [Int.natAbs_neg, ← fA]; exact Nat.le_trans (natAbs_fdiv_le _ _) (Nat.le_trans tok.le (pow_mono2 (by omega)))
        have bB : B'.natAbs ≤ 2 ^ (F + 2) := by rw [← fB]; exact Nat.le_trans (natAbs_fdiv_le _ _) (Nat.le_trans hr (pow_mono2 (by omega)))
        have det : a * A' + b * B' = 1 := by
          have : g * (a * A' + b * B') = g * 1 := by
            rw [Int.mul_one]
            conv => rhs; rw [hg, hA', hB']
            grind
          exact Int.eq_of_mul_eq_mul_left (by omega) this
        have ll : t.length = r.length := by rw [tok.b.1, br.1]
        have e1 : ∀ j, at_ (combL B' t (-A') r) j = B' * at_ t j + (-A') * at_ r j := fun j => at_comb ll j
        have e2 : ∀ j, at_ (combL a t b r) j = a * at_ t j + b * at_ r j := fun j => at_comb ll j
        have hX : 2 ^ (F + 2) * 2 ^ e + 2 ^ (F + 2) * 2 ^ e = 2 ^ (e + (F + 3)) := by
          rw [← Nat.pow_add, ← Nat.two_mul, ← Nat.pow_succ']
          congr 1; omega
        have bn : Bd n (2 ^ (e + (F + 3))) (combL B' t (-A') r) := by rw [← hX]; exact Bd.comb tok.b (br.mono (pow_mono2 hse)) bB bA
        have bt : Bd n (2 ^ (e + (F + 3))) (combL a t b r) := by rw [← hX]; exact Bd.comb tok.b (br.mono (pow_mono2 hse)) ha hb'
        have vn : dotL f (combL B' t (-A') r) = 0 := by
          rw [val_dot hf bn.1, val_lin n f B' (-A') _ _ _ e1, ← val_dot hf tok.b.1, ← val_dot hf br.1, tok.hv]
          rw [hA', hB']; grind
        have vt : dotL f (combL a t b r) = g := by
          rw [val_dot hf bt.1, val_lin n f a b _ _ _ e2, ← val_dot hf tok.b.1, ← val_dot hf br.1, tok.hv]
          exact hg.symm
        have gle : g.natAbs ≤ 2 ^ F := by
          have h1 : g.natAbs ∣ v.natAbs := Int.natAbs_dvd_natAbs.mpr ⟨A', hA'⟩
          have h2 := Nat.le_of_dvd (by have := tok.pos; omega) h1
          exact Nat.le_trans h2 tok.le
        obtain ⟨nw, tp', v', run, n0, n1, n2, n3, n4⟩ := ih (rs ++ [combL B' t (-A') r]) (some (combL a t b r)) g (e + (F + 3)) (by omega) hbs (fun x h => by
          cases h
          exact ⟨bt, vt, g0, gle⟩) (fun h => nomatch h) (by omega)
        refine ⟨combL B' t (-A') r :: nw, tp', v', ?_, by simp; omega, fun x hx => ?_, fun x h => ?_, n3, ?_⟩
        · have := SpRun.go hvn (tok.b.vn fun x hx => sm_pow (s := e) (by omega) hx) h0 run0 e3 (by omega) (by rw [fB]; exact smK _ bB) (by rw [fA]; exact smK _ bA) (smK _ ha) (smK _ hb') (by rw [fA, fB]; exact run)
          rw [List.append_assoc] at this; exact this
        · rcases List.mem_cons.mp hx with rfl | hx
          · exact ⟨bn.mono (pow_mono2 (by omega)), vn⟩
          · exact ⟨(n1 x hx).1.mono (pow_mono2 (by omega)), (n1 x hx).2⟩
        · have := n2 x h
          exact ⟨this.b.mono (pow_mono2 (by omega)), this.hv, this.pos, this.le⟩
        · rw [List.append_assoc] at n4
          have m1 : Lat (Gt (rs ++ [combL B' t (-A') r]) (some (combL a t b r)) bs) (at_ (combL B' t (-A') r)) := .of (.inl ⟨_, by simp, rfl⟩)
          have m2 : Lat (Gt (rs ++ [combL B' t (-A') r]) (some (combL a t b r)) bs) (at_ (combL a t b r)) := .of (.inr (.inl ⟨_, rfl, rfl⟩))
          have k1 : Lat (Gt rs (some t) (r :: bs)) (at_ t) := .of (.inr (.inl ⟨_, rfl, rfl⟩))
          have k2 : Lat (Gt rs (some t) (r :: bs)) (at_ r) := .of (.inr (.inr ⟨r, by simp, rfl⟩))
          refine SpEq.trans ⟨fun g' hg' => ?_, fun g' hg' => ?_⟩ n4
          · rcases hg' with ⟨x, hx, rfl⟩ | ⟨x, h, rfl⟩ | ⟨x, hx, rfl⟩
            · exact .of (.inl ⟨x, by simp [hx], rfl⟩)
            · cases h
              exact lat2 (a := b) (b := A') m1 m2 fun j => by
                rw [e1, e2]
                have : at_ t j = (a * A' + b * B') * at_ t j := by rw [det]; omega
                grind
            · rcases List.mem_cons.mp hx with rfl | hx
              · exact lat2 (a := -a) (b := B') m1 m2 fun j => by
                  rw [e1, e2]
                  have : at_ x j = (a * A' + b * B') * at_ x j := by rw [det]; omega
                  grind
              · exact .of (.inr (.inr ⟨x, hx, rfl⟩))
          · rcases hg' with ⟨x, hx, rfl⟩ | ⟨x, h, rfl⟩ | ⟨x, hx, rfl⟩
            · rcases List.mem_append.mp hx with hx | hx
              · exact .of (.inl ⟨x, hx, rfl⟩)
              · rw [List.mem_singleton] at hx; subst hx; exact lat2 k1 k2 e1
            · cases h; exact lat2 k1 k2 e2
            · exact .of (.inr (.inr ⟨x, by simp [hx], rfl⟩))
end K87

namespace K87
open PySem PySem.Spec PyProof.Rows L2 DL
open PySem.Builtin.Int (intBits)
/-! ### the vectors of a lattice at which a form is 0 modulo m -/
theorem val_lat {n : Nat} {f : Vc} {G : Fv → Prop} {u : Fv} (h : Lat G u) {S : Int → Prop} (h0 : S 0) (h1 : ∀ a b k, S a → S b → S (a + k * b)) (hg : ∀ g, G g → S (val n f g)) : S (val n f u) := by
  induction h with
  | zero =>
    have : val n f (fun _ => 0) = 0 := sm_zero fun p _ => by show at_ f p * 0 = 0; omega
    rw [this]; exact h0
  | @add u g k _ hgg ih =>
    rw [val_lin n f 1 k u g (fun j => u j + k * g j) (fun j => by omega), Int.one_mul]
    exact h1 _ _ k ih (hg g hgg)
/-- rows with the value 0 and one top: a lattice vector is a part of the rows and a multiple of the top -/
theorem top_dec {rs : List Vc} {t : Vc} {u : Fv} (h : Lat (Gt rs (some t) []) u) : ∃ (a : Int) (w : Fv), Lat (Gr rs) w ∧ ∀ j, u j = w j + a * at_ t j := by
  induction h with
  | zero => exact ⟨0, fun _ => 0, .zero, fun j => by show (0 : Int) = 0 + 0 * at_ t j; omega⟩
  | @add u g m _ hg ih =>
    obtain ⟨a, w, h1, h2⟩ := ih
    rcases hg with ⟨x, hx, rfl⟩ | ⟨x, hx, rfl⟩ | ⟨x, hx, _⟩
    · exact ⟨a, fun j => w j + m * at_ x j, .add m h1 ⟨x, hx, rfl⟩, fun j => by show u j + m * at_ x j = w j + m * at_ x j + a * at_ t j; rw [h2 j]; omega⟩
    · cases hx
      exact ⟨a + m, w, h1, fun j => by show u j + m * at_ t j = w j + (a + m) * at_ t j; rw [h2 j]; grind⟩
    · simp at hx
theorem restrict_lat {n : Nat} {f : Vc} {B nw : List Vc} {tp : Option Vc} {v : Int} (hf : f.length = n) (hsp : SpEq (Gt [] none B) (Gt nw tp [])) (h0 : ∀ r ∈ nw, r.length = n ∧ dotL f r = 0) (ht : ∀ t, tp = some t → t.length = n ∧ dotL f t = v ∧ 0 < v) (u : Fv) :
    (tp = none → (Lat (Gr B) u ↔ Lat (Gr nw) u) ∧ (Lat (Gr B) u → val n f u = 0)) ∧
    (∀ t, tp = some t → (Lat (Gr B) u ∧ val n f u = 0 ↔ Lat (Gr nw) u) ∧ ∀ m k d : Int, 0 < m → m = k * d → (∀ a : Int, m ∣ a * v ↔ k ∣ a) → (Lat (Gr B) u ∧ m ∣ val n f u ↔ Lat (Gr (nw ++ [scaleL k t])) u)) := by
  have e : ∀ u, Lat (Gr B) u ↔ Lat (Gt nw tp []) u := fun u => (SpEq.trans (.same fun g => by
    unfold Gt Gr
    constructor
    · exact fun h => .inr (.inr h)
    · rintro (⟨x, hx, _⟩ | ⟨x, hx, _⟩ | h)
      · simp at hx
      · cases hx
      · exact h) hsp).iff
  have z0 : ∀ w, Lat (Gr nw) w → val n f w = 0 := fun w hw => val_lat (S := fun x => x = 0) hw rfl (fun a b k h1 h2 => by rw [h1, h2]; omega) fun g hg => by
    obtain ⟨r, hr, rfl⟩ := hg
    rw [← val_dot hf (h0 r hr).1]; exact (h0 r hr).2
  refine ⟨fun hn => ?_, fun t hs => ?_⟩
  · subst hn
    have e2 : Lat (Gr B) u ↔ Lat (Gr nw) u := (e u).trans (SpEq.same fun g => by
      unfold Gt Gr
      constructor
      · rintro (h | ⟨x, hx, _⟩ | ⟨x, hx, _⟩)
        · exact h
        · cases hx
        · simp at hx
      · exact fun h => .inl h).iff
    exact ⟨e2, fun h => z0 u (e2.mp h)⟩
  · subst hs
    obtain ⟨tl, tv, tpos⟩ := ht t rfl
    have vt : val n f (at_ t) = v := by rw [← val_dot hf tl]; exact tv
    have vu : ∀ (a : Int) (w u : Fv), Lat (Gr nw) w → (∀ j, u j = w j + a * at_ t j) → val n f u = a * v := fun a w u hw hu => by
      rw [val_lin n f 1 a w (at_ t) u (fun j => by rw [hu j]; omega), z0 w hw, vt]; omega
    have inB : ∀ w, Lat (Gr nw) w → Lat (Gr B) w := fun w hw => (e w).mpr (hw.mono fun g hg => .inl hg)
    refine ⟨⟨fun ⟨h1, h2⟩ => ?_, fun h => ⟨inB u h, z0 u h⟩⟩, fun m k d hm hk hd => ⟨fun ⟨h1, h2⟩ => ?_, fun h => ?_⟩⟩
    · obtain ⟨a, w, hw, hu⟩ := top_dec ((e u).mp h1)
      have := vu a w u hw hu
      rw [h2] at this
      have ha : a = 0 := by
        rcases Int.mul_eq_zero.mp this.symm with h | h
        · exact h
        · omega
      exact hw.eq fun j => by rw [hu j, ha]; omega
    · obtain ⟨a, w, hw, hu⟩ := top_dec ((e u).mp h1)
      rw [vu a w u hw hu] at h2
      obtain ⟨b, hb⟩ := (hd a).mp h2
      have l1 : Lat (Gr (nw ++ [scaleL k t])) w := hw.mono fun g hg => by
        obtain ⟨r, hr, e⟩ := hg
        exact ⟨r, by simp [hr], e⟩
      have l2 : Lat (Gr (nw ++ [scaleL k t])) (at_ (scaleL k t)) := .of ⟨_, by simp, rfl⟩
      exact lat2 (a := 1) (b := b) l1 l2 fun j => by rw [hu j, at_scale, hb]; grind
    · have key : ∀ g, Gr (nw ++ [scaleL k t]) g → Lat (Gr B) g ∧ m ∣ val n f g := fun g hg => by
        obtain ⟨r, hr, rfl⟩ := hg
        rcases List.mem_append.mp hr with hr | hr
        · have : Lat (Gr nw) (at_ r) := .of ⟨r, hr, rfl⟩
          exact ⟨inB _ this, by rw [z0 _ this]; exact Int.dvd_zero m⟩
        · rw [List.mem_singleton] at hr
          subst hr
          have lt : Lat (Gr B) (at_ t) := (e _).mpr (.of (.inr (.inl ⟨t, rfl, rfl⟩)))
          refine ⟨lat2 (a := k) (b := 0) lt .zero fun j => by rw [at_scale]; omega, ?_⟩
          rw [val_lin n f k 0 (at_ t) (at_ t) _ (fun j => by rw [at_scale]; omega), vt]
          have := (hd k).mpr (Int.dvd_refl k)
          have e3 : k * v + 0 * v = k * v := by omega
          rw [e3]; exact this
      exact ⟨h.into fun g hg => (key g hg).1, val_lat (S := fun x => m ∣ x) h (Int.dvd_zero m) (fun a b c h1 h2 => Int.dvd_add h1 (Int.dvd_mul_of_dvd_right h2)) fun g hg => (key g hg).2⟩
end K87

namespace K87
open PySem PySem.Spec PyProof.Rows L2 DL
open PySem.Builtin.Int (intBits)
/-! ### a small solution of few equations (pigeonhole) -/
theorem pigeon : ∀ (Q : Nat) (f : Nat → Nat) (P : Nat), Q < P → (∀ i, i < P → f i < Q) → ∃ i j, i < j ∧ j < P ∧ f i = f j
  | 0, f, P, h, hf => absurd (hf 0 h) (Nat.not_lt_zero _)
  | Q + 1, f, 0, h, hf => absurd h (Nat.not_lt_zero _)
  | Q + 1, f, P + 1, h, hf => by
    by_cases e : ∃ i, i < P ∧ f i = f P
    · obtain ⟨i, hi, q⟩ := e
      exact ⟨i, P, hi, Nat.lt_succ_self P, q⟩
    · have ne : ∀ i, i < P → f i ≠ f P := fun i hi q => e ⟨i, hi, q⟩
      have hP := hf P (Nat.lt_succ_self P)
      obtain ⟨i, j, hij, hj, q⟩ := pigeon Q (fun i => if f i = Q then f P else f i) P (by omega) (fun i hi => by
        show (if f i = Q then f P else f i) < Q
        have h1 := hf i (by omega)
        have h2 := ne i hi
        split <;> omega)
      refine ⟨i, j, hij, by omega, ?_⟩
      have h1 := ne i (by omega)
      have h2 := ne j hj
      have q2 : (if f i = Q then f P else f i) = (if f j = Q then f P else f j) := q
      split at q2 <;> split at q2 <;> omega
def dg (B N k : Nat) : Nat := N / B ^ k % B
theorem dg_inj {B : Nat} (hB : 0 < B) : ∀ (k N N' : Nat), N < B ^ k → N' < B ^ k → (∀ i, i < k → dg B N i = dg B N' i) → N = N'
  | 0, N, N', h, h', _ => by rw [Nat.pow_zero] at h h'; omega
  | k + 1, N, N', h, h', e => by
    have hh : ∀ m : Nat, m < B ^ (k + 1) → m / B < B ^ k := fun m hm => by
      rw [Nat.div_lt_iff_lt_mul hB, ← Nat.pow_succ]; exact hm
    have e0 := e 0 (by omega)
    unfold dg at e0
    rw [Nat.pow_zero, Nat.div_one, Nat.div_one] at e0
    have ih := dg_inj hB k (N / B) (N' / B) (hh N h) (hh N' h') fun i hi => by
      have := e (i + 1) (by omega)
      unfold dg at this ⊢
      rw [Nat.div_div_eq_div_mul, Nat.div_div_eq_div_mul, Nat.mul_comm, ← Nat.pow_succ]
      exact this
    have a := Nat.div_add_mod N B
    have b := Nat.div_add_mod N' B
    rw [ih, e0] at a
    omega
def enc (W : Nat) (y : Nat → Nat) : Nat → Nat
  | 0 => 0
  | m + 1 => enc W y m + y m * W ^ m
theorem enc_lt {W : Nat} {y : Nat → Nat} (hy : ∀ i, y i < W) : ∀ m, enc W y m < W ^ m
  | 0 => by show 0 < W ^ 0; rw [Nat.pow_zero]; omega
  | m + 1 => by
    show enc W y m + y m * W ^ m < W ^ (m + 1)
    have h1 := enc_lt hy m
    have h2 : (y m + 1) * W ^ m ≤ W * W ^ m := Nat.mul_le_mul_right _ (hy m)
    rw [Nat.pow_succ, Nat.mul_comm (W ^ m) W]
    rw [Nat.add_mul] at h2
    omega
theorem enc_inj {W : Nat} {y z : Nat → Nat} (hy : ∀ i, y i < W) (hz : ∀ i, z i < W) : ∀ m, enc W y m = enc W z m → ∀ i, i < m → y i = z i
  | 0, _, i, hi => absurd hi (Nat.not_lt_zero _)
  | m + 1, e, i, hi => by
    have e1 : enc W y m + y m * W ^ m = enc W z m + z m * W ^ m := e
    have a := enc_lt hy m
    have b := enc_lt hz m
    have hp : 0 < W ^ m := by omega
    have q : y m = z m := by
      have e2 : (enc W y m + y m * W ^ m) / W ^ m = (enc W z m + z m * W ^ m) / W ^ m := by rw [e1]
      rw [Nat.add_mul_div_right _ _ hp, Nat.add_mul_div_right _ _ hp, Nat.div_eq_of_lt a, Nat.div_eq_of_lt b] at e2
      omega
    by_cases h : i = m
    · rw [h]; exact q
    · rw [q] at e1
      exact enc_inj hy hz m (by omega) i (by omega)
/-- M equations in M + 1 unknowns -/
theorem siegel (M A : Nat) (hA : 1 ≤ A) (c : Nat → Nat → Int) (hc : ∀ i k, (c i k).natAbs ≤ A) :
    ∃ x : Nat → Int, (∃ k, k < M + 1 ∧ x k ≠ 0) ∧ (∀ k, (x k).natAbs ≤ (2 * (M + 1) * A) ^ M) ∧ ∀ i, i < M → sm (M + 1) (fun k => c i k * x k) = 0 := by
  generalize hX : (2 * (M + 1) * A) ^ M = X
  generalize hY : (M + 1) * (A * X) = Y
  have hyb : ∀ (i : Nat) (d : Nat → Nat), (∀ k, d k < X + 1) → (sm (M + 1) (fun k => c i k * (d k : Int))).natAbs ≤ Y := fun i d hd => by
    rw [← hY]
    refine sm_abs fun p _ => ?_
    rw [Int.natAbs_mul]
    exact Nat.mul_le_mul (hc i p) (by have := hd p; show (d p : Int).natAbs ≤ X; omega)
  have hlt : ∀ N k, dg (X + 1) N k < X + 1 := fun N k => Nat.mod_lt _ (by omega)
  have hd : ∀ N i, ((sm (M + 1) (fun k => c i k * (dg (X + 1) N k : Int))) + Y).toNat < 2 * Y + 1 := fun N i => by
    have := hyb i (dg (X + 1) N) (hlt N)
    omega
  have key : (2 * Y + 1) ^ M < (X + 1) ^ (M + 1) := by
    have h1 : 2 * Y + 1 ≤ (2 * (M + 1) * A) * (X + 1) := by
      rw [← hY]
      have e : 2 * ((M + 1) * (A * X)) = (2 * (M + 1) * A) * X := by
        rw [Nat.mul_assoc 2 (M + 1) A, Nat.mul_assoc 2, Nat.mul_assoc (M + 1)]
      have g : 1 ≤ 2 * (M + 1) * A := Nat.le_trans hA (Nat.le_mul_of_pos_left _ (by omega))
      rw [e]
      generalize 2 * (M + 1) * A = G at g
      rw [Nat.mul_succ]
      omega
    have h2 : (2 * Y + 1) ^ M ≤ X * (X + 1) ^ M := by
      refine Nat.le_trans (Nat.pow_le_pow_left h1 M) ?_
      rw [Nat.mul_pow, hX]
      exact Nat.le_refl _
    have h3 : 0 < (X + 1) ^ M := Nat.pow_pos (by omega)
    rw [Nat.pow_succ, Nat.mul_comm ((X + 1) ^ M), Nat.add_mul]
    omega
  obtain ⟨N, N', hN, hN', e⟩ := pigeon ((2 * Y + 1) ^ M) (fun N => enc (2 * Y + 1) (fun i => ((sm (M + 1) (fun k => c i k * (dg (X + 1) N k : Int))) + Y).toNat) M) ((X + 1) ^ (M + 1)) key (fun N _ => enc_lt (hd N) M)
  have e2 := enc_inj (hd N) (hd N') M e
  refine ⟨fun k => (dg (X + 1) N k : Int) - (dg (X + 1) N' k : Int), ?_, fun k => ?_, fun i hi => ?_⟩
  · apply Classical.byContradiction
    intro h
    have h0 : ∀ i, i < M + 1 → dg (X + 1) N i = dg (X + 1) N' i := fun i hi => by
      apply Classical.byContradiction
      intro q
      exact h ⟨i, hi, fun z => q (by have z2 : (dg (X + 1) N i : Int) - (dg (X + 1) N' i : Int) = 0 := z; omega)⟩
    have := dg_inj (show 0 < X + 1 by omega) (M + 1) N N' (by omega) hN' h0
    omega
  · have a := hlt N k
    have b := hlt N' k
    show ((dg (X + 1) N k : Int) - (dg (X + 1) N' k : Int)).natAbs ≤ X
    omega
  · have a := e2 i hi
    have b := hyb i (dg (X + 1) N) (hlt N)
    have b' := hyb i (dg (X + 1) N') (hlt N')
    have l := sm_lin 1 (-1) (fun k => c i k * (dg (X + 1) N k : Int)) (fun k => c i k * (dg (X + 1) N' k : Int)) (M + 1)
    have l2 : sm (M + 1) (fun k => c i k * ((dg (X + 1) N k : Int) - (dg (X + 1) N' k : Int))) = sm (M + 1) (fun p => 1 * (c i p * (dg (X + 1) N p : Int)) + (-1) * (c i p * (dg (X + 1) N' p : Int))) := sm_congr fun p _ => by grind
    rw [l2, l]
    omega
end K87

namespace K87
open PySem PySem.Spec PyProof.Rows L2 DL
open PySem.Builtin.Int (intBits)
/-! ### sums of rows by coefficients -/
def tk (T : List Vc) (k : Nat) : Vc := T.getD k []
def lc (T : List Vc) (m : Nat) (a : Nat → Int) : Fv := fun j => sm m (fun k => a k * at_ (tk T k) j)
theorem tk_mem {T : List Vc} {k : Nat} (h : k < T.length) : tk T k ∈ T := by
  unfold tk; rw [List.getD_eq_getElem?_getD, List.getElem?_eq_getElem h]; exact List.getElem_mem h
theorem tk_ex {T : List Vc} {t : Vc} (h : t ∈ T) : ∃ k, k < T.length ∧ tk T k = t := by
  obtain ⟨k, hk, e⟩ := List.getElem_of_mem h
  refine ⟨k, hk, ?_⟩
  unfold tk; rw [List.getD_eq_getElem?_getD, List.getElem?_eq_getElem hk]; exact e
theorem lc_lat {T : List Vc} {a : Nat → Int} : ∀ {m : Nat}, m ≤ T.length → Lat (Gr T) (lc T m a)
  | 0, _ => Lat.zero.eq fun j => rfl
  | m + 1, h => (Lat.add (a m) (lc_lat (m := m) (by omega)) ⟨tk T m, tk_mem (by omega), rfl⟩).eq fun j => rfl
theorem sm_split {m k : Nat} (h : k ≤ m) {f : Fv} (hf : ∀ i, k ≤ i → i < m → f i = 0) : sm m f = sm k f := by
  induction m with
  | zero => have : k = 0 := by omega
            rw [this]
  | succ m ih =>
    by_cases e : k = m + 1
    · rw [e]
    · show sm m f + f m = _
      rw [hf m (by omega) (by omega), ih (by omega) fun i h1 h2 => hf i h1 (by omega)]; omega
theorem lat_lc {T : List Vc} {u : Fv} (h : Lat (Gr T) u) : ∃ a : Nat → Int, ∀ j, u j = lc T T.length a j := by
  induction h with
  | zero => exact ⟨fun _ => 0, fun j => (sm_zero fun p _ => by show (0 : Int) * _ = 0; rw [Int.zero_mul]).symm⟩
  | @add u g k _ hg ih =>
    obtain ⟨a, ha⟩ := ih
    obtain ⟨t, ht, rfl⟩ := hg
    obtain ⟨i, hi, rfl⟩ := tk_ex ht
    refine ⟨fun x => a x + if x = i then k else 0, fun j => ?_⟩
    show u j + k * at_ (tk T i) j = _
    rw [ha j]
    have l := sm_lin 1 1 (fun x => a x * at_ (tk T x) j) (fun x => (if x = i then k else 0) * at_ (tk T x) j) T.length
    have o := sm_one (f := fun x => (if x = i then k else 0) * at_ (tk T x) j) hi (fun p _ hp => by show (if p = i then k else 0) * _ = 0; rw [if_neg hp, Int.zero_mul])
    have o2 : sm T.length (fun x => (if x = i then k else 0) * at_ (tk T x) j) = k * at_ (tk T i) j := by rw [o]; show (if i = i then k else 0) * _ = _; rw [if_pos rfl]
    rw [o2] at l
    have e : lc T T.length (fun x => a x + if x = i then k else 0) j = sm T.length (fun p => 1 * (a p * at_ (tk T p) j) + 1 * ((if p = i then k else 0) * at_ (tk T p) j)) := sm_congr fun p _ => by grind
    rw [e, l]
    show sm T.length (fun k => a k * at_ (tk T k) j) + k * at_ (tk T i) j = _
    omega
def Ind (T : List Vc) : Prop := ∀ a : Nat → Int, (∀ j, lc T T.length a j = 0) → ∀ k, k < T.length → a k = 0
/-- some multiple of each vector is a sum of the rows -/
def Com (G S : Fv → Prop) : Prop := ∀ u, S u → ∃ N : Int, N ≠ 0 ∧ Lat G (fun j => N * u j)
theorem Com.lat {G H : Fv → Prop} (h : Com G H) : Com G (Lat H) := fun u hu => by
  induction hu with
  | zero => exact ⟨1, by decide, Lat.zero.eq fun j => by show (0 : Int) = 1 * 0; omega⟩
  | @add u g k _ hg ih =>
    obtain ⟨N, hN, a⟩ := ih
    obtain ⟨M, hM, b⟩ := h g hg
    exact ⟨N * M, Int.mul_ne_zero hN hM, (a.lin2 b M (N * k)).eq fun j => by grind⟩
theorem Com.trans {G H S : Fv → Prop} (a : Com G H) (b : Com H S) : Com G S := fun u hu => by
  obtain ⟨N, hN, x⟩ := b u hu
  obtain ⟨M, hM, y⟩ := a.lat _ x
  exact ⟨M * N, Int.mul_ne_zero hM hN, y.eq fun j => by grind⟩
theorem Com.mono {G S S' : Fv → Prop} (a : Com G S) (h : ∀ u, S' u → S u) : Com G S' := fun u hu => a u (h u hu)
theorem com_refl (G : Fv → Prop) : Com G G := fun u hu => ⟨1, by decide, (Lat.of hu).eq fun j => by omega⟩
theorem gr_mono {A B : List Vc} (h : ∀ a ∈ A, a ∈ B) {u : Fv} (hu : Lat (Gr A) u) : Lat (Gr B) u := hu.mono fun g ⟨r, hr, e⟩ => ⟨r, h r hr, e⟩
/-- independent rows among the rows -/
theorem ind_sub : ∀ rows : List Vc, ∃ T : List Vc, (∀ t ∈ T, t ∈ rows) ∧ Ind T ∧ Com (Gr T) (Gr rows)
  | [] => ⟨[], fun _ h => h, fun _ _ k hk => absurd hk (Nat.not_lt_zero _), com_refl _⟩
  | v :: rows => by
    obtain ⟨T, h1, h2, h3⟩ := ind_sub rows
    by_cases e : ∃ N : Int, N ≠ 0 ∧ Lat (Gr T) (fun j => N * at_ v j)
    · refine ⟨T, fun t ht => List.mem_cons_of_mem _ (h1 t ht), h2, fun u ⟨r, hr, eu⟩ => ?_⟩
      rcases List.mem_cons.mp hr with rfl | hr
      · subst eu; exact e
      · exact h3 u ⟨r, hr, eu⟩
    · refine ⟨T ++ [v], fun t ht => ?_, fun a ha k hk => ?_, fun u ⟨r, hr, eu⟩ => ?_⟩
      · rcases List.mem_append.mp ht with h | h
        · exact List.mem_cons_of_mem _ (h1 t h)
        · rw [List.mem_singleton.mp h]; exact List.mem_cons_self
      · have t1 : ∀ i, i < T.length → tk (T ++ [v]) i = tk T i := fun i hi => by
          unfold tk; rw [List.getD_eq_getElem?_getD, List.getD_eq_getElem?_getD, List.getElem?_append_left hi]
        have t2 : tk (T ++ [v]) T.length = v := by
          unfold tk; rw [List.getD_eq_getElem?_getD, List.getElem?_append_right (Nat.le_refl _), Nat.sub_self]; rfl
        have hs : ∀ j, lc T T.length a j + a T.length * at_ v j = 0 := fun j => by
          have := ha j
          have e2 : lc (T ++ [v]) (T ++ [v]).length a j = sm (T.length + 1) (fun k => a k * at_ (tk (T ++ [v]) k) j) := by rw [List.length_append]; rfl
          rw [e2] at this
          have e3 : sm (T.length + 1) (fun k => a k * at_ (tk (T ++ [v]) k) j) = sm T.length (fun k => a k * at_ (tk (T ++ [v]) k) j) + a T.length * at_ (tk (T ++ [v]) T.length) j := rfl
          rw [e3, t2, sm_congr (g := fun k => a k * at_ (tk T k) j) (fun p hp => by show a p * _ = a p * _; rw [t1 p hp])] at this
          exact this
        have az : a T.length = 0 := by
          apply Classical.byContradiction
          intro q
          exact e ⟨a T.length, q, ((lc_lat (a := a) (Nat.le_refl T.length)).lin2 Lat.zero (-1) 0).eq fun j => by have := hs j; omega⟩
        have hT := h2 a fun j => by have := hs j; rw [az] at this; omega
        rw [List.length_append] at hk
        by_cases q : k < T.length
        · exact hT k q
        · have : k = T.length := by have : [v].length = 1 := rfl; omega
          rw [this]; exact az
      · rcases List.mem_cons.mp hr with rfl | hr
        · subst eu
          exact ⟨1, by decide, (Lat.of ⟨r, by simp, rfl⟩ : Lat (Gr (T ++ [r])) (at_ r)).eq fun j => by omega⟩
        · obtain ⟨N, hN, q⟩ := h3 u ⟨r, hr, eu⟩
          exact ⟨N, hN, gr_mono (fun t ht => by simp [ht]) q⟩
/-! ### pivots in order -/
def pk (n : Nat) (E : Ec) (k : Nat) : Nat := (keysE n E).getD k 0
def rkE (n : Nat) (E : Ec) : Nat := (keysE n E).length
theorem pk_get {n : Nat} {E : Ec} {k : Nat} (hk : k < rkE n E) : (keysE n E)[k]? = some (pk n E k) := by
  unfold pk; rw [List.getD_eq_getElem?_getD, List.getElem?_eq_getElem hk]; rfl
theorem pk_some {n : Nat} {E : Ec} (h : Ech n E) {k : Nat} (hk : k < rkE n E) : ∃ r, gE E (pk n E k) = some r := (mem_keysE h).mp (List.mem_of_getElem? (pk_get hk))
theorem pk_ex {n : Nat} {E : Ec} (h : Ech n E) {p : Nat} {r : Vc} (hg : gE E p = some r) : ∃ k, k < rkE n E ∧ pk n E k = p := by
  obtain ⟨k, hk, e⟩ := List.getElem_of_mem ((mem_keysE h).mpr ⟨r, hg⟩)
  refine ⟨k, hk, ?_⟩
  have := pk_get (n := n) (E := E) hk
  rw [List.getElem?_eq_getElem hk] at this
  rw [← Option.some.inj this]; exact e
theorem pk_lt {n : Nat} {E : Ec} {i j : Nat} (hij : i < j) (hj : j < rkE n E) : pk n E i < pk n E j := by
  have pw : (keysE n E).Pairwise (· < ·) := List.Pairwise.filter _ (List.pairwise_lt_range (n := n))
  have a := pk_get (n := n) (E := E) (k := i) (show i < rkE n E by omega)
  have b := pk_get (n := n) (E := E) hj
  rw [List.getElem?_eq_getElem (show i < (keysE n E).length from Nat.lt_trans hij hj)] at a
  rw [List.getElem?_eq_getElem hj] at b
  have := List.pairwise_iff_getElem.mp pw i j (Nat.lt_trans hij hj) hj hij
  rw [Option.some.inj a, Option.some.inj b] at this
  exact this
theorem pk_bd {n : Nat} {E : Ec} (h : Ech n E) {k : Nat} (hk : k < rkE n E) : pk n E k < n := by
  obtain ⟨r, hr⟩ := pk_some h hk
  exact (h.2 _ r hr).2.1
theorem rk_le {n : Nat} (E : Ec) : rkE n E ≤ n := Nat.le_trans (List.length_filter_le _ _) (by rw [List.length_range]; exact Nat.le_refl n)
/-- 0 at each pivot: 0 -/
theorem pk_zero {n : Nat} {E : Ec} (h : Ech n E) {u : Fv} (hu : Lat (GE E) u) (hz : ∀ k, k < rkE n E → u (pk n E k) = 0) (j : Nat) : u j = 0 :=
  ge_small h hu (fun p r hg => by
    obtain ⟨k, hk, e⟩ := pk_ex h hg
    have := (h.2 p r hg).2.2.2
    rw [← e, hz k hk, e]; simp; omega) j
theorem fin_max (f : Nat → Nat) : ∀ m : Nat, ∃ A, ∀ k, k < m → f k ≤ A
  | 0 => ⟨0, fun k hk => absurd hk (Nat.not_lt_zero _)⟩
  | m + 1 => by
    obtain ⟨A, h⟩ := fin_max f m
    exact ⟨A + f m, fun k hk => by
      by_cases e : k = m
      · subst e; omega
      · have := h k (by omega); omega⟩
theorem fin_max2 (f : Nat → Nat → Nat) (l : Nat) : ∀ m : Nat, ∃ A, ∀ i k, i < m → k < l → f i k ≤ A
  | 0 => ⟨0, fun i k hi => absurd hi (Nat.not_lt_zero _)⟩
  | m + 1 => by
    obtain ⟨A, h⟩ := fin_max2 f l m
    obtain ⟨B, h2⟩ := fin_max (f m) l
    exact ⟨A + B, fun i k hi hk => by
      by_cases e : i = m
      · subst e; have := h2 k hk; omega
      · have := h i k (by omega) hk; omega⟩
/-- the last and the first index where something is not 0 -/
theorem last_ne {f : Nat → Int} : ∀ {m : Nat}, (∃ k, k < m ∧ f k ≠ 0) → ∃ k, k < m ∧ f k ≠ 0 ∧ ∀ i, k < i → i < m → f i = 0
  | 0, ⟨k, hk, _⟩ => absurd hk (Nat.not_lt_zero _)
  | m + 1, ⟨k, hk, h⟩ => by
    by_cases e : f m = 0
    · obtain ⟨i, hi, h1, h2⟩ := last_ne (f := f) (m := m) ⟨k, by
        by_cases z : k = m
        · rw [z] at h; exact absurd e h
        · omega, h⟩
      exact ⟨i, by omega, h1, fun x hx hx2 => by
        by_cases z : x = m
        · rw [z]; exact e
        · exact h2 x hx (by omega)⟩
    · exact ⟨m, by omega, e, fun i h1 h2 => by omega⟩
theorem first_ne {f : Nat → Int} {m : Nat} (h : ∃ k, k < m ∧ f k ≠ 0) : ∃ k, k < m ∧ f k ≠ 0 ∧ ∀ i, i < k → f i = 0 := by
  obtain ⟨k, hk, h⟩ := h
  induction k using Nat.strongRecOn with
  | ind k ih =>
    by_cases e : ∃ i, i < k ∧ f i ≠ 0
    · obtain ⟨i, hi, q⟩ := e
      exact ih i hi (by omega) q
    · exact ⟨k, hk, h, fun i hi => Classical.byContradiction fun q => e ⟨i, hi, q⟩⟩
/-- no more independent rows than pivots -/
theorem ind_le {n : Nat} {E : Ec} (h : Ech n E) {T : List Vc} (hT : Ind T) (hl : ∀ t ∈ T, Lat (GE E) (at_ t)) : T.length ≤ rkE n E := by
  apply Classical.byContradiction
  intro q
  obtain ⟨A, hA⟩ := fin_max2 (fun i k => (at_ (tk T k) (pk n E i)).natAbs) T.length (rkE n E)
  obtain ⟨x, ⟨k0, hk0, hx0⟩, _, hx⟩ := siegel (rkE n E) (A + 1) (by omega) (fun i k => if i < rkE n E ∧ k < T.length then at_ (tk T k) (pk n E i) else 0) (fun i k => by
    show (if i < rkE n E ∧ k < T.length then at_ (tk T k) (pk n E i) else 0).natAbs ≤ A + 1
    split
    · rename_i z; have := hA i k z.1 z.2; omega
    · show (0 : Int).natAbs ≤ _; simp)
  have z : ∀ j, lc T (rkE n E + 1) x j = 0 := fun j => by
    have hu : Lat (GE E) (lc T (rkE n E + 1) x) := (lc_lat (T := T) (a := x) (m := rkE n E + 1) (by omega)).into fun g ⟨t, ht, e⟩ => by subst e; exact hl t ht
    refine pk_zero h hu (fun i hi => ?_) j
    rw [← hx i hi]
    exact sm_congr fun p hp => by
      show x p * _ = (if i < rkE n E ∧ p < T.length then at_ (tk T p) (pk n E i) else 0) * x p
      rw [if_pos ⟨hi, by omega⟩, Int.mul_comm]
  have := hT (fun k => if k < rkE n E + 1 then x k else 0) (fun j => by
    have e : lc T T.length (fun k => if k < rkE n E + 1 then x k else 0) j = sm (rkE n E + 1) (fun k => (if k < rkE n E + 1 then x k else 0) * at_ (tk T k) j) := sm_split (by omega) fun i h1 h2 => by
      show (if i < rkE n E + 1 then x i else 0) * _ = 0
      rw [if_neg (by omega), Int.zero_mul]
    refine e.trans (Eq.trans (sm_congr fun p hp => ?_) (z j))
    show (if p < rkE n E + 1 then x p else 0) * _ = x p * _
    rw [if_pos hp]) k0 (by omega)
  simp only [if_pos hk0] at this
  exact hx0 this
/-- .. and no fewer, if they have a multiple of each vector -/
theorem ind_ge {n : Nat} {E : Ec} (h : Ech n E) {T : List Vc} (hc : Com (Gr T) (Lat (GE E))) : rkE n E ≤ T.length := by
  apply Classical.byContradiction
  intro q
  have ex : ∀ i, ∃ (N : Int) (a : Nat → Int), i < rkE n E → N ≠ 0 ∧ ∀ r, gE E (pk n E i) = some r → ∀ j, N * at_ r j = lc T T.length a j := fun i => by
    by_cases hi : i < rkE n E
    · obtain ⟨r, hr⟩ := pk_some h hi
      obtain ⟨N, hN, hl⟩ := hc _ (Lat.of ⟨_, r, hr, rfl⟩ : Lat (GE E) (at_ r))
      obtain ⟨a, ha⟩ := lat_lc hl
      exact ⟨N, a, fun _ => ⟨hN, fun r' hr' j => by rw [hr] at hr'; cases hr'; exact ha j⟩⟩
    · exact ⟨0, fun _ => 0, fun z => absurd z hi⟩
  let N := fun i => Classical.choose (ex i)
  let a := fun i => Classical.choose (Classical.choose_spec (ex i))
  have sp : ∀ i, i < rkE n E → N i ≠ 0 ∧ ∀ r, gE E (pk n E i) = some r → ∀ j, N i * at_ r j = lc T T.length (a i) j := fun i => Classical.choose_spec (Classical.choose_spec (ex i))
  obtain ⟨A, hA⟩ := fin_max2 (fun i k => (a k i).natAbs) (rkE n E) T.length
  obtain ⟨y, hy0, _, hy⟩ := siegel T.length (A + 1) (by omega) (fun i k => if i < T.length ∧ k < rkE n E then a k i else 0) (fun i k => by
    show (if i < T.length ∧ k < rkE n E then a k i else 0).natAbs ≤ A + 1
    split
    · rename_i z; have := hA i k z.1 z.2; omega
    · show (0 : Int).natAbs ≤ _; simp)
  obtain ⟨k0, hk0, hn0, hf0⟩ := first_ne hy0
  obtain ⟨r0, hr0⟩ := pk_some h (show k0 < rkE n E by omega)
  -- the sum over k of y k N k E_k is 0
  have zero : ∀ j, sm (T.length + 1) (fun k => y k * (N k * at_ ((gE E (pk n E k)).getD []) j)) = 0 := fun j => by
    have e1 : sm (T.length + 1) (fun k => y k * (N k * at_ ((gE E (pk n E k)).getD []) j)) = sm (T.length + 1) (fun k => y k * sm T.length (fun i => a k i * at_ (tk T i) j)) := sm_congr fun k hk => by
      obtain ⟨r, hr⟩ := pk_some h (show k < rkE n E by omega)
      rw [hr]
      have := (sp k (by omega)).2 r hr j
      show y k * (N k * at_ r j) = _
      rw [this]; rfl
    have sw : ∀ m, sm m (fun k => y k * sm T.length (fun i => a k i * at_ (tk T i) j)) = sm T.length (fun i => sm m (fun k => a k i * y k) * at_ (tk T i) j) := fun m => by
      induction m with
      | zero => exact (sm_zero fun p _ => by show (0 : Int) * _ = 0; rw [Int.zero_mul]).symm
      | succ m ih =>
        show sm m (fun k => y k * sm T.length (fun i => a k i * at_ (tk T i) j)) + y m * sm T.length (fun i => a m i * at_ (tk T i) j) = _
        rw [ih]
        have l := sm_lin 1 (y m) (fun i => sm m (fun k => a k i * y k) * at_ (tk T i) j) (fun i => a m i * at_ (tk T i) j) T.length
        have e2 : sm T.length (fun i => sm (m + 1) (fun k => a k i * y k) * at_ (tk T i) j) = sm T.length (fun p => 1 * (sm m (fun k => a k p * y k) * at_ (tk T p) j) + y m * (a m p * at_ (tk T p) j)) := sm_congr fun p _ => by
          show (sm m (fun k => a k p * y k) + a m p * y m) * at_ (tk T p) j = _
          grind
        rw [e2, l]; omega
    rw [e1, sw]
    refine sm_zero fun i hi => ?_
    have := hy i hi
    have e3 : sm (T.length + 1) (fun k => a k i * y k) = 0 := by
      rw [← this]
      exact sm_congr fun k hk => by
        show a k i * y k = (if i < T.length ∧ k < rkE n E then a k i else 0) * y k
        rw [if_pos ⟨hi, by omega⟩]
    show sm (T.length + 1) (fun k => a k i * y k) * _ = 0
    rw [e3, Int.zero_mul]
  have := zero (pk n E k0)
  rw [sm_one (c := k0) hk0 (fun p hp hne => by
    by_cases z : p < k0
    · show y p * _ = 0; rw [hf0 p z, Int.zero_mul]
    · obtain ⟨r, hr⟩ := pk_some h (show p < rkE n E by omega)
      have := (h.2 _ r hr).2.2.1 (pk n E k0) (pk_lt (by omega) (by omega))
      show y p * (N p * at_ ((gE E (pk n E p)).getD []) (pk n E k0)) = 0
      rw [hr]
      show y p * (N p * at_ r (pk n E k0)) = 0
      rw [this, Int.mul_zero, Int.mul_zero])] at this
  rw [hr0] at this
  have t : y k0 * (N k0 * at_ r0 (pk n E k0)) = 0 := this
  have := (h.2 _ r0 hr0).2.2.2
  rcases Int.mul_eq_zero.mp t with q1 | q1
  · exact hn0 q1
  · rcases Int.mul_eq_zero.mp q1 with q2 | q2
    · exact (sp k0 (by omega)).1 q2
    · omega
end K87

namespace K87
open PySem PySem.Spec PyProof.Rows L2 DL
open PySem.Builtin.Int (intBits)
/-! ### the reduced rows of a lattice with few small vectors are small -/
def bb (n b : Nat) : Nat := 2 * (n * (b + 5)) + 4
def phi (n : Nat) (E : Ec) (q : Nat) (y : Nat → Int) (j : Nat) (x : Fv) : Int := sm q (fun k => y k * x (pk n E k)) + y q * x j
theorem phi_lin {n : Nat} {E : Ec} {q : Nat} {y : Nat → Int} {j : Nat} {u v w : Fv} {a b : Int} (h : ∀ i, w i = a * u i + b * v i) : phi n E q y j w = a * phi n E q y j u + b * phi n E q y j v := by
  unfold phi
  have l := sm_lin a b (fun k => y k * u (pk n E k)) (fun k => y k * v (pk n E k)) q
  have e : sm q (fun k => y k * w (pk n E k)) = sm q (fun p => a * (y p * u (pk n E p)) + b * (y p * v (pk n E p))) := sm_congr fun k _ => by
    show y k * w (pk n E k) = _
    rw [h]; grind
  rw [e, l, h]; grind
theorem phi_lat {n : Nat} {E : Ec} {q : Nat} {y : Nat → Int} {j : Nat} {G : Fv → Prop} (hG : ∀ g, G g → phi n E q y j g = 0) {u : Fv} (h : Lat G u) : phi n E q y j u = 0 := by
  induction h with
  | zero => unfold phi; rw [sm_zero fun p _ => by show y p * 0 = 0; omega]; show (0 : Int) + y q * 0 = 0; omega
  | @add u g k _ hg ih => rw [phi_lin (u := u) (v := g) (a := 1) (b := k) fun i => by show u i + k * g i = _; omega, ih, hG g hg]; omega
theorem small_rows {n b : Nat} {E : Ec} (hn : n ≤ 15) (h : Ech n E) {rows : List Vc} (hb : ∀ r ∈ rows, Bd n (2 ^ b) r) (hl : ∀ r ∈ rows, Lat (GE E) (at_ r)) (hc : Com (Gr rows) (Lat (GE E))) {p : Nat} {r : Vc} (hg : gE E p = some r) :
    (at_ r p).natAbs ≤ 2 ^ (rkE n E * (b + 5)) ∧ Bd n (2 ^ bb (rkE n E) b) (zrow n E p) := by
  obtain ⟨T, t1, t2, t3⟩ := ind_sub rows
  have tl : ∀ t ∈ T, Lat (GE E) (at_ t) := fun t ht => hl t (t1 t ht)
  have tb : ∀ k, k < T.length → Bd n (2 ^ b) (tk T k) := fun k hk => hb _ (t1 _ (tk_mem hk))
  have hq : T.length = rkE n E := Nat.le_antisymm (ind_le h t2 tl) (ind_ge h (t3.trans (hc.mono fun u hu => hu)))
  have tc : Com (Gr T) (Lat (GE E)) := t3.trans hc
  have hqn : rkE n E ≤ n := rk_le E
  generalize hqq : rkE n E = q at hq hqn
  have two : 1 ≤ 2 ^ b := one_pow2 b
  have pw : ∀ m, m ≤ q → (2 ^ 5 * 2 ^ b) ^ m = 2 ^ ((b + 5) * m) := fun m _ => by rw [← Nat.pow_add, ← Nat.pow_mul, Nat.add_comm 5 b]
  -- the pivots
  have piv : ∀ i, i < q → ∀ s, gE E (pk n E i) = some s → (at_ s (pk n E i)).natAbs ≤ 2 ^ (q * (b + 5)) := fun i hi s hs => by
    obtain ⟨M, rfl⟩ : ∃ M, q = M + 1 := ⟨q - 1, by omega⟩
    obtain ⟨x, ⟨k0, hk0, hx0⟩, hxb, hx⟩ := siegel M (2 ^ b) two (fun e k => if k < T.length then at_ (tk T k) (pk n E (if e < i then e else e + 1)) else 0) (fun e k => by
      show (if k < T.length then at_ (tk T k) (pk n E (if e < i then e else e + 1)) else 0).natAbs ≤ 2 ^ b
      split
      · rename_i z; exact (tb k z).2 _
      · show (0 : Int).natAbs ≤ _; simp)
    have hu : Lat (GE E) (lc T (M + 1) x) := (lc_lat (T := T) (a := x) (m := M + 1) (by omega)).into fun g ⟨t, ht, e⟩ => by subst e; exact tl t ht
    have vz : ∀ e, e < M → lc T (M + 1) x (pk n E (if e < i then e else e + 1)) = 0 := fun e he => by
      refine Eq.trans (sm_congr fun k hk => ?_) (hx e he)
      show x k * _ = (if k < T.length then at_ (tk T k) (pk n E (if e < i then e else e + 1)) else 0) * x k
      rw [if_pos (show k < T.length by omega), Int.mul_comm]
    have oth : ∀ k, k < M + 1 → k ≠ i → lc T (M + 1) x (pk n E k) = 0 := fun k hk hne => by
      by_cases z : k < i
      · have := vz k (by omega); rw [if_pos z] at this; exact this
      · have := vz (k - 1) (by omega); rw [if_neg (by omega), show k - 1 + 1 = k by omega] at this; exact this
    have ne : lc T (M + 1) x (pk n E i) ≠ 0 := fun z => by
      have all := pk_zero h hu (fun k hk => by
        by_cases e : k = i
        · rw [e]; exact z
        · exact oth k (by omega) e)
      exact hx0 (t2 x (fun j => by rw [hq]; exact all j) k0 (by omega))
    have low : ∀ j, j < pk n E i → lc T (M + 1) x j = 0 := fun j => by
      induction j using Nat.strongRecOn with
      | ind j ih =>
        intro hj
        have f := ge_first h hu (k := j) fun j' hj' => ih j' hj' (by omega)
        cases e : gE E j with
        | none => exact f.1 e
        | some s' =>
          obtain ⟨k, hk, e2⟩ := pk_ex h e
          rw [← e2]
          refine oth k (by omega) fun z => ?_
          rw [z] at e2; omega
    have dv := (ge_first h hu (k := pk n E i) low).2 s hs
    have ub : (lc T (M + 1) x (pk n E i)).natAbs ≤ 2 ^ ((M + 1) * (b + 5)) := by
      have a1 : (lc T (M + 1) x (pk n E i)).natAbs ≤ (M + 1) * ((2 * (M + 1) * 2 ^ b) ^ M * 2 ^ b) := sm_abs fun k hk => by
        show (x k * at_ (tk T k) (pk n E i)).natAbs ≤ _
        rw [Int.natAbs_mul]
        exact Nat.mul_le_mul (hxb k) ((tb k (by omega)).2 _)
      refine Nat.le_trans a1 ?_
      have a2 : (2 * (M + 1) * 2 ^ b) ^ M ≤ 2 ^ ((b + 5) * M) := by
        rw [← pw M (by omega)]
        exact Nat.pow_le_pow_left (Nat.mul_le_mul_right _ (by omega)) M
      have a3 : (M + 1) * ((2 * (M + 1) * 2 ^ b) ^ M * 2 ^ b) ≤ 2 ^ 5 * (2 ^ ((b + 5) * M) * 2 ^ b) := Nat.mul_le_mul (by omega) (Nat.mul_le_mul_right _ a2)
      refine Nat.le_trans a3 ?_
      rw [← Nat.pow_add, ← Nat.pow_add]
      refine pow_mono2 ?_
      rw [Nat.mul_comm (M + 1), Nat.mul_succ]
      omega
    have hpos := (h.2 _ s hs).2.2.2
    have := Nat.le_of_dvd (Int.natAbs_pos.mpr ne) (Int.natAbs_dvd_natAbs.mpr dv)
    omega
  have zr := zrow_ok h hg
  have zp : ∀ k, k < q → (at_ (zrow n E p) (pk n E k)).natAbs ≤ 2 ^ (q * (b + 5)) := fun k hk => by
    obtain ⟨s, hs⟩ := pk_some h (show k < rkE n E by omega)
    rcases Nat.lt_trichotomy (pk n E k) p with z | z | z
    · rw [zr.lo _ (by omega), (h.2 p r hg).2.2.1 _ z]; simp
    · rw [zr.lo _ (by omega)]
      rw [z] at hs
      rw [hg] at hs
      have e : r = s := Option.some.inj hs
      have := piv k hk r (by rw [z]; exact hg)
      exact this
    · have a := zr.hi _ s z hs
      have b := piv k hk s hs
      omega
  refine ⟨?_, zr.l, fun j => ?_⟩
  · obtain ⟨k, hk, e⟩ := pk_ex h hg
    have := piv k (by omega) r (by rw [e]; exact hg)
    rw [e] at this; exact this
  have le1 : 2 ^ (q * (b + 5)) ≤ 2 ^ bb q b := pow_mono2 (by unfold bb; omega)
  by_cases isp : ∃ k, k < q ∧ pk n E k = j
  · obtain ⟨k, hk, e⟩ := isp
    rw [← e]; exact Nat.le_trans (zp k hk) le1
  · obtain ⟨y, hy0, hyb, hy⟩ := siegel q (2 ^ b) two (fun i k => if i < T.length then (if k < q then at_ (tk T i) (pk n E k) else at_ (tk T i) j) else 0) (fun i k => by
      show (if i < T.length then (if k < q then at_ (tk T i) (pk n E k) else at_ (tk T i) j) else 0).natAbs ≤ 2 ^ b
      split
      · rename_i z
        split <;> exact (tb i z).2 _
      · show (0 : Int).natAbs ≤ _; simp)
    have pT : ∀ g, Gr T g → phi n E q y j g = 0 := fun g ⟨t, ht, e⟩ => by
      subst e
      obtain ⟨i, hi, rfl⟩ := tk_ex ht
      have := hy i (by omega)
      have e1 : sm (q + 1) (fun k => (if i < T.length then (if k < q then at_ (tk T i) (pk n E k) else at_ (tk T i) j) else 0) * y k) = phi n E q y j (at_ (tk T i)) := by
        show sm q _ + _ = _
        unfold phi
        congr 1
        · exact sm_congr fun k hk => by
            show (if i < T.length then (if k < q then at_ (tk T i) (pk n E k) else at_ (tk T i) j) else 0) * y k = _
            rw [if_pos hi, if_pos hk, Int.mul_comm]
        · show (if i < T.length then (if q < q then at_ (tk T i) (pk n E q) else at_ (tk T i) j) else 0) * y q = _
          rw [if_pos hi, if_neg (Nat.lt_irrefl q), Int.mul_comm]
      rw [← e1]; exact this
    have pL : ∀ u, Lat (GE E) u → phi n E q y j u = 0 := fun u hu => by
      obtain ⟨N, hN, hL⟩ := tc u hu
      have a := phi_lat pT hL
      rw [phi_lin (u := u) (v := fun _ => 0) (a := N) (b := 0) fun i => by omega] at a
      have : N * phi n E q y j u = 0 := by omega
      rcases Int.mul_eq_zero.mp this with z | z
      · exact absurd z hN
      · exact z
    have dn : y q ≠ 0 := fun z => by
      obtain ⟨k1, hk1, hne⟩ := hy0
      have : ∃ k, k < q ∧ y k ≠ 0 := ⟨k1, by
        by_cases e : k1 = q
        · rw [e] at hne; exact absurd z hne
        · omega, hne⟩
      obtain ⟨k, hk, h1, h2⟩ := last_ne this
      obtain ⟨s, hs⟩ := pk_some h (show k < rkE n E by omega)
      have := pL _ (Lat.of ⟨_, s, hs, rfl⟩)
      unfold phi at this
      rw [z, Int.zero_mul, sm_one (c := k) hk (fun i hi hne => by
        show y i * at_ s (pk n E i) = 0
        by_cases w : i < k
        · rw [(h.2 _ s hs).2.2.1 _ (pk_lt w (by omega)), Int.mul_zero]
        · rw [h2 i (by omega) hi, Int.zero_mul])] at this
      have hpos := (h.2 _ s hs).2.2.2
      have t : y k * at_ s (pk n E k) = 0 := by omega
      rcases Int.mul_eq_zero.mp t with w | w
      · exact h1 w
      · omega
    have e := pL _ (zrow_lat h hg)
    unfold phi at e
    have b1 : (sm q (fun k => y k * at_ (zrow n E p) (pk n E k))).natAbs ≤ q * (2 ^ ((b + 5) * q) * 2 ^ (q * (b + 5))) := sm_abs fun k hk => by
      show (y k * _).natAbs ≤ _
      rw [Int.natAbs_mul]
      refine Nat.mul_le_mul (Nat.le_trans (hyb k) ?_) (zp k hk)
      rw [← pw q (Nat.le_refl q)]
      exact Nat.pow_le_pow_left (Nat.mul_le_mul_right _ (by omega)) q
    have b2 : (at_ (zrow n E p) j).natAbs ≤ (y q * at_ (zrow n E p) j).natAbs := by
      rw [Int.natAbs_mul]
      exact Nat.le_mul_of_pos_left _ (Int.natAbs_pos.mpr dn)
    have b3 : (y q * at_ (zrow n E p) j).natAbs = (sm q (fun k => y k * at_ (zrow n E p) (pk n E k))).natAbs := by omega
    rw [b3] at b2
    refine Nat.le_trans b2 (Nat.le_trans b1 ?_)
    have c1 : q * (2 ^ ((b + 5) * q) * 2 ^ (q * (b + 5))) ≤ 2 ^ 4 * (2 ^ (q * (b + 5)) * 2 ^ (q * (b + 5))) := Nat.mul_le_mul (by omega) (Nat.mul_le_mul_right _ (pow_mono2 (by rw [Nat.mul_comm]; exact Nat.le_refl _)))
    refine Nat.le_trans c1 ?_
    rw [← Nat.pow_add, ← Nat.pow_add]
    exact pow_mono2 (by unfold bb; omega)
end K87

namespace K87
open PySem PySem.Spec PyProof.Rows L2 DL
open PySem.Builtin.Int (intBits)
/-! ### the basis of a lattice -/
theorem herm_ok {n m : Nat} (hn : n ≤ 7) (hS : Fits n m) {rows : List Vc} (hr : ∀ r ∈ rows, Bd n (2 ^ m) r) :
    ∃ E, HRun n rows [] E ∧ EOk n E ∧ (∀ p r, gE E p = some r → LowOk n E p r) ∧ Ech n E ∧ ∀ u, Lat (GE E) u ↔ Lat (Gr rows) u := by
  obtain ⟨E, run, sp, h⟩ := herm_run hn hS rows [] hr (hinv_nil n _ _ (one_pow2 _))
  have N := nums_of hn (key_len h.1) hS
  have hech := h.ech
  obtain ⟨hk, _, D, C, R, rws⟩ := id h
  have hX : 1 ≤ 2 ^ fq m (E.length + 1) := one_pow2 _
  have hb : ∀ p r, gE E p = some r → Bd n (2 ^ fq m (E.length + 1)) r := fun p r hg => ⟨(rws p r hg).hl, fun j => by
    have hx := N.x
    have x := rws p r hg
    by_cases hj : j < n
    · by_cases s : Sp E j
      · have := x.hq j s; omega
      · have := ent_bd R.d0 R.ck R.cs x.hq (j := j) (B := 0) hj (by rw [x.hd j hj s]; simp)
        exact Nat.le_trans this (Nat.le_trans (Nat.le_trans (Nat.le_add_right _ _) (Nat.le_add_right _ _)) hx)
    · rw [at_out (by rw [x.hl]; omega)]; simp⟩
  have hR : ∀ c p r, c < p → gE E p = some r → p < n ∧ Bd n (2 ^ fq m (E.length + 1)) r ∧ (∀ j, j < p → at_ r j = 0) ∧ 0 < at_ r p := fun c p r _ hg => ⟨(rws p r hg).hp, hb p r hg, (rws p r hg).hz, (rws p r hg).pos⟩
  refine ⟨E, run, ⟨hk, fun p r hg => ⟨(rws p r hg).hp, (hb p r hg).vn N.smX, by have := (rws p r hg).pos; omega⟩⟩, fun p r hg => lowOk_of fun q hq => ?_, hech, fun u => ?_⟩
  · refine (low_ex hX (hR p) (hb p r hg) q).1.vn fun x hx => N.s x (Nat.le_trans hx ?_)
    refine Nat.mul_le_mul ?_ (Nat.pow_le_pow_right (by omega) hq)
    exact Nat.le_trans (Nat.le_mul_of_pos_left (2 ^ fq m (E.length + 1)) (show 0 < 3 * 2 ^ fq m E.length + 1 by omega)) (Nat.le_add_right _ _)
  · exact ((SpEq.trans (.same fun g => ⟨fun h => .inr h, fun h => by
      rcases h with ⟨p, r, h, _⟩ | h
      · cases h
      · exact h⟩) sp).iff).symm
theorem Fits.mono {n m k : Nat} (h : Fits n k) (hm : m ≤ k) : Fits n m := by
  have a : ∀ r, fa m r ≤ fa k r := fun r => by
    induction r with
    | zero => exact Nat.le_refl _
    | succ r ih => show 2 * fa m r + m + 4 ≤ 2 * fa k r + k + 4; omega
  have c : ∀ r, fc m r ≤ fc k r := fun r => by
    induction r with
    | zero => exact Nat.le_refl _
    | succ r ih => show fc m r + (fa m r + m + 3) ≤ fc k r + (fa k r + k + 3); have := a r; omega
  have q : ∀ r, fq m r ≤ fq k r := fun r => by
    induction r with
    | zero => exact hm
    | succ r ih => show fq m r + fc m r + fa m r + m + 6 ≤ fq k r + fc k r + fa k r + k + 6; have := a r; have := c r; omega
  intro r hr
  have h1 := h r hr
  have h2 := q r
  have h3 := q (r + 1)
  have h4 : (fq m (r + 1) + 1) * n ≤ (fq k (r + 1) + 1) * n := Nat.mul_le_mul_right _ (by omega)
  omega
theorem fits5 {n : Nat} (hn : n ≤ 5) : Fits n 70000 := by
  have h : ∀ n, n ≤ 5 → ∀ r, r ≤ n → 3 + fq 70000 r + fq 70000 (r + 1) + (fq 70000 (r + 1) + 1) * n < 60000000 := by decide +kernel
  exact fun r hr => h n hn r hr
theorem fits4 {n : Nat} (hn : n ≤ 4) : Fits n 180000 := by
  have h : ∀ n, n ≤ 4 → ∀ r, r ≤ n → 3 + fq 180000 r + fq 180000 (r + 1) + (fq 180000 (r + 1) + 1) * n < 60000000 := by decide +kernel
  exact fun r hr => h n hn r hr
/-- B is the basis of the lattice S -/
structure HB (n : Nat) (S : Fv → Prop) (B : List Vc) : Prop where
  ex : ∃ E, Ech n E ∧ B = hermF n E ∧ ∀ u, Lat (GE E) u ↔ S u
section
variable {n : Nat} {S S' : Fv → Prop} {B B' : List Vc}
theorem HB.uniq (a : HB n S B) (b : HB n S B') : B = B' := by
  obtain ⟨E, h1, rfl, l1⟩ := a.ex
  obtain ⟨F, h2, rfl, l2⟩ := b.ex
  exact herm_uniq h1 h2 fun u => (l1 u).trans (l2 u).symm
theorem HB.cong (a : HB n S B) (h : ∀ u, S u ↔ S' u) : HB n S' B := by
  obtain ⟨E, h1, h2, l1⟩ := a.ex
  exact ⟨E, h1, h2, fun u => (l1 u).trans (h u)⟩
theorem HB.lat (a : HB n S B) (u : Fv) : Lat (Gr B) u ↔ S u := by
  obtain ⟨E, h1, rfl, l1⟩ := a.ex
  exact (herm_lat h1 u).trans (l1 u)
theorem HB.mem (a : HB n S B) {r : Vc} (h : r ∈ B) : S (at_ r) := (a.lat _).mp (.of ⟨r, h, rfl⟩)
theorem HB.len (a : HB n S B) {r : Vc} (h : r ∈ B) : r.length = n := by
  obtain ⟨E, h1, rfl, l1⟩ := a.ex
  rw [hermF_z] at h
  obtain ⟨p, hp, rfl⟩ := List.mem_map.mp h
  obtain ⟨r, hg⟩ := keys_get hp
  exact (zrow_ok h1 hg).l
theorem HB.le (a : HB n S B) : B.length ≤ n := by
  obtain ⟨E, h1, rfl, l1⟩ := a.ex
  rw [hermF_z, List.length_map]
  exact rk_le E
theorem HB.zn (a : HB n S B) {u : Fv} (h : S u) {j : Nat} (hj : n ≤ j) : u j = 0 := by
  have := (a.lat u).mpr h
  induction this with
  | zero => rfl
  | @add u g k _ hg ih =>
    obtain ⟨r, hr, rfl⟩ := hg
    show u j + k * at_ r j = 0
    have e1 : at_ r j = 0 := at_out (by rw [a.len hr]; exact hj)
    have : S u := (a.lat u).mp (by assumption)
    rw [e1, ih this]; omega
/-- the lattice has small vectors of its rank -/
def Sml (n b : Nat) (S : Fv → Prop) : Prop := ∃ rows : List Vc, (∀ r ∈ rows, Bd n (2 ^ b) r ∧ S (at_ r)) ∧ Com (Gr rows) S
theorem Sml.mono {b c : Nat} (h : Sml n b S) (hc : b ≤ c) : Sml n c S := by
  obtain ⟨rows, h1, h2⟩ := h
  exact ⟨rows, fun r hr => ⟨(h1 r hr).1.mono (pow_mono2 hc), (h1 r hr).2⟩, h2⟩
theorem HB.bd {b : Nat} (hn : n ≤ 15) (a : HB n S B) (s : Sml n b S) {r : Vc} (h : r ∈ B) : Bd n (2 ^ bb B.length b) r := by
  obtain ⟨E, h1, rfl, l1⟩ := a.ex
  obtain ⟨rows, h2, h3⟩ := s
  have e : (hermF n E).length = rkE n E := by rw [hermF_z, List.length_map]; rfl
  rw [hermF_z] at h
  obtain ⟨p, hp, rfl⟩ := List.mem_map.mp h
  obtain ⟨r, hg⟩ := keys_get hp
  rw [e]
  exact (small_rows hn h1 (fun r hr => (h2 r hr).1) (fun r hr => (l1 _).mpr (h2 r hr).2) (h3.mono fun u hu => (l1 u).mp hu) hg).2
theorem HB.of_rows {m : Nat} (hn : n ≤ 7) (hS : Fits n m) {rows : List Vc} (hr : ∀ r ∈ rows, Bd n (2 ^ m) r) : ∃ B, HB n (Lat (Gr rows)) B := by
  obtain ⟨E, _, _, _, h, l⟩ := herm_ok hn hS hr
  exact ⟨hermF n E, E, h, rfl, l⟩
/-- the law of hermite -/
theorem f_hermite {K : PySem.W.Frag} {m : Nat} (hn : n ≤ 7) (hS : Fits n m) {rows : List Vc} (hr : ∀ r ∈ rows, Bd n (2 ^ m) r) (hB : HB n (Lat (Gr rows)) B) : ∃ E, HRun n rows [] E ∧ EOk n E ∧ (∀ p r, gE E p = some r → LowOk n E p r) ∧ B = hermF n E := by
  obtain ⟨E, h1, h2, h3, h, l⟩ := herm_ok hn hS hr
  exact ⟨E, h1, h2, h3, hB.uniq ⟨E, h, rfl, l⟩⟩
end
/-! ### gcd_of -/
inductive GRun : List Int → Int → Int → Prop where
  | nil {r : Int} : GRun [] r r
  | cons {x : Int} {xs : List Int} {r r' : Int} {k : Nat} {z : T3} : BzRun k (r, 1, 0) (bzStart r x) z → GRun xs (neg3 z).1 r' → GRun (x :: xs) r r'
def gcdA (a : Int) (xs : List Int) : Int := xs.foldl (fun a x => (Int.gcd a x : Int)) a
def gcdL (xs : List Int) : Int := gcdA 0 xs
theorem bz_gcd {r x : Int} {k : Nat} (h0 : 0 ≤ r) (hr : r.natAbs ≤ 2 ^ k) (hx : x.natAbs ≤ 2 ^ k) (hk : k + 3 < 60000000) : ∃ (m : Nat) (z : T3), BzRun m (r, 1, 0) (bzStart r x) z ∧ (neg3 z).1 = (Int.gcd r x : Int) := by
  by_cases e : r = 0
  · subst e
    have hs : bzStart 0 x = (x, 0, 1) := by unfold bzStart; rw [if_neg (fun q => q.1 rfl)]
    rw [hs]
    have g : (Int.gcd 0 x : Int) = (x.natAbs : Int) := by rw [Int.zero_gcd]
    rw [g]
    by_cases e2 : x = 0
    · subst e2
      exact ⟨0, (0, 1, 0), .stop rfl, rfl⟩
    · refine ⟨1, (x, 0, 1), .step e2 ?_ ?_ ?_ (.stop ?_), ?_⟩
      · show IntMulOk ((0 : Int).fdiv x) x
        rw [Int.zero_fdiv]
        exact sm0.mul (sm_pow (s := k) (by omega) hx)
      · show IntMulOk ((0 : Int).fdiv x) 0
        rw [Int.zero_fdiv]; exact sm0.mul sm0
      · show IntMulOk ((0 : Int).fdiv x) 1
        rw [Int.zero_fdiv]; exact sm0.mul sm1
      · show (0 : Int) - (0 : Int).fdiv x * x = 0
        rw [Int.zero_fdiv]; omega
      · unfold neg3
        by_cases z : x < 0
        · rw [if_pos z]; show -x = _; omega
        · rw [if_neg z]; show x = _; omega
  · obtain ⟨m, z, g, s, t, run, e1, g0, eg, d1, d2, _, _⟩ := bez_ex (A := r) (B := x) (K := 2 ^ (k + 3)) (by omega) (by rw [Nat.pow_add]; have := one_pow2 k; omega) fun y hy => sm_pow (s := k + 3) hk hy
    refine ⟨m, z, run, ?_⟩
    rw [e1]
    show g = _
    refine Int.dvd_antisymm (by omega) (by omega) (Int.dvd_coe_gcd d1 d2) ?_
    rw [eg]
    exact Int.dvd_add (Int.dvd_mul_of_dvd_right (Int.gcd_dvd_left ..)) (Int.dvd_mul_of_dvd_right (Int.gcd_dvd_right ..))
theorem gcd_le {r x : Int} {k : Nat} (hr : r.natAbs ≤ 2 ^ k) (hx : x.natAbs ≤ 2 ^ k) : (Int.gcd r x : Int).natAbs ≤ 2 ^ k := by
  by_cases e : r = 0
  · subst e; rw [Int.zero_gcd]; omega
  · have := Int.le_of_dvd (a := (Int.gcd r x : Int)) (b := (r.natAbs : Int)) (by omega) (by rw [Int.dvd_natAbs]; exact Int.gcd_dvd_left ..)
    omega
theorem grun_ex {k : Nat} (hk : k + 3 < 60000000) : ∀ (xs : List Int) (r : Int), 0 ≤ r → r.natAbs ≤ 2 ^ k → (∀ x ∈ xs, x.natAbs ≤ 2 ^ k) → GRun xs r (gcdA r xs)
  | [], r, _, _, _ => .nil
  | x :: xs, r, h0, hr, hx => by
    obtain ⟨m, z, run, e⟩ := bz_gcd h0 hr (hx x (by simp)) hk
    refine .cons run ?_
    rw [e]
    exact grun_ex hk xs _ (by omega) (gcd_le hr (hx x (by simp))) fun y hy => hx y (by simp [hy])
theorem gcdA_dvd {d : Int} : ∀ (xs : List Int) (a : Int), d ∣ gcdA a xs ↔ d ∣ a ∧ ∀ x ∈ xs, d ∣ x
  | [], a => by simp [gcdA]
  | x :: xs, a => by
    show d ∣ gcdA (Int.gcd a x : Int) xs ↔ _
    rw [gcdA_dvd xs]
    have : d ∣ (Int.gcd a x : Int) ↔ d ∣ a ∧ d ∣ x := ⟨fun h => ⟨Int.dvd_trans h (Int.gcd_dvd_left ..), Int.dvd_trans h (Int.gcd_dvd_right ..)⟩, fun h => Int.dvd_coe_gcd h.1 h.2⟩
    rw [this]
    simp only [List.mem_cons, forall_eq_or_imp]
    exact and_assoc
theorem gcdL_dvd {d : Int} {xs : List Int} : d ∣ gcdL xs ↔ ∀ x ∈ xs, d ∣ x := by
  unfold gcdL; rw [gcdA_dvd]; exact ⟨fun h => h.2, fun h => ⟨Int.dvd_zero d, h⟩⟩
theorem gcdA_nn : ∀ (xs : List Int) (a : Int), 0 ≤ a → 0 ≤ gcdA a xs
  | [], a, h => h
  | x :: xs, a, _ => gcdA_nn xs _ (by show (0 : Int) ≤ (Int.gcd a x : Int); omega)
theorem gcdL_nn (xs : List Int) : 0 ≤ gcdL xs := gcdA_nn xs 0 (by omega)
theorem gcdL_zero {xs : List Int} : gcdL xs = 0 ↔ ∀ x ∈ xs, x = 0 := by
  constructor
  · intro h x hx
    have := (gcdL_dvd (d := 0) (xs := xs)).mp (by rw [h]; exact Int.dvd_refl _) x hx
    exact Int.zero_dvd.mp this
  · intro h
    exact Int.zero_dvd.mp (gcdL_dvd.mpr fun x hx => by rw [h x hx]; exact Int.dvd_refl _)
theorem gcdL_of {xs : List Int} {g : Int} (h0 : 0 ≤ g) (h1 : ∀ x ∈ xs, g ∣ x) (h2 : ∀ d, (∀ x ∈ xs, d ∣ x) → d ∣ g) : gcdL xs = g :=
  Int.dvd_antisymm (gcdL_nn xs) h0 (h2 _ fun x hx => gcdL_dvd.mp (Int.dvd_refl _) x hx) (gcdL_dvd.mpr h1)
theorem gcdL_mem {xs : List Int} {x : Int} (h : x ∈ xs) : gcdL xs ∣ x := gcdL_dvd.mp (Int.dvd_refl _) x h
end K87

namespace K87
open PySem PySem.Spec PyProof.Rows L2 DL
open PySem.Builtin.Int (intBits)
def rsRows (rs : List Vc) (m : Int) (v : Int) (t : Vc) : List Vc := if m > 0 then rs ++ [scaleL (m.fdiv (gcdL [m, v])) t] else rs
def natsL (cs : List Nat) : PyData := .list (cs.map fun (c : Nat) => .int (c : Int))
theorem tk_getD {B : List Vc} {i : Nat} {d : PyData} (h : (B.map vec)[i]? = some d) : i < B.length ∧ d = vec (tk B i) := by
  rw [List.getElem?_map] at h
  obtain ⟨r, hr, rfl⟩ := Option.map_eq_some_iff.mp h
  have hi := (List.getElem?_eq_some_iff.mp hr).1
  refine ⟨hi, ?_⟩
  unfold tk
  rw [List.getD_eq_getElem?_getD, hr]; rfl
def fstN : Vc → Option Nat
  | [] => none
  | x :: v => if x ≠ 0 then some 0 else (fstN v).map (· + 1)
def fstD : Option Nat → PyData
  | some p => .int (p : Int)
  | none => .none
theorem fst_drop {v : Vc} {i : Nat} (hi : i < v.length) : fstN (v.drop i) = if at_ v i ≠ 0 then some 0 else (fstN (v.drop (i + 1))).map (· + 1) := by
  rw [List.drop_eq_getElem_cons hi]
  have : at_ v i = v[i] := by have := at_get hi; rw [List.getElem?_eq_getElem hi] at this; exact (Option.some.inj this).symm
  rw [this]; rfl

/-! ### reduced rows -/
structure RB (n : Nat) (B : List Vc) (pv : Nat → Nat) : Prop where
  len : ∀ k, k < B.length → (tk B k).length = n
  lt : ∀ k, k < B.length → pv k < n
  mono : ∀ i j, i < j → j < B.length → pv i < pv j
  zero : ∀ k j, k < B.length → j < pv k → at_ (tk B k) j = 0
  pos : ∀ k, k < B.length → 0 < at_ (tk B k) (pv k)
  red : ∀ i k, i < k → k < B.length → 0 ≤ at_ (tk B i) (pv k) ∧ at_ (tk B i) (pv k) < at_ (tk B k) (pv k)
theorem fst_some {p : Nat} : ∀ {v : Vc}, p < v.length → at_ v p ≠ 0 → (∀ j, j < p → at_ v j = 0) → fstN v = some p := by
  induction p with
  | zero =>
    intro v hl h0 _
    cases v with
    | nil => simp at hl
    | cons x v =>
      show (if x ≠ 0 then some 0 else _) = _
      exact if_pos h0
  | succ p ih =>
    intro v hl h0 hz
    cases v with
    | nil => simp at hl
    | cons x v =>
      have x0 : x = 0 := hz 0 (by omega)
      show (if x ≠ 0 then some 0 else (fstN v).map (· + 1)) = _
      rw [if_neg (fun q => q x0), ih (v := v) (by simpa using hl) h0 (fun j hj => hz (j + 1) (by omega))]
      rfl
theorem fst_none : ∀ {v : Vc}, (∀ j, at_ v j = 0) → fstN v = none
  | [], _ => rfl
  | x :: v, h => by
    have x0 : x = 0 := h 0
    show (if x ≠ 0 then some 0 else (fstN v).map (· + 1)) = _
    rw [if_neg (fun q => q x0), fst_none (v := v) fun j => h (j + 1)]; rfl
theorem RB.fst {n : Nat} {B : List Vc} {pv : Nat → Nat} (h : RB n B pv) {k : Nat} (hk : k < B.length) : fstN (tk B k) = some (pv k) :=
  fst_some (by rw [h.len k hk]; exact h.lt k hk) (by have := h.pos k hk; omega) fun j hj => h.zero k j hk hj
theorem hb_tk {n : Nat} {E : Ec} (h : Ech n E) {k : Nat} (hk : k < rkE n E) : tk (hermF n E) k = zrow n E (pk n E k) := by
  unfold tk
  rw [hermF_z, List.getD_eq_getElem?_getD, List.getElem?_map, pk_get hk]; rfl
theorem HB.rb {n : Nat} {S : Fv → Prop} {B : List Vc} (a : HB n S B) : ∃ pv, RB n B pv := by
  obtain ⟨E, h, rfl, l⟩ := a.ex
  have e : (hermF n E).length = rkE n E := by rw [hermF_z, List.length_map]; rfl
  refine ⟨pk n E, fun k hk => ?_, fun k hk => ?_, fun i j hij hj => ?_, fun k j hk hj => ?_, fun k hk => ?_, fun i k hik hk => ?_⟩
  · rw [e] at hk
    obtain ⟨r, hr⟩ := pk_some h hk
    rw [hb_tk h hk]; exact (zrow_ok h hr).l
  · rw [e] at hk; exact pk_bd h hk
  · rw [e] at hj; exact pk_lt hij hj
  · rw [e] at hk
    obtain ⟨r, hr⟩ := pk_some h hk
    rw [hb_tk h hk, (zrow_ok h hr).lo j (by omega)]
    exact (h.2 _ r hr).2.2.1 j hj
  · rw [e] at hk
    obtain ⟨r, hr⟩ := pk_some h hk
    rw [hb_tk h hk, (zrow_ok h hr).lo _ (Nat.le_refl _)]
    exact (h.2 _ r hr).2.2.2
  · rw [e] at hk
    obtain ⟨r, hr⟩ := pk_some h (show i < rkE n E by omega)
    obtain ⟨r', hr'⟩ := pk_some h hk
    rw [hb_tk h (show i < rkE n E by omega), hb_tk h hk, (zrow_ok h hr').lo _ (Nat.le_refl _)]
    exact (zrow_ok h hr).hi _ r' (pk_lt hik hk) hr'
/-- the vector and the factor behind k rows -/
def clr (E : List Vc) (v : Vc) : Nat → Vc × Int
  | 0 => (v, 1)
  | k + 1 => (combL (at_ (tk E k) ((fstN (tk E k)).getD 0)) (clr E v k).1 (-(at_ (clr E v k).1 ((fstN (tk E k)).getD 0))) (tk E k), (clr E v k).2 * at_ (tk E k) ((fstN (tk E k)).getD 0))
/-- what is left behind k rows, and the factors -/
def cow (B : List Vc) (v : Vc) : Nat → Vc
  | 0 => v
  | k + 1 => combL 1 (cow B v k) (-((at_ (cow B v k) ((fstN (tk B k)).getD 0)).fdiv (at_ (tk B k) ((fstN (tk B k)).getD 0)))) (tk B k)
def cof (B : List Vc) (v : Vc) (k : Nat) : Int := (at_ (cow B v k) ((fstN (tk B k)).getD 0)).fdiv (at_ (tk B k) ((fstN (tk B k)).getD 0))
def coL (B : List Vc) (v : Vc) : List Int := (List.range B.length).map (cof B v)
def prodD (X : List Vc) : Nat → Int
  | 0 => 1
  | k + 1 => prodD X k * at_ (tk X k) k
end K87

namespace K87
open PySem PySem.Spec PyProof.Rows L2 DL
open PySem.Builtin.Int (intBits)
/-! ### data with lists turned into tuples -/
mutual
def frz : PyData → PyData
  | .list ds => .tuple (frzs ds)
  | .tuple ds => .tuple (frzs ds)
  | d => d
def frzs : List PyData → List PyData
  | [] => []
  | d :: ds => frz d :: frzs ds
end
theorem frzs_map : ∀ ds : List PyData, frzs ds = ds.map frz
  | [] => by simp [frzs]
  | d :: ds => by simp [frzs, frzs_map ds]
def FrzOk : Nat → PyData → Prop
  | 0, _ => False
  | k + 1, d => match d with
    | .list ds => ds.length ≤ 1000000 ∧ ∀ x ∈ ds, FrzOk k x
    | .tuple ds => ds.length ≤ 1000000 ∧ ∀ x ∈ ds, FrzOk k x
    | .dict _ => False
    | _ => True
theorem frz_vec (v : Vc) : frz (vec v) = vec v := by
  unfold vec
  rw [frz, frzs_map, List.map_map]
  congr 1
theorem frz_mat (B : List Vc) : frz (matT B) = matT B := by
  unfold matT
  rw [frz, frzs_map, List.map_map]
  congr 1
  exact List.map_congr_left fun x _ => frz_vec x
theorem frz_vecOk {v : Vc} (k : Nat) (h : v.length ≤ 1000000) : FrzOk (k + 2) (vec v) := by
  show (v.map PyData.int).length ≤ 1000000 ∧ ∀ x ∈ v.map PyData.int, FrzOk (k + 1) x
  refine ⟨by rw [List.length_map]; exact h, fun x hx => ?_⟩
  obtain ⟨y, _, rfl⟩ := List.mem_map.mp hx
  exact True.intro
theorem frz_matOk {B : List Vc} (k : Nat) (h : B.length ≤ 1000000) (hr : ∀ r ∈ B, r.length ≤ 1000000) : FrzOk (k + 3) (matT B) := by
  show (B.map vec).length ≤ 1000000 ∧ ∀ x ∈ B.map vec, FrzOk (k + 2) x
  refine ⟨by rw [List.length_map]; exact h, fun x hx => ?_⟩
  obtain ⟨y, hy, rfl⟩ := List.mem_map.mp hx
  exact frz_vecOk k (hr y hy)
/-! ### duals -/
def dualD (Ex : List Vc) (sc : Int) (rows : List Vc) : PyData := .tuple [.str "dual", matT Ex, .int sc, matT rows]
theorem frz_dual (Ex : List Vc) (sc : Int) (rows : List Vc) : frz (dualD Ex sc rows) = dualD Ex sc rows := by
  unfold dualD
  rw [frz, frzs_map]
  simp only [List.map_cons, List.map_nil, frz_mat]
  simp [frz]
theorem frz_dualOk {Ex rows : List Vc} {sc : Int} (h : FrzOk 4 (matT Ex)) (h2 : FrzOk 4 (matT rows)) : FrzOk 5 (dualD Ex sc rows) := by
  show 4 ≤ 1000000 ∧ ∀ x ∈ [PyData.str "dual", matT Ex, .int sc, matT rows], FrzOk 4 x
  refine ⟨by decide, fun x hx => ?_⟩
  simp only [List.mem_cons, List.not_mem_nil, or_false] at hx
  rcases hx with rfl | rfl | rfl | rfl
  · exact True.intro
  · exact h
  · exact True.intro
  · exact h2
/-- the columns that are no pivots -/
def colsL (n : Nat) (ps : List Nat) : List Nat := (List.range n).filter fun c => !decide ((c : Int) ∈ ps.map Int.ofNat)
/-- a row over some columns as a row over all -/
def wideL (n : Nat) (cs : List Nat) (r : Vc) : Vc := (List.range n).map fun (a : Nat) => if (a : Int) ∈ cs.map Int.ofNat then at_ r ((cs.map Int.ofNat).idxOf (a : Int)) else 0
end K87

namespace K87
open PySem PySem.Spec PyProof.Rows L2 DL
open PySem.Builtin.Int (intBits)
/-! ### draws -/
structure Stm where
  cs : List Int
  a : Int
  b : Int
  c : Int
def stmS (s : Stm) : Sl := .stm s.cs s.a s.b s.c
def drA (s : Stm) : Stm := if s.a = 0 then (match s.cs with
  | [] => ⟨[], s.a, s.b + 1, s.c⟩
  | x :: r => if x < 10 ^ 18 then ⟨r, 0, s.b + 1, (s.c * 39373 + x).fmod 2147483647⟩ else ⟨r, x, s.b + 1, s.c⟩) else ⟨s.cs, s.a, s.b + 1, s.c⟩
def drV (s : Stm) (many : Int) : Int := if 0 < (drA s).a then (drA s).a.fmod many else ((((((drA s).c + 7919 * (drA s).b + 104729) ^ 5).fmod 2147483647 + (drA s).b) * 48271).fmod 2147483629).fmod many
def drS (s : Stm) (many : Int) : Stm := if 0 < (drA s).a then ⟨(drA s).cs, (drA s).a.fdiv many, (drA s).b, (drA s).c⟩ else drA s
def SOk (m : Nat) (s : Stm) : Prop := 0 ≤ s.c ∧ s.c < 2147483647 ∧ 0 ≤ s.b ∧ s.b ≤ m
theorem sok_drA {m : Nat} {s : Stm} (h : SOk m s) : SOk (m + 1) (drA s) := by
  obtain ⟨h1, h2, h3, h4⟩ := h
  unfold drA
  have f1 := fun x : Int => Int.fmod_nonneg_of_pos x (show (0 : Int) < 2147483647 by decide)
  have f2 := fun x : Int => Int.fmod_lt_of_pos x (show (0 : Int) < 2147483647 by decide)
  split
  · split
    · exact ⟨h1, h2, by show 0 ≤ s.b + 1; omega, by show s.b + 1 ≤ _; omega⟩
    · split
      · exact ⟨f1 _, f2 _, by show 0 ≤ s.b + 1; omega, by show s.b + 1 ≤ _; omega⟩
      · exact ⟨h1, h2, by show 0 ≤ s.b + 1; omega, by show s.b + 1 ≤ _; omega⟩
  · exact ⟨h1, h2, by show 0 ≤ s.b + 1; omega, by show s.b + 1 ≤ _; omega⟩
theorem sok_dr {m : Nat} {s : Stm} (many : Int) (h : SOk m s) : SOk (m + 1) (drS s many) := by
  have := sok_drA h
  unfold drS
  split
  · exact this
  · exact this
theorem drV_rng (s : Stm) {many : Int} (h : 0 < many) : 0 ≤ drV s many ∧ drV s many < many := by
  unfold drV
  split
  · exact ⟨Int.fmod_nonneg_of_pos _ h, Int.fmod_lt_of_pos _ h⟩
  · exact ⟨Int.fmod_nonneg_of_pos _ h, Int.fmod_lt_of_pos _ h⟩
theorem SOk.mono {m k : Nat} {s : Stm} (h : SOk m s) (hk : m ≤ k) : SOk k s := ⟨h.1, h.2.1, h.2.2.1, by have := h.2.2.2; omega⟩
def stN (s : Stm) (q : Int) : Nat → Stm
  | 0 => s
  | n + 1 => drS (stN s q n) q
theorem sok_stN {m : Nat} {s : Stm} {q : Int} (h : SOk m s) : ∀ n, SOk (m + n) (stN s q n)
  | 0 => h
  | n + 1 => sok_dr q (sok_stN h n)
theorem stN_add (s : Stm) (q : Int) (a : Nat) : ∀ b, stN (stN s q a) q b = stN s q (a + b)
  | 0 => rfl
  | b + 1 => by show drS (stN (stN s q a) q b) q = _; rw [stN_add s q a b]; rfl
theorem lit_at {xs : List PyData} {i : Int} {k : Nat} (h0 : 0 ≤ i) (h1 : i < k) (hk : xs.length = k) : ∃ d, atI xs i = some d ∧ xs[i.toNat]? = some d := by
  obtain ⟨j, rfl⟩ := Int.eq_ofNat_of_zero_le h0
  have hj : j < xs.length := by omega
  exact ⟨xs[j], at_nat (List.getElem?_eq_getElem hj), by rw [Int.toNat_natCast]; exact List.getElem?_eq_getElem hj⟩
theorem lit_int {ns : List Int} {i : Int} {k : Nat} (h0 : 0 ≤ i) (h1 : i < k) (hk : ns.length = k) : atI (ns.map PyData.int) i = some (.int (ns.getD i.toNat 0)) := by
  obtain ⟨j, rfl⟩ := Int.eq_ofNat_of_zero_le h0
  have hj : j < ns.length := by omega
  refine at_nat ?_
  rw [List.getElem?_map, List.getD_eq_getElem?_getD, Int.toNat_natCast, List.getElem?_eq_getElem hj]; rfl

/-! ### frames -/
def plusL (k : Int) (a b : Vc) : Vc := (List.zip a b).map fun p => k * p.1 + p.2
def negL (v : Vc) : Vc := v.map fun x => 0 - x
theorem plus_comb (k : Int) (a b : Vc) : plusL k a b = combL k a 1 b := by
  unfold plusL combL
  exact List.map_congr_left fun p _ => by omega
theorem neg_scale (v : Vc) : negL v = scaleL (-1) v := by
  unfold negL scaleL
  exact List.map_congr_left fun x _ => by omega
abbrev Fr := List Vc × List Vc × Stm
def frFac (s : Stm) : Int := [1, -1, 2, -2].getD (drV s 4).toNat 0
def frOne (n : Nat) (s : Stm) : Nat := (drV s n).toNat
def fr2 (n : Nat) (s : Stm) : Stm := drS (drS s n) n
def frVec (n : Nat) (z : Fr) : Vc := plusL (frFac (fr2 n z.2.2)) (tk z.1 (frOne n (drS z.2.2 n))) (tk z.1 (frOne n z.2.2))
def frFrm (n : Nat) (z : Fr) : Vc := plusL (0 - frFac (fr2 n z.2.2)) (tk z.2.1 (frOne n z.2.2)) (tk z.2.1 (frOne n (drS z.2.2 n)))
def frStep (n : Nat) (z : Fr) : Fr :=
  if frOne n z.2.2 = frOne n (drS z.2.2 n) then (z.1.set (frOne n z.2.2) (negL (tk z.1 (frOne n z.2.2))), z.2.1.set (frOne n z.2.2) (negL (tk z.2.1 (frOne n z.2.2))), drS (fr2 n z.2.2) 4)
  else if (frVec n z ++ frFrm n z).all (fun x => decide (x.natAbs < 100)) = true then (z.1.set (frOne n z.2.2) (frVec n z), z.2.1.set (frOne n (drS z.2.2 n)) (frFrm n z), drS (fr2 n z.2.2) 4)
  else (z.1, z.2.1, drS (fr2 n z.2.2) 4)
def frN (n : Nat) (s : Stm) : Nat → Fr
  | 0 => (unitsL n, unitsL n, s)
  | k + 1 => frStep n (frN n s k)
def frF (n : Nat) (s : Stm) : Fr := frN n (drS s (3 * n + 1)) (drV s (3 * n + 1)).toNat
structure FrOk (n : Nat) (V F : List Vc) : Prop where
  lv : V.length = n
  lf : F.length = n
  bv : ∀ k, k < n → Bd n 99 (tk V k)
  bf : ∀ k, k < n → Bd n 99 (tk F k)
  dt : ∀ i j, i < n → j < n → dotL (tk F i) (tk V j) = if i = j then 1 else 0
theorem tk_set {B : List Vc} {i : Nat} {v : Vc} (hi : i < B.length) (k : Nat) : tk (B.set i v) k = if k = i then v else tk B k := by
  unfold tk
  rw [List.getD_eq_getElem?_getD, List.getD_eq_getElem?_getD]
  by_cases z : k = i
  · rw [if_pos z, z, List.getElem?_set_self hi]; rfl
  · rw [if_neg z, List.getElem?_set_ne (Ne.symm z)]
theorem tk_units {n k : Nat} (hk : k < n) : tk (unitsL n) k = unitL n (k : Int) := by
  unfold tk unitsL
  rw [List.getD_eq_getElem?_getD, List.getElem?_map, List.getElem?_range hk]; rfl
theorem units_len {n : Nat} : (unitsL n).length = n := by unfold unitsL; rw [List.length_map, List.length_range]
theorem frOne_lt {n : Nat} (hn : 0 < n) (s : Stm) : frOne n s < n := by
  unfold frOne
  have := drV_rng s (many := (n : Int)) (by omega)
  omega
theorem frFac_le (s : Stm) : (frFac s).natAbs ≤ 2 := by
  unfold frFac
  obtain ⟨h0, h1⟩ := drV_rng s (show (0 : Int) < 4 by decide)
  generalize drV s 4 = v at h0 h1
  obtain ⟨j, rfl⟩ := Int.eq_ofNat_of_zero_le h0
  rw [Int.toNat_natCast]
  have : j < 4 := by omega
  match j, this with
  | 0, _ => decide
  | 1, _ => decide
  | 2, _ => decide
  | 3, _ => decide
theorem dot_comb_l {n : Nat} {k l : Int} {a b v : Vc} (ha : a.length = n) (hb : b.length = n) (hv : v.length = n) : dotL (combL k a l b) v = k * dotL a v + l * dotL b v := by
  rw [dot_sm (comb_len ha hb) hv, dot_sm ha hv, dot_sm hb hv, ← sm_lin]
  exact sm_congr fun p _ => by rw [at_comb (by rw [ha, hb])]; grind
theorem dot_comb_r {n : Nat} {k l : Int} {a b v : Vc} (ha : a.length = n) (hb : b.length = n) (hv : v.length = n) : dotL v (combL k a l b) = k * dotL v a + l * dotL v b := by
  rw [dot_sm hv (comb_len ha hb), dot_sm hv ha, dot_sm hv hb, ← sm_lin]
  exact sm_congr fun p _ => by rw [at_comb (by rw [ha, hb])]; grind
theorem dot_scale_l {n : Nat} {k : Int} {a v : Vc} (ha : a.length = n) (hv : v.length = n) : dotL (scaleL k a) v = k * dotL a v := by
  have := sm_lin k 0 (fun p => at_ a p * at_ v p) (fun _ => 0) n
  rw [dot_sm (by rw [scale_len]; exact ha) hv, dot_sm ha hv]
  rw [sm_congr (g := fun p => k * (at_ a p * at_ v p) + 0 * 0) (fun p _ => by rw [at_scale]; grind), this]; omega
theorem dot_scale_r {n : Nat} {k : Int} {a v : Vc} (ha : a.length = n) (hv : v.length = n) : dotL v (scaleL k a) = k * dotL v a := by
  have := sm_lin k 0 (fun p => at_ v p * at_ a p) (fun _ => 0) n
  rw [dot_sm hv (by rw [scale_len]; exact ha), dot_sm hv ha]
  rw [sm_congr (g := fun p => k * (at_ v p * at_ a p) + 0 * 0) (fun p _ => by rw [at_scale]; grind), this]; omega
theorem bd_neg {n B : Nat} {v : Vc} (h : Bd n B v) : Bd n B (negL v) := by
  rw [neg_scale]
  exact ⟨by rw [scale_len]; exact h.1, fun j => by rw [at_scale]; have := h.2 j; omega⟩
theorem fr_step {n : Nat} (hn : 0 < n) {z : Fr} (h : FrOk n z.1 z.2.1) : FrOk n (frStep n z).1 (frStep n z).2.1 := by
  have o1 := frOne_lt hn z.2.2
  have o2 := frOne_lt hn (drS z.2.2 n)
  have vb := h.bv
  have fb := h.bf
  unfold frStep
  by_cases e : frOne n z.2.2 = frOne n (drS z.2.2 n)
  · rw [if_pos e]
    generalize frOne n z.2.2 = i at o1
    refine ⟨by rw [List.length_set]; exact h.lv, by rw [List.length_set]; exact h.lf, fun k hk => ?_, fun k hk => ?_, fun a b ha hb => ?_⟩
    · rw [tk_set (by rw [h.lv]; exact o1)]
      split
      · exact bd_neg (vb i o1)
      · exact vb k hk
    · rw [tk_set (by rw [h.lf]; exact o1)]
      split
      · exact bd_neg (fb i o1)
      · exact fb k hk
    · rw [tk_set (by rw [h.lf]; exact o1), tk_set (by rw [h.lv]; exact o1), neg_scale, neg_scale]
      have l1 := (vb i o1).1
      have l2 := (fb i o1).1
      by_cases ea : a = i
      · by_cases eb : b = i
        · rw [if_pos ea, if_pos eb, dot_scale_l l2 (by rw [scale_len]; exact l1), dot_scale_r l1 l2, h.dt i i o1 o1, ea, eb]; simp
        · rw [if_pos ea, if_neg eb, dot_scale_l l2 (vb b hb).1, h.dt i b o1 hb, if_neg (fun q => eb q.symm), ea, if_neg (fun q => eb q.symm)]; simp
      · by_cases eb : b = i
        · rw [if_neg ea, if_pos eb, dot_scale_r l1 (fb a ha).1, h.dt a i ha o1, if_neg ea, eb, if_neg ea]; simp
        · rw [if_neg ea, if_neg eb]; exact h.dt a b ha hb
  · rw [if_neg e]
    by_cases c : (frVec n z ++ frFrm n z).all (fun x => decide (x.natAbs < 100)) = true
    · rw [if_pos c]
      rw [List.all_eq_true] at c
      have cb : ∀ x ∈ frVec n z ++ frFrm n z, x.natAbs ≤ 99 := fun x hx => by have := of_decide_eq_true (c x hx); omega
      have ev : frVec n z = combL (frFac (fr2 n z.2.2)) (tk z.1 (frOne n (drS z.2.2 n))) 1 (tk z.1 (frOne n z.2.2)) := plus_comb _ _ _
      have ef : frFrm n z = combL (0 - frFac (fr2 n z.2.2)) (tk z.2.1 (frOne n z.2.2)) 1 (tk z.2.1 (frOne n (drS z.2.2 n))) := plus_comb _ _ _
      generalize frFac (fr2 n z.2.2) = q at ev ef
      generalize frOne n z.2.2 = i at o1 e ev ef
      generalize frOne n (drS z.2.2 n) = j at o2 e ev ef
      have lV : (frVec n z).length = n := by rw [ev]; exact comb_len (vb j o2).1 (vb i o1).1
      have lF : (frFrm n z).length = n := by rw [ef]; exact comb_len (fb i o1).1 (fb j o2).1
      have bV : Bd n 99 (frVec n z) := ⟨lV, fun k => by
        by_cases hk : k < n
        · exact cb _ (List.mem_append_left _ (at_mem (by rw [lV]; exact hk)))
        · rw [at_out (by rw [lV]; omega)]; simp⟩
      have bF : Bd n 99 (frFrm n z) := ⟨lF, fun k => by
        by_cases hk : k < n
        · exact cb _ (List.mem_append_right _ (at_mem (by rw [lF]; exact hk)))
        · rw [at_out (by rw [lF]; omega)]; simp⟩
      refine ⟨by rw [List.length_set]; exact h.lv, by rw [List.length_set]; exact h.lf, fun k hk => ?_, fun k hk => ?_, fun a b ha hb => ?_⟩
      · rw [tk_set (by rw [h.lv]; exact o1)]
        split
        · exact bV
        · exact vb k hk
      · rw [tk_set (by rw [h.lf]; exact o2)]
        split
        · exact bF
        · exact fb k hk
      · rw [tk_set (by rw [h.lf]; exact o2), tk_set (by rw [h.lv]; exact o1)]
        have d := h.dt
        have li := (vb i o1).1
        have lj := (vb j o2).1
        have fi := (fb i o1).1
        have fj := (fb j o2).1
        by_cases ea : a = j
        · by_cases eb : b = i
          · rw [if_pos ea, if_pos eb, ev, ef, dot_comb_l fi fj (comb_len lj li), dot_comb_r lj li fi, dot_comb_r lj li fj, d i j o1 o2, d i i o1 o1, d j j o2 o2, d j i o2 o1, if_neg e, if_pos rfl, if_pos rfl, if_neg (Ne.symm e), ea, eb, if_neg (Ne.symm e)]; omega
          · rw [if_pos ea, if_neg eb, ef, dot_comb_l fi fj (vb b hb).1, d i b o1 hb, d j b o2 hb, if_neg (fun q => eb q.symm), ea]; omega
        · by_cases eb : b = i
          · rw [if_neg ea, if_pos eb, ev, dot_comb_r lj li (fb a ha).1, d a j ha o2, d a i ha o1, if_neg ea, eb]; omega
          · rw [if_neg ea, if_neg eb]; exact d a b ha hb
    · rw [if_neg c]; exact h
theorem fr_units {n : Nat} : FrOk n (unitsL n) (unitsL n) := by
  have b : ∀ k, k < n → Bd n 99 (tk (unitsL n) k) := fun k hk => by
    rw [tk_units hk]
    exact ⟨unit_len, fun j => by rw [at_unit]; split <;> decide⟩
  refine ⟨units_len, units_len, b, b, fun i j hi hj => ?_⟩
  rw [tk_units hi, tk_units hj, dot_unit hi unit_len, at_unit]
  by_cases e : i = j
  · rw [if_pos e, if_pos ⟨hi, e⟩]
  · rw [if_neg e, if_neg (fun q => e q.2)]
theorem fr_ok {n m : Nat} (hn : 0 < n) {s : Stm} (hs : SOk m s) : ∀ k, FrOk n (frN n s k).1 (frN n s k).2.1 ∧ SOk (m + 3 * k) (frN n s k).2.2
  | 0 => ⟨fr_units, hs⟩
  | k + 1 => by
    obtain ⟨h1, h2⟩ := fr_ok hn hs k
    refine ⟨fr_step hn h1, ?_⟩
    have : (frStep n (frN n s k)).2.2 = drS (fr2 n (frN n s k).2.2) 4 := by
      unfold frStep
      split
      · rfl
      · split <;> rfl
    show SOk _ (frStep n (frN n s k)).2.2
    rw [this]
    exact sok_dr 4 (sok_dr n (sok_dr n h2))
/-! ### moduli -/
def modMenu : List Int := [1, 1, 2, 3, 4, 6, 0, 12, 5, 9, 30, 720720]
def modV (s : Stm) : Int := modMenu.getD (drV s 12).toNat 0
def modL (s : Stm) (n : Nat) : List Int := (List.range n).map fun k => modV (stN s 12 k)
theorem modV_rng (s : Stm) : 0 ≤ modV s ∧ modV s ≤ 720720 := by
  unfold modV
  obtain ⟨h0, h1⟩ := drV_rng s (show (0 : Int) < 12 by decide)
  generalize drV s 12 = v at h0 h1
  obtain ⟨j, rfl⟩ := Int.eq_ofNat_of_zero_le h0
  rw [Int.toNat_natCast]
  have : j < 12 := by omega
  have all : ∀ j, j < 12 → 0 ≤ modMenu.getD j 0 ∧ modMenu.getD j 0 ≤ 720720 := by decide
  exact all j this
def timesL (ms : List Int) (V : List Vc) : List Vc := ((List.zip ms V).filter fun p => decide (p.1 ≠ 0)).map fun p => scaleL p.1 p.2
end K87

namespace K87
open PySem PySem.Spec PyProof.Rows L2 DL
open PySem.Builtin.Int (intBits)
theorem fst_spec : ∀ {v : Vc} {p : Nat}, fstN v = some p → p < v.length ∧ at_ v p ≠ 0 ∧ ∀ j, j < p → at_ v j = 0
  | [], p, h => nomatch h
  | x :: v, p, h => by
    have h : (if x ≠ 0 then some 0 else (fstN v).map (· + 1)) = some p := h
    by_cases z : x = 0
    · rw [if_neg (fun q => q z)] at h
      cases e : fstN v with
      | none => rw [e] at h; cases h
      | some q =>
        rw [e] at h
        have hp : q + 1 = p := Option.some.inj h
        obtain ⟨h1, h2, h3⟩ := fst_spec e
        subst hp
        refine ⟨by simp; exact h1, h2, fun j hj => ?_⟩
        cases j with
        | zero => exact z
        | succ j => exact h3 j (by omega)
    · rw [if_pos z] at h
      have hp : 0 = p := Option.some.inj h
      subst hp
      exact ⟨by simp, z, fun j hj => absurd hj (Nat.not_lt_zero _)⟩
theorem comb_sub {k l : Int} {f g : Vc} : (List.zip f g).map (fun p => k * p.1 - l * p.2) = combL k f (-l) g := by
  unfold combL
  exact List.map_congr_left fun p _ => by rw [Int.neg_mul]; omega
/-- products of moduli -/
def grt (ms : List Int) : Nat → Int
  | 0 => 1
  | k + 1 => grt ms k * (if ms.getD k 0 > 1 then ms.getD k 0 else 1)
def zeroF (F : List Vc) (ms : List Int) : List Vc := ((List.zip F ms).filter fun p => decide (p.2 = 0)).map (·.1)
def dueR (G : Int) (cr : Vc → Vc) (zs : List (Vc × Int)) : List Vc := (zs.filter fun p => decide (p.2 > 0)).map fun p => scaleL (G.fdiv p.2) (cr p.1)
end K87

namespace K87
open PySem PySem.Spec PyProof.Rows L2 DL
open PySem.Builtin.Int (intBits)
/-! ### a lattice restricted by an observation -/
theorem cop_dvd {m v : Int} (hm : 0 < m) (hv : 0 < v) (a : Int) : m ∣ a * v ↔ m.fdiv (gcdL [m, v]) ∣ a := by
  have g1 : gcdL [m, v] ∣ m := gcdL_mem (by simp)
  have g2 : gcdL [m, v] ∣ v := gcdL_mem (by simp)
  have gp : 0 < gcdL [m, v] := by
    have := gcdL_nn [m, v]
    rcases Int.lt_or_eq_of_le this with h | h
    · exact h
    · rw [← h] at g1
      have := Int.zero_dvd.mp g1
      omega
  obtain ⟨k, hk⟩ := g1
  obtain ⟨w, hw⟩ := g2
  have ek : m.fdiv (gcdL [m, v]) = k := by
    rw [Int.fdiv_eq_ediv_of_nonneg _ (by omega)]
    generalize gcdL [m, v] = g at *
    rw [hk]; exact Int.mul_ediv_cancel_left _ (by omega)
  rw [ek]
  have cop : ∀ d : Int, d ∣ k → d ∣ w → d ∣ 1 := fun d h1 h2 => by
    have : gcdL [m, v] * d ∣ gcdL [m, v] := gcdL_dvd.mpr fun x hx => by
      simp only [List.mem_cons, List.not_mem_nil, or_false] at hx
      rcases hx with e | e
      · have q := Int.mul_dvd_mul_left (gcdL [m, v]) h1
        rw [← hk] at q; rw [e]; exact q
      · have q := Int.mul_dvd_mul_left (gcdL [m, v]) h2
        rw [← hw] at q; rw [e]; exact q
    have t : gcdL [m, v] * d ∣ gcdL [m, v] * 1 := by rw [Int.mul_one]; exact this
    exact Int.dvd_of_mul_dvd_mul_left (by omega) t
  generalize gcdL [m, v] = g at *
  have e1 : a * v = g * (a * w) := by rw [hw]; grind
  rw [e1, hk]
  constructor
  · intro h
    have h2 : k ∣ a * w := Int.dvd_of_mul_dvd_mul_left (by omega) h
    have nc : Nat.Coprime k.natAbs w.natAbs := by
      have d1 : ((Nat.gcd k.natAbs w.natAbs : Nat) : Int) ∣ k := Int.ofNat_dvd_left.mpr (Nat.gcd_dvd_left _ _)
      have d2 : ((Nat.gcd k.natAbs w.natAbs : Nat) : Int) ∣ w := Int.ofNat_dvd_left.mpr (Nat.gcd_dvd_right _ _)
      have := cop _ d1 d2
      have := Int.ofNat_dvd.mp (show ((Nat.gcd k.natAbs w.natAbs : Nat) : Int) ∣ ((1 : Nat) : Int) from this)
      exact Nat.dvd_one.mp this
    have h3 : k.natAbs ∣ a.natAbs * w.natAbs := by rw [← Int.natAbs_mul]; exact Int.natAbs_dvd_natAbs.mpr h2
    exact Int.natAbs_dvd_natAbs.mp (nc.dvd_of_dvd_mul_right h3)
  · intro h
    exact Int.mul_dvd_mul_left _ (Int.dvd_mul_of_dvd_left h)
/-- what restrict meets -/
def RestC (n : Nat) (B : List Vc) (f : Vc) (m : Int) (B' : List Vc) : Prop := ∃ (rs : List Vc) (tp : Option Vc) (v : Int), SpRun n f B [] none 0 rs tp v ∧ rs.length ≤ B.length ∧ (v = 0 → B' = B) ∧
      (v ≠ 0 → ∃ (t' : Vc) (E : Ec), tp = some t' ∧ t'.length = n ∧ (m > 0 → GRun [m, v] 0 (gcdL [m, v]) ∧ gcdL [m, v] ≠ 0 ∧ ∀ x ∈ t', IntMulOk (m.fdiv (gcdL [m, v])) x) ∧ HRun n (rsRows rs m v t') [] E ∧ EOk n E ∧ (∀ p r, gE E p = some r → LowOk n E p r) ∧ B' = hermF n E)
theorem rest_ex {n s F μ t : Nat} {S : Fv → Prop} {B : List Vc} {f : Vc} {m : Int} (hn : n ≤ 7) (hB : HB n S B) (hb : ∀ r ∈ B, Bd n (2 ^ s) r) (hf : Bd n (2 ^ F) f) (m0 : 0 ≤ m) (hm : m.natAbs ≤ 2 ^ μ)
    (ht : s + (s + F + 7) * B.length + s + F + 10 + μ ≤ t) (hF : Fits n t) (ht2 : t + 10 < 60000000) :
    ∃ B', RestC n B f m B' ∧ HB n (fun u => S u ∧ m ∣ val n f u) B' := by
  have fv : ∀ r ∈ B, Bd n (2 ^ s) r ∧ (dotL f r).natAbs ≤ 2 ^ (s + F + 4) := fun r hr => ⟨hb r hr, by
    refine Nat.le_trans (val_abs hf (hb r hr)) ?_
    rw [← Nat.pow_add]
    refine Nat.le_trans (Nat.mul_le_mul_right _ (show n ≤ 2 ^ 4 by omega)) ?_
    rw [← Nat.pow_add]
    exact pow_mono2 (by omega)⟩
  have ar : (s + F + 4 + 3) * B.length = (s + F + 7) * B.length := rfl
  obtain ⟨nw, tp, v, run, hl, h0, htp, hnone, hsp⟩ := sp_ex (F := s + F + 4) (s := s) hf.1 B [] none 0 s (Nat.le_refl s) fv (fun t h => nomatch h) (fun _ => rfl) (by rw [ar]; omega)
  rw [ar] at h0 htp
  rw [List.nil_append] at run hsp
  have tl : ∀ t, tp = some t → t.length = n ∧ dotL f t = v ∧ 0 < v := fun t h => ⟨(htp t h).b.1, (htp t h).hv, (htp t h).pos⟩
  have key := fun u => restrict_lat hf.1 hsp (fun r hr => ⟨(h0 r hr).1.1, (h0 r hr).2⟩) tl u
  cases htpc : tp with
  | none =>
    have v0 : v = 0 := hnone htpc
    refine ⟨B, ⟨nw, none, v, by rw [htpc] at run; exact run, hl, fun _ => rfl, fun h => absurd v0 h⟩, hB.cong fun u => ?_⟩
    have k := (key u).1 htpc
    exact ⟨fun h => ⟨h, by rw [k.2 ((hB.lat u).mpr h)]; exact Int.dvd_zero m⟩, fun h => h.1⟩
  | some top =>
    obtain ⟨t1, t2, t3⟩ := tl top htpc
    have tk := htp top htpc
    have hg := cop_dvd (m := m) (v := v)
    have eb := fun r hr => (h0 r hr).1
    generalize hee : s + (s + F + 7) * B.length = e at *
    have ml : m.natAbs ≤ 2 ^ (μ + s + F + 4) := Nat.le_trans hm (pow_mono2 (by omega))
    have vl : v.natAbs ≤ 2 ^ (μ + s + F + 4) := Nat.le_trans tk.le (pow_mono2 (by omega))
    have grun : GRun [m, v] 0 (gcdL [m, v]) := grun_ex (k := μ + s + F + 4) (by omega) [m, v] 0 (Int.le_refl 0) (by simp) (fun x hx => by
      simp only [List.mem_cons, List.not_mem_nil, or_false] at hx
      rcases hx with rfl | rfl
      · exact ml
      · exact vl)
    have gne : gcdL [m, v] ≠ 0 := fun z => by
      have := gcdL_zero.mp z v (by simp)
      omega
    have kl : (m.fdiv (gcdL [m, v])).natAbs ≤ 2 ^ μ := Nat.le_trans (natAbs_fdiv_le m _) hm
    have rb : ∀ r ∈ rsRows nw m v top, Bd n (2 ^ t) r := fun r hr => by
      unfold rsRows at hr
      split at hr
      · rcases List.mem_append.mp hr with hr | hr
        · exact (eb r hr).mono (pow_mono2 (by omega))
        · rw [List.mem_singleton.mp hr]
          refine ⟨by rw [scale_len]; exact t1, fun j => ?_⟩
          rw [at_scale, Int.natAbs_mul]
          refine Nat.le_trans (Nat.mul_le_mul kl (tk.b.2 j)) ?_
          rw [← Nat.pow_add]
          exact pow_mono2 (by omega)
      · exact (eb r hr).mono (pow_mono2 (by omega))
    obtain ⟨E, hr, hE, hL, hech, hlat⟩ := herm_ok hn hF rb
    refine ⟨hermF n E, ⟨nw, some top, v, by rw [htpc] at run; exact run, hl, fun z => by omega, fun _ => ⟨top, E, rfl, t1, fun mp => ⟨grun, gne, fun x hx => ?_⟩, hr, hE, hL, rfl⟩⟩, ⟨E, hech, rfl, fun u => (hlat u).trans ?_⟩⟩
    · refine (sm_pow (s := μ) (by omega) kl).mul ?_
      exact (tk.b.vn (fun x hx => sm_pow (s := e) (by omega) hx)).2 x hx
    · have k := (key u).2 top htpc
      unfold rsRows
      by_cases mp : m > 0
      · rw [if_pos mp]
        have gd : gcdL [m, v] ∣ m := gcdL_mem (by simp)
        have gnn := gcdL_nn [m, v]
        have em : m = m.fdiv (gcdL [m, v]) * gcdL [m, v] := by
          rw [Int.fdiv_eq_ediv_of_nonneg _ gnn]
          exact (Int.ediv_mul_cancel gd).symm
        rw [← k.2 m _ _ mp em (fun a => hg mp t3 a), hB.lat]
      · rw [if_neg mp]
        have : m = 0 := by omega
        rw [← k.1, hB.lat, this, Int.zero_dvd]
/-! ### kernels -/
def vcOf (n : Nat) (f : Fv) : Vc := (List.range n).map f
theorem vcOf_len {n : Nat} {f : Fv} : (vcOf n f).length = n := by unfold vcOf; rw [List.length_map, List.length_range]
theorem at_vcOf {n : Nat} {f : Fv} (j : Nat) : at_ (vcOf n f) j = if j < n then f j else 0 := by
  unfold at_ vcOf
  rw [List.getD_eq_getElem?_getD, List.getElem?_map]
  by_cases h : j < n
  · rw [List.getElem?_range h, if_pos h]; rfl
  · rw [List.getElem?_eq_none (by rw [List.length_range]; omega), if_neg h]; rfl
def Zn (n : Nat) (u : Fv) : Prop := ∀ j, n ≤ j → u j = 0
theorem zn_at {n : Nat} {v : Vc} (h : v.length = n) : Zn n (at_ v) := fun j hj => at_out (by omega)
/-- the vectors at which the forms are 0 -/
def ker (n : Nat) (B : List Vc) (u : Fv) : Prop := Zn n u ∧ ∀ b ∈ B, val n b u = 0
theorem val_congr {n : Nat} {f : Vc} {u v : Fv} (h : ∀ j, j < n → u j = v j) : val n f u = val n f v := sm_congr fun p hp => by rw [h p hp]
theorem val_zero {n : Nat} {f : Vc} : val n f (fun _ => 0) = 0 := sm_zero fun p _ => by show at_ f p * 0 = 0; omega
/-- 0 at the free columns: 0 -/
theorem tri_zero {n : Nat} {B : List Vc} {pv : Nat → Nat} (h : RB n B pv) {u : Fv} (hz : Zn n u) {k : Nat} (hk : k ≤ B.length) (hv : ∀ i, i < k → val n (tk B i) u = 0) (hf : ∀ j, (∀ i, i < k → pv i ≠ j) → u j = 0) (j : Nat) : u j = 0 := by
  have piv : ∀ d i, i < k → k - i ≤ d → u (pv i) = 0 := by
    intro d
    induction d with
    | zero => intro i hi hd; omega
    | succ d ih =>
      intro i hi hd
      have e := hv i hi
      unfold val at e
      rw [sm_one (c := pv i) (h.lt i (by omega)) (fun p hp hne => by
        by_cases z : ∃ i', i' < k ∧ pv i' = p
        · obtain ⟨i', hi', rfl⟩ := z
          rcases Nat.lt_trichotomy i' i with q | q | q
          · show at_ (tk B i) (pv i') * _ = 0
            rw [h.zero i (pv i') (by omega) (h.mono i' i q (by omega)), Int.zero_mul]
          · subst q; exact absurd rfl hne
          · show _ * u (pv i') = 0
            rw [ih i' hi' (by omega), Int.mul_zero]
        · show _ * u p = 0
          rw [hf p (fun i' hi' q => z ⟨i', hi', q⟩), Int.mul_zero])] at e
      rcases Int.mul_eq_zero.mp e with q | q
      · have := h.pos i (by omega); omega
      · exact q
  by_cases z : ∃ i, i < k ∧ pv i = j
  · obtain ⟨i, hi, rfl⟩ := z
    exact piv k i hi (by omega)
  · exact hf j fun i hi q => z ⟨i, hi, q⟩
/-- one kernel vector for each free column -/
theorem ker_vec {n e k : Nat} {B : List Vc} {pv : Nat → Nat} (h : RB n B pv) (hb : ∀ r ∈ B, Bd n (2 ^ e) r) (hn : n ≤ 15) (hk : k ≤ B.length) {c : Nat} (hc : c < n) (hfree : ∀ i, i < k → pv i ≠ c) :
    ∃ w : Vc, Bd n (2 ^ (k * (e + 5))) w ∧ ker n (B.take k) (at_ w) ∧ at_ w c ≠ 0 ∧ ∀ j, j ≠ c → (∀ i, i < k → pv i ≠ j) → at_ w j = 0 := by
  have tb : ∀ i, i < k → Bd n (2 ^ e) (tk B i) := fun i hi => hb _ (tk_mem (by omega))
  let col := fun i => if i < k then pv i else c
  obtain ⟨x, hx0, hxb, hx⟩ := siegel k (2 ^ e) (one_pow2 e) (fun i l => if i < k then at_ (tk B i) (col l) else 0) (fun i l => by
    show (if i < k then at_ (tk B i) (col l) else 0).natAbs ≤ _
    split
    · rename_i z; exact (tb i z).2 _
    · simp)
  have mono : ∀ i j, i < j → j < k → pv i < pv j := fun i j h1 h2 => h.mono i j h1 (by omega)
  have inj : ∀ i j, i ≤ k → j ≤ k → col i = col j → i = j := fun i j hi hj q => by
    show i = j
    have q2 : (if i < k then pv i else c) = (if j < k then pv j else c) := q
    by_cases h1 : i < k
    · by_cases h2 : j < k
      · rw [if_pos h1, if_pos h2] at q2
        rcases Nat.lt_trichotomy i j with r | r | r
        · have := mono i j r h2; omega
        · exact r
        · have := mono j i r h1; omega
      · rw [if_pos h1, if_neg h2] at q2
        exact absurd q2 (hfree i h1)
    · by_cases h2 : j < k
      · rw [if_neg h1, if_pos h2] at q2
        exact absurd q2.symm (hfree j h2)
      · omega
  have clt : ∀ i, i ≤ k → col i < n := fun i hi => by
    show (if i < k then pv i else c) < n
    split
    · rename_i z; exact h.lt i (by omega)
    · exact hc
  -- the vector with x at the columns
  let g : Fv := fun j => sm (k + 1) (fun l => if col l = j then x l else 0)
  have gcol : ∀ l, l < k + 1 → g (col l) = x l := fun l hl => by
    show sm (k + 1) (fun l' => if col l' = col l then x l' else 0) = x l
    rw [sm_one (c := l) hl (fun p hp hne => by
      show (if col p = col l then x p else 0) = 0
      rw [if_neg (fun q => hne (inj p l (by omega) (by omega) q))])]
    show (if col l = col l then x l else 0) = x l
    rw [if_pos rfl]
  have gout : ∀ j, (∀ l, l < k + 1 → col l ≠ j) → g j = 0 := fun j hj => sm_zero fun l hl => by
    show (if col l = j then x l else 0) = 0
    rw [if_neg (hj l hl)]
  have gbd : ∀ j, (g j).natAbs ≤ 2 ^ (k * (e + 5)) := fun j => by
    by_cases z : ∃ l, l < k + 1 ∧ col l = j
    · obtain ⟨l, hl, rfl⟩ := z
      rw [gcol l hl]
      refine Nat.le_trans (hxb l) ?_
      by_cases k0 : k = 0
      · subst k0; rw [Nat.zero_mul, Nat.pow_zero, Nat.pow_zero]; exact Nat.le_refl _
      · have hkn : k ≤ 15 := by
          have := h.lt (k - 1) (by omega)
          have : ∀ i, i < k → i ≤ pv i := fun i => by
            induction i with
            | zero => intro _; omega
            | succ i ih => intro hi; have := ih (by omega); have := mono i (i + 1) (by omega) hi; omega
          have := this (k - 1) (by omega)
          omega
        refine Nat.le_trans (Nat.pow_le_pow_left (Nat.mul_le_mul_right _ (show 2 * (k + 1) ≤ 2 ^ 5 by omega)) k) ?_
        rw [← Nat.pow_add, ← Nat.pow_mul]
        refine pow_mono2 ?_
        rw [Nat.mul_comm, Nat.add_comm 5 e]
        exact Nat.le_refl _
    · rw [gout j fun l hl q => z ⟨l, hl, q⟩]; simp
  have vg : ∀ i, i < k → val n (tk B i) g = 0 := fun i hi => by
    rw [← hx i hi]
    unfold val
    -- exchange the sums
    have sw : ∀ m, sm m (fun j => at_ (tk B i) j * g j) = sm (k + 1) (fun l => sm m (fun j => at_ (tk B i) j * (if col l = j then x l else 0))) := fun m => by
      induction m with
      | zero => exact (sm_zero fun l _ => rfl).symm
      | succ m ih =>
        show sm m _ + _ = _
        rw [ih]
        have l1 := sm_lin 1 (at_ (tk B i) m) (fun l => sm m (fun j => at_ (tk B i) j * (if col l = j then x l else 0))) (fun l => if col l = m then x l else 0) (k + 1)
        have e1 : sm (k + 1) (fun l => sm (m + 1) (fun j => at_ (tk B i) j * (if col l = j then x l else 0))) = sm (k + 1) (fun p => 1 * (sm m (fun j => at_ (tk B i) j * (if col p = j then x p else 0))) + at_ (tk B i) m * (if col p = m then x p else 0)) := sm_congr fun p _ => by
          show sm m (fun j => at_ (tk B i) j * (if col p = j then x p else 0)) + at_ (tk B i) m * (if col p = m then x p else 0) = _
          rw [Int.one_mul]
        rw [e1, l1, Int.one_mul]
    rw [sw n]
    exact sm_congr fun l hl => by
      have cl := clt l (by omega)
      rw [sm_one (c := col l) cl (fun p hp hne => by
        show _ * (if col l = p then x l else 0) = 0
        rw [if_neg (fun q => hne q.symm), Int.mul_zero])]
      show at_ (tk B i) (col l) * (if col l = col l then x l else 0) = (if i < k then at_ (tk B i) (col l) else 0) * x l
      rw [if_pos rfl, if_pos hi]
  have ck : col k = c := by show (if k < k then pv k else c) = c; rw [if_neg (Nat.lt_irrefl k)]
  have eat : ∀ j, at_ (vcOf n g) j = g j := fun j => by
    rw [at_vcOf]
    split
    · rfl
    · exact (gout j fun l hl q => by have := clt l (by omega); omega).symm
  refine ⟨vcOf n g, ⟨vcOf_len, fun j => by rw [eat]; exact gbd j⟩, ⟨zn_at vcOf_len, fun b hbb => ?_⟩, fun z => ?_, fun j hj hf => ?_⟩
  · obtain ⟨i, hi, rfl⟩ := tk_ex hbb
    have hik : i < k := by rw [List.length_take] at hi; omega
    have et : tk (B.take k) i = tk B i := by unfold tk; rw [List.getD_eq_getElem?_getD, List.getD_eq_getElem?_getD, List.getElem?_take_of_lt hik]
    rw [et, val_congr (v := g) (fun j _ => eat j)]
    exact vg i hik
  · rw [eat] at z
    have all := tri_zero h (u := g) (fun j hj => gout j fun l hl q => by have := clt l (by omega); omega) hk vg (fun j hj => by
      by_cases q : j = c
      · rw [q]; exact z
      · exact gout j fun l hl q2 => by
          have q3 : (if l < k then pv l else c) = j := q2
          split at q3
          · rename_i w; exact hj l w q3
          · exact q q3.symm)
    obtain ⟨l, hl, hne⟩ := hx0
    exact hne (by rw [← gcol l hl]; exact all _)
  · rw [eat]
    exact gout j fun l hl q => by
      have q3 : (if l < k then pv l else c) = j := q
      split at q3
      · rename_i w; exact hf l w q3
      · exact hj q3.symm
end K87

namespace K87
open PySem PySem.Spec PyProof.Rows L2 DL
open PySem.Builtin.Int (intBits)
theorem sm_swap (f : Nat → Nat → Int) (n : Nat) : ∀ m, sm n (fun j => sm m (fun l => f l j)) = sm m (fun l => sm n (fun j => f l j))
  | 0 => sm_zero fun p _ => rfl
  | m + 1 => by
    have l := sm_lin 1 1 (fun j => sm m (fun l => f l j)) (fun j => f m j) n
    have e : sm n (fun j => sm (m + 1) (fun l => f l j)) = sm n (fun p => 1 * sm m (fun l => f l p) + 1 * f m p) := sm_congr fun p _ => by
      show sm m (fun l => f l p) + f m p = _
      rw [Int.one_mul, Int.one_mul]
    rw [e, l, sm_swap f n m, Int.one_mul, Int.one_mul]; rfl
theorem sm_mul (k : Int) (f : Fv) (n : Nat) : sm n (fun p => k * f p) = k * sm n f := by
  have := sm_lin k 0 f (fun _ => 0) n
  rw [sm_congr (g := fun p => k * f p + 0 * 0) (fun p _ => by show k * f p = _; omega), this]; omega
theorem val_comm {n : Nat} (f g : Vc) : val n f (at_ g) = val n g (at_ f) := sm_congr fun p _ => Int.mul_comm _ _
/-! ### a chain of restrictions -/
theorem chain_ex {n N s F μ t : Nat} {S : Nat → Fv → Prop} {B0 : List Vc} {f : Nat → Vc} {m : Nat → Int} (hn : n ≤ 7) (h0 : HB n (S 0) B0) (hs : ∀ k, k < N → ∀ u, S (k + 1) u ↔ S k u ∧ m k ∣ val n (f k) u)
    (hb : ∀ k, k < N → ∀ X, HB n (S k) X → ∀ r ∈ X, Bd n (2 ^ s) r) (hf : ∀ k, k < N → Bd n (2 ^ F) (f k)) (hm : ∀ k, k < N → 0 ≤ m k ∧ (m k).natAbs ≤ 2 ^ μ)
    (ht : s + (s + F + 7) * n + s + F + 10 + μ ≤ t) (hF : Fits n t) (ht2 : t + 10 < 60000000) :
    ∃ R : Nat → List Vc, R 0 = B0 ∧ (∀ k, k ≤ N → HB n (S k) (R k)) ∧ ∀ k, k < N → RestC n (R k) (f k) (m k) (R (k + 1)) := by
  have step : ∀ k X, k < N → HB n (S k) X → ∃ Y, RestC n X (f k) (m k) Y ∧ HB n (S (k + 1)) Y := fun k X hk hX => by
    have hl : (s + F + 7) * X.length ≤ (s + F + 7) * n := Nat.mul_le_mul_left _ hX.le
    obtain ⟨Y, h1, h2⟩ := rest_ex hn hX (hb k hk X hX) (hf k hk) (hm k hk).1 (hm k hk).2 (t := t) (by omega) hF ht2
    exact ⟨Y, h1, h2.cong fun u => (hs k hk u).symm⟩
  have all : ∀ k, k ≤ N → ∃ X, HB n (S k) X := fun k => by
    induction k with
    | zero => intro _; exact ⟨B0, h0⟩
    | succ k ih =>
      intro hk
      obtain ⟨X, hX⟩ := ih (by omega)
      obtain ⟨Y, _, hY⟩ := step k X (by omega) hX
      exact ⟨Y, hY⟩
  have ch : ∃ R : Nat → List Vc, ∀ k, k ≤ N → HB n (S k) (R k) := by
    have : ∀ k, ∃ X, k ≤ N → HB n (S k) X := fun k => by
      by_cases h : k ≤ N
      · obtain ⟨X, hX⟩ := all k h
        exact ⟨X, fun _ => hX⟩
      · exact ⟨[], fun z => absurd z h⟩
    exact ⟨fun k => Classical.choose (this k), fun k hk => Classical.choose_spec (this k) hk⟩
  obtain ⟨R, hR⟩ := ch
  refine ⟨R, (hR 0 (Nat.zero_le _)).uniq h0, hR, fun k hk => ?_⟩
  obtain ⟨Y, h1, h2⟩ := step k (R k) hk (hR k (by omega))
  rw [(hR (k + 1) hk).uniq h2]; exact h1
/-! ### ranks -/
theorem ind_snoc {T : List Vc} {v : Vc} (h : Ind T) (hv : ¬ ∃ N : Int, N ≠ 0 ∧ Lat (Gr T) (fun j => N * at_ v j)) : Ind (T ++ [v]) := fun a ha k hk => by
  have t1 : ∀ i, i < T.length → tk (T ++ [v]) i = tk T i := fun i hi => by
    unfold tk; rw [List.getD_eq_getElem?_getD, List.getD_eq_getElem?_getD, List.getElem?_append_left hi]
  have t2 : tk (T ++ [v]) T.length = v := by
    unfold tk; rw [List.getD_eq_getElem?_getD, List.getElem?_append_right (Nat.le_refl _), Nat.sub_self]; rfl
  have hs : ∀ j, lc T T.length a j + a T.length * at_ v j = 0 := fun j => by
    have := ha j
    have e2 : lc (T ++ [v]) (T ++ [v]).length a j = sm (T.length + 1) (fun k => a k * at_ (tk (T ++ [v]) k) j) := by rw [List.length_append]; rfl
    rw [e2] at this
    have e3 : sm (T.length + 1) (fun k => a k * at_ (tk (T ++ [v]) k) j) = sm T.length (fun k => a k * at_ (tk (T ++ [v]) k) j) + a T.length * at_ (tk (T ++ [v]) T.length) j := rfl
    rw [e3, t2, sm_congr (g := fun k => a k * at_ (tk T k) j) (fun p hp => by show a p * _ = a p * _; rw [t1 p hp])] at this
    exact this
  have az : a T.length = 0 := by
    apply Classical.byContradiction
    intro q
    exact hv ⟨a T.length, q, ((lc_lat (a := a) (Nat.le_refl T.length)).lin2 Lat.zero (-1) 0).eq fun j => by have := hs j; omega⟩
  have hT := h a fun j => by have := hs j; rw [az] at this; omega
  rw [List.length_append] at hk
  by_cases q : k < T.length
  · exact hT k q
  · have : k = T.length := by have : [v].length = 1 := rfl; omega
    rw [this]; exact az
section
variable {n : Nat} {S S' : Fv → Prop} {B X : List Vc}
theorem HB.rk (a : HB n S B) : ∃ E, Ech n E ∧ B.length = rkE n E ∧ ∀ u, Lat (GE E) u ↔ S u := by
  obtain ⟨E, h1, rfl, l1⟩ := a.ex
  exact ⟨E, h1, by rw [hermF_z, List.length_map]; rfl, l1⟩
theorem HB.rank_le (a : HB n S B) {T : List Vc} (hT : Ind T) (h : ∀ t ∈ T, S (at_ t)) : T.length ≤ B.length := by
  obtain ⟨E, h1, e, l⟩ := a.rk
  rw [e]; exact ind_le h1 hT fun t ht => (l _).mpr (h t ht)
theorem HB.rank_ge (a : HB n S B) {T : List Vc} (h : Com (Gr T) S) : B.length ≤ T.length := by
  obtain ⟨E, h1, e, l⟩ := a.rk
  rw [e]; exact ind_ge h1 (h.mono fun u hu => (l u).mp hu)
theorem HB.com (a : HB n S B) {T : List Vc} (hT : Ind T) (h : ∀ t ∈ T, S (at_ t)) (hl : T.length = B.length) : Com (Gr T) S := fun u hu => by
  apply Classical.byContradiction
  intro q
  have e : at_ (vcOf n u) = u := by
    funext j
    rw [at_vcOf]
    split
    · rfl
    · exact (a.zn hu (by omega)).symm
  have hi := ind_snoc (v := vcOf n u) hT (by rw [e]; exact q)
  have := a.rank_le hi (fun t ht => by
    rcases List.mem_append.mp ht with ht | ht
    · exact h t ht
    · rw [List.mem_singleton.mp ht, e]; exact hu)
  rw [List.length_append] at this
  have : [vcOf n u].length = 1 := rfl
  omega
theorem RB.ind {pv : Nat → Nat} (h : RB n B pv) : Ind B := fun a ha => by
  have key : ∀ k, k < B.length → (∀ i, i < k → a i = 0) → a k = 0 := fun k hk hz => by
    have := ha (pv k)
    unfold lc at this
    rw [sm_one (c := k) hk (fun p hp hne => by
      by_cases q : p < k
      · show a p * _ = 0; rw [hz p q, Int.zero_mul]
      · show _ * at_ (tk B p) (pv k) = 0
        rw [h.zero p (pv k) hp (h.mono k p (by omega) hp), Int.mul_zero])] at this
    have hp := h.pos k hk
    rcases Int.mul_eq_zero.mp this with q | q
    · exact q
    · omega
  intro k
  induction k using Nat.strongRecOn with
  | ind k ih => exact fun hk => key k hk fun i hi => ih i hi (by omega)
end
theorem lat_zn {n : Nat} {W : List Vc} (h : ∀ w ∈ W, w.length = n) {l : Fv} (hl : Lat (Gr W) l) : Zn n l := by
  induction hl with
  | zero => exact fun _ _ => rfl
  | @add v g q _ hg ih =>
    obtain ⟨w, hw, rfl⟩ := hg
    intro j hj
    show v j + q * at_ w j = 0
    rw [ih j hj, at_out (by rw [h w hw]; exact hj)]; omega
theorem filt_len {α : Type} (p : α → Bool) : ∀ l : List α, (l.filter p).length + (l.filter fun c => !p c).length = l.length
  | [] => rfl
  | x :: l => by
    have ih := filt_len p l
    rw [List.filter_cons, List.filter_cons]
    cases h : p x <;> simp [h] <;> omega
/-! ### the kernel of reduced rows -/
theorem ker_free {n e k : Nat} {B : List Vc} {pv : Nat → Nat} (h : RB n B pv) (hb : ∀ r ∈ B, Bd n (2 ^ e) r) (hn : n ≤ 15) (hk : k ≤ B.length) :
    ∃ W : List Vc, W.length + k = n ∧ (∀ w ∈ W, Bd n (2 ^ (k * (e + 5))) w ∧ ker n (B.take k) (at_ w)) ∧ Ind W ∧ Com (Gr W) (ker n (B.take k)) := by
  let fr := fun c => decide (∀ i, i < k → pv i ≠ c)
  have frs : ∀ c, fr c = true ↔ ∀ i, i < k → pv i ≠ c := fun c => decide_eq_true_iff
  let cs := (List.range n).filter fr
  have ex : ∀ c, ∃ w : Vc, c ∈ cs → Bd n (2 ^ (k * (e + 5))) w ∧ ker n (B.take k) (at_ w) ∧ at_ w c ≠ 0 ∧ ∀ j, j ≠ c → (∀ i, i < k → pv i ≠ j) → at_ w j = 0 := fun c => by
    by_cases hc : c ∈ cs
    · have h1 := List.mem_filter.mp hc
      obtain ⟨w, hw⟩ := ker_vec h hb hn hk (List.mem_range.mp h1.1) ((frs c).mp h1.2)
      exact ⟨w, fun _ => hw⟩
    · exact ⟨[], fun z => absurd z hc⟩
  let wf := fun c => Classical.choose (ex c)
  have ws : ∀ c, c ∈ cs → Bd n (2 ^ (k * (e + 5))) (wf c) ∧ ker n (B.take k) (at_ (wf c)) ∧ at_ (wf c) c ≠ 0 ∧ ∀ j, j ≠ c → (∀ i, i < k → pv i ≠ j) → at_ (wf c) j = 0 := fun c => Classical.choose_spec (ex c)
  have nd : cs.Nodup := List.filter_sublist.nodup List.nodup_range
  have tkw : ∀ l, l < cs.length → tk (cs.map wf) l = wf (cs.getD l 0) := fun l hl => by
    unfold tk
    rw [List.getD_eq_getElem?_getD, List.getD_eq_getElem?_getD, List.getElem?_map, List.getElem?_eq_getElem hl]; rfl
  have cmem : ∀ l, l < cs.length → cs.getD l 0 ∈ cs := fun l hl => by
    rw [List.getD_eq_getElem?_getD, List.getElem?_eq_getElem hl]; exact List.getElem_mem hl
  have cfree : ∀ c, c ∈ cs → ∀ i, i < k → pv i ≠ c := fun c hc => (frs c).mp (List.mem_filter.mp hc).2
  have cinj : ∀ l l', l < cs.length → l' < cs.length → cs.getD l 0 = cs.getD l' 0 → l = l' := fun l l' h1 h2 q => by
    rw [List.getD_eq_getElem?_getD, List.getD_eq_getElem?_getD, List.getElem?_eq_getElem h1, List.getElem?_eq_getElem h2] at q
    exact (List.getElem_inj nd).mp q
  have pinj : ∀ i j, i < k → j < k → pv i = pv j → i = j := fun i j hi hj q => by
    rcases Nat.lt_trichotomy i j with r | r | r
    · have := h.mono i j r (by omega); omega
    · exact r
    · have := h.mono j i r (by omega); omega
  have clen : cs.length + k = n := by
    have p1 : ((List.range n).filter fun c => !fr c).Perm ((List.range k).map pv) := by
      refine (List.perm_ext_iff_of_nodup (List.filter_sublist.nodup List.nodup_range) ?_).mpr fun c => ?_
      · refine List.pairwise_map.mpr (List.Pairwise.imp_of_mem (R := (· < ·)) ?_ List.pairwise_lt_range)
        intro a b ha hb hab q
        have := pinj a b (List.mem_range.mp ha) (List.mem_range.mp hb) q
        omega
      · rw [List.mem_filter, List.mem_range, List.mem_map]
        constructor
        · rintro ⟨hc, hf⟩
          have : ¬ ∀ i, i < k → pv i ≠ c := fun z => by
            have := (frs c).mpr z
            rw [this] at hf; cases hf
          apply Classical.byContradiction
          intro z
          exact this fun i hi q => z ⟨i, List.mem_range.mpr hi, q⟩
        · rintro ⟨i, hi, rfl⟩
          have hi := List.mem_range.mp hi
          refine ⟨h.lt i (by omega), ?_⟩
          have : ¬ fr (pv i) = true := fun z => (frs _).mp z i hi rfl
          simp [this]
    have p2 := p1.length_eq
    rw [List.length_map, List.length_range] at p2
    have p3 := filt_len fr (List.range n)
    rw [List.length_range] at p3
    show ((List.range n).filter fr).length + k = n
    omega
  refine ⟨cs.map wf, by rw [List.length_map]; exact clen, fun w hw => ?_, fun a ha l hl => ?_, fun u hu => ?_⟩
  · obtain ⟨c, hc, rfl⟩ := List.mem_map.mp hw
    exact ⟨(ws c hc).1, (ws c hc).2.1⟩
  · rw [List.length_map] at hl
    have e1 := ha (cs.getD l 0)
    unfold lc at e1
    rw [List.length_map] at e1
    rw [sm_one (c := l) hl (fun p hp hne => by
      show a p * at_ (tk (cs.map wf) p) (cs.getD l 0) = 0
      rw [tkw p hp, (ws _ (cmem p hp)).2.2.2 _ (fun q => hne (cinj l p hl hp q).symm) (cfree _ (cmem l hl)), Int.mul_zero]), tkw l hl] at e1
    rcases Int.mul_eq_zero.mp e1 with q | q
    · exact q
    · exact absurd q (ws _ (cmem l hl)).2.2.1
  · -- clear the free columns one by one
    have step : ∀ d, d ≤ n → ∃ (N : Int) (l : Fv), N ≠ 0 ∧ Lat (Gr (cs.map wf)) l ∧ ∀ j, j < d → (∀ i, i < k → pv i ≠ j) → N * u j - l j = 0 := fun d => by
      induction d with
      | zero => exact fun _ => ⟨1, fun _ => 0, by decide, .zero, fun j hj => absurd hj (Nat.not_lt_zero _)⟩
      | succ d ih =>
        intro hd
        obtain ⟨N, l, hN, hl, hz⟩ := ih (by omega)
        by_cases hf : ∀ i, i < k → pv i ≠ d
        · have hc : d ∈ cs := List.mem_filter.mpr ⟨List.mem_range.mpr (by omega), (frs d).mpr hf⟩
          obtain ⟨_, _, w1, w2⟩ := ws d hc
          have hw : Lat (Gr (cs.map wf)) (at_ (wf d)) := .of ⟨_, List.mem_map_of_mem hc, rfl⟩
          refine ⟨at_ (wf d) d * N, fun j => at_ (wf d) d * l j + (N * u d - l d) * at_ (wf d) j, Int.mul_ne_zero w1 hN, hl.lin2 hw _ _, fun j hj hfj => ?_⟩
          by_cases q : j = d
          · subst q; grind
          · show at_ (wf d) d * N * u j - (at_ (wf d) d * l j + (N * u d - l d) * at_ (wf d) j) = 0
            rw [w2 j q hfj]
            have := hz j (by omega) hfj
            have e : at_ (wf d) d * N * u j - (at_ (wf d) d * l j + (N * u d - l d) * 0) = at_ (wf d) d * (N * u j - l j) := by grind
            rw [e, this, Int.mul_zero]
        · exact ⟨N, l, hN, hl, fun j hj hfj => by
            by_cases q : j = d
            · subst q; exact absurd hfj hf
            · exact hz j (by omega) hfj⟩
    obtain ⟨N, l, hN, hl, hz⟩ := step n (Nat.le_refl n)
    have kl : ker n (B.take k) l := by
      refine ⟨fun j hj => ?_, fun b hb' => ?_⟩
      · exact lat_zn (W := cs.map wf) (fun w hw => by
          obtain ⟨c, hc, rfl⟩ := List.mem_map.mp hw
          exact (ws c hc).1.1) hl j hj
      · refine val_lat hl (S := fun x => x = 0) rfl (fun a b k ha hb => by rw [ha, hb]; omega) fun g hg => ?_
        obtain ⟨w, hw, rfl⟩ := hg
        obtain ⟨c, hc, rfl⟩ := List.mem_map.mp hw
        exact (ws c hc).2.1.2 b hb'
    refine ⟨N, hN, hl.eq fun j => ?_⟩
    have dz := tri_zero h (u := fun j => N * u j + (-1) * l j) (fun j hj => by show N * u j + (-1) * l j = 0; rw [hu.1 j hj, kl.1 j hj]; omega) hk (fun i hi => by
      have hm : tk B i ∈ B.take k := by
        have : tk B i = (B.take k)[i]'(by rw [List.length_take]; omega) := by
          unfold tk; rw [List.getD_eq_getElem?_getD, List.getElem?_eq_getElem (show i < B.length by omega), List.getElem_take]; rfl
        rw [this]; exact List.getElem_mem _
      rw [val_lin n (tk B i) N (-1) u l _ (fun j => rfl), hu.2 _ hm, kl.2 _ hm]; omega) (fun j hj => by
      show N * u j + (-1) * l j = 0
      by_cases q : j < n
      · have := hz j q hj; omega
      · rw [hu.1 j (by omega), kl.1 j (by omega)]; omega) j
    have : N * u j + (-1) * l j = 0 := dz
    omega
end K87

namespace K87
open PySem PySem.Spec PyProof.Rows L2 DL
open PySem.Builtin.Int (intBits)
/-! ### reduced rows are a basis -/
theorem RB.inj {n : Nat} {B : List Vc} {pv : Nat → Nat} (h : RB n B pv) {i j : Nat} (hi : i < B.length) (hj : j < B.length) (q : pv i = pv j) : i = j := by
  rcases Nat.lt_trichotomy i j with r | r | r
  · have := h.mono i j r hj; omega
  · exact r
  · have := h.mono j i r hi; omega
theorem rb_hb {n : Nat} {B : List Vc} {pv : Nat → Nat} (h : RB n B pv) : HB n (Lat (Gr B)) B := by
  let E : Ec := (List.range B.length).map fun k => (pv k, tk B k)
  have mem : ∀ q ∈ E, ∃ k, k < B.length ∧ q = (pv k, tk B k) := fun q hq => by
    obtain ⟨k, hk, rfl⟩ := List.mem_map.mp hq
    exact ⟨k, List.mem_range.mp hk, rfl⟩
  have g1 : ∀ p r, gE E p = some r → ∃ k, k < B.length ∧ pv k = p ∧ tk B k = r := fun p r hg => by
    unfold gE at hg
    obtain ⟨q, hq, rfl⟩ := Option.map_eq_some_iff.mp hg
    obtain ⟨k, hk, e⟩ := mem q (List.mem_of_find?_eq_some hq)
    have := List.find?_some hq
    exact ⟨k, hk, by rw [← of_decide_eq_true this, e], by rw [e]⟩
  have g2 : ∀ k, k < B.length → gE E (pv k) = some (tk B k) := fun k hk => by
    cases e : gE E (pv k) with
    | none =>
      unfold gE at e
      have := Option.map_eq_none_iff.mp e
      rw [List.find?_eq_none] at this
      exact absurd (decide_eq_true rfl) (this (pv k, tk B k) (List.mem_map.mpr ⟨k, List.mem_range.mpr hk, rfl⟩))
    | some r =>
      obtain ⟨k', hk', q1, q2⟩ := g1 _ _ e
      have := h.inj hk' hk q1
      subst this
      rw [q2]
  have ech : Ech n E := by
    refine ⟨⟨?_, fun q hq => ?_⟩, fun p r hg => ?_⟩
    · have : E.map (·.1) = (List.range B.length).map pv := by show List.map _ (List.map _ _) = _; rw [List.map_map]; rfl
      rw [this]
      refine List.pairwise_map.mpr (List.Pairwise.imp_of_mem (R := (· < ·)) ?_ List.pairwise_lt_range)
      intro a b ha hb hab q
      have := h.inj (List.mem_range.mp ha) (List.mem_range.mp hb) q
      omega
    · obtain ⟨k, hk, rfl⟩ := mem q hq
      exact h.lt k hk
    · obtain ⟨k, hk, rfl, rfl⟩ := g1 p r hg
      exact ⟨h.len k hk, h.lt k hk, fun j hj => h.zero k j hk hj, h.pos k hk⟩
  have ks : keysE n E = (List.range B.length).map pv := by
    refine List.Perm.eq_of_pairwise (le := (· < ·)) (fun a b _ _ h1 h2 => by omega) (List.Pairwise.filter _ (List.pairwise_lt_range (n := n))) ?_ ?_
    · refine List.pairwise_map.mpr (List.Pairwise.imp_of_mem (R := (· < ·)) ?_ List.pairwise_lt_range)
      intro a b ha hb hab
      exact h.mono a b hab (List.mem_range.mp hb)
    · refine (List.perm_ext_iff_of_nodup (List.filter_sublist.nodup List.nodup_range) ?_).mpr fun p => ?_
      · refine List.pairwise_map.mpr (List.Pairwise.imp_of_mem (R := (· < ·)) ?_ List.pairwise_lt_range)
        intro a b ha hb hab q
        have := h.inj (List.mem_range.mp ha) (List.mem_range.mp hb) q
        omega
      · show p ∈ keysE n E ↔ _
        rw [mem_keysE ech, List.mem_map]
        constructor
        · rintro ⟨r, hr⟩
          obtain ⟨k, hk, q, _⟩ := g1 p r hr
          exact ⟨k, List.mem_range.mpr hk, q⟩
        · rintro ⟨k, hk, rfl⟩
          exact ⟨_, g2 k (List.mem_range.mp hk)⟩
  have zr : ∀ k, k < B.length → zrow n E (pv k) = tk B k := fun k hk => by
    have z := zrow_ok ech (g2 k hk)
    obtain ⟨u, hu, hd⟩ := z.d
    have small := ge_small ech (gec_ge hu) fun q r hg => by
      obtain ⟨i, hi, rfl, rfl⟩ := g1 q r hg
      have e := hd (pv i)
      have pos := h.pos i hi
      by_cases c : pv i ≤ pv k
      · rw [z.lo _ c] at e
        have : u (pv i) = 0 := by omega
        rw [this]; simp; omega
      · have hik : k < i := by
          apply Classical.byContradiction
          intro q
          rcases Nat.lt_or_ge i k with w | w
          · have := h.mono i k w hk; omega
          · have : i = k := by omega
            subst this; omega
        have a := z.hi _ _ (by omega) hg
        have b := h.red k i hik hi
        omega
    refine vc_ext z.l (h.len k hk) fun j _ => ?_
    rw [hd j, small j]; omega
  have hF : hermF n E = B := by
    rw [hermF_z, ks, List.map_map]
    apply List.ext_getElem
    · rw [List.length_map, List.length_range]
    · intro k h1 h2
      rw [List.getElem_map, List.getElem_range]
      show zrow n E (pv k) = _
      rw [zr k h2]
      unfold tk
      rw [List.getD_eq_getElem?_getD, List.getElem?_eq_getElem h2]; rfl
  refine ⟨E, ech, hF.symm, fun u => ?_⟩
  constructor
  · intro hu
    exact hu.mono fun g ⟨p, r, hg, e⟩ => by
      obtain ⟨k, hk, _, rfl⟩ := g1 p r hg
      exact ⟨_, tk_mem hk, e⟩
  · intro hu
    exact hu.mono fun g ⟨r, hr, e⟩ => by
      obtain ⟨k, hk, rfl⟩ := tk_ex hr
      exact ⟨pv k, _, g2 k hk, e⟩
theorem rb_units (n : Nat) : RB n (unitsL n) id := by
  refine ⟨fun k hk => ?_, fun k hk => ?_, fun i j hij _ => hij, fun k j hk hj => ?_, fun k hk => ?_, fun i k hik hk => ?_⟩
  all_goals (rw [units_len] at hk)
  · rw [tk_units hk]; exact unit_len
  · exact hk
  · rw [tk_units hk, at_unit, if_neg]; intro q; have h2 : j < k := hj; omega
  · rw [tk_units hk, at_unit]; show 0 < if k < n ∧ k = k then (1 : Int) else 0; rw [if_pos ⟨hk, rfl⟩]; decide
  · rw [tk_units (show i < n by omega), tk_units hk, at_unit, at_unit]
    show 0 ≤ (if k < n ∧ k = i then (1 : Int) else 0) ∧ (if k < n ∧ k = i then (1 : Int) else 0) < if k < n ∧ k = k then (1 : Int) else 0
    rw [if_neg (by omega), if_pos ⟨hk, rfl⟩]; decide
theorem units_lat {n : Nat} (u : Fv) : Lat (Gr (unitsL n)) u ↔ Zn n u := by
  constructor
  · exact lat_zn fun w hw => by
      obtain ⟨k, hk, rfl⟩ := tk_ex hw
      rw [units_len] at hk
      rw [tk_units hk]; exact unit_len
  · intro hz
    have := lc_lat (T := unitsL n) (a := u) (m := n) (by rw [units_len]; exact Nat.le_refl n)
    refine this.eq fun j => ?_
    unfold lc
    by_cases hj : j < n
    · rw [sm_one (c := j) hj (fun p hp hne => by
        show u p * _ = 0
        rw [tk_units hp, at_unit, if_neg (fun q => hne q.2.symm), Int.mul_zero])]
      rw [tk_units hj, at_unit, if_pos ⟨hj, rfl⟩, Int.mul_one]
    · rw [hz j (by omega)]
      exact sm_zero fun p hp => by
        show u p * _ = 0
        rw [tk_units hp, at_unit, if_neg (fun q => hj q.1), Int.mul_zero]
theorem units_hb (n : Nat) : HB n (Zn n) (unitsL n) := (rb_hb (rb_units n)).cong units_lat
theorem units_bd {n : Nat} : ∀ r ∈ unitsL n, Bd n (2 ^ 0) r := fun r hr => by
  obtain ⟨k, hk, rfl⟩ := tk_ex hr
  rw [units_len] at hk
  rw [tk_units hk]
  exact ⟨unit_len, fun j => by rw [at_unit]; split <;> decide⟩
/-! ### annihilators -/
def kbk (n k e : Nat) : Nat := 2 * ((n - k) * (k * (e + 5) + 5)) + 4
/-- the room for the annihilator of N rows of e bits -/
def AnnFit (n N e : Nat) : Prop := n ≤ 7 ∧ N ≤ n ∧ ∃ s t, (∀ k, k < N → kbk n k e ≤ s) ∧ s + (s + e + 7) * n + s + e + 10 ≤ t ∧ Fits n t ∧ t + 10 < 60000000
theorem ker_take_succ {n k : Nat} {B : List Vc} (hk : k < B.length) (u : Fv) : ker n (B.take (k + 1)) u ↔ ker n (B.take k) u ∧ 0 ∣ val n (tk B k) u := by
  have e : B.take (k + 1) = B.take k ++ [tk B k] := by
    rw [List.take_add_one, List.getElem?_eq_getElem hk]
    unfold tk; rw [List.getD_eq_getElem?_getD, List.getElem?_eq_getElem hk]; rfl
  rw [e, Int.zero_dvd]
  constructor
  · intro h
    exact ⟨⟨h.1, fun b hb => h.2 b (List.mem_append_left _ hb)⟩, h.2 _ (by simp)⟩
  · intro h
    refine ⟨h.1.1, fun b hb => ?_⟩
    rcases List.mem_append.mp hb with hb | hb
    · exact h.1.2 b hb
    · rw [List.mem_singleton.mp hb]; exact h.2
theorem ker_hb {n e k : Nat} {B X : List Vc} {pv : Nat → Nat} (hn : n ≤ 7) (h : RB n B pv) (hb : ∀ r ∈ B, Bd n (2 ^ e) r) (hk : k ≤ B.length) (hX : HB n (ker n (B.take k)) X) : X.length + k = n ∧ ∀ r ∈ X, Bd n (2 ^ kbk n k e) r := by
  obtain ⟨W, w1, w2, w3, w4⟩ := ker_free h hb (by omega) hk
  have a := hX.rank_le w3 fun t ht => (w2 t ht).2
  have b := hX.rank_ge w4
  refine ⟨by omega, fun r hr => (hX.bd (by omega) ⟨W, fun r hr => w2 r hr, w4⟩ hr).mono (pow_mono2 ?_)⟩
  have e1 : X.length = n - k := by omega
  unfold bb kbk
  rw [e1]
  exact Nat.le_refl _
theorem ann_ex {n e : Nat} {B : List Vc} {pv : Nat → Nat} (h : RB n B pv) (hb : ∀ r ∈ B, Bd n (2 ^ e) r) (hf : AnnFit n B.length e) :
    ∃ R : Nat → List Vc, R 0 = unitsL n ∧ (∀ k, k ≤ B.length → HB n (ker n (B.take k)) (R k) ∧ (R k).length + k = n ∧ ∀ r ∈ R k, Bd n (2 ^ kbk n k e) r) ∧ ∀ k, k < B.length → RestC n (R k) (tk B k) 0 (R (k + 1)) := by
  obtain ⟨hn, hN, s, t, hs, ht, hF, ht2⟩ := hf
  obtain ⟨R, h0, h1, h2⟩ := chain_ex (N := B.length) (s := s) (F := e) (μ := 0) (t := t) (S := fun k => ker n (B.take k)) (B0 := unitsL n) (f := fun k => tk B k) (m := fun _ => 0) hn
    ((units_hb n).cong fun u => ⟨fun hz => ⟨hz, fun b hb => by rw [List.take_zero] at hb; exact absurd hb (List.not_mem_nil)⟩, fun hk => hk.1⟩) (fun k hk u => ker_take_succ hk u) (fun k hk X hX r hr => ((ker_hb hn h hb (by omega) hX).2 r hr).mono (pow_mono2 (hs k hk))) (fun k hk => hb _ (tk_mem hk)) (fun k _ => ⟨Int.le_refl 0, by simp⟩) (by omega) hF ht2
  exact ⟨R, h0, fun k hk => ⟨h1 k hk, ker_hb hn h hb hk (h1 k hk)⟩, h2⟩
/-! ### twice -/
theorem ker_lat {n : Nat} {B : List Vc} {u : Fv} (h : ker n B u) {g : Fv} (hg : Lat (Gr B) g) : sm n (fun j => g j * u j) = 0 := by
  induction hg with
  | zero => exact sm_zero fun p _ => by show 0 * u p = 0; rw [Int.zero_mul]
  | @add v g k _ hg ih =>
    obtain ⟨b, hb, rfl⟩ := hg
    have l := sm_lin 1 k (fun j => v j * u j) (fun j => at_ b j * u j) n
    have e : sm n (fun j => (v j + k * at_ b j) * u j) = sm n (fun p => 1 * (v p * u p) + k * (at_ b p * u p)) := sm_congr fun p _ => by grind
    show sm n (fun j => (v j + k * at_ b j) * u j) = 0
    rw [e, l, ih]
    have := h.2 b hb
    unfold val at this
    rw [this]; omega
section
variable {n : Nat} {L : Fv → Prop} {B Ex St : List Vc} {pv : Nat → Nat}
/-- the rows are in the kernel of the kernel -/
theorem in_kerker (hB : HB n L B) (hE : HB n (ker n B) Ex) {u : Fv} (hu : L u) : ker n Ex u := by
  refine ⟨fun j hj => hB.zn hu hj, fun g hg => ?_⟩
  have := ker_lat (hE.mem hg) ((hB.lat u).mpr hu)
  unfold val
  rw [← this]
  exact sm_congr fun p _ => Int.mul_comm _ _
theorem kerker_com (hB : HB n L B) (hE : HB n (ker n B) Ex) (hS : HB n (ker n Ex) St) (h1 : Ex.length + B.length = n) (h2 : St.length + Ex.length = n) (hr : RB n B pv) : Com (Gr B) (ker n Ex) :=
  hS.com hr.ind (fun t ht => in_kerker hB hE (hB.mem ht)) (by omega)
theorem kerker_ker (hB : HB n L B) (hE : HB n (ker n B) Ex) (hS : HB n (ker n Ex) St) (hc : Com (Gr B) (ker n Ex)) (g : Fv) : ker n St g ↔ ker n B g := by
  constructor
  · intro h
    refine ⟨h.1, fun b hb => ?_⟩
    have := ker_lat h ((hS.lat _).mpr (in_kerker hB hE (hB.mem hb)))
    exact this
  · intro h
    refine ⟨h.1, fun s hs => ?_⟩
    obtain ⟨N, hN, hl⟩ := hc _ (hS.mem hs)
    have := ker_lat h hl
    have e : sm n (fun j => N * at_ s j * g j) = N * val n s g := by
      unfold val
      rw [← sm_mul]
      exact sm_congr fun p _ => by rw [Int.mul_assoc]
    rw [e] at this
    rcases Int.mul_eq_zero.mp this with q | q
    · exact absurd q hN
    · exact q
end
end K87

namespace K87
open PySem PySem.Spec PyProof.Rows L2 DL
open PySem.Builtin.Int (intBits)
/-! ### sums of products -/
def pr2 (n : Nat) (y u : Fv) : Int := sm n fun j => y j * u j
theorem val_pr {n : Nat} {f : Vc} {u : Fv} : val n f u = pr2 n (at_ f) u := rfl
theorem pr2_comm {n : Nat} (y u : Fv) : pr2 n y u = pr2 n u y := sm_congr fun p _ => Int.mul_comm _ _
theorem pr2_lin {n : Nat} {y u v w : Fv} {a b : Int} (h : ∀ j, w j = a * u j + b * v j) : pr2 n y w = a * pr2 n y u + b * pr2 n y v := by
  unfold pr2
  rw [← sm_lin]
  exact sm_congr fun p _ => by rw [h]; grind
theorem pr2_lat {n : Nat} {y : Fv} {d : Int} {G : Fv → Prop} (hG : ∀ g, G g → d ∣ pr2 n y g) {u : Fv} (h : Lat G u) : d ∣ pr2 n y u := by
  induction h with
  | zero =>
    have : pr2 n y (fun _ => 0) = 0 := sm_zero fun p _ => by show y p * 0 = 0; omega
    rw [this]; exact Int.dvd_zero d
  | @add u g k _ hg ih =>
    rw [pr2_lin (u := u) (v := g) (a := 1) (b := k) fun j => by show u j + k * g j = _; omega]
    exact Int.dvd_add (by rw [Int.one_mul]; exact ih) (Int.dvd_mul_of_dvd_right (hG g hg))
theorem pr2_sum {n m : Nat} {y : Fv} (a : Nat → Int) (f : Nat → Fv) : pr2 n y (fun j => sm m fun k => a k * f k j) = sm m fun k => a k * pr2 n y (f k) := by
  unfold pr2
  have e : sm n (fun j => y j * sm m fun k => a k * f k j) = sm n (fun j => sm m fun k => y j * (a k * f k j)) := sm_congr fun j _ => (sm_mul _ _ _).symm
  rw [e, sm_swap]
  exact sm_congr fun k _ => by
    rw [← sm_mul]
    exact sm_congr fun j _ => by grind
/-- a sum over some columns -/
theorem sm_cols {n : Nat} {cs : List Nat} (nd : cs.Nodup) (hc : ∀ c ∈ cs, c < n) {f : Fv} (hf : ∀ j, j < n → j ∉ cs → f j = 0) : sm n f = sm cs.length fun l => f (cs.getD l 0) := by
  have mem : ∀ l, l < cs.length → cs.getD l 0 ∈ cs := fun l hl => by
    rw [List.getD_eq_getElem?_getD, List.getElem?_eq_getElem hl]; exact List.getElem_mem hl
  have e : sm n f = sm n (fun j => sm cs.length fun l => if cs.getD l 0 = j then f (cs.getD l 0) else 0) := sm_congr fun j hj => by
    by_cases h : j ∈ cs
    · obtain ⟨l, hl, e⟩ := List.getElem_of_mem h
      have e2 : cs.getD l 0 = j := by rw [List.getD_eq_getElem?_getD, List.getElem?_eq_getElem hl]; exact e
      rw [sm_one (c := l) hl (fun p hp hne => by
        show (if cs.getD p 0 = j then f (cs.getD p 0) else 0) = 0
        rw [if_neg fun q => hne ?_]
        rw [List.getD_eq_getElem?_getD, List.getElem?_eq_getElem hp] at q
        have : cs[p] = cs[l] := by rw [e]; exact q
        exact (List.getElem_inj nd).mp this)]
      show f j = if cs.getD l 0 = j then f (cs.getD l 0) else 0
      rw [if_pos e2, e2]
    · rw [hf j hj h]
      exact (sm_zero fun l hl => by
        show (if cs.getD l 0 = j then f (cs.getD l 0) else 0) = 0
        rw [if_neg fun q => h (by rw [← q]; exact mem l hl)]).symm
  rw [e, sm_swap]
  exact sm_congr fun l hl => by
    rw [sm_one (c := cs.getD l 0) (hc _ (mem l hl)) (fun p hp hne => by
      show (if cs.getD l 0 = p then f (cs.getD l 0) else 0) = 0
      rw [if_neg fun q => hne q.symm])]
    show (if cs.getD l 0 = cs.getD l 0 then f (cs.getD l 0) else 0) = _
    rw [if_pos rfl]
/-! ### square reduced rows -/
theorem sq_piv {r : Nat} {X : List Vc} {pv : Nat → Nat} (h : RB r X pv) (hl : X.length = r) {k : Nat} (hk : k < r) : pv k = k := by
  have lo : ∀ k, k < r → k ≤ pv k := fun k => by
    induction k with
    | zero => intro _; omega
    | succ k ih => intro hk; have := ih (by omega); have := h.mono k (k + 1) (by omega) (by omega); omega
  have hi : ∀ d, d < r → pv (r - 1 - d) + d ≤ r - 1 := fun d => by
    induction d with
    | zero => intro _; have := h.lt (r - 1) (by omega); rw [Nat.sub_zero]; omega
    | succ d ih =>
      intro hd
      have := ih (by omega)
      have := h.mono (r - 1 - (d + 1)) (r - 1 - d) (by omega) (by omega)
      omega
  have a := lo k hk
  have b := hi (r - 1 - k) (by omega)
  rw [show r - 1 - (r - 1 - k) = k by omega] at b
  omega
def tailP (X : List Vc) (r : Nat) : Nat → Int
  | 0 => 1
  | d + 1 => at_ (tk X (r - 1 - d)) (r - 1 - d) * tailP X r d
theorem tail_prod (X : List Vc) (r : Nat) : ∀ d, d ≤ r → prodD X r = prodD X (r - d) * tailP X r d
  | 0, _ => by show _ = _ * 1; rw [Int.mul_one, Nat.sub_zero]
  | d + 1, h => by
    rw [tail_prod X r d (by omega)]
    have e : r - d = (r - (d + 1)) + 1 := by omega
    have e2 : r - 1 - d = r - (d + 1) := by omega
    rw [e]
    show prodD X (r - (d + 1)) * at_ (tk X (r - (d + 1))) (r - (d + 1)) * tailP X r d = prodD X (r - (d + 1)) * (at_ (tk X (r - 1 - d)) (r - 1 - d) * tailP X r d)
    rw [e2, Int.mul_assoc]
section
variable {r : Nat} {X : List Vc} {pv : Nat → Nat}
theorem kill_ex (h : RB r X pv) (hl : X.length = r) : ∀ d, d ≤ r → ∀ v : Fv, Zn r v → (∀ j, j < r - d → v j = 0) → Lat (Gr X) fun j => tailP X r d * v j := by
  intro d
  induction d with
  | zero =>
    intro _ v hz h0
    refine Lat.zero.eq fun j => ?_
    show (0 : Int) = 1 * v j
    by_cases hj : j < r
    · rw [h0 j (by omega)]; omega
    · rw [hz j (by omega)]; omega
  | succ d ih =>
    intro hd v hz h0
    have hk : r - 1 - d < r := by omega
    have pk := sq_piv h hl hk
    generalize hkk : r - 1 - d = k at hk pk
    have rz := h.zero k
    have rl := h.len k (by omega)
    have hw := ih (by omega) (fun j => at_ (tk X k) k * v j + (-(v k)) * at_ (tk X k) j) (fun j hj => by
      show at_ (tk X k) k * v j + (-(v k)) * at_ (tk X k) j = 0
      rw [hz j hj, at_out (v := tk X k) (j := j) (by rw [rl]; exact hj)]; omega) (fun j hj => by
      show at_ (tk X k) k * v j + (-(v k)) * at_ (tk X k) j = 0
      by_cases e : j = k
      · subst e; grind
      · rw [h0 j (by omega), rz j (by omega) (by rw [pk]; omega)]; omega)
    have hr : Lat (Gr X) (at_ (tk X k)) := .of ⟨_, tk_mem (by omega), rfl⟩
    refine lat2 (a := 1) (b := tailP X r d * v k) hw hr fun j => ?_
    show tailP X r (d + 1) * v j = _
    have : tailP X r (d + 1) = at_ (tk X k) k * tailP X r d := by show at_ (tk X (r - 1 - d)) (r - 1 - d) * _ = _; rw [hkk]
    rw [this]; grind
theorem kill (h : RB r X pv) (hl : X.length = r) {v : Fv} (hz : Zn r v) : Lat (Gr X) fun j => prodD X r * v j := by
  have := kill_ex h hl r (Nat.le_refl r) v hz fun j hj => by omega
  have e := tail_prod X r r (Nat.le_refl r)
  rw [Nat.sub_self] at e
  have e2 : prodD X r = tailP X r r := by rw [e]; show 1 * _ = _; rw [Int.one_mul]
  rw [e2]; exact this
theorem prod_pos (h : RB r X pv) (hl : X.length = r) : ∀ k, k ≤ r → 0 < prodD X k
  | 0, _ => by show (0 : Int) < 1; omega
  | k + 1, hk => by
    have := h.pos k (by omega)
    rw [sq_piv h hl (by omega)] at this
    exact Int.mul_pos (prod_pos h hl k (by omega)) this
def eu (r j : Nat) : Fv := fun i => if i < r ∧ i = j then 1 else 0
/-- what is whole at all vectors that are whole at the rows is a sum of the rows -/
theorem dbl_dual (h : RB r X pv) (hl : X.length = r) {v : Fv} (hz : Zn r v) (hd : ∀ y : Fv, Zn r y → (∀ m, m < r → prodD X r ∣ pr2 r (at_ (tk X m)) y) → prodD X r ∣ pr2 r y v) : Lat (Gr X) v := by
  have D0 := prod_pos h hl r (Nat.le_refl r)
  generalize hD : prodD X r = D at hd D0
  have ea : ∀ j, ∃ a : Nat → Int, ∀ i, D * eu r j i = sm r fun k => a k * at_ (tk X k) i := fun j => by
    have := kill h hl (v := eu r j) fun i hi => by show (if i < r ∧ i = j then (1 : Int) else 0) = 0; rw [if_neg fun q => by omega]
    rw [hD] at this
    obtain ⟨a, ha⟩ := lat_lc this
    exact ⟨a, fun i => by rw [ha i]; unfold lc; rw [hl]⟩
  let a := fun j => Classical.choose (ea j)
  have as : ∀ j i, D * eu r j i = sm r fun k => a j k * at_ (tk X k) i := fun j => Classical.choose_spec (ea j)
  let Y : Nat → Fv := fun k j => if j < r then a j k else 0
  have zY : ∀ k, Zn r (Y k) := fun k j hj => by show (if j < r then a j k else 0) = 0; rw [if_neg (by omega)]
  -- any vector times D by the rows
  have exp : ∀ (w : Fv), Zn r w → ∀ i, D * w i = sm r fun k => pr2 r (Y k) w * at_ (tk X k) i := fun w hw i => by
    have e1 : (sm r fun k => pr2 r (Y k) w * at_ (tk X k) i) = sm r fun k => sm r fun j => (Y k j * w j) * at_ (tk X k) i := sm_congr fun k _ => by
      rw [Int.mul_comm]; unfold pr2; rw [← sm_mul]
      exact sm_congr fun j _ => Int.mul_comm _ _
    rw [e1, sm_swap]
    have e2 : (sm r fun l => sm r fun j => Y j l * w l * at_ (tk X j) i) = sm r fun l => w l * (D * eu r l i) := sm_congr fun l hlr => by
      rw [as l i, ← sm_mul]
      exact sm_congr fun k _ => by
        show (if l < r then a l k else 0) * w l * _ = _
        rw [if_pos hlr]; grind
    rw [e2]
    by_cases hi : i < r
    · rw [sm_one (c := i) hi (fun p hp hne => by
        show w p * (D * (if i < r ∧ i = p then 1 else 0)) = 0
        rw [if_neg fun q => hne q.2.symm]; omega)]
      show D * w i = w i * (D * (if i < r ∧ i = i then 1 else 0))
      rw [if_pos ⟨hi, rfl⟩]; grind
    · rw [hw i (by omega)]
      exact (sm_zero fun p hp => by
        show w p * (D * (if i < r ∧ i = p then 1 else 0)) = 0
        rw [if_neg fun q => hi q.1]; omega).symm |>.trans (by rfl) |> fun e => by rw [Int.mul_zero]; exact e
  have dY : ∀ k m, k < r → m < r → pr2 r (Y k) (at_ (tk X m)) = if k = m then D else 0 := fun k m hk hm => by
    have hx := exp (at_ (tk X m)) (fun j hj => at_out (by rw [h.len m (by omega)]; exact hj))
    have ind := h.ind (fun k => pr2 r (Y k) (at_ (tk X m)) - if k = m then D else 0) (fun i => by
      unfold lc
      rw [hl]
      have l := sm_lin 1 (-1) (fun k => pr2 r (Y k) (at_ (tk X m)) * at_ (tk X k) i) (fun k => (if k = m then D else 0) * at_ (tk X k) i) r
      have e : (sm r fun k => (pr2 r (Y k) (at_ (tk X m)) - if k = m then D else 0) * at_ (tk X k) i) = sm r fun p => 1 * (pr2 r (Y p) (at_ (tk X m)) * at_ (tk X p) i) + (-1) * ((if p = m then D else 0) * at_ (tk X p) i) := sm_congr fun p _ => by
        generalize (if p = m then D else 0) = z
        grind
      rw [e, l, ← hx i, sm_one (c := m) hm (fun p hp hne => by show (if p = m then D else 0) * _ = 0; rw [if_neg hne, Int.zero_mul])]
      show 1 * (D * at_ (tk X m) i) + -1 * ((if m = m then D else 0) * at_ (tk X m) i) = 0
      rw [if_pos rfl]; omega) k (by rw [hl]; exact hk)
    omega
  have hc : ∀ k, k < r → ∃ c, pr2 r (Y k) v = D * c := fun k hk => hd (Y k) (zY k) fun m hm => by
    rw [pr2_comm, dY k m hk hm]
    split
    · exact Int.dvd_refl D
    · exact Int.dvd_zero D
  let c := fun k => if hk : k < r then Classical.choose (hc k hk) else 0
  have cs : ∀ k, k < r → pr2 r (Y k) v = D * c k := fun k hk => by
    have := Classical.choose_spec (hc k hk)
    show _ = D * (if hk : k < r then Classical.choose (hc k hk) else 0)
    rw [dif_pos hk]; exact this
  have fin : ∀ i, v i = lc X r c i := fun i => by
    have e := exp v hz i
    have e2 : (sm r fun k => pr2 r (Y k) v * at_ (tk X k) i) = D * lc X r c i := by
      unfold lc
      rw [← sm_mul]
      exact sm_congr fun k hk => by rw [cs k hk, Int.mul_assoc]
    rw [e2] at e
    exact Int.eq_of_mul_eq_mul_left (by omega) e
  exact (lc_lat (T := X) (a := c) (m := r) (by omega)).eq fun i => (fin i).symm
end
end K87

namespace K87
open PySem PySem.Spec PyProof.Rows L2 DL
open PySem.Builtin.Int (intBits)
theorem pos_of {g x : Int} (hg : 0 < g) (h : 0 < g * x) : 0 < x := by
  rcases Int.lt_or_le 0 x with q | q
  · exact q
  · have := Int.mul_le_mul_of_nonneg_left q (show 0 ≤ g by omega)
    rw [Int.mul_zero] at this
    omega
/-! ### images by linear maps -/
structure Lin (T : Fv → Fv) : Prop where
  z : ∀ j, T (fun _ => 0) j = 0
  a : ∀ u g k j, T (fun i => u i + k * g i) j = T u j + k * T g j
theorem lat_map {T : Fv → Fv} (hT : Lin T) {B : List Vc} {f : Vc → Vc} (hf : ∀ b ∈ B, ∀ j, at_ (f b) j = T (at_ b) j) (v : Fv) : Lat (Gr (B.map f)) v ↔ ∃ u, Lat (Gr B) u ∧ ∀ j, v j = T u j := by
  constructor
  · intro h
    induction h with
    | zero => exact ⟨fun _ => 0, .zero, fun j => (hT.z j).symm⟩
    | @add v g k _ hg ih =>
      obtain ⟨u, hu, e⟩ := ih
      obtain ⟨r, hr, rfl⟩ := hg
      obtain ⟨b, hb, rfl⟩ := List.mem_map.mp hr
      exact ⟨fun i => u i + k * at_ b i, .add k hu ⟨b, hb, rfl⟩, fun j => by
        show v j + k * at_ (f b) j = _
        rw [hT.a, e j, hf b hb]⟩
  · rintro ⟨u, hu, e⟩
    have : v = T u := funext e
    rw [this]
    clear this e v
    induction hu with
    | zero => exact Lat.zero.eq fun j => (hT.z j).symm
    | @add u g k _ hg ih =>
      obtain ⟨b, hb, rfl⟩ := hg
      exact (Lat.add k ih (⟨f b, List.mem_map_of_mem hb, rfl⟩ : Gr (B.map f) (at_ (f b)))).eq fun j => by rw [hT.a, hf b hb]
theorem lin_scale (c : Int) : Lin fun u j => c * u j := ⟨fun j => by show c * 0 = 0; omega, fun u g k j => by show c * (u j + k * g j) = c * u j + k * (c * g j); grind⟩
/-! ### scaled bases -/
theorem tk_map {B : List Vc} {f : Vc → Vc} {k : Nat} (hk : k < B.length) : tk (B.map f) k = f (tk B k) := by
  unfold tk
  rw [List.getD_eq_getElem?_getD, List.getD_eq_getElem?_getD, List.getElem?_map, List.getElem?_eq_getElem hk]; rfl
theorem rb_scale {n : Nat} {B : List Vc} {pv : Nat → Nat} (h : RB n B pv) {c : Int} (hc : 0 < c) : RB n (B.map (scaleL c)) pv := by
  refine ⟨fun k hk => ?_, fun k hk => ?_, fun i j hij hj => ?_, fun k j hk hj => ?_, fun k hk => ?_, fun i k hik hk => ?_⟩
  all_goals first | rw [List.length_map] at hk | rw [List.length_map] at hj
  · rw [tk_map hk, scale_len]; exact h.len k hk
  · exact h.lt k hk
  · exact h.mono i j hij hj
  · rw [tk_map hk, at_scale, h.zero k j hk hj, Int.mul_zero]
  · rw [tk_map hk, at_scale]; exact Int.mul_pos hc (h.pos k hk)
  · rw [tk_map hk, tk_map (show i < B.length by omega), at_scale, at_scale]
    have := h.red i k hik hk
    exact ⟨Int.mul_nonneg (by omega) this.1, Int.mul_lt_mul_of_pos_left this.2 hc⟩
theorem hb_scale {n : Nat} {S : Fv → Prop} {B : List Vc} (hB : HB n S B) {c : Int} (hc : 0 < c) : HB n (fun u => ∃ v, S v ∧ ∀ j, u j = c * v j) (B.map (scaleL c)) := by
  obtain ⟨pv, h⟩ := hB.rb
  refine (rb_hb (rb_scale h hc)).cong fun u => (lat_map (lin_scale c) (fun b _ j => at_scale j) u).trans ?_
  exact ⟨fun ⟨v, hv, e⟩ => ⟨v, (hB.lat v).mp hv, e⟩, fun ⟨v, hv, e⟩ => ⟨v, (hB.lat v).mpr hv, e⟩⟩
def dvL (g : Int) (r : Vc) : Vc := r.map fun x => x.fdiv g
theorem at_dv {g : Int} {r : Vc} (hg : 0 < g) (h : ∀ x ∈ r, g ∣ x) (j : Nat) : at_ r j = g * at_ (dvL g r) j := by
  unfold at_ dvL
  rw [List.getD_eq_getElem?_getD, List.getD_eq_getElem?_getD, List.getElem?_map]
  by_cases hj : j < r.length
  · rw [List.getElem?_eq_getElem hj]
    show r[j] = g * (r[j].fdiv g)
    rw [Int.fdiv_eq_ediv_of_nonneg _ (by omega)]
    exact (Int.mul_ediv_cancel' (h _ (List.getElem_mem hj))).symm
  · rw [List.getElem?_eq_none (by omega)]; simp
theorem hb_div {n : Nat} {S : Fv → Prop} {B : List Vc} (hB : HB n S B) {g : Int} (hg : 0 < g) (hd : ∀ r ∈ B, ∀ x ∈ r, g ∣ x) : HB n (fun u => S fun j => g * u j) (B.map (dvL g)) := by
  obtain ⟨pv, h⟩ := hB.rb
  have ea : ∀ k, k < B.length → ∀ j, at_ (tk B k) j = g * at_ (dvL g (tk B k)) j := fun k hk j => at_dv hg (hd _ (tk_mem hk)) j
  have pos : ∀ x : Int, 0 < g * x → 0 < x := fun x hx => pos_of hg hx
  have rb : RB n (B.map (dvL g)) pv := by
    refine ⟨fun k hk => ?_, fun k hk => ?_, fun i j hij hj => ?_, fun k j hk hj => ?_, fun k hk => ?_, fun i k hik hk => ?_⟩
    all_goals first | rw [List.length_map] at hk | rw [List.length_map] at hj
    · rw [tk_map hk]; unfold dvL; rw [List.length_map]; exact h.len k hk
    · exact h.lt k hk
    · exact h.mono i j hij hj
    · rw [tk_map hk]
      have e := ea k hk j
      rw [h.zero k j hk hj] at e
      rcases Int.mul_eq_zero.mp e.symm with q | q
      · omega
      · exact q
    · rw [tk_map hk]
      have e := h.pos k hk
      rw [ea k hk] at e
      exact pos _ e
    · rw [tk_map hk, tk_map (show i < B.length by omega)]
      have e := h.red i k hik hk
      rw [ea k hk, ea i (by omega)] at e
      exact ⟨Int.le_of_mul_le_mul_left (by rw [Int.mul_zero]; exact e.1) hg, Int.lt_of_mul_lt_mul_left e.2 (by omega)⟩
  refine (rb_hb rb).cong fun u => ⟨fun hu => ?_, fun hu => ?_⟩
  · refine (hB.lat _).mp ?_
    induction hu with
    | zero => exact Lat.zero.eq fun j => by show (0 : Int) = g * 0; omega
    | @add v w k _ hw ih =>
      obtain ⟨r, hr, rfl⟩ := hw
      obtain ⟨b, hb, rfl⟩ := List.mem_map.mp hr
      exact (Lat.add k ih ⟨b, hb, rfl⟩).eq fun j => by
        show g * v j + k * at_ b j = g * (v j + k * at_ (dvL g b) j)
        rw [at_dv hg (hd b hb)]; grind
  · obtain ⟨a, ha⟩ := lat_lc ((hB.lat _).mpr hu)
    refine (lc_lat (T := B.map (dvL g)) (a := a) (m := B.length) (by rw [List.length_map]; exact Nat.le_refl _)).eq fun j => ?_
    have e := ha j
    have e2 : lc B B.length a j = g * lc (B.map (dvL g)) B.length a j := by
      unfold lc
      rw [← sm_mul]
      exact sm_congr fun k hk => by rw [ea k hk, tk_map hk]; grind
    rw [e2] at e
    exact (Int.eq_of_mul_eq_mul_left (by omega) e).symm
/-! ### common divisors taken out -/
theorem gcdL_scale {c : Int} (hc : 0 ≤ c) (xs : List Int) : gcdL (xs.map fun x => c * x) = c * gcdL xs := by
  by_cases c0 : c = 0
  · subst c0
    rw [Int.zero_mul]
    exact gcdL_zero.mpr fun x hx => by obtain ⟨y, _, rfl⟩ := List.mem_map.mp hx; omega
  · refine gcdL_of (Int.mul_nonneg hc (gcdL_nn xs)) (fun x hx => ?_) fun d hd => ?_
    · obtain ⟨y, hy, rfl⟩ := List.mem_map.mp hx
      exact Int.mul_dvd_mul_left _ (gcdL_mem hy)
    · -- c divides the divisor's multiple: take d' = gcd
      have h1 : c ∣ gcdL (xs.map fun x => c * x) := gcdL_dvd.mpr fun x hx => by
        obtain ⟨y, _, rfl⟩ := List.mem_map.mp hx
        exact Int.dvd_mul_right c y
      obtain ⟨q, hq⟩ := h1
      have h2 : q ∣ gcdL xs := gcdL_dvd.mpr fun y hy => by
        have : c * q ∣ c * y := by rw [← hq]; exact gcdL_mem (List.mem_map_of_mem hy)
        exact Int.dvd_of_mul_dvd_mul_left c0 this
      have h3 : d ∣ gcdL (xs.map fun x => c * x) := gcdL_dvd.mpr hd
      rw [hq] at h3
      exact Int.dvd_trans h3 (Int.mul_dvd_mul_left _ h2)
theorem fdiv_mul {g a : Int} (hg : 0 < g) (h : g ∣ a) : a = g * a.fdiv g := by
  rw [Int.fdiv_eq_ediv_of_nonneg _ (by omega)]; exact (Int.mul_ediv_cancel' h).symm
/-! ### the dual, by a scale -/
def Dl (n : Nat) (Ex : List Vc) (pvx : Nat → Nat) (L : Fv → Prop) (G : Int) (y : Fv) : Prop := Zn n y ∧ (∀ i, i < Ex.length → y (pvx i) = 0) ∧ ∀ u, L u → G ∣ pr2 n y u
def Itg (n : Nat) (Ex : List Vc) (pvx : Nat → Nat) (L : Fv → Prop) (G : Int) : Prop := ∀ t, 0 < t → ∀ z, Dl n Ex pvx L t z → ∃ z', Dl n Ex pvx L G z' ∧ ∀ j, t * z' j = G * z j
section
variable {n : Nat} {Ex : List Vc} {pvx : Nat → Nat} {L : Fv → Prop} {G G1 G2 : Int} {R R1 R2 : List Vc}
theorem norm_uniq (p1 : 0 < G1) (p2 : 0 < G2) (i1 : Itg n Ex pvx L G1) (i2 : Itg n Ex pvx L G2) (h1 : HB n (Dl n Ex pvx L G1) R1) (h2 : HB n (Dl n Ex pvx L G2) R2) :
    G1.fdiv (gcdL (G1 :: R1.flatten)) = G2.fdiv (gcdL (G2 :: R2.flatten)) ∧ R1.map (dvL (gcdL (G1 :: R1.flatten))) = R2.map (dvL (gcdL (G2 :: R2.flatten))) := by
  have e : R1.map (scaleL G2) = R2.map (scaleL G1) := (hb_scale h1 p2).uniq ((hb_scale h2 p1).cong fun u => ⟨fun ⟨z, hz, ez⟩ => by
      obtain ⟨z', hz', e'⟩ := i1 G2 p2 z hz
      exact ⟨z', hz', fun j => by rw [ez j, e' j]⟩, fun ⟨z, hz, ez⟩ => by
      obtain ⟨z', hz', e'⟩ := i2 G1 p1 z hz
      exact ⟨z', hz', fun j => by rw [ez j, e' j]⟩⟩)
  have gs : ∀ (c G : Int) (R : List Vc), 0 ≤ c → gcdL ((c * G) :: (R.map (scaleL c)).flatten) = c * gcdL (G :: R.flatten) := fun c G R hc => by
    rw [← gcdL_scale hc, List.map_cons, List.map_flatten]; rfl
  have eg : G2 * gcdL (G1 :: R1.flatten) = G1 * gcdL (G2 :: R2.flatten) := by
    rw [← gs G2 G1 R1 (by omega), ← gs G1 G2 R2 (by omega), e, Int.mul_comm]
  have gpos : ∀ (G : Int) (R : List Vc), 0 < G → 0 < gcdL (G :: R.flatten) := fun G R hG => by
    have := gcdL_nn (G :: R.flatten)
    rcases Int.lt_or_eq_of_le this with h | h
    · exact h
    · have := gcdL_zero.mp h.symm G (by simp); omega
  have q1 := gpos G1 R1 p1
  have q2 := gpos G2 R2 p2
  have m1 : ∀ x ∈ G1 :: R1.flatten, gcdL (G1 :: R1.flatten) ∣ x := fun x hx => gcdL_mem hx
  have m2 : ∀ x ∈ G2 :: R2.flatten, gcdL (G2 :: R2.flatten) ∣ x := fun x hx => gcdL_mem hx
  generalize gcdL (G1 :: R1.flatten) = g1 at *
  generalize gcdL (G2 :: R2.flatten) = g2 at *
  have f1 := fdiv_mul q1 (m1 G1 (by simp))
  have f2 := fdiv_mul q2 (m2 G2 (by simp))
  have eq : G1.fdiv g1 = G2.fdiv g2 := by
    generalize G1.fdiv g1 = x at f1
    generalize G2.fdiv g2 = y at f2
    rw [f1, f2] at eg
    have : g1 * g2 * y = g1 * g2 * x := by grind
    exact (Int.eq_of_mul_eq_mul_left (Int.ne_of_gt (Int.mul_pos q1 q2)) this).symm
  refine ⟨eq, ?_⟩
  have hl : R1.length = R2.length := by have := congrArg List.length e; rw [List.length_map, List.length_map] at this; exact this
  apply List.ext_getElem
  · rw [List.length_map, List.length_map, hl]
  · intro k k1 k2
    rw [List.length_map] at k1 k2
    rw [List.getElem_map, List.getElem_map]
    have er : scaleL G2 R1[k] = scaleL G1 R2[k] := by
      have a : (R1.map (scaleL G2))[k]'(by rw [List.length_map]; exact k1) = scaleL G2 R1[k] := List.getElem_map _
      have b : (R2.map (scaleL G1))[k]'(by rw [List.length_map]; exact k2) = scaleL G1 R2[k] := List.getElem_map _
      rw [← a, ← b]
      congr 1
    have lr : R1[k].length = R2[k].length := by have := congrArg List.length er; rw [scale_len, scale_len] at this; exact this
    have hm1 : ∀ x ∈ R1[k], g1 ∣ x := fun x hx => m1 x (List.mem_cons_of_mem _ (List.mem_flatten.mpr ⟨_, List.getElem_mem k1, hx⟩))
    have hm2 : ∀ x ∈ R2[k], g2 ∣ x := fun x hx => m2 x (List.mem_cons_of_mem _ (List.mem_flatten.mpr ⟨_, List.getElem_mem k2, hx⟩))
    generalize R1[k] = a at *
    generalize R2[k] = b at *
    refine vc_ext (n := a.length) (by unfold dvL; rw [List.length_map]) (by unfold dvL; rw [List.length_map, lr]) fun j _ => ?_
    have ej : G2 * at_ a j = G1 * at_ b j := by rw [← at_scale, ← at_scale, er]
    rw [at_dv q1 hm1, at_dv q2 hm2] at ej
    generalize at_ (dvL g1 a) j = x at ej
    generalize at_ (dvL g2 b) j = y at ej
    rw [eq] at f1
    have p3 : 0 < G2.fdiv g2 := by
      rw [f2] at p2
      exact pos_of q2 p2
    generalize G2.fdiv g2 = q at f1 f2 p3
    rw [f1, f2] at ej
    have : g1 * g2 * q * x = g1 * g2 * q * y := by grind
    exact Int.eq_of_mul_eq_mul_left (Int.ne_of_gt (Int.mul_pos (Int.mul_pos q1 q2) p3)) this
theorem pr2_scale {y u : Fv} {c : Int} : pr2 n (fun j => c * y j) u = c * pr2 n y u := by
  unfold pr2; rw [← sm_mul]; exact sm_congr fun p _ => by rw [Int.mul_assoc]
theorem norm_dl (p : 0 < G) (i : Itg n Ex pvx L G) (h : HB n (Dl n Ex pvx L G) R) :
    0 < G.fdiv (gcdL (G :: R.flatten)) ∧ Itg n Ex pvx L (G.fdiv (gcdL (G :: R.flatten))) ∧ HB n (Dl n Ex pvx L (G.fdiv (gcdL (G :: R.flatten)))) (R.map (dvL (gcdL (G :: R.flatten)))) := by
  have q : 0 < gcdL (G :: R.flatten) := by
    have := gcdL_nn (G :: R.flatten)
    rcases Int.lt_or_eq_of_le this with h | h
    · exact h
    · have := gcdL_zero.mp h.symm G (by simp); omega
  have m : ∀ x ∈ G :: R.flatten, gcdL (G :: R.flatten) ∣ x := fun x hx => gcdL_mem hx
  generalize gcdL (G :: R.flatten) = g at *
  have f := fdiv_mul q (m G (by simp))
  have mr : ∀ r ∈ R, ∀ x ∈ r, g ∣ x := fun r hr x hx => m x (List.mem_cons_of_mem _ (List.mem_flatten.mpr ⟨r, hr, hx⟩))
  generalize G.fdiv g = Q at *
  have pQ : 0 < Q := by
    rw [f] at p
    exact pos_of q p
  refine ⟨pQ, fun t ht z hz => ?_, (hb_div h q mr).cong fun u => ?_⟩
  · obtain ⟨z', hz', e⟩ := i t ht z hz
    have dz : ∀ j, g ∣ z' j := fun j => by
      have hl := (h.lat z').mpr hz'
      induction hl with
      | zero => exact Int.dvd_zero g
      | @add v w k hv hw ih =>
        obtain ⟨r, hr, rfl⟩ := hw
        clear ih
        have hv2 : g ∣ v j := by
          clear e hz'
          induction hv with
          | zero => exact Int.dvd_zero g
          | @add v' w' k' _ hw' ih' =>
            obtain ⟨r', hr', rfl⟩ := hw'
            refine Int.dvd_add ih' (Int.dvd_mul_of_dvd_right ?_)
            rw [at_dv q (mr r' hr')]; exact Int.dvd_mul_right _ _
        refine Int.dvd_add hv2 (Int.dvd_mul_of_dvd_right ?_)
        rw [at_dv q (mr r hr)]; exact Int.dvd_mul_right _ _
    have ez : ∀ j, z' j = g * (z' j).fdiv g := fun j => fdiv_mul q (dz j)
    have fz : ∀ j, z' j = 0 → (z' j).fdiv g = 0 := fun j h0 => by rw [h0, Int.zero_fdiv]
    refine ⟨fun j => (z' j).fdiv g, ⟨fun j hj => fz j (hz'.1 j hj), fun i hi => fz _ (hz'.2.1 i hi), fun u hu => ?_⟩, fun j => ?_⟩
    · have a := hz'.2.2 u hu
      have b : pr2 n z' u = g * pr2 n (fun j => (z' j).fdiv g) u := by
        rw [← pr2_scale]
        exact sm_congr fun p _ => by show z' p * u p = g * (z' p).fdiv g * u p; rw [← ez p]
      rw [b, f] at a
      exact Int.dvd_of_mul_dvd_mul_left (Int.ne_of_gt q) a
    · have a := e j
      rw [ez j, f] at a
      have : g * (t * (z' j).fdiv g) = g * (Q * z j) := by grind
      exact Int.eq_of_mul_eq_mul_left (Int.ne_of_gt q) this
  · unfold Dl
    constructor
    · rintro ⟨a, b, c⟩
      refine ⟨fun j hj => ?_, fun i hi => ?_, fun w hw => ?_⟩
      · rcases Int.mul_eq_zero.mp (a j hj) with z | z
        · omega
        · exact z
      · rcases Int.mul_eq_zero.mp (b i hi) with z | z
        · omega
        · exact z
      · have := c w hw
        rw [pr2_scale, f] at this
        exact Int.dvd_of_mul_dvd_mul_left (Int.ne_of_gt q) this
    · rintro ⟨a, b, c⟩
      refine ⟨fun j hj => by show g * u j = 0; rw [a j hj, Int.mul_zero], fun i hi => by show g * u (pvx i) = 0; rw [b i hi, Int.mul_zero], fun w hw => ?_⟩
      rw [pr2_scale, f]
      exact Int.mul_dvd_mul_left _ (c w hw)
theorem norm_gcd (p : 0 < G) : gcdL (G.fdiv (gcdL (G :: R.flatten)) :: (R.map (dvL (gcdL (G :: R.flatten)))).flatten) = 1 := by
  have q : 0 < gcdL (G :: R.flatten) := by
    have := gcdL_nn (G :: R.flatten)
    rcases Int.lt_or_eq_of_le this with h | h
    · exact h
    · have := gcdL_zero.mp h.symm G (by simp); omega
  have m : ∀ x ∈ G :: R.flatten, gcdL (G :: R.flatten) ∣ x := fun x hx => gcdL_mem hx
  have key : (G.fdiv (gcdL (G :: R.flatten)) :: (R.map (dvL (gcdL (G :: R.flatten)))).flatten).map (fun x => gcdL (G :: R.flatten) * x) = G :: R.flatten := by
    generalize gcdL (G :: R.flatten) = g at *
    have e1 : (R.map (dvL g)).flatten = R.flatten.map fun x => x.fdiv g := by rw [List.map_flatten]; rfl
    rw [List.map_cons, e1, List.map_map, ← fdiv_mul q (m G (by simp))]
    congr 1
    conv => rhs; rw [← List.map_id R.flatten]
    exact List.map_congr_left fun x hx => (fdiv_mul q (m x (List.mem_cons_of_mem _ hx))).symm
  have e := gcdL_scale (c := gcdL (G :: R.flatten)) (by omega) (G.fdiv (gcdL (G :: R.flatten)) :: (R.map (dvL (gcdL (G :: R.flatten)))).flatten)
  rw [key] at e
  have : gcdL (G :: R.flatten) * gcdL (G.fdiv (gcdL (G :: R.flatten)) :: (R.map (dvL (gcdL (G :: R.flatten)))).flatten) = gcdL (G :: R.flatten) * 1 := by rw [← e, Int.mul_one]
  exact Int.eq_of_mul_eq_mul_left (by omega) this
end
end K87

namespace K87
open PySem PySem.Spec PyProof.Rows L2 DL
open PySem.Builtin.Int (intBits)
/-! ### columns -/
def pj (cs : List Nat) (u : Fv) : Fv := fun l => if l < cs.length then u (cs.getD l 0) else 0
def wd (cs : List Nat) (y : Fv) : Fv := fun j => if j ∈ cs then y (cs.idxOf j) else 0
theorem lin_pj (cs : List Nat) : Lin (pj cs) := ⟨fun j => by unfold pj; split <;> rfl, fun u g k j => by
  unfold pj
  by_cases h : j < cs.length
  · rw [if_pos h, if_pos h, if_pos h]
  · rw [if_neg h, if_neg h, if_neg h]; omega⟩
theorem lin_wd (cs : List Nat) : Lin (wd cs) := ⟨fun j => by unfold wd; split <;> rfl, fun u g k j => by
  unfold wd
  by_cases h : j ∈ cs
  · rw [if_pos h, if_pos h, if_pos h]
  · rw [if_neg h, if_neg h, if_neg h]; omega⟩
theorem at_pj {cs : List Nat} {b : Vc} (l : Nat) : at_ (cs.map (at_ b)) l = pj cs (at_ b) l := by
  have e : at_ (cs.map (at_ b)) l = ((cs.map (at_ b))[l]?).getD 0 := by show (cs.map (at_ b)).getD l 0 = _; rw [List.getD_eq_getElem?_getD]
  rw [e, List.getElem?_map]
  unfold pj
  by_cases h : l < cs.length
  · rw [List.getElem?_eq_getElem h, if_pos h, List.getD_eq_getElem?_getD, List.getElem?_eq_getElem h]; rfl
  · rw [List.getElem?_eq_none (by omega), if_neg h]; rfl
theorem idxOf_nat (c : Nat) : ∀ cs : List Nat, (cs.map Int.ofNat).idxOf (c : Int) = cs.idxOf c
  | [] => rfl
  | x :: cs => by
    rw [List.map_cons, List.idxOf_cons, List.idxOf_cons, idxOf_nat c cs]
    have : (Int.ofNat x == (c : Int)) = (x == c) := by
      by_cases h : x = c
      · subst h; simp
      · have h2 : ¬ Int.ofNat x = (c : Int) := fun q => h (Int.ofNat.inj q)
        rw [beq_false_of_ne h, beq_false_of_ne h2]
    rw [this]
theorem mem_nat (c : Nat) (cs : List Nat) : (c : Int) ∈ cs.map Int.ofNat ↔ c ∈ cs := by
  rw [List.mem_map]
  exact ⟨fun ⟨x, hx, e⟩ => by have : x = c := Int.ofNat.inj e; rw [← this]; exact hx, fun h => ⟨c, h, rfl⟩⟩
theorem at_wide {n : Nat} {cs : List Nat} {r : Vc} (hc : ∀ c ∈ cs, c < n) (j : Nat) : at_ (wideL n cs r) j = wd cs (at_ r) j := by
  have e : wideL n cs r = vcOf n (fun a => if (a : Int) ∈ cs.map Int.ofNat then at_ r ((cs.map Int.ofNat).idxOf (a : Int)) else 0) := rfl
  rw [e, at_vcOf]
  unfold wd
  by_cases h : j ∈ cs
  · rw [if_pos (hc j h), if_pos ((mem_nat j cs).mpr h), if_pos h, idxOf_nat]
  · rw [if_neg h]
    split
    · rw [if_neg (fun q => h ((mem_nat j cs).mp q))]
    · rfl
structure Du (n : Nat) (L : Fv → Prop) (B Ex : List Vc) (pvx : Nat → Nat) (cs : List Nat) (inn : List Vc) (pvi : Nat → Nat) : Prop where
  hB : HB n L B
  hE : HB n (ker n B) Ex
  rE : RB n Ex pvx
  nd : cs.Nodup
  mc : ∀ c, c ∈ cs ↔ c < n ∧ ∀ i, i < Ex.length → pvx i ≠ c
  hI : HB cs.length (Lat (Gr (B.map fun b => cs.map (at_ b)))) inn
  rI : RB cs.length inn pvi
  lI : inn.length = cs.length
section
variable {n : Nat} {L : Fv → Prop} {B Ex inn : List Vc} {pvx pvi : Nat → Nat} {cs : List Nat}
theorem Du.inn_lat (d : Du n L B Ex pvx cs inn pvi) (v : Fv) : Lat (Gr inn) v ↔ ∃ u, L u ∧ ∀ j, v j = pj cs u j := by
  rw [d.hI.lat]
  refine (lat_map (lin_pj cs) (fun b _ j => at_pj j) v).trans ?_
  exact ⟨fun ⟨u, hu, e⟩ => ⟨u, (d.hB.lat u).mp hu, e⟩, fun ⟨u, hu, e⟩ => ⟨u, (d.hB.lat u).mpr hu, e⟩⟩
theorem pj_zn (cs : List Nat) (u : Fv) : Zn cs.length (pj cs u) := fun j hj => by unfold pj; rw [if_neg (by omega)]
theorem Du.out (d : Du n L B Ex pvx cs inn pvi) {z : Fv} (hz : ∀ i, i < Ex.length → z (pvx i) = 0) {j : Nat} (hj : j < n) (hc : j ∉ cs) : z j = 0 := by
  apply Classical.byContradiction
  intro q
  exact hc ((d.mc j).mpr ⟨hj, fun i hi e => q (by rw [← e]; exact hz i hi)⟩)
theorem Du.pr (d : Du n L B Ex pvx cs inn pvi) {z u : Fv} (hz : ∀ i, i < Ex.length → z (pvx i) = 0) : pr2 n z u = pr2 cs.length (pj cs z) (pj cs u) := by
  unfold pr2
  rw [sm_cols d.nd (fun c hc => ((d.mc c).mp hc).1) (fun j hj hc => by show z j * u j = 0; rw [d.out hz hj hc, Int.zero_mul])]
  exact sm_congr fun l hl => by
    show _ = (if l < cs.length then z (cs.getD l 0) else 0) * (if l < cs.length then u (cs.getD l 0) else 0)
    rw [if_pos hl, if_pos hl]
theorem Du.pjwd (d : Du n L B Ex pvx cs inn pvi) {y : Fv} (hy : Zn cs.length y) (l : Nat) : pj cs (wd cs y) l = y l := by
  unfold pj wd
  by_cases h : l < cs.length
  · have e : cs.getD l 0 = cs[l] := by rw [List.getD_eq_getElem?_getD, List.getElem?_eq_getElem h]; rfl
    rw [if_pos h, e, if_pos (List.getElem_mem h)]
    congr 1
    have h2 := List.idxOf_lt_length_of_mem (List.getElem_mem h : cs[l] ∈ cs)
    have h3 : cs[cs.idxOf cs[l]] = cs[l] := List.getElem_idxOf h2
    exact (List.getElem_inj d.nd).mp h3
  · rw [if_neg h, hy l (by omega)]
theorem Du.wd_piv (d : Du n L B Ex pvx cs inn pvi) (y : Fv) : ∀ i, i < Ex.length → wd cs y (pvx i) = 0 := fun i hi => by
  unfold wd
  rw [if_neg fun q => ((d.mc _).mp q).2 i hi rfl]
theorem Du.wd_zn (d : Du n L B Ex pvx cs inn pvi) (y : Fv) : Zn n (wd cs y) := fun j hj => by
  unfold wd
  rw [if_neg fun q => by have := ((d.mc _).mp q).1; omega]
theorem Du.wdpj (d : Du n L B Ex pvx cs inn pvi) {z : Fv} (hz : Zn n z) (hp : ∀ i, i < Ex.length → z (pvx i) = 0) (j : Nat) : wd cs (pj cs z) j = z j := by
  unfold wd
  by_cases h : j ∈ cs
  · rw [if_pos h]
    have h2 := List.idxOf_lt_length_of_mem h
    unfold pj
    rw [if_pos h2, List.getD_eq_getElem?_getD, List.getElem?_eq_getElem h2]
    show z cs[cs.idxOf j] = z j
    rw [List.getElem_idxOf h2]
  · rw [if_neg h]
    by_cases hj : j < n
    · exact (d.out hp hj h).symm
    · exact (hz j (by omega)).symm
theorem Du.D0 (d : Du n L B Ex pvx cs inn pvi) : 0 < prodD inn cs.length := prod_pos d.rI d.lI _ (Nat.le_refl _)
theorem Du.itg (d : Du n L B Ex pvx cs inn pvi) : Itg n Ex pvx L (prodD inn cs.length) := fun t ht z hz => by
  have D0 := d.D0
  have key : ∀ j, t ∣ prodD inn cs.length * z j := fun j => by
    by_cases hj : j < n
    · by_cases hc : j ∈ cs
      · have h2 := List.idxOf_lt_length_of_mem hc
        have kl := kill d.rI d.lI (v := eu cs.length (cs.idxOf j)) fun i hi => by show (if i < cs.length ∧ i = cs.idxOf j then (1 : Int) else 0) = 0; rw [if_neg fun q => by omega]
        obtain ⟨u, hu, e⟩ := (d.inn_lat _).mp kl
        have a := hz.2.2 u hu
        rw [d.pr hz.2.1] at a
        have b : pr2 cs.length (pj cs z) (pj cs u) = prodD inn cs.length * z j := by
          unfold pr2
          rw [sm_one (c := cs.idxOf j) h2 (fun p hp hne => by
            rw [← e p]
            show pj cs z p * (prodD inn cs.length * (if p < cs.length ∧ p = cs.idxOf j then 1 else 0)) = 0
            rw [if_neg fun q => hne q.2]; omega), ← e]
          show pj cs z (cs.idxOf j) * (prodD inn cs.length * (if cs.idxOf j < cs.length ∧ cs.idxOf j = cs.idxOf j then 1 else 0)) = _
          rw [if_pos ⟨h2, rfl⟩]
          have : pj cs z (cs.idxOf j) = z j := by
            unfold pj
            rw [if_pos h2, List.getD_eq_getElem?_getD, List.getElem?_eq_getElem h2]
            show z cs[cs.idxOf j] = z j
            rw [List.getElem_idxOf h2]
          rw [this, Int.mul_one, Int.mul_comm]
        rw [b] at a; exact a
      · rw [d.out hz.2.1 hj hc, Int.mul_zero]; exact Int.dvd_zero t
    · rw [hz.1 j (by omega), Int.mul_zero]; exact Int.dvd_zero t
  generalize prodD inn cs.length = D at *
  have ez : ∀ j, D * z j = t * (D * z j).fdiv t := fun j => fdiv_mul ht (key j)
  refine ⟨fun j => (D * z j).fdiv t, ⟨fun j hj => by show (D * z j).fdiv t = 0; rw [hz.1 j hj, Int.mul_zero, Int.zero_fdiv], fun i hi => by show (D * z (pvx i)).fdiv t = 0; rw [hz.2.1 i hi, Int.mul_zero, Int.zero_fdiv], fun u hu => ?_⟩, fun j => (ez j).symm⟩
  obtain ⟨q, hq⟩ := hz.2.2 u hu
  have e1 : t * pr2 n (fun j => (D * z j).fdiv t) u = t * (D * q) := by
    rw [← pr2_scale]
    have : pr2 n (fun j => t * (D * z j).fdiv t) u = D * pr2 n z u := by
      rw [← pr2_scale]
      exact sm_congr fun p _ => by show t * (D * z p).fdiv t * u p = D * z p * u p; rw [← ez p]
    rw [this, hq]; grind
  rw [Int.eq_of_mul_eq_mul_left (Int.ne_of_gt ht) e1]
  exact Int.dvd_mul_right D q
/-- the rows of the dual over the free columns -/
def Rs (inn : List Vc) (r : Nat) (D : Int) (y : Fv) : Prop := Zn r y ∧ ∀ m, m < r → D ∣ val r (tk inn m) y
theorem Du.rs_dl (d : Du n L B Ex pvx cs inn pvi) {y : Fv} {D : Int} : Rs inn cs.length D y → Dl n Ex pvx L D (wd cs y) := fun h => by
  refine ⟨d.wd_zn y, d.wd_piv y, fun u hu => ?_⟩
  rw [d.pr (d.wd_piv y)]
  have e : pj cs (wd cs y) = y := funext fun l => d.pjwd h.1 l
  rw [e]
  refine pr2_lat (G := Gr inn) (fun g hg => ?_) ((d.inn_lat _).mpr ⟨u, hu, fun _ => rfl⟩)
  obtain ⟨r, hr, rfl⟩ := hg
  obtain ⟨m, hm, rfl⟩ := tk_ex hr
  rw [pr2_comm]
  exact h.2 m (by rw [← d.lI]; exact hm)
theorem Du.dl_rs (d : Du n L B Ex pvx cs inn pvi) {z : Fv} {D : Int} (h : Dl n Ex pvx L D z) : Rs inn cs.length D (pj cs z) := by
  refine ⟨pj_zn cs z, fun m hm => ?_⟩
  obtain ⟨u, hu, e⟩ := (d.inn_lat _).mp (.of ⟨tk inn m, tk_mem (by rw [d.lI]; exact hm), rfl⟩)
  have a := h.2.2 u hu
  rw [d.pr h.2.1, pr2_comm] at a
  have : at_ (tk inn m) = pj cs u := funext e
  rw [val_pr, this]; exact a
theorem Du.dl_wide (d : Du n L B Ex pvx cs inn pvi) {Rr : List Vc} {D : Int} (hR : HB cs.length (Rs inn cs.length D) Rr) (z : Fv) : Lat (Gr (Rr.map (wideL n cs))) z ↔ Dl n Ex pvx L D z := by
  refine (lat_map (lin_wd cs) (fun b _ j => at_wide (fun c hc => ((d.mc c).mp hc).1) j) z).trans ?_
  constructor
  · rintro ⟨y, hy, e⟩
    have : z = wd cs y := funext e
    rw [this]
    exact d.rs_dl ((hR.lat y).mp hy)
  · intro h
    exact ⟨pj cs z, (hR.lat _).mpr (d.dl_rs h), fun j => (d.wdpj h.1 h.2.1 j).symm⟩
theorem Dl.scale {D c : Int} (hD : 0 < D) (hc : 0 < c) (i : Itg n Ex pvx L D) (z : Fv) : Dl n Ex pvx L (D * c) z ↔ ∃ z', Dl n Ex pvx L D z' ∧ ∀ j, z j = c * z' j := by
  constructor
  · intro h
    obtain ⟨z', hz', e⟩ := i (D * c) (Int.mul_pos hD hc) z h
    exact ⟨z', hz', fun j => Int.eq_of_mul_eq_mul_left (Int.ne_of_gt hD) (by rw [← e j]; grind)⟩
  · rintro ⟨z', hz', e⟩
    have : z = fun j => c * z' j := funext e
    rw [this]
    refine ⟨fun j hj => by show c * z' j = 0; rw [hz'.1 j hj, Int.mul_zero], fun i hi => by show c * z' (pvx i) = 0; rw [hz'.2.1 i hi, Int.mul_zero], fun u hu => ?_⟩
    rw [pr2_scale, Int.mul_comm D c]
    exact Int.mul_dvd_mul_left _ (hz'.2.2 u hu)
theorem Itg.scale {D c : Int} (hc : 0 < c) (hD : 0 < D) (i : Itg n Ex pvx L D) : Itg n Ex pvx L (D * c) := fun t ht z hz => by
  obtain ⟨z', hz', e⟩ := i t ht z hz
  exact ⟨fun j => c * z' j, (Dl.scale hD hc i _).mpr ⟨z', hz', fun _ => rfl⟩, fun j => by
    have := e j
    show t * (c * z' j) = _
    grind⟩
/-- the lattice from its dual -/
theorem Du.back (d : Du n L B Ex pvx cs inn pvi) {sc : Int} {rows : List Vc} (s1 : 0 < sc) (i : Itg n Ex pvx L sc) (hR : HB n (Dl n Ex pvx L sc) rows) (v : Fv) : (ker n Ex v ∧ ∀ y ∈ rows, sc ∣ val n y v) ↔ L v := by
  constructor
  · rintro ⟨hk, hy⟩
    have hl : Lat (Gr inn) (pj cs v) := dbl_dual d.rI d.lI (pj_zn cs v) fun y hz hd => by
      have D0 := d.D0
      have hD := d.rs_dl (D := prodD inn cs.length) (y := y) ⟨hz, fun m hm => hd m hm⟩
      obtain ⟨z', hz', e⟩ := i _ D0 _ hD
      have a : sc ∣ pr2 n z' v := by
        rw [pr2_comm]
        refine pr2_lat (G := Gr rows) (fun g hg => ?_) ((hR.lat z').mpr hz')
        obtain ⟨r, hr, rfl⟩ := hg
        rw [pr2_comm]; exact hy r hr
      obtain ⟨q, hq⟩ := a
      have b : prodD inn cs.length * pr2 n z' v = sc * pr2 n (wd cs y) v := by
        rw [← pr2_scale, ← pr2_scale]
        exact sm_congr fun p _ => by show prodD inn cs.length * z' p * v p = sc * wd cs y p * v p; rw [e p]
      have c : pr2 n (wd cs y) v = pr2 cs.length y (pj cs v) := by
        rw [d.pr (d.wd_piv y)]
        have : pj cs (wd cs y) = y := funext fun l => d.pjwd hz l
        rw [this]
      rw [c, hq] at b
      have : sc * pr2 cs.length y (pj cs v) = sc * (prodD inn cs.length * q) := by rw [← b]; grind
      rw [Int.eq_of_mul_eq_mul_left (Int.ne_of_gt s1) this]
      exact Int.dvd_mul_right _ q
    obtain ⟨u, hu, e⟩ := (d.inn_lat _).mp hl
    have hk2 := in_kerker d.hB d.hE hu
    have dz := tri_zero d.rE (u := fun j => 1 * v j + (-1) * u j) (fun j hj => by show 1 * v j + (-1) * u j = 0; rw [hk.1 j hj, hk2.1 j hj]; omega) (Nat.le_refl _) (fun i hi => by
      rw [val_lin n (tk Ex i) 1 (-1) v u _ (fun j => rfl), hk.2 _ (tk_mem hi), hk2.2 _ (tk_mem hi)]; omega) (fun j hj => by
      show 1 * v j + (-1) * u j = 0
      by_cases hn : j < n
      · have hc : j ∈ cs := (d.mc j).mpr ⟨hn, hj⟩
        have h2 := List.idxOf_lt_length_of_mem hc
        have := e (cs.idxOf j)
        unfold pj at this
        rw [if_pos h2, if_pos h2, List.getD_eq_getElem?_getD, List.getElem?_eq_getElem h2] at this
        have q : v cs[cs.idxOf j] = u cs[cs.idxOf j] := this
        rw [List.getElem_idxOf h2] at q
        omega
      · rw [hk.1 j (by omega), hk2.1 j (by omega)]; omega)
    have : v = u := funext fun j => by have := dz j; omega
    rw [this]; exact hu
  · intro hv
    refine ⟨in_kerker d.hB d.hE hv, fun y hy => ?_⟩
    exact (hR.mem hy).2.2 v hv
end
end K87

namespace K87
open PySem PySem.Spec PyProof.Rows L2 DL
open PySem.Builtin.Int (intBits)
/-! ### the numbers -/
def wb (n b : Nat) : Nat := bb n (n * (n * (b + 5)))
structure Par (n r b e : Nat) : Prop where
  n7 : n ≤ 7
  a1 : AnnFit n r e
  a2 : AnnFit n (n - r) (kbk n r e)
  a3 : AnnFit n r (bb r b)
  t1 : ∃ t, wb n b + (wb n b + bb n b + 7) * n + wb n b + bb n b + 10 + n * (n * (b + 5)) ≤ t ∧ (∀ r, r ≤ n → Fits r t) ∧ t + 10 < 60000000
  t2 : ∃ t, bb n b + (bb n b + wb n b + 7) * n + bb n b + wb n b + 10 + n * (n * (b + 5)) ≤ t ∧ Fits n t ∧ t + 10 < 60000000
  f1 : Fits n (wb n b + n * kbk n r e)
  f2 : bb n (wb n b + n * kbk n r e) + wb n b + n * kbk n r e + n * (n * (b + 5)) + 10 < 60000000
  f3 : Fits n (kbk n r e)
  f4 : ∀ r, r ≤ n → Fits r e
  f5 : ∀ r, r ≤ n → Fits r (bb n b)
/-- the numbers, looked at -/
def ParN (n r b e s1 s2 s3 T : Nat) : Prop := n ≤ 7 ∧ r ≤ n ∧ T + 10 < 60000000 ∧ (∀ k, k < r → kbk n k e ≤ s1) ∧ s1 + (s1 + e + 7) * n + s1 + e + 10 ≤ T ∧
  (∀ k, k < n - r → kbk n k (kbk n r e) ≤ s2) ∧ s2 + (s2 + kbk n r e + 7) * n + s2 + kbk n r e + 10 ≤ T ∧ (∀ k, k < r → kbk n k (bb r b) ≤ s3) ∧ s3 + (s3 + bb r b + 7) * n + s3 + bb r b + 10 ≤ T ∧
  wb n b + (wb n b + bb n b + 7) * n + wb n b + bb n b + 10 + n * (n * (b + 5)) ≤ T ∧ bb n b + (bb n b + wb n b + 7) * n + bb n b + wb n b + 10 + n * (n * (b + 5)) ≤ T ∧
  wb n b + n * kbk n r e ≤ T ∧ bb n (wb n b + n * kbk n r e) + wb n b + n * kbk n r e + n * (n * (b + 5)) + 10 < 60000000 ∧ kbk n r e ≤ T ∧ e ≤ T ∧ bb n b ≤ T
instance (n r b e s1 s2 s3 T : Nat) : Decidable (ParN n r b e s1 s2 s3 T) := by unfold ParN; infer_instance
theorem par_of {n r b e s1 s2 s3 T : Nat} (h : ParN n r b e s1 s2 s3 T) (hT : ∀ m, m ≤ n → Fits m T) : Par n r b e := by
  obtain ⟨h1, h2, h3, h4, h5, h6, h7, h8, h9, h10, h11, h12, h13, h14, h15, h16⟩ := h
  have f := hT n (Nat.le_refl n)
  exact ⟨h1, ⟨h1, h2, s1, T, h4, h5, f, h3⟩, ⟨h1, by omega, s2, T, h6, h7, f, h3⟩, ⟨h1, h2, s3, T, h8, h9, f, h3⟩, ⟨T, h10, hT, h3⟩, ⟨T, h11, f, h3⟩, f.mono h12, h13, f.mono h14, fun m hm => (hT m hm).mono h15, fun m hm => (hT m hm).mono h16⟩
theorem bb_mono {n m b c : Nat} (h : n ≤ m) (hb : b ≤ c) : bb n b ≤ bb m c := by
  unfold bb
  have := Nat.mul_le_mul h (show b + 5 ≤ c + 5 by omega)
  omega
/-! ### pivots of small bases -/
theorem HB.piv_bd {n b : Nat} {S : Fv → Prop} {B : List Vc} {pv : Nat → Nat} (hn : n ≤ 15) (a : HB n S B) (h : RB n B pv) (s : Sml n b S) {k : Nat} (hk : k < B.length) : (at_ (tk B k) (pv k)).natAbs ≤ 2 ^ (B.length * (b + 5)) := by
  obtain ⟨E, h1, e1, l1⟩ := a.ex
  obtain ⟨rows, h2, h3⟩ := s
  have e : B.length = rkE n E := by rw [e1, hermF_z, List.length_map]; rfl
  have hk' : k < rkE n E := by omega
  obtain ⟨r, hr⟩ := pk_some h1 hk'
  have hz := zrow_ok h1 hr
  have et : tk B k = zrow n E (pk n E k) := by rw [e1]; exact hb_tk h1 hk'
  have sm := (small_rows hn h1 (fun r hr => (h2 r hr).1) (fun r hr => (l1 _).mpr (h2 r hr).2) (h3.mono fun u hu => (l1 u).mp hu) hr).1
  -- the pivot column is the same
  have pe : pv k = pk n E k := by
    have p1 := h.pos k hk
    have z1 := h.zero k
    rw [et] at p1 z1
    have p2 := (h1.2 _ r hr).2.2.2
    have z2 := (h1.2 _ r hr).2.2.1
    rcases Nat.lt_trichotomy (pv k) (pk n E k) with q | q | q
    · rw [hz.lo _ (by omega), z2 _ q] at p1; omega
    · exact q
    · have := z1 (pk n E k) hk q
      rw [hz.lo _ (Nat.le_refl _)] at this
      omega
  rw [et, pe, hz.lo _ (Nat.le_refl _), e]
  exact sm
theorem free_count {n k : Nat} {B : List Vc} {pv : Nat → Nat} (h : RB n B pv) (hk : k ≤ B.length) {p : Nat → Bool} (hp : ∀ c, p c = true ↔ ∀ i, i < k → pv i ≠ c) : ((List.range n).filter p).length + k = n := by
  have p1 : ((List.range n).filter fun c => !p c).Perm ((List.range k).map pv) := by
    refine (List.perm_ext_iff_of_nodup (List.filter_sublist.nodup List.nodup_range) ?_).mpr fun c => ?_
    · refine List.pairwise_map.mpr (List.Pairwise.imp_of_mem (R := (· < ·)) ?_ List.pairwise_lt_range)
      intro a b ha hb hab q
      have := h.inj (show a < B.length by have := List.mem_range.mp ha; omega) (show b < B.length by have := List.mem_range.mp hb; omega) q
      omega
    · rw [List.mem_filter, List.mem_range, List.mem_map]
      constructor
      · rintro ⟨hc, hf⟩
        have : ¬ ∀ i, i < k → pv i ≠ c := fun z => by
          have := (hp c).mpr z
          rw [this] at hf; cases hf
        apply Classical.byContradiction
        intro z
        exact this fun i hi q => z ⟨i, List.mem_range.mpr hi, q⟩
      · rintro ⟨i, hi, rfl⟩
        have hi := List.mem_range.mp hi
        refine ⟨h.lt i (by omega), ?_⟩
        have : ¬ p (pv i) = true := fun z => (hp _).mp z i hi rfl
        simp [this]
  have p2 := p1.length_eq
  rw [List.length_map, List.length_range] at p2
  have p3 := filt_len p (List.range n)
  rw [List.length_range] at p3
  omega
/-! ### all that is made on the way to the dual -/
def psL (Ex : List Vc) (pvx : Nat → Nat) : List Nat := (List.range Ex.length).map pvx
theorem cols_mem {n : Nat} {Ex : List Vc} {pvx : Nat → Nat} (c : Nat) : c ∈ colsL n (psL Ex pvx) ↔ c < n ∧ ∀ i, i < Ex.length → pvx i ≠ c := by
  unfold colsL
  rw [List.mem_filter, List.mem_range]
  have : (!decide ((c : Int) ∈ (psL Ex pvx).map Int.ofNat)) = true ↔ ∀ i, i < Ex.length → pvx i ≠ c := by
    rw [Bool.not_eq_true', decide_eq_false_iff_not, mem_nat]
    unfold psL
    rw [List.mem_map]
    exact ⟨fun h i hi e => h ⟨i, List.mem_range.mpr hi, e⟩, fun h ⟨i, hi, e⟩ => h i (List.mem_range.mp hi) e⟩
  rw [this]
theorem fst_ps {n : Nat} {Ex : List Vc} {pvx : Nat → Nat} (h : RB n Ex pvx) : Ex.map fstN = (psL Ex pvx).map some := by
  unfold psL
  rw [List.map_map]
  apply List.ext_getElem
  · rw [List.length_map, List.length_map, List.length_range]
  · intro k h1 h2
    rw [List.length_map] at h1
    rw [List.getElem_map, List.getElem_map, List.getElem_range]
    have e1 : Ex[k] = tk Ex k := by unfold tk; rw [List.getD_eq_getElem?_getD, List.getElem?_eq_getElem h1]; rfl
    rw [e1, h.fst h1]; rfl
theorem lc_map {T : Fv → Fv} (hT : Lin T) {B : List Vc} {f : Vc → Vc} (hf : ∀ b ∈ B, ∀ j, at_ (f b) j = T (at_ b) j) (a : Nat → Int) (j : Nat) : ∀ m, m ≤ B.length → lc (B.map f) m a j = T (lc B m a) j
  | 0, _ => (hT.z j).symm
  | m + 1, h => by
    have e : lc (B.map f) (m + 1) a j = lc (B.map f) m a j + a m * at_ (tk (B.map f) m) j := rfl
    rw [e, lc_map hT hf a j m (by omega), tk_map (by omega), hf _ (tk_mem (by omega))]
    exact (hT.a (lc B m a) (at_ (tk B m)) (a m) j).symm
theorem Sml.img {n r b : Nat} {S : Fv → Prop} {T : Fv → Fv} (hT : Lin T) {f : Vc → Vc} (hf : ∀ v : Vc, v.length = n → (∀ j, at_ (f v) j = T (at_ v) j) ∧ (Bd n (2 ^ b) v → Bd r (2 ^ b) (f v))) (s : Sml n b S) : Sml r b (fun v => ∃ u, S u ∧ ∀ j, v j = T u j) := by
  obtain ⟨rows, h1, h2⟩ := s
  refine ⟨rows.map f, fun x hx => ?_, fun v ⟨u, hu, e⟩ => ?_⟩
  · obtain ⟨w, hw, rfl⟩ := List.mem_map.mp hx
    have := hf w (h1 w hw).1.1
    exact ⟨this.2 (h1 w hw).1, _, (h1 w hw).2, this.1⟩
  · obtain ⟨N, hN, hl⟩ := h2 u hu
    refine ⟨N, hN, (lat_map hT (fun w hw => (hf w (h1 w hw).1.1).1) _).mpr ⟨_, hl, fun j => ?_⟩⟩
    have a := hT.a (fun _ => 0) u N j
    rw [hT.z] at a
    have e2 : (fun i => (0 : Int) + N * u i) = fun i => N * u i := funext fun i => by omega
    rw [e2] at a
    rw [e j]; omega
structure Du2 (n r b e : Nat) (L : Fv → Prop) (B Ex St : List Vc) (pvx : Nat → Nat) (cs : List Nat) (inn : List Vc) (pvi : Nat → Nat) : Prop where
  d : Du n L B Ex pvx cs inn pvi
  ecs : cs = colsL n (psL Ex pvx)
  er : B.length = r
  rk : Ex.length + B.length = n
  lc : cs.length = B.length
  bE : ∀ x ∈ Ex, Bd n (2 ^ kbk n r e) x
  hS : HB n (ker n Ex) St
  rS : St.length = r
  bS : ∀ x ∈ St, Bd n (2 ^ bb r b) x
  hC : Com (Gr B) (ker n Ex)
  bI : ∀ x ∈ inn, Bd cs.length (2 ^ bb n b) x
  pI : ∀ k, k < inn.length → (at_ (tk inn k) k).natAbs ≤ 2 ^ (n * (b + 5))
theorem du_ex {n r b e : Nat} {L : Fv → Prop} {B : List Vc} (p : Par n r b e) (er : B.length = r) (hB : HB n L B) (hb : ∀ r ∈ B, Bd n (2 ^ e) r) (hs : Sml n b L) :
    ∃ Ex St pvx cs inn pvi, Du2 n r b e L B Ex St pvx cs inn pvi := by
  obtain ⟨pv, hr⟩ := hB.rb
  subst er
  obtain ⟨R, _, R1, _⟩ := ann_ex hr hb p.a1
  obtain ⟨hE, rk, bE⟩ := R1 B.length (Nat.le_refl _)
  rw [List.take_length] at hE
  generalize R B.length = Ex at hE rk bE
  obtain ⟨pvx, rE⟩ := hE.rb
  have eq : n - B.length = Ex.length := by omega
  have pa2 := p.a2
  rw [eq] at pa2
  obtain ⟨R', _, R1', _⟩ := ann_ex rE bE pa2
  obtain ⟨hS, rkS, _⟩ := R1' Ex.length (Nat.le_refl _)
  rw [List.take_length] at hS
  generalize R' Ex.length = St at hS rkS
  have hC := kerker_com hB hE hS rk rkS hr
  have sS : Sml n b (ker n Ex) := by
    obtain ⟨rows, h1, h2⟩ := hs
    exact ⟨rows, fun r hr => ⟨(h1 r hr).1, in_kerker hB hE (h1 r hr).2⟩, Com.trans (h2.mono fun u ⟨r, hr, e⟩ => by rw [e]; exact hB.mem hr) hC⟩
  have cl := free_count rE (Nat.le_refl _) (p := fun c => !decide ((c : Int) ∈ (psL Ex pvx).map Int.ofNat)) (fun c => by
    rw [Bool.not_eq_true', decide_eq_false_iff_not, mem_nat]
    unfold psL
    rw [List.mem_map]
    exact ⟨fun h i hi e => h ⟨i, List.mem_range.mpr hi, e⟩, fun h ⟨i, hi, e⟩ => h i (List.mem_range.mp hi) e⟩)
  have cl : (colsL n (psL Ex pvx)).length + Ex.length = n := cl
  have mc := cols_mem (n := n) (Ex := Ex) (pvx := pvx)
  have nd : (colsL n (psL Ex pvx)).Nodup := List.filter_sublist.nodup List.nodup_range
  generalize hcs : colsL n (psL Ex pvx) = cs at *
  have bp : ∀ (c : Nat) (v : Vc), Bd n (2 ^ c) v → Bd cs.length (2 ^ c) (cs.map (at_ v)) := fun c v h => ⟨by rw [List.length_map], fun j => by
    rw [at_pj]
    unfold pj
    split
    · exact h.2 _
    · simp⟩
  have rn : cs.length ≤ n := by omega
  have rowsB : ∀ r ∈ B.map fun b => cs.map (at_ b), Bd cs.length (2 ^ e) r := fun r hr => by
    obtain ⟨v, hv, rfl⟩ := List.mem_map.mp hr
    exact bp e v (hb v hv)
  obtain ⟨inn, hI⟩ := HB.of_rows (by have := p.n7; omega) (p.f4 _ rn) rowsB
  obtain ⟨pvi, rI⟩ := hI.rb
  have ind : Ind (B.map fun b => cs.map (at_ b)) := fun a ha k hk => by
    rw [List.length_map] at hk
    refine hr.ind a (fun j => ?_) k hk
    have hl : L (lc B B.length a) := (hB.lat _).mp (lc_lat (Nat.le_refl _))
    have hk2 := in_kerker hB hE hl
    refine tri_zero rE hk2.1 (Nat.le_refl _) (fun i hi => hk2.2 _ (tk_mem hi)) (fun j hj => ?_) j
    by_cases hn : j < n
    · have hc : j ∈ cs := (mc j).mpr ⟨hn, hj⟩
      have h2 := List.idxOf_lt_length_of_mem hc
      have := ha (cs.idxOf j)
      rw [List.length_map, lc_map (lin_pj cs) (fun b _ j => at_pj j) a _ _ (Nat.le_refl _)] at this
      unfold pj at this
      rw [if_pos h2, List.getD_eq_getElem?_getD, List.getElem?_eq_getElem h2] at this
      have q : lc B B.length a cs[cs.idxOf j] = 0 := this
      rw [List.getElem_idxOf h2] at q
      exact q
    · exact hk2.1 j (by omega)
  have lI : inn.length = cs.length := by
    have a := hI.rank_le ind fun t ht => .of ⟨t, ht, rfl⟩
    have b := hI.le
    rw [List.length_map] at a
    omega
  have sI : Sml cs.length b (Lat (Gr (B.map fun b => cs.map (at_ b)))) := by
    obtain ⟨rows, h1, h2⟩ := Sml.img (lin_pj cs) (f := fun v => cs.map (at_ v)) (r := cs.length) (fun v _ => ⟨fun j => at_pj j, bp b v⟩) hs
    refine ⟨rows, fun r hr => ⟨(h1 r hr).1, ?_⟩, h2.mono fun v hv => ?_⟩
    · obtain ⟨u, hu, e⟩ := (h1 r hr).2
      exact (lat_map (lin_pj cs) (fun b _ j => at_pj j) _).mpr ⟨u, (hB.lat u).mpr hu, e⟩
    · obtain ⟨u, hu, e⟩ := (lat_map (lin_pj cs) (fun b _ j => at_pj j) _).mp hv
      exact ⟨u, (hB.lat u).mp hu, e⟩
  have n7 := p.n7
  refine ⟨Ex, St, pvx, cs, inn, pvi, ⟨hB, hE, rE, nd, mc, hI, rI, lI⟩, hcs.symm, rfl, rk, by omega, bE, hS, by omega, fun r hr => (hS.bd (by omega) sS hr).mono (pow_mono2 (bb_mono (by omega) (Nat.le_refl b))), hC, fun r hr => (hI.bd (by omega) sI hr).mono (pow_mono2 (bb_mono (by omega) (Nat.le_refl b))), fun k hk => ?_⟩
  have := hI.piv_bd (by omega) rI sI hk
  rw [sq_piv rI lI (by omega)] at this
  refine Nat.le_trans this (pow_mono2 (Nat.mul_le_mul_right _ (by omega)))
end K87

namespace K87
open PySem PySem.Spec PyProof.Rows L2 DL
open PySem.Builtin.Int (intBits)
/-! ### vectors that are 0 at the pivots, cleared -/
def bpr (Ex : List Vc) (pvx : Nat → Nat) : Nat → Int
  | 0 => 1
  | k + 1 => bpr Ex pvx k * at_ (tk Ex k) (pvx k)
section
variable {n : Nat} {Ex : List Vc} {pvx : Nat → Nat}
theorem scale_one (v : Vc) : scaleL 1 v = v := by
  unfold scaleL
  conv => rhs; rw [← List.map_id v]
  exact List.map_congr_left fun x _ => by show 1 * x = x; omega
theorem clr_zero (h : RB n Ex pvx) {v : Vc} (hl : v.length = n) (hz : ∀ i, i < Ex.length → at_ v (pvx i) = 0) : ∀ k, k ≤ Ex.length → clr Ex v k = (scaleL (bpr Ex pvx k) v, bpr Ex pvx k)
  | 0, _ => by show (v, (1 : Int)) = (scaleL 1 v, 1); rw [scale_one]
  | k + 1, hk => by
    have e : clr Ex v (k + 1) = (combL (at_ (tk Ex k) ((fstN (tk Ex k)).getD 0)) (clr Ex v k).1 (-(at_ (clr Ex v k).1 ((fstN (tk Ex k)).getD 0))) (tk Ex k), (clr Ex v k).2 * at_ (tk Ex k) ((fstN (tk Ex k)).getD 0)) := rfl
    rw [e, clr_zero h hl hz k (by omega), h.fst (show k < Ex.length by omega)]
    show (combL (at_ (tk Ex k) (pvx k)) (scaleL (bpr Ex pvx k) v) (-(at_ (scaleL (bpr Ex pvx k) v) (pvx k))) (tk Ex k), bpr Ex pvx k * at_ (tk Ex k) (pvx k)) = _
    have e2 : combL (at_ (tk Ex k) (pvx k)) (scaleL (bpr Ex pvx k) v) (-(at_ (scaleL (bpr Ex pvx k) v) (pvx k))) (tk Ex k) = scaleL (bpr Ex pvx (k + 1)) v := by
      have l1 : (scaleL (bpr Ex pvx k) v).length = n := by rw [scale_len]; exact hl
      have l2 := h.len k (by omega)
      refine vc_ext (comb_len l1 l2) (by rw [scale_len]; exact hl) fun j _ => ?_
      rw [at_comb (by rw [l1, l2]), at_scale, at_scale, at_scale, hz k (by omega)]
      show _ = bpr Ex pvx k * at_ (tk Ex k) (pvx k) * at_ v j
      grind
    rw [e2]; rfl
theorem bpr_pos (h : RB n Ex pvx) : ∀ k, k ≤ Ex.length → 0 < bpr Ex pvx k
  | 0, _ => by show (0 : Int) < 1; omega
  | k + 1, hk => Int.mul_pos (bpr_pos h k (by omega)) (h.pos k (by omega))
theorem bpr_bd {e : Nat} (hb : ∀ r ∈ Ex, Bd n (2 ^ e) r) : ∀ k, k ≤ Ex.length → (bpr Ex pvx k).natAbs ≤ 2 ^ (k * e)
  | 0, _ => by show (1 : Int).natAbs ≤ _; rw [Nat.zero_mul]; decide
  | k + 1, hk => by
    show (bpr Ex pvx k * _).natAbs ≤ _
    rw [Int.natAbs_mul, Nat.succ_mul, Nat.pow_add]
    exact Nat.mul_le_mul (bpr_bd hb k (by omega)) ((hb _ (tk_mem (by omega))).2 _)
end
theorem prod_bd {X : List Vc} {e : Nat} (h : ∀ k, k < X.length → (at_ (tk X k) k).natAbs ≤ 2 ^ e) : ∀ k, k ≤ X.length → (prodD X k).natAbs ≤ 2 ^ (k * e)
  | 0, _ => by show (1 : Int).natAbs ≤ _; rw [Nat.zero_mul]; decide
  | k + 1, hk => by
    show (prodD X k * _).natAbs ≤ _
    rw [Int.natAbs_mul, Nat.succ_mul, Nat.pow_add]
    exact Nat.mul_le_mul (prod_bd h k (by omega)) (h k (by omega))
/-! ### coordinates by unit rows -/
theorem cow_units {r : Nat} {v : Vc} (hl : v.length = r) : ∀ k, k ≤ r → (cow (unitsL r) v k).length = r ∧ ∀ j, at_ (cow (unitsL r) v k) j = if j < k then 0 else at_ v j
  | 0, _ => ⟨hl, fun j => by rw [if_neg (Nat.not_lt_zero _)]; rfl⟩
  | k + 1, hk => by
    obtain ⟨h1, h2⟩ := cow_units hl k (by omega)
    have hf : fstN (tk (unitsL r) k) = some k := (rb_units r).fst (by rw [units_len]; omega)
    have e : cow (unitsL r) v (k + 1) = combL 1 (cow (unitsL r) v k) (-((at_ (cow (unitsL r) v k) k).fdiv (at_ (tk (unitsL r) k) k))) (tk (unitsL r) k) := by
      show combL 1 _ (-((at_ _ ((fstN (tk (unitsL r) k)).getD 0)).fdiv (at_ _ ((fstN (tk (unitsL r) k)).getD 0)))) _ = _
      rw [hf]; rfl
    have u1 : at_ (tk (unitsL r) k) k = 1 := by rw [tk_units (by omega), at_unit, if_pos ⟨by omega, rfl⟩]
    have lu : (tk (unitsL r) k).length = r := by rw [tk_units (by omega)]; exact unit_len
    rw [e, u1, Int.fdiv_one, h2, if_neg (Nat.lt_irrefl k)]
    refine ⟨comb_len h1 lu, fun j => ?_⟩
    rw [at_comb (by rw [h1, lu]), h2, tk_units (by omega), at_unit]
    by_cases a : j < k
    · rw [if_pos a, if_neg (fun q => by omega), if_pos (by omega)]; omega
    · by_cases b : j = k
      · subst b; rw [if_neg a, if_pos ⟨by omega, rfl⟩, if_pos (by omega)]; omega
      · rw [if_neg a, if_neg (fun q => b q.2), if_neg (by omega)]; omega
theorem cof_units {r : Nat} {v : Vc} (hl : v.length = r) {k : Nat} (hk : k < r) : cof (unitsL r) v k = at_ v k := by
  have hf : fstN (tk (unitsL r) k) = some k := (rb_units r).fst (by rw [units_len]; omega)
  have u1 : at_ (tk (unitsL r) k) k = 1 := by rw [tk_units (by omega), at_unit, if_pos ⟨by omega, rfl⟩]
  show (at_ _ ((fstN (tk (unitsL r) k)).getD 0)).fdiv (at_ _ ((fstN (tk (unitsL r) k)).getD 0)) = _
  rw [hf]
  show (at_ (cow (unitsL r) v k) k).fdiv (at_ (tk (unitsL r) k) k) = _
  rw [u1, Int.fdiv_one, (cow_units hl k (by omega)).2, if_neg (Nat.lt_irrefl k)]
theorem coL_units {r : Nat} {v : Vc} (hl : v.length = r) : coL (unitsL r) v = v := by
  unfold coL
  rw [units_len]
  refine vc_ext (n := r) (by rw [List.length_map, List.length_range]) hl fun j hj => ?_
  have : at_ ((List.range r).map (cof (unitsL r) v)) j = if j < r then cof (unitsL r) v j else 0 := at_vcOf (n := r) (f := cof (unitsL r) v) j
  rw [this, if_pos hj, cof_units hl hj]
/-! ### the dual's rows are small -/
theorem dl_sml {n c : Nat} {L : Fv → Prop} {B Ex inn : List Vc} {pvx pvi : Nat → Nat} {cs : List Nat} (d : Du n L B Ex pvx cs inn pvi) {sc : Int} (h0 : sc ≠ 0) (hs : sc.natAbs ≤ 2 ^ c) : Sml n c (Dl n Ex pvx L sc) := by
  refine ⟨cs.map fun (a : Nat) => scaleL sc (unitL n (a : Int)), fun r hr => ?_, fun z hz => ⟨sc, h0, ?_⟩⟩
  · obtain ⟨a, ha, rfl⟩ := List.mem_map.mp hr
    obtain ⟨han, hap⟩ := (d.mc a).mp ha
    refine ⟨⟨by rw [scale_len]; exact unit_len, fun j => ?_⟩, zn_at (by rw [scale_len]; exact unit_len), fun i hi => ?_, fun u hu => ?_⟩
    · rw [at_scale, at_unit]
      split
      · rw [Int.mul_one]; exact hs
      · rw [Int.mul_zero]; simp
    · rw [at_scale, at_unit, if_neg (fun q => hap i hi q.2), Int.mul_zero]
    · unfold pr2
      rw [sm_one (c := a) han (fun p hp hne => by show at_ (scaleL sc (unitL n (a : Int))) p * u p = 0; rw [at_scale, at_unit, if_neg (fun q => hne q.2)]; simp)]
      show sc ∣ at_ (scaleL sc (unitL n (a : Int))) a * u a
      rw [at_scale, at_unit, if_pos ⟨han, rfl⟩, Int.mul_one]
      exact Int.dvd_mul_right _ _
  · have := lc_lat (T := cs.map fun (a : Nat) => scaleL sc (unitL n (a : Int))) (a := fun l => z (cs.getD l 0)) (m := cs.length) (by rw [List.length_map]; exact Nat.le_refl _)
    refine this.eq fun j => ?_
    unfold lc
    have tkc : ∀ l, l < cs.length → tk (cs.map fun (a : Nat) => scaleL sc (unitL n (a : Int))) l = scaleL sc (unitL n ((cs.getD l 0 : Nat) : Int)) := fun l hl => by
      unfold tk
      rw [List.getD_eq_getElem?_getD, List.getD_eq_getElem?_getD, List.getElem?_map, List.getElem?_eq_getElem hl]; rfl
    by_cases hc : j ∈ cs
    · have h2 := List.idxOf_lt_length_of_mem hc
      have hj := ((d.mc j).mp hc).1
      have eg : cs.getD (cs.idxOf j) 0 = j := by rw [List.getD_eq_getElem?_getD, List.getElem?_eq_getElem h2]; exact List.getElem_idxOf h2
      rw [sm_one (c := cs.idxOf j) h2 (fun p hp hne => by
        show z (cs.getD p 0) * at_ (tk _ p) j = 0
        rw [tkc p hp, at_scale, at_unit, if_neg (fun q => hne ?_)]
        · simp
        · have e3 : cs.getD p 0 = cs.getD (cs.idxOf j) 0 := by rw [eg]; exact q.2.symm
          rw [List.getD_eq_getElem?_getD, List.getD_eq_getElem?_getD, List.getElem?_eq_getElem hp, List.getElem?_eq_getElem h2] at e3
          exact (List.getElem_inj d.nd).mp e3)]
      show z (cs.getD (cs.idxOf j) 0) * at_ (tk _ (cs.idxOf j)) j = _
      rw [tkc _ h2, eg, at_scale, at_unit, if_pos ⟨hj, rfl⟩, Int.mul_one, Int.mul_comm]
    · have z0 : z j = 0 := by
        by_cases hj : j < n
        · exact d.out hz.2.1 hj hc
        · exact hz.1 j (by omega)
      rw [z0, Int.mul_zero]
      exact sm_zero fun p hp => by
        show z (cs.getD p 0) * at_ (tk _ p) j = 0
        rw [tkc p hp, at_scale, at_unit, if_neg (fun q => hc ?_)]
        · simp
        · rw [q.2]
          rw [List.getD_eq_getElem?_getD, List.getElem?_eq_getElem hp]
          exact List.getElem_mem hp
end K87

namespace K87
open PySem PySem.Spec PyProof.Rows L2 DL
open PySem.Builtin.Int (intBits)
/-! ### frames: the other product -/
def FrRc (n : Nat) (V F : List Vc) : Prop := ∀ i j, i < n → j < n → sm n (fun k => at_ (tk V k) i * at_ (tk F k) j) = if i = j then 1 else 0
theorem sm_two {n one oth : Nat} {c d : Fv} {X : Int} (h1 : one < n) (h2 : oth < n) (hne : one ≠ oth) (e : ∀ k, k < n → d k = c k + (if k = one then X else 0) + (if k = oth then -X else 0)) : sm n d = sm n c := by
  have l1 := sm_lin 1 1 (fun k => c k + if k = one then X else 0) (fun k => if k = oth then -X else 0) n
  have l2 := sm_lin 1 1 c (fun k => if k = one then X else 0) n
  have o1 := sm_one (f := fun k => if k = one then X else 0) h1 (fun p _ hp => by show (if p = one then X else 0) = 0; rw [if_neg hp])
  have o2 := sm_one (f := fun k => if k = oth then -X else 0) h2 (fun p _ hp => by show (if p = oth then -X else 0) = 0; rw [if_neg hp])
  have q1 : (if one = one then X else 0) = X := if_pos rfl
  have q2 : (if oth = oth then -X else 0) = -X := if_pos rfl
  have e1 : sm n d = sm n (fun p => 1 * (c p + if p = one then X else 0) + 1 * (if p = oth then -X else 0)) := sm_congr fun p hp => by rw [e p hp, Int.one_mul, Int.one_mul]
  have e2 : sm n (fun k => c k + if k = one then X else 0) = sm n (fun p => 1 * c p + 1 * (if p = one then X else 0)) := sm_congr fun p _ => by rw [Int.one_mul, Int.one_mul]
  rw [e1, l1, e2, l2, o1, o2, q1, q2]
  omega
theorem rc_step {n : Nat} (hn : 0 < n) {z : Fr} (h : FrOk n z.1 z.2.1) (r : FrRc n z.1 z.2.1) : FrRc n (frStep n z).1 (frStep n z).2.1 := by
  have o1 := frOne_lt hn z.2.2
  have o2 := frOne_lt hn (drS z.2.2 n)
  intro i j hi hj
  rw [← r i j hi hj]
  unfold frStep
  by_cases e : frOne n z.2.2 = frOne n (drS z.2.2 n)
  · rw [if_pos e]
    generalize frOne n z.2.2 = a at o1
    exact sm_congr fun k hk => by
      show at_ (tk (z.1.set a (negL (tk z.1 a))) k) i * at_ (tk (z.2.1.set a (negL (tk z.2.1 a))) k) j = _
      rw [tk_set (by rw [h.lv]; exact o1), tk_set (by rw [h.lf]; exact o1)]
      by_cases q : k = a
      · rw [if_pos q, if_pos q, neg_scale, neg_scale, at_scale, at_scale, q]; grind
      · rw [if_neg q, if_neg q]
  · rw [if_neg e]
    by_cases c : (frVec n z ++ frFrm n z).all (fun x => decide (x.natAbs < 100)) = true
    · rw [if_pos c]
      have ev : frVec n z = combL (frFac (fr2 n z.2.2)) (tk z.1 (frOne n (drS z.2.2 n))) 1 (tk z.1 (frOne n z.2.2)) := plus_comb _ _ _
      have ef : frFrm n z = combL (0 - frFac (fr2 n z.2.2)) (tk z.2.1 (frOne n z.2.2)) 1 (tk z.2.1 (frOne n (drS z.2.2 n))) := plus_comb _ _ _
      generalize frVec n z = nv at *
      generalize frFrm n z = nf at *
      generalize frFac (fr2 n z.2.2) = q at ev ef
      generalize frOne n z.2.2 = a at o1 e ev ef
      generalize frOne n (drS z.2.2 n) = b at o2 e ev ef
      refine sm_two (one := a) (oth := b) (X := q * at_ (tk z.1 b) i * at_ (tk z.2.1 a) j) o1 o2 e fun k hk => ?_
      show at_ (tk (z.1.set a nv) k) i * at_ (tk (z.2.1.set b nf) k) j = _
      rw [tk_set (by rw [h.lv]; exact o1), tk_set (by rw [h.lf]; exact o2)]
      by_cases ka : k = a
      · have kb : ¬ k = b := fun w => e (by rw [← ka, w])
        rw [if_pos ka, if_neg kb, if_pos ka, if_neg kb, ev, at_comb (by rw [(h.bv b o2).1, (h.bv a o1).1]), ka]
        grind
      · by_cases kb : k = b
        · rw [if_neg ka, if_pos kb, if_neg ka, if_pos kb, ef, at_comb (by rw [(h.bf a o1).1, (h.bf b o2).1]), kb]
          grind
        · rw [if_neg ka, if_neg kb, if_neg ka, if_neg kb]; omega
    · rw [if_neg c]
theorem rc_units {n : Nat} : FrRc n (unitsL n) (unitsL n) := fun i j hi hj => by
  rw [sm_one (c := i) hi (fun p hp hne => by
    show at_ (tk (unitsL n) p) i * _ = 0
    rw [tk_units hp, at_unit, if_neg (fun q => hne q.2.symm), Int.zero_mul])]
  show at_ (tk (unitsL n) i) i * at_ (tk (unitsL n) i) j = _
  rw [tk_units hi, at_unit, at_unit, if_pos ⟨hi, rfl⟩]
  by_cases e : i = j
  · rw [if_pos ⟨hj, e.symm⟩, if_pos e]; rfl
  · rw [if_neg (fun q => e q.2.symm), if_neg e]; rfl
theorem rc_ok {n m : Nat} (hn : 0 < n) {s : Stm} (hs : SOk m s) : ∀ k, FrRc n (frN n s k).1 (frN n s k).2.1
  | 0 => rc_units
  | k + 1 => rc_step hn (fr_ok hn hs k).1 (rc_ok hn hs k)
/-! ### the lattice of a frame and moduli -/
def LS (n : Nat) (F : List Vc) (ms : List Int) (u : Fv) : Prop := Zn n u ∧ ∀ i, i < n → ms.getD i 0 ∣ val n (tk F i) u
section
variable {n : Nat} {V F : List Vc} {ms : List Int}
theorem exp_V (h : FrOk n V F) (r : FrRc n V F) {u : Fv} (hz : Zn n u) (j : Nat) : u j = lc V n (fun k => val n (tk F k) u) j := by
  unfold lc
  by_cases hj : j < n
  · have e : sm n (fun k => val n (tk F k) u * at_ (tk V k) j) = sm n (fun k => sm n fun i => (at_ (tk V k) j * at_ (tk F k) i) * u i) := sm_congr fun k _ => by
      rw [Int.mul_comm]; unfold val; rw [← sm_mul]
      exact sm_congr fun i _ => by rw [Int.mul_assoc]
    rw [e, sm_swap]
    have e2 : (sm n fun i => sm n fun k => (at_ (tk V k) j * at_ (tk F k) i) * u i) = sm n fun i => u i * (if j = i then 1 else 0) := sm_congr fun i hi => by
      rw [← r j i hj hi, ← sm_mul]
      exact sm_congr fun k _ => Int.mul_comm _ _
    rw [e2, sm_one (c := j) hj (fun p _ hne => by show u p * (if j = p then 1 else 0) = 0; rw [if_neg (Ne.symm hne), Int.mul_zero])]
    show u j = u j * (if j = j then 1 else 0)
    rw [if_pos rfl, Int.mul_one]
  · rw [hz j (by omega)]
    exact (sm_zero fun k hk => by show _ * at_ (tk V k) j = 0; rw [at_out (by rw [(h.bv k hk).1]; omega), Int.mul_zero]).symm
theorem exp_F (h : FrOk n V F) (r : FrRc n V F) {g : Fv} (hz : Zn n g) (j : Nat) : g j = lc F n (fun k => val n (tk V k) g) j := by
  unfold lc
  by_cases hj : j < n
  · have e : sm n (fun k => val n (tk V k) g * at_ (tk F k) j) = sm n (fun k => sm n fun i => (at_ (tk V k) i * at_ (tk F k) j) * g i) := sm_congr fun k _ => by
      rw [Int.mul_comm]; unfold val; rw [← sm_mul]
      exact sm_congr fun i _ => by grind
    rw [e, sm_swap]
    have e2 : (sm n fun i => sm n fun k => (at_ (tk V k) i * at_ (tk F k) j) * g i) = sm n fun i => g i * (if i = j then 1 else 0) := sm_congr fun i hi => by
      rw [← r i j hi hj, ← sm_mul]
      exact sm_congr fun k _ => Int.mul_comm _ _
    rw [e2, sm_one (c := j) hj (fun p _ hne => by show g p * (if p = j then 1 else 0) = 0; rw [if_neg hne, Int.mul_zero])]
    show g j = g j * (if j = j then 1 else 0)
    rw [if_pos rfl, Int.mul_one]
  · rw [hz j (by omega)]
    exact (sm_zero fun k hk => by show _ * at_ (tk F k) j = 0; rw [at_out (by rw [(h.bf k hk).1]; omega), Int.mul_zero]).symm
/-- a sum of rows, each in the lattice or with the factor 0 -/
theorem lat_part {G : Fv → Prop} {T : List Vc} {a : Nat → Int} : ∀ m, (∀ k, k < m → Lat G (fun j => a k * at_ (tk T k) j)) → Lat G (lc T m a)
  | 0, _ => Lat.zero.eq fun _ => rfl
  | m + 1, h => lat2 (a := 1) (b := 1) (lat_part m fun k hk => h k (by omega)) (h m (by omega)) fun j => by
    show lc T m a j + a m * at_ (tk T m) j = _
    omega
theorem zip_mem {i : Nat} (hm : ms.length = n) (hv : V.length = n) (hi : i < n) : (ms.getD i 0, tk V i) ∈ List.zip ms V := by
  have h1 : i < ms.length := by omega
  have h2 : i < V.length := by omega
  have e : (List.zip ms V)[i]'(by rw [List.length_zip]; omega) = (ms.getD i 0, tk V i) := by
    rw [List.getElem_zip]
    unfold tk
    rw [List.getD_eq_getElem?_getD, List.getD_eq_getElem?_getD, List.getElem?_eq_getElem h1, List.getElem?_eq_getElem h2]; rfl
  rw [← e]; exact List.getElem_mem _
theorem zip_ex {p : Int × Vc} (hm : ms.length = n) (hv : V.length = n) (h : p ∈ List.zip ms V) : ∃ i, i < n ∧ p = (ms.getD i 0, tk V i) := by
  obtain ⟨i, hi, e⟩ := List.getElem_of_mem h
  rw [List.length_zip] at hi
  have h1 : i < ms.length := by omega
  have h2 : i < V.length := by omega
  refine ⟨i, by omega, ?_⟩
  rw [← e, List.getElem_zip]
  unfold tk
  rw [List.getD_eq_getElem?_getD, List.getD_eq_getElem?_getD, List.getElem?_eq_getElem h1, List.getElem?_eq_getElem h2]; rfl
theorem val_FV (h : FrOk n V F) {i k : Nat} (hi : i < n) (hk : k < n) : val n (tk F i) (at_ (tk V k)) = if i = k then 1 else 0 := by
  rw [← h.dt i k hi hk]; exact (val_dot (h.bf i hi).1 (h.bv k hk).1).symm
theorem val_scaleR (f : Vc) (c : Int) (u : Fv) : val n f (fun j => c * u j) = c * val n f u := by
  unfold val; rw [← sm_mul]; exact sm_congr fun p _ => by grind
theorem times_ls (h : FrOk n V F) (hm : ms.length = n) {k : Nat} (hk : k < n) : LS n F ms (fun j => ms.getD k 0 * at_ (tk V k) j) := by
  refine ⟨fun j hj => by show _ * at_ (tk V k) j = 0; rw [at_out (by rw [(h.bv k hk).1]; exact hj), Int.mul_zero], fun i hi => ?_⟩
  rw [val_scaleR, val_FV h hi hk]
  by_cases q : i = k
  · rw [q]; exact Int.dvd_mul_right _ _
  · rw [if_neg q, Int.mul_zero]; exact Int.dvd_zero _
theorem times_lat (h : FrOk n V F) (r : FrRc n V F) (hm : ms.length = n) (u : Fv) : Lat (Gr (timesL ms V)) u ↔ LS n F ms u := by
  constructor
  · intro hu
    have gen : ∀ g, Gr (timesL ms V) g → LS n F ms g := fun g ⟨w, hw, e⟩ => by
      subst e
      unfold timesL at hw
      obtain ⟨p, hp, rfl⟩ := List.mem_map.mp hw
      obtain ⟨i, hi, rfl⟩ := zip_ex hm h.lv (List.mem_filter.mp hp).1
      have : at_ (scaleL (ms.getD i 0) (tk V i)) = fun j => ms.getD i 0 * at_ (tk V i) j := funext fun j => at_scale j
      show LS n F ms (at_ (scaleL (ms.getD i 0) (tk V i)))
      rw [this]; exact times_ls h hm hi
    induction hu with
    | zero => exact ⟨fun _ _ => rfl, fun i _ => by rw [val_zero]; exact Int.dvd_zero _⟩
    | @add v g k _ hg ih =>
      have a := gen g hg
      refine ⟨fun j hj => by show v j + k * g j = 0; rw [ih.1 j hj, a.1 j hj]; omega, fun i hi => ?_⟩
      rw [val_lin n (tk F i) 1 k v g _ (fun j => by omega)]
      exact Int.dvd_add (by rw [Int.one_mul]; exact ih.2 i hi) (Int.dvd_mul_of_dvd_right (a.2 i hi))
  · intro hu
    have e : u = lc V n (fun k => val n (tk F k) u) := funext fun j => exp_V h r hu.1 j
    rw [e]
    refine lat_part n fun k hk => ?_
    obtain ⟨c, hc⟩ := hu.2 k hk
    by_cases z : ms.getD k 0 = 0
    · rw [z, Int.zero_mul] at hc
      exact Lat.zero.eq fun j => by show (0 : Int) = val n (tk F k) u * _; rw [hc, Int.zero_mul]
    · have hg : Gr (timesL ms V) (at_ (scaleL (ms.getD k 0) (tk V k))) := ⟨_, by
        unfold timesL
        exact List.mem_map.mpr ⟨_, List.mem_filter.mpr ⟨zip_mem hm h.lv hk, decide_eq_true z⟩, rfl⟩, rfl⟩
      exact ((Lat.of hg).lin2 Lat.zero c 0).eq fun j => by
        show c * at_ (scaleL (ms.getD k 0) (tk V k)) j + 0 * 0 = val n (tk F k) u * at_ (tk V k) j
        rw [at_scale, hc]; grind
theorem ker_iff {L : Fv → Prop} {B : List Vc} (hB : HB n L B) (g : Fv) : ker n B g ↔ Zn n g ∧ ∀ u, L u → pr2 n g u = 0 := by
  constructor
  · intro h
    refine ⟨h.1, fun u hu => ?_⟩
    have := ker_lat h ((hB.lat u).mpr hu)
    rw [pr2_comm]; exact this
  · rintro ⟨h1, h2⟩
    exact ⟨h1, fun b hb => by have := h2 _ (hB.mem hb); rw [pr2_comm] at this; exact this⟩
theorem zip_mem2 {i : Nat} (hm : ms.length = n) (hf : F.length = n) (hi : i < n) : (tk F i, ms.getD i 0) ∈ List.zip F ms := by
  have h1 : i < ms.length := by omega
  have h2 : i < F.length := by omega
  have e : (List.zip F ms)[i]'(by rw [List.length_zip]; omega) = (tk F i, ms.getD i 0) := by
    rw [List.getElem_zip]
    unfold tk
    rw [List.getD_eq_getElem?_getD, List.getD_eq_getElem?_getD, List.getElem?_eq_getElem h1, List.getElem?_eq_getElem h2]; rfl
  rw [← e]; exact List.getElem_mem _
theorem zip_ex2 {p : Vc × Int} (hm : ms.length = n) (hf : F.length = n) (h : p ∈ List.zip F ms) : ∃ i, i < n ∧ p = (tk F i, ms.getD i 0) := by
  obtain ⟨i, hi, e⟩ := List.getElem_of_mem h
  rw [List.length_zip] at hi
  have h1 : i < ms.length := by omega
  have h2 : i < F.length := by omega
  refine ⟨i, by omega, ?_⟩
  rw [← e, List.getElem_zip]
  unfold tk
  rw [List.getD_eq_getElem?_getD, List.getD_eq_getElem?_getD, List.getElem?_eq_getElem h1, List.getElem?_eq_getElem h2]; rfl
/-- the forms with the modulus 0 generate the forms that are 0 on the lattice -/
theorem zero_lat (h : FrOk n V F) (r : FrRc n V F) (hm : ms.length = n) {B : List Vc} (hB : HB n (LS n F ms) B) (g : Fv) : Lat (Gr (zeroF F ms)) g ↔ ker n B g := by
  rw [ker_iff hB]
  constructor
  · intro hg
    have gen : ∀ g, Gr (zeroF F ms) g → Zn n g ∧ ∀ u, LS n F ms u → pr2 n g u = 0 := fun g ⟨w, hw, e⟩ => by
      subst e
      unfold zeroF at hw
      obtain ⟨p, hp, rfl⟩ := List.mem_map.mp hw
      have hp2 := List.mem_filter.mp hp
      obtain ⟨i, hi, rfl⟩ := zip_ex2 hm h.lf hp2.1
      refine ⟨zn_at (h.bf i hi).1, fun u hu => ?_⟩
      have := hu.2 i hi
      rw [show ms.getD i 0 = 0 from of_decide_eq_true hp2.2, Int.zero_dvd] at this
      exact this
    induction hg with
    | zero => exact ⟨fun _ _ => rfl, fun u _ => sm_zero fun p _ => by show 0 * u p = 0; rw [Int.zero_mul]⟩
    | @add v g k _ hg ih =>
      have a := gen g hg
      refine ⟨fun j hj => by show v j + k * g j = 0; rw [ih.1 j hj, a.1 j hj]; omega, fun u hu => ?_⟩
      rw [pr2_comm, pr2_lin (u := v) (v := g) (a := 1) (b := k) (fun j => by show v j + k * g j = _; omega), pr2_comm, ih.2 u hu, pr2_comm, a.2 u hu]; omega
  · rintro ⟨hz, hu⟩
    have e : g = lc F n (fun k => val n (tk V k) g) := funext fun j => exp_F h r hz j
    rw [e]
    refine lat_part n fun k hk => ?_
    by_cases z : ms.getD k 0 = 0
    · have hg : Gr (zeroF F ms) (at_ (tk F k)) := ⟨_, by
        unfold zeroF
        exact List.mem_map.mpr ⟨_, List.mem_filter.mpr ⟨zip_mem2 hm h.lf hk, decide_eq_true z⟩, rfl⟩, rfl⟩
      exact ((Lat.of hg).lin2 Lat.zero (val n (tk V k) g) 0).eq fun j => by show _ * at_ (tk F k) j + 0 * 0 = _; omega
    · have a := hu _ (times_ls h hm hk)
      rw [pr2_lin (u := at_ (tk V k)) (v := fun _ => 0) (a := ms.getD k 0) (b := 0) (fun j => by omega)] at a
      have : ms.getD k 0 * pr2 n g (at_ (tk V k)) = 0 := by omega
      have b : val n (tk V k) g = 0 := by
        rcases Int.mul_eq_zero.mp this with q | q
        · exact absurd q z
        · rw [val_pr, pr2_comm]; exact q
      exact Lat.zero.eq fun j => by show (0 : Int) = val n (tk V k) g * _; rw [b, Int.zero_mul]
/-! ### forms cleared by the exact rows -/
theorem clr_gen {Ex : List Vc} {pvx : Nat → Nat} (hE : RB n Ex pvx) {v : Vc} (hl : v.length = n) : ∀ k, k ≤ Ex.length → (clr Ex v k).2 = bpr Ex pvx k ∧ (clr Ex v k).1.length = n ∧ (∀ i, i < k → at_ (clr Ex v k).1 (pvx i) = 0) ∧ ∃ l, Lat (Gr Ex) l ∧ ∀ j, at_ (clr Ex v k).1 j = bpr Ex pvx k * at_ v j + l j
  | 0, _ => ⟨rfl, hl, fun i hi => absurd hi (Nat.not_lt_zero _), fun _ => 0, .zero, fun j => by show at_ v j = 1 * at_ v j + 0; omega⟩
  | k + 1, hk => by
    obtain ⟨h1, h2, h3, l, h4, h5⟩ := clr_gen hE hl k (by omega)
    have e : clr Ex v (k + 1) = (combL (at_ (tk Ex k) (pvx k)) (clr Ex v k).1 (-(at_ (clr Ex v k).1 (pvx k))) (tk Ex k), (clr Ex v k).2 * at_ (tk Ex k) (pvx k)) := by
      show (combL _ _ _ _, _) = _
      rw [hE.fst (show k < Ex.length by omega)]; rfl
    have lr := hE.len k (by omega)
    rw [e]
    generalize clr Ex v k = w at *
    refine ⟨by show w.2 * _ = bpr Ex pvx k * _; rw [h1], comb_len h2 lr, fun i hi => ?_, fun j => at_ (tk Ex k) (pvx k) * l j + (-(at_ w.1 (pvx k))) * at_ (tk Ex k) j, h4.lin2 (.of ⟨_, tk_mem (by omega), rfl⟩) _ _, fun j => ?_⟩
    · show at_ (combL _ _ _ _) (pvx i) = 0
      rw [at_comb (by rw [h2, lr])]
      by_cases q : i = k
      · subst q; grind
      · rw [h3 i (by omega), hE.zero k (pvx i) (by omega) (hE.mono i k (by omega) (by omega))]; omega
    · show at_ (combL _ _ _ _) j = _
      rw [at_comb (by rw [h2, lr]), h5 j]
      show _ = bpr Ex pvx k * at_ (tk Ex k) (pvx k) * at_ v j + _
      grind
theorem clr_bd {Ex : List Vc} {e c : Nat} (hE : ∀ r ∈ Ex, Bd n (2 ^ e) r) {v : Vc} (hv : Bd n (2 ^ c) v) : ∀ k, k ≤ Ex.length → Bd n (2 ^ (c + k * (e + 1))) (clr Ex v k).1
  | 0, _ => by rw [Nat.zero_mul]; exact hv
  | k + 1, hk => by
    have ih := clr_bd hE hv k (by omega)
    have hr := hE _ (tk_mem (show k < Ex.length by omega))
    have := ih.comb hr (k := at_ (tk Ex k) ((fstN (tk Ex k)).getD 0)) (l := -(at_ (clr Ex v k).1 ((fstN (tk Ex k)).getD 0))) (S := 2 ^ e) (T := 2 ^ (c + k * (e + 1))) (hr.2 _) (by rw [Int.natAbs_neg]; exact ih.2 _)
    refine this.mono ?_
    rw [← Nat.pow_add, ← Nat.pow_add]
    have e1 : c + (k + 1) * (e + 1) = (e + (c + k * (e + 1))) + 1 := by rw [Nat.add_mul]; omega
    have e2 : c + k * (e + 1) + e = e + (c + k * (e + 1)) := by omega
    rw [e1, e2, Nat.pow_succ]
    omega
/-- a sum of reduced rows that is 0 at the pivots is 0 -/
theorem rb_piv_zero {Ex : List Vc} {pvx : Nat → Nat} (hE : RB n Ex pvx) {u : Fv} (hu : Lat (Gr Ex) u) (hz : ∀ i, i < Ex.length → u (pvx i) = 0) (j : Nat) : u j = 0 := by
  obtain ⟨a, ha⟩ := lat_lc hu
  have key : ∀ k, k < Ex.length → (∀ i, i < k → a i = 0) → a k = 0 := fun k hk h0 => by
    have := ha (pvx k)
    rw [hz k hk] at this
    unfold lc at this
    rw [sm_one (c := k) hk (fun p hp hne => by
      by_cases q : p < k
      · show a p * _ = 0; rw [h0 p q, Int.zero_mul]
      · show _ * at_ (tk Ex p) (pvx k) = 0
        rw [hE.zero p (pvx k) hp (hE.mono k p (by omega) hp), Int.mul_zero])] at this
    have hp := hE.pos k hk
    rcases Int.mul_eq_zero.mp this.symm with q | q
    · exact q
    · omega
  have all : ∀ k, k < Ex.length → a k = 0 := fun k => by
    induction k using Nat.strongRecOn with
    | ind k ih => exact fun hk => key k hk fun i hi => ih i hi (by omega)
  rw [ha j]
  exact sm_zero fun p hp => by show a p * _ = 0; rw [all p hp, Int.zero_mul]
end
end K87

namespace K87
open PySem PySem.Spec PyProof.Rows L2 DL
open PySem.Builtin.Int (intBits)
/-! ### the dual by a frame -/
theorem lat_sum {G : Fv → Prop} {e : Nat → Fv} : ∀ m, (∀ k, k < m → Lat G (e k)) → Lat G (fun j => sm m fun k => e k j)
  | 0, _ => Lat.zero.eq fun _ => rfl
  | m + 1, h => lat2 (a := 1) (b := 1) (lat_sum m fun k hk => h k (by omega)) (h m (by omega)) fun j => by
    show (sm m fun k => e k j) + e m j = _
    omega
theorem grt_pos {ms : List Int} : ∀ k, 0 < grt ms k
  | 0 => by show (0 : Int) < 1; omega
  | k + 1 => Int.mul_pos (grt_pos k) (by split <;> omega)
theorem grt_dvd {ms : List Int} {i : Nat} (h : 0 < ms.getD i 0) : ∀ k, i < k → ms.getD i 0 ∣ grt ms k
  | 0, hk => absurd hk (Nat.not_lt_zero _)
  | k + 1, hk => by
    show _ ∣ grt ms k * (if ms.getD k 0 > 1 then ms.getD k 0 else 1)
    by_cases e : i = k
    · subst e
      refine Int.dvd_mul_of_dvd_right ?_
      by_cases c : ms.getD i 0 > 1
      · rw [if_pos c]; exact Int.dvd_refl _
      · rw [if_neg c]; have : ms.getD i 0 = 1 := by omega
        rw [this]; exact Int.dvd_refl _
    · exact Int.dvd_mul_of_dvd_left (grt_dvd h k (by omega))
theorem grt_bd {ms : List Int} {c : Nat} (h : ∀ i, i < ms.length → (ms.getD i 0).natAbs ≤ 2 ^ c) : ∀ k, k ≤ ms.length → (grt ms k).natAbs ≤ 2 ^ (k * c)
  | 0, _ => by show (1 : Int).natAbs ≤ _; exact one_pow2 _
  | k + 1, hk => by
    show (grt ms k * (if ms.getD k 0 > 1 then ms.getD k 0 else 1)).natAbs ≤ _
    rw [Int.natAbs_mul, Nat.succ_mul, Nat.pow_add]
    refine Nat.mul_le_mul (grt_bd h k (by omega)) ?_
    split
    · exact h k (by omega)
    · exact one_pow2 _
section
variable {n : Nat} {V F B Ex : List Vc} {ms : List Int} {pvx : Nat → Nat}
def crF (Ex : List Vc) (f : Vc) : Vc := (clr Ex f Ex.length).1
theorem due_key (h : FrOk n V F) (r : FrRc n V F) (hm : ms.length = n) (h0 : ∀ i, i < n → 0 ≤ ms.getD i 0) (hB : HB n (LS n F ms) B) (hE : HB n (ker n B) Ex) (rE : RB n Ex pvx) {t : Int} (ht : 0 < t) {y : Fv} (hy : Dl n Ex pvx (LS n F ms) t y) :
    ∃ z', Lat (Gr (dueR (grt ms ms.length) (crF Ex) (List.zip F ms))) z' ∧ ∀ j, t * z' j = grt ms ms.length * bpr Ex pvx Ex.length * y j := by
  have G0 : 0 < grt ms ms.length := grt_pos _
  have dv : ∀ k, k < n → 0 < ms.getD k 0 → grt ms ms.length = ms.getD k 0 * (grt ms ms.length).fdiv (ms.getD k 0) := fun k hk hp => fdiv_mul hp (grt_dvd hp _ (by omega))
  generalize hG : grt ms ms.length = G at *
  have cg := fun k (hk : k < n) => clr_gen rE (h.bf k hk).1 Ex.length (Nat.le_refl _)
  generalize hfac : bpr Ex pvx Ex.length = fac at *
  have mk : ∀ k, ∃ m : Int, k < n → 0 < ms.getD k 0 → ms.getD k 0 * val n (tk V k) y = t * m := fun k => by
    by_cases c : k < n ∧ 0 < ms.getD k 0
    · have a := hy.2.2 _ (times_ls h hm c.1)
      rw [pr2_lin (u := at_ (tk V k)) (v := fun _ => 0) (a := ms.getD k 0) (b := 0) (fun j => by omega)] at a
      obtain ⟨m, hm'⟩ := a
      refine ⟨m, fun _ _ => ?_⟩
      rw [← hm', val_pr, pr2_comm]; omega
    · exact ⟨0, fun h1 h2 => absurd ⟨h1, h2⟩ c⟩
  let m := fun k => Classical.choose (mk k)
  have ms' : ∀ k, k < n → 0 < ms.getD k 0 → ms.getD k 0 * val n (tk V k) y = t * m k := fun k => Classical.choose_spec (mk k)
  let q : Nat → Fv := fun k j => if 0 < ms.getD k 0 then m k * (G.fdiv (ms.getD k 0) * at_ (crF Ex (tk F k)) j) else 0
  have lq : ∀ k, k < n → Lat (Gr (dueR G (crF Ex) (List.zip F ms))) (q k) := fun k hk => by
    by_cases c : 0 < ms.getD k 0
    · have hg : Gr (dueR G (crF Ex) (List.zip F ms)) (at_ (scaleL (G.fdiv (ms.getD k 0)) (crF Ex (tk F k)))) := ⟨_, by
        unfold dueR
        exact List.mem_map.mpr ⟨_, List.mem_filter.mpr ⟨zip_mem2 hm h.lf hk, decide_eq_true c⟩, rfl⟩, rfl⟩
      exact ((Lat.of hg).lin2 Lat.zero (m k) 0).eq fun j => by
        show m k * at_ (scaleL _ _) j + 0 * 0 = if 0 < ms.getD k 0 then _ else 0
        rw [if_pos c, at_scale]; omega
    · exact Lat.zero.eq fun j => by show (0 : Int) = if 0 < ms.getD k 0 then _ else 0; rw [if_neg c]
  refine ⟨fun j => sm n fun k => q k j, lat_sum n lq, fun j => ?_⟩
  -- the difference
  let e : Nat → Fv := fun k j => if 0 < ms.getD k 0 then G * val n (tk V k) y * (at_ (crF Ex (tk F k)) j - fac * at_ (tk F k) j) else -(G * fac * val n (tk V k) y) * at_ (tk F k) j
  have le : ∀ k, k < n → Lat (Gr Ex) (e k) := fun k hk => by
    by_cases c : 0 < ms.getD k 0
    · obtain ⟨_, _, _, l, hl, he⟩ := cg k hk
      exact (hl.lin2 Lat.zero (G * val n (tk V k) y) 0).eq fun j => by
        show G * val n (tk V k) y * l j + 0 * 0 = if 0 < ms.getD k 0 then _ else _
        rw [if_pos c]
        have : at_ (crF Ex (tk F k)) j = fac * at_ (tk F k) j + l j := he j
        rw [this]
        have e2 : fac * at_ (tk F k) j + l j - fac * at_ (tk F k) j = l j := by omega
        rw [e2]; omega
    · have z : ms.getD k 0 = 0 := by have := h0 k hk; omega
      have hf : Lat (Gr Ex) (at_ (tk F k)) := (hE.lat _).mpr ((zero_lat h r hm hB _).mp (.of ⟨tk F k, by
        unfold zeroF
        exact List.mem_map.mpr ⟨_, List.mem_filter.mpr ⟨zip_mem2 hm h.lf hk, decide_eq_true z⟩, rfl⟩, rfl⟩))
      exact (hf.lin2 Lat.zero (-(G * fac * val n (tk V k) y)) 0).eq fun j => by
        show _ * at_ (tk F k) j + 0 * 0 = if 0 < ms.getD k 0 then _ else _
        rw [if_neg c]; omega
  have ey : ∀ j, y j = sm n fun k => val n (tk V k) y * at_ (tk F k) j := fun j => exp_F h r hy.1 j
  have eq1 : ∀ j, t * (sm n fun k => q k j) = sm n fun k => if 0 < ms.getD k 0 then G * val n (tk V k) y * at_ (crF Ex (tk F k)) j else 0 := fun j => by
    rw [← sm_mul]
    exact sm_congr fun k hk => by
      show t * (if 0 < ms.getD k 0 then m k * (G.fdiv (ms.getD k 0) * at_ (crF Ex (tk F k)) j) else 0) = _
      by_cases c : 0 < ms.getD k 0
      · rw [if_pos c, if_pos c]
        have a := ms' k hk c
        have b := dv k hk c
        generalize G.fdiv (ms.getD k 0) = w at b ⊢
        rw [b]
        have : t * (m k * (w * at_ (crF Ex (tk F k)) j)) = (t * m k) * w * at_ (crF Ex (tk F k)) j := by grind
        rw [this, ← a]; grind
      · rw [if_neg c, if_neg c, Int.mul_zero]
  have eq2 : ∀ j, (sm n fun k => e k j) = t * (sm n fun k => q k j) - G * fac * y j := fun j => by
    rw [eq1 j, ey j, ← sm_mul]
    have l := sm_lin 1 (-1) (fun k => if 0 < ms.getD k 0 then G * val n (tk V k) y * at_ (crF Ex (tk F k)) j else 0) (fun k => G * fac * (val n (tk V k) y * at_ (tk F k) j)) n
    have e3 : (sm n fun k => e k j) = sm n (fun p => 1 * (if 0 < ms.getD p 0 then G * val n (tk V p) y * at_ (crF Ex (tk F p)) j else 0) + (-1) * (G * fac * (val n (tk V p) y * at_ (tk F p) j))) := sm_congr fun k hk => by
      show (if 0 < ms.getD k 0 then _ else _) = _
      by_cases c : 0 < ms.getD k 0
      · rw [if_pos c, if_pos c]; grind
      · rw [if_neg c, if_neg c]; grind
    rw [e3, l]; omega
  have dz := rb_piv_zero rE (lat_sum n le) (fun i hi => by
    show (sm n fun k => e k (pvx i)) = 0
    rw [eq2, eq1, hy.2.1 i hi, Int.mul_zero]
    rw [sm_zero fun k hk => by
      show (if 0 < ms.getD k 0 then G * val n (tk V k) y * at_ (crF Ex (tk F k)) (pvx i) else 0) = 0
      have : at_ (crF Ex (tk F k)) (pvx i) = 0 := (cg k hk).2.2.1 i hi
      rw [this]; split <;> omega]
    omega) j
  have := eq2 j
  have d2 : (sm n fun k => e k j) = 0 := dz
  show t * (sm n fun k => q k j) = _
  omega
theorem due_ok (h : FrOk n V F) (r : FrRc n V F) (hm : ms.length = n) (h0 : ∀ i, i < n → 0 ≤ ms.getD i 0) (hB : HB n (LS n F ms) B) (hE : HB n (ker n B) Ex) (rE : RB n Ex pvx) :
    (∀ z, Lat (Gr (dueR (grt ms ms.length) (crF Ex) (List.zip F ms))) z ↔ Dl n Ex pvx (LS n F ms) (grt ms ms.length * bpr Ex pvx Ex.length) z) ∧ Itg n Ex pvx (LS n F ms) (grt ms ms.length * bpr Ex pvx Ex.length) := by
  have b0 := bpr_pos rE Ex.length (Nat.le_refl _)
  have G0 : 0 < grt ms ms.length := grt_pos _
  have key := fun (t : Int) (ht : 0 < t) (y : Fv) (hy : Dl n Ex pvx (LS n F ms) t y) => due_key h r hm h0 hB hE rE ht hy
  have dv : ∀ k, k < n → 0 < ms.getD k 0 → grt ms ms.length = ms.getD k 0 * (grt ms ms.length).fdiv (ms.getD k 0) := fun k hk hp => fdiv_mul hp (grt_dvd hp _ (by omega))
  generalize grt ms ms.length = G at *
  have to : ∀ z, Lat (Gr (dueR G (crF Ex) (List.zip F ms))) z → Dl n Ex pvx (LS n F ms) (G * bpr Ex pvx Ex.length) z := fun z hz => by
    have gen : ∀ g, Gr (dueR G (crF Ex) (List.zip F ms)) g → Dl n Ex pvx (LS n F ms) (G * bpr Ex pvx Ex.length) g := fun g ⟨w, hw, e⟩ => by
      subst e
      unfold dueR at hw
      obtain ⟨p, hp, rfl⟩ := List.mem_map.mp hw
      have hp2 := List.mem_filter.mp hp
      obtain ⟨i, hi, rfl⟩ := zip_ex2 hm h.lf hp2.1
      have pos : 0 < ms.getD i 0 := of_decide_eq_true hp2.2
      obtain ⟨_, c2, c3, l, c4, c5⟩ := clr_gen rE (h.bf i hi).1 Ex.length (Nat.le_refl _)
      have ea : at_ (scaleL (G.fdiv (ms.getD i 0)) (crF Ex (tk F i))) = fun j => G.fdiv (ms.getD i 0) * at_ (crF Ex (tk F i)) j := funext fun j => at_scale j
      refine ⟨zn_at (by rw [scale_len]; exact c2), fun k hk => ?_, fun u hu => ?_⟩
      · show at_ (scaleL (G.fdiv (ms.getD i 0)) (crF Ex (tk F i))) (pvx k) = 0
        rw [at_scale]
        have : at_ (crF Ex (tk F i)) (pvx k) = 0 := c3 k hk
        rw [this, Int.mul_zero]
      · show _ ∣ pr2 n (at_ (scaleL (G.fdiv (ms.getD i 0)) (crF Ex (tk F i)))) u
        rw [ea, pr2_scale]
        have hl : pr2 n u l = 0 := by
          have := pr2_lat (d := 0) (y := u) (fun g ⟨x, hx, eg⟩ => by
            subst eg
            rw [Int.zero_dvd, pr2_comm]
            exact ((ker_iff hB _).mp (hE.mem hx)).2 u hu) c4
          exact Int.zero_dvd.mp this
        have hc : pr2 n (at_ (crF Ex (tk F i))) u = bpr Ex pvx Ex.length * val n (tk F i) u := by
          rw [pr2_comm, pr2_lin (u := at_ (tk F i)) (v := l) (a := bpr Ex pvx Ex.length) (b := 1) (fun j => by
            have : at_ (crF Ex (tk F i)) j = _ := c5 j
            rw [this]; omega), hl, val_pr, pr2_comm]; omega
        rw [hc]
        obtain ⟨q, hq⟩ := hu.2 i hi
        have b := dv i hi pos
        generalize G.fdiv (ms.getD i 0) = w at b ⊢
        rw [hq, b]
        exact ⟨q, by grind⟩
    induction hz with
    | zero => exact ⟨fun _ _ => rfl, fun _ _ => rfl, fun u _ => by
        have : pr2 n (fun _ => 0) u = 0 := sm_zero fun p _ => by show 0 * u p = 0; rw [Int.zero_mul]
        rw [this]; exact Int.dvd_zero _⟩
    | @add v g k _ hg ih =>
      have a := gen g hg
      refine ⟨fun j hj => by show v j + k * g j = 0; rw [ih.1 j hj, a.1 j hj]; omega, fun i hi => by show v (pvx i) + k * g (pvx i) = 0; rw [ih.2.1 i hi, a.2.1 i hi]; omega, fun u hu => ?_⟩
      rw [pr2_comm, pr2_lin (u := v) (v := g) (a := 1) (b := k) (fun j => by omega)]
      refine Int.dvd_add ?_ (Int.dvd_mul_of_dvd_right ?_)
      · rw [Int.one_mul, pr2_comm]; exact ih.2.2 u hu
      · rw [pr2_comm]; exact a.2.2 u hu
  have P0 : 0 < G * bpr Ex pvx Ex.length := Int.mul_pos G0 b0
  refine ⟨fun z => ⟨to z, fun hz => ?_⟩, fun t ht y hy => ?_⟩
  · obtain ⟨z', hz', e⟩ := key _ P0 z hz
    have : z = z' := funext fun j => Int.eq_of_mul_eq_mul_left (Int.ne_of_gt P0) (e j).symm
    rw [this]; exact hz'
  · obtain ⟨z', hz', e⟩ := key t ht y hy
    exact ⟨z', to z' hz', e⟩
end
end K87

namespace K87
open PySem PySem.Spec PyProof.Rows L2 DL
open PySem.Builtin.Int (intBits)
/-! ### a drawn basis, reduced -/
def ck (cs : List Nat) (k : Nat) : Nat := cs.getD k 0
structure BkO (n : Nat) (cs : List Nat) (X : List Vc) : Prop where
  ll : X.length = cs.length
  pw : ∀ i j, i < j → j < cs.length → ck cs i < ck cs j
  lt : ∀ k, k < cs.length → ck cs k < n
  zero : ∀ k j, k < cs.length → j < ck cs k → at_ (tk X k) j = 0
  pos : ∀ k, k < cs.length → 0 < at_ (tk X k) (ck cs k)
  bd : ∀ k, k < cs.length → Bd n (2 ^ 20) (tk X k)
structure BkJ (n : Nat) (cs : List Nat) (X0 : List Vc) (l h : Nat) (X : List Vc) : Prop where
  ll : X.length = cs.length
  old : ∀ k, l ≤ k → k < cs.length → tk X k = tk X0 k
  zero : ∀ k j, k < cs.length → j < ck cs k → at_ (tk X k) j = 0
  piv : ∀ k, k < cs.length → at_ (tk X k) (ck cs k) = at_ (tk X0 k) (ck cs k)
  red : ∀ i j, i < j → j < l → j < cs.length → 0 ≤ at_ (tk X i) (ck cs j) ∧ at_ (tk X i) (ck cs j) < at_ (tk X0 j) (ck cs j)
  rd2 : ∀ i, i < h → i < l → l < cs.length → 0 ≤ at_ (tk X i) (ck cs l) ∧ at_ (tk X i) (ck cs l) < at_ (tk X0 l) (ck cs l)
  bd : ∀ k, k < cs.length → Bd n (2 ^ (20 + 21 * (if k < h then l else l - 1))) (tk X k)
  sp : ∀ u, Lat (Gr X) u ↔ Lat (Gr X0) u
section
variable {n l h : Nat} {cs : List Nat} {X X0 : List Vc}
theorem bk_start (o : BkO n cs X0) : BkJ n cs X0 0 0 X0 := ⟨o.ll, fun _ _ _ => rfl, o.zero, fun _ _ => rfl, fun i j _ hj => absurd hj (Nat.not_lt_zero _), fun i hi => absurd hi (Nat.not_lt_zero _), fun k hk => o.bd k hk, fun _ => Iff.rfl⟩
theorem bk_next (j : BkJ n cs X0 l l X) : BkJ n cs X0 (l + 1) 0 X := by
  refine ⟨j.ll, fun k h1 h2 => j.old k (by omega) h2, j.zero, j.piv, fun a b hab hb hbc => ?_, fun i hi => absurd hi (Nat.not_lt_zero _), fun k hk => ?_, j.sp⟩
  · by_cases e : b = l
    · subst e; exact j.rd2 a hab hab hbc
    · exact j.red a b hab (by omega) hbc
  · have := j.bd k hk
    refine this.mono (pow_mono2 ?_)
    split <;> simp <;> omega
theorem bk_step (o : BkO n cs X0) (j : BkJ n cs X0 l h X) (hl : l < cs.length) (hh : h < l) : BkJ n cs X0 l (h + 1) (X.set h (plusL (0 - (at_ (tk X h) (ck cs l)).fdiv (at_ (tk X l) (ck cs l))) (tk X l) (tk X h))) := by
  have el := j.old l (Nat.le_refl l) hl
  have bl : Bd n (2 ^ 20) (tk X l) := by rw [el]; exact o.bd l hl
  have bh := j.bd h (by omega)
  rw [if_neg (Nat.lt_irrefl h)] at bh
  have hset : ∀ k, tk (X.set h (plusL (0 - (at_ (tk X h) (ck cs l)).fdiv (at_ (tk X l) (ck cs l))) (tk X l) (tk X h))) k = if k = h then plusL (0 - (at_ (tk X h) (ck cs l)).fdiv (at_ (tk X l) (ck cs l))) (tk X l) (tk X h) else tk X k := fun k => tk_set (by rw [j.ll]; omega) k
  have pl := o.pos l hl
  rw [← el] at pl
  have fb : ((at_ (tk X h) (ck cs l)).fdiv (at_ (tk X l) (ck cs l))).natAbs ≤ 2 ^ (20 + 21 * (l - 1)) := Nat.le_trans (natAbs_fdiv_le _ _) (bh.2 _)
  have md : 0 ≤ at_ (tk X h) (ck cs l) - (at_ (tk X h) (ck cs l)).fdiv (at_ (tk X l) (ck cs l)) * at_ (tk X l) (ck cs l) ∧ at_ (tk X h) (ck cs l) - (at_ (tk X h) (ck cs l)).fdiv (at_ (tk X l) (ck cs l)) * at_ (tk X l) (ck cs l) < at_ (tk X l) (ck cs l) := by
    rw [Int.fdiv_eq_ediv_of_nonneg _ (by omega)]
    have a := Int.emod_nonneg (at_ (tk X h) (ck cs l)) (show at_ (tk X l) (ck cs l) ≠ 0 by omega)
    have b := Int.emod_lt_of_pos (at_ (tk X h) (ck cs l)) pl
    have c := Int.mul_ediv_add_emod (at_ (tk X h) (ck cs l)) (at_ (tk X l) (ck cs l))
    rw [Int.mul_comm] at c
    omega
  generalize (at_ (tk X h) (ck cs l)).fdiv (at_ (tk X l) (ck cs l)) = f at *
  have ev : ∀ q, at_ (plusL (0 - f) (tk X l) (tk X h)) q = at_ (tk X h) q - f * at_ (tk X l) q := fun q => by
    rw [plus_comb, at_comb (by rw [bl.1, bh.1])]; grind
  have lnv : (plusL (0 - f) (tk X l) (tk X h)).length = n := by rw [plus_comb]; exact comb_len bl.1 bh.1
  have low : ∀ q, q < ck cs l → at_ (plusL (0 - f) (tk X l) (tk X h)) q = at_ (tk X h) q := fun q hq => by rw [ev, j.zero l q hl hq]; omega
  generalize plusL (0 - f) (tk X l) (tk X h) = nv at *
  refine ⟨by rw [List.length_set]; exact j.ll, fun k h1 h2 => ?_, fun k q hk hq => ?_, fun k hk => ?_, fun a b hab hb hbc => ?_, fun i hi hil hlc => ?_, fun k hk => ?_, fun u => ?_⟩
  · rw [hset, if_neg (by omega)]; exact j.old k h1 h2
  · rw [hset]
    split
    · rename_i e; subst e
      rw [low q (by have := o.pw k l hh hl; omega)]; exact j.zero k q hk hq
    · exact j.zero k q hk hq
  · rw [hset]
    split
    · rename_i e; subst e
      rw [low _ (o.pw k l hh hl)]; exact j.piv k hk
    · exact j.piv k hk
  · rw [hset]
    split
    · rename_i e; subst e
      rw [low _ (o.pw b l hb hl)]; exact j.red a b hab hb hbc
    · exact j.red a b hab hb hbc
  · rw [hset]
    split
    · rename_i e; subst e
      rw [ev, ← el]; exact md
    · exact j.rd2 i (by omega) hil hlc
  · by_cases e : k = h
    · subst e
      rw [hset, if_pos (show k < k + 1 by omega), if_pos rfl]
      refine ⟨lnv, fun q => ?_⟩
      rw [ev]
      have t1 : (at_ (tk X k) q - f * at_ (tk X l) q).natAbs ≤ (at_ (tk X k) q).natAbs + f.natAbs * (at_ (tk X l) q).natAbs := by
        rw [← Int.natAbs_mul]; omega
      refine Nat.le_trans t1 ?_
      have a := bh.2 q
      have b := Nat.mul_le_mul fb (bl.2 q)
      rw [← Nat.pow_add] at b
      have e1 : 20 + 21 * l = (20 + 21 * (l - 1) + 20) + 1 := by omega
      have e2 : 2 ^ (20 + 21 * (l - 1)) ≤ 2 ^ (20 + 21 * (l - 1) + 20) := pow_mono2 (by omega)
      rw [e1, Nat.pow_succ]
      omega
    · rw [hset, if_neg e]
      refine (j.bd k hk).mono (pow_mono2 ?_)
      by_cases q : k < h
      · rw [if_pos q, if_pos (by omega)]; exact Nat.le_refl _
      · rw [if_neg q, if_neg (by omega)]; exact Nat.le_refl _
  · rw [← j.sp]
    have mh : ∀ k, k < cs.length → Lat (Gr X) (at_ (tk X k)) := fun k hk => .of ⟨_, tk_mem (by rw [j.ll]; exact hk), rfl⟩
    have ms : ∀ k, k < cs.length → Lat (Gr (X.set h nv)) (at_ (tk (X.set h nv) k)) := fun k hk => .of ⟨_, tk_mem (by rw [List.length_set, j.ll]; exact hk), rfl⟩
    have mnv : Lat (Gr X) (at_ nv) := lat2 (a := 1) (b := -f) (mh h (by omega)) (mh l hl) fun q => by rw [ev]; grind
    have mxh : Lat (Gr (X.set h nv)) (at_ (tk X h)) := by
      have a := ms h (by omega)
      have b := ms l hl
      rw [hset, if_pos rfl] at a
      rw [hset, if_neg (by omega)] at b
      exact lat2 (a := 1) (b := f) a b fun q => by rw [ev]; grind
    constructor
    · intro hu
      refine hu.into fun g ⟨w, hw, e⟩ => ?_
      subst e
      obtain ⟨k, hk, rfl⟩ := tk_ex hw
      rw [List.length_set, j.ll] at hk
      rw [hset]
      split
      · exact mnv
      · exact mh k hk
    · intro hu
      refine hu.into fun g ⟨w, hw, e⟩ => ?_
      subst e
      obtain ⟨k, hk, rfl⟩ := tk_ex hw
      rw [j.ll] at hk
      by_cases e : k = h
      · rw [e]; exact mxh
      · have := ms k hk
        rw [hset, if_neg e] at this; exact this
/-- what a drawn basis is -/
structure BkR (n : Nat) (B : List Vc) : Prop where
  rb : ∃ pv, RB n B pv
  bd : ∀ r ∈ B, Bd n (2 ^ (20 + 21 * (B.length - 1))) r
  sm : Sml n 20 (Lat (Gr B))
theorem bk_end (o : BkO n cs X0) (j : BkJ n cs X0 cs.length 0 X) : BkR n X := by
  have ln := fun k hk => (j.bd k hk).1
  refine ⟨⟨ck cs, fun k hk => ?_, fun k hk => ?_, fun i k hik hk => ?_, fun k q hk hq => ?_, fun k hk => ?_, fun i k hik hk => ?_⟩, fun r hr => ?_, X0, fun r hr => ?_, ?_⟩
  all_goals try rw [j.ll] at hk
  · exact ln k hk
  · exact o.lt k hk
  · exact o.pw i k hik hk
  · exact j.zero k q hk hq
  · rw [j.piv k hk]; exact o.pos k hk
  · rw [j.piv k hk]; exact j.red i k hik hk hk
  · obtain ⟨k, hk, rfl⟩ := tk_ex hr
    rw [j.ll] at hk
    have := j.bd k hk
    rw [if_neg (Nat.not_lt_zero k)] at this
    rw [j.ll]; exact this
  · obtain ⟨k, hk, rfl⟩ := tk_ex hr
    rw [o.ll] at hk
    exact ⟨o.bd k hk, (j.sp _).mpr (.of ⟨_, tk_mem (by rw [o.ll]; exact hk), rfl⟩)⟩
  · exact Com.mono (com_refl (Gr X0)).lat fun u hu => (j.sp u).mp hu
end
/-! ### data with some tuples as lists -/
mutual
def lsd : PyData → Stm → PyData × Stm
  | .tuple ds, s => ((if drV (lsds ds s).2 2 = 0 then .tuple (lsds ds s).1 else .list (lsds ds s).1), drS (lsds ds s).2 2)
  | d, s => (d, s)
def lsds : List PyData → Stm → List PyData × Stm
  | [], s => ([], s)
  | d :: ds, s => ((lsd d s).1 :: (lsds ds (lsd d s).2).1, (lsds ds (lsd d s).2).2)
end
/-- data of tuples, ints, texts -/
def TupOk : Nat → PyData → Prop
  | 0, _ => False
  | k + 1, d => match d with
    | .tuple ds => ds.length ≤ 100 ∧ ∀ x ∈ ds, TupOk k x
    | .int _ => True
    | .str _ => True
    | _ => False
/-- the draws taken -/
def tnum : Nat → PyData → Nat
  | 0, _ => 0
  | k + 1, d => match d with
    | .tuple ds => (ds.map (tnum k)).sum + 1
    | _ => 0
theorem lsds_len : ∀ (ds : List PyData) (s : Stm), (lsds ds s).1.length = ds.length
  | [], s => by simp [lsds]
  | d :: ds, s => by simp [lsds, lsds_len ds]
theorem lsd_ok : ∀ (k : Nat) (d : PyData) (s : Stm) (m : Nat), TupOk k d → SOk m s → frz (lsd d s).1 = d ∧ FrzOk k (lsd d s).1 ∧ SOk (m + tnum k d) (lsd d s).2
  | 0, _, _, _, h, _ => h.elim
  | k + 1, d, s, m, h, hs => by
    have many : ∀ (ds : List PyData) (s : Stm) (m : Nat), (∀ x ∈ ds, TupOk k x) → SOk m s → (lsds ds s).1.map frz = ds ∧ (∀ x ∈ (lsds ds s).1, FrzOk k x) ∧ SOk (m + (ds.map (tnum k)).sum) (lsds ds s).2 := fun ds => by
      induction ds with
      | nil => intro s m _ hs; simp [lsds]; exact hs
      | cons d ds ih =>
        intro s m hd hs
        obtain ⟨a1, a2, a3⟩ := lsd_ok k d s m (hd d (by simp)) hs
        obtain ⟨b1, b2, b3⟩ := ih (lsd d s).2 _ (fun x hx => hd x (by simp [hx])) a3
        simp only [lsds, List.map_cons, List.sum_cons]
        refine ⟨by rw [a1, b1], fun x hx => ?_, by rw [← Nat.add_assoc]; exact b3⟩
        rcases List.mem_cons.mp hx with rfl | hx
        · exact a2
        · exact b2 x hx
    cases d with
    | tuple ds =>
      obtain ⟨h1, h2⟩ := h
      obtain ⟨b1, b2, b3⟩ := many ds s m h2 hs
      have hlen := lsds_len ds s
      simp only [lsd]
      refine ⟨?_, ?_, ?_⟩
      · split
        · simp only [frz, frzs_map, b1]
        · simp only [frz, frzs_map, b1]
      · split
        · exact ⟨by rw [hlen]; omega, b2⟩
        · exact ⟨by rw [hlen]; omega, b2⟩
      · exact sok_dr 2 b3
    | int i => simp only [lsd]; exact ⟨by simp [frz], True.intro, hs⟩
    | str i => simp only [lsd]; exact ⟨by simp [frz], True.intro, hs⟩
    | none => exact h.elim
    | bool b => exact h.elim
    | list ds => exact h.elim
    | dict ds => exact h.elim
theorem tup_vec {v : Vc} (k : Nat) (h : v.length ≤ 100) : TupOk (k + 2) (vec v) := by
  show (v.map PyData.int).length ≤ 100 ∧ ∀ x ∈ v.map PyData.int, TupOk (k + 1) x
  refine ⟨by rw [List.length_map]; exact h, fun x hx => ?_⟩
  obtain ⟨y, _, rfl⟩ := List.mem_map.mp hx
  exact True.intro
theorem tup_mat {B : List Vc} (k : Nat) (h : B.length ≤ 100) (hr : ∀ r ∈ B, r.length ≤ 100) : TupOk (k + 3) (matT B) := by
  show (B.map vec).length ≤ 100 ∧ ∀ x ∈ B.map vec, TupOk (k + 2) x
  refine ⟨by rw [List.length_map]; exact h, fun x hx => ?_⟩
  obtain ⟨y, hy, rfl⟩ := List.mem_map.mp hx
  exact tup_vec k (hr y hy)
theorem tnum_vec (k : Nat) (v : Vc) : tnum (k + 2) (vec v) = 1 := by
  show ((v.map PyData.int).map (tnum (k + 1))).sum + 1 = 1
  rw [List.map_map]
  have : v.map (tnum (k + 1) ∘ PyData.int) = v.map fun _ => 0 := List.map_congr_left fun _ _ => rfl
  rw [this]
  have : (v.map fun _ => 0).sum = 0 := by
    induction v with
    | nil => rfl
    | cons x v ih => rw [List.map_cons, List.sum_cons, ih (List.map_congr_left fun _ _ => rfl)]
  omega
theorem tnum_mat (k : Nat) (B : List Vc) : tnum (k + 3) (matT B) = B.length + 1 := by
  show ((B.map vec).map (tnum (k + 2))).sum + 1 = _
  rw [List.map_map]
  have : B.map (tnum (k + 2) ∘ vec) = B.map fun _ => 1 := List.map_congr_left fun v _ => tnum_vec k v
  rw [this]
  have : (B.map fun _ => 1).sum = B.length := by
    clear this
    induction B with
    | nil => rfl
    | cons x v ih => rw [List.map_cons, List.sum_cons, ih, List.length_cons]; omega
  omega
end K87

namespace K87
open PySem PySem.Spec PyProof.Rows L2 DL
open PySem.Builtin.Int (intBits)
section
variable {n : Nat} {B : List Vc} {pv : Nat → Nat}
/-- the first pivot that is not 0 is a multiple -/
theorem lat_head (h : RB n B pv) {u : Fv} (hu : Lat (Gr B) u) {k : Nat} (hk : k < B.length) (hz : ∀ i, i < k → u (pv i) = 0) : at_ (tk B k) (pv k) ∣ u (pv k) := by
  obtain ⟨a, ha⟩ := lat_lc hu
  have at1 : ∀ i, i ≤ k → (∀ p, p < i → a p = 0) → u (pv i) = a i * at_ (tk B i) (pv i) := fun i hi h0 => by
    rw [ha (pv i)]
    unfold lc
    rw [sm_one (c := i) (by omega) (fun p hp hne => by
      by_cases q : p < i
      · show a p * _ = 0; rw [h0 p q, Int.zero_mul]
      · show _ * at_ (tk B p) (pv i) = 0
        rw [h.zero p (pv i) hp (h.mono i p (by omega) hp), Int.mul_zero])]
  have all : ∀ i, i < k → a i = 0 := fun i => by
    induction i using Nat.strongRecOn with
    | ind i ih =>
      intro hi
      have e := at1 i (by omega) fun p hp => ih p hp (by omega)
      rw [hz i hi] at e
      have hp := h.pos i (by omega)
      rcases Int.mul_eq_zero.mp e.symm with q | q
      · exact q
      · omega
  rw [at1 k (Nat.le_refl k) all]
  exact Int.dvd_mul_left _ _
theorem cow_succ (h : RB n B pv) {v : Vc} {k : Nat} (hk : k < B.length) : cow B v (k + 1) = combL 1 (cow B v k) (-((at_ (cow B v k) (pv k)).fdiv (at_ (tk B k) (pv k)))) (tk B k) := by
  show combL 1 _ _ _ = _
  rw [h.fst hk]; rfl
theorem cow_lat (h : RB n B pv) {v : Vc} (hl : v.length = n) (hv : Lat (Gr B) (at_ v)) : ∀ k, k ≤ B.length → (cow B v k).length = n ∧ Lat (Gr B) (at_ (cow B v k)) ∧ ∀ i, i < k → at_ (cow B v k) (pv i) = 0
  | 0, _ => ⟨hl, hv, fun i hi => absurd hi (Nat.not_lt_zero _)⟩
  | k + 1, hk => by
    obtain ⟨h1, h2, h3⟩ := cow_lat h hl hv k (by omega)
    have lr := h.len k (by omega)
    have hd := lat_head h h2 (show k < B.length by omega) h3
    have e := fdiv_mul (h.pos k (by omega)) hd
    have ev : ∀ j, at_ (cow B v (k + 1)) j = 1 * at_ (cow B v k) j + (-((at_ (cow B v k) (pv k)).fdiv (at_ (tk B k) (pv k)))) * at_ (tk B k) j := fun j => by
      rw [cow_succ h (by omega), at_comb (by rw [h1, lr])]
    have cl : (cow B v (k + 1)).length = n := by rw [cow_succ h (by omega)]; exact comb_len h1 lr
    generalize (at_ (cow B v k) (pv k)).fdiv (at_ (tk B k) (pv k)) = q at *
    refine ⟨cl, lat2 h2 (.of ⟨_, tk_mem (show k < B.length by omega), rfl⟩) ev, fun i hi => ?_⟩
    rw [ev]
    by_cases z : i = k
    · subst z; rw [e]; grind
    · rw [h3 i (by omega), h.zero k (pv i) (by omega) (h.mono i k (by omega) (by omega))]; omega
theorem cow_end (h : RB n B pv) {v : Vc} (hl : v.length = n) (hv : Lat (Gr B) (at_ v)) : fstN (cow B v B.length) = none := by
  obtain ⟨_, h2, h3⟩ := cow_lat h hl hv B.length (Nat.le_refl _)
  exact fst_none fun j => rb_piv_zero h h2 h3 j
theorem cow_bd {e c : Nat} (h : RB n B pv) (hb : ∀ r ∈ B, Bd n (2 ^ e) r) {v : Vc} (hv : Bd n (2 ^ c) v) : ∀ k, k ≤ B.length → Bd n (2 ^ (c + k * (e + 1))) (cow B v k)
  | 0, _ => by rw [Nat.zero_mul]; exact hv
  | k + 1, hk => by
    have ih := cow_bd h hb hv k (by omega)
    have hr := hb _ (tk_mem (show k < B.length by omega))
    have f := Nat.le_trans (natAbs_fdiv_le (at_ (cow B v k) (pv k)) (at_ (tk B k) (pv k))) (ih.2 _)
    rw [cow_succ h (by omega)]
    have := ih.comb hr (k := 1) (l := -((at_ (cow B v k) (pv k)).fdiv (at_ (tk B k) (pv k)))) (S := 1) (T := 2 ^ (c + k * (e + 1))) (by decide) (by rw [Int.natAbs_neg]; exact f)
    refine this.mono ?_
    rw [Nat.one_mul, ← Nat.pow_add]
    have e1 : c + (k + 1) * (e + 1) = (c + k * (e + 1) + e) + 1 := by rw [Nat.add_mul]; omega
    rw [e1, Nat.pow_succ]
    have := pow_mono2 (show c + k * (e + 1) ≤ c + k * (e + 1) + e by omega)
    omega
theorem cof_le (h : RB n B pv) {v : Vc} {k : Nat} (hk : k < B.length) : (cof B v k).natAbs ≤ (at_ (cow B v k) (pv k)).natAbs := by
  unfold cof
  rw [h.fst hk]
  exact natAbs_fdiv_le _ _
end
section
variable {n : Nat} {L : Fv → Prop} {B Ex inn rows : List Vc} {pvx pvi : Nat → Nat} {cs : List Nat} {sc : Int}
/-- as many rows as free columns -/
theorem dl_rank (d : Du n L B Ex pvx cs inn pvi) (h0 : sc ≠ 0) (hR : HB n (Dl n Ex pvx L sc) rows) : rows.length = cs.length := by
  have tkc : ∀ l, l < cs.length → tk (cs.map fun (a : Nat) => scaleL sc (unitL n (a : Int))) l = scaleL sc (unitL n ((cs.getD l 0 : Nat) : Int)) := fun l hl => by
    unfold tk
    rw [List.getD_eq_getElem?_getD, List.getD_eq_getElem?_getD, List.getElem?_map, List.getElem?_eq_getElem hl]; rfl
  have mem : ∀ l, l < cs.length → cs.getD l 0 ∈ cs := fun l hl => by rw [List.getD_eq_getElem?_getD, List.getElem?_eq_getElem hl]; exact List.getElem_mem hl
  have inj : ∀ p l, p < cs.length → l < cs.length → cs.getD p 0 = cs.getD l 0 → p = l := fun p l hp hl e3 => by
    rw [List.getD_eq_getElem?_getD, List.getD_eq_getElem?_getD, List.getElem?_eq_getElem hp, List.getElem?_eq_getElem hl] at e3
    exact (List.getElem_inj d.nd).mp e3
  apply Nat.le_antisymm
  · have := hR.rank_ge (T := cs.map fun (a : Nat) => scaleL sc (unitL n (a : Int))) (fun z hz => ⟨sc, h0, ?_⟩)
    · rwa [List.length_map] at this
    · have := lc_lat (T := cs.map fun (a : Nat) => scaleL sc (unitL n (a : Int))) (a := fun l => z (cs.getD l 0)) (m := cs.length) (by rw [List.length_map]; exact Nat.le_refl _)
      refine this.eq fun j => ?_
      unfold lc
      by_cases hc : j ∈ cs
      · have h2 := List.idxOf_lt_length_of_mem hc
        have hj := ((d.mc j).mp hc).1
        have eg : cs.getD (cs.idxOf j) 0 = j := by rw [List.getD_eq_getElem?_getD, List.getElem?_eq_getElem h2]; exact List.getElem_idxOf h2
        rw [sm_one (c := cs.idxOf j) h2 (fun p hp hne => by
          show z (cs.getD p 0) * at_ (tk _ p) j = 0
          rw [tkc p hp, at_scale, at_unit, if_neg (fun q => hne ?_)]
          · simp
          · exact inj p _ hp h2 (by rw [eg]; exact q.2.symm))]
        show z (cs.getD (cs.idxOf j) 0) * at_ (tk _ (cs.idxOf j)) j = _
        rw [tkc _ h2, eg, at_scale, at_unit, if_pos ⟨hj, rfl⟩, Int.mul_one, Int.mul_comm]
      · have z0 : z j = 0 := by
          by_cases hj : j < n
          · exact d.out hz.2.1 hj hc
          · exact hz.1 j (by omega)
        rw [z0, Int.mul_zero]
        exact sm_zero fun p hp => by
          show z (cs.getD p 0) * at_ (tk _ p) j = 0
          rw [tkc p hp, at_scale, at_unit, if_neg (fun q => hc ?_)]
          · simp
          · rw [q.2]; exact mem p hp
  · have := hR.rank_le (T := cs.map fun (a : Nat) => scaleL sc (unitL n (a : Int))) (fun a ha k hk => ?_) (fun t ht => ?_)
    · rwa [List.length_map] at this
    · rw [List.length_map] at hk
      have hj := ((d.mc _).mp (mem k hk)).1
      have := ha (cs.getD k 0)
      rw [List.length_map] at this
      unfold lc at this
      rw [sm_one (c := k) hk (fun p hp hne => by
        show a p * at_ (tk _ p) _ = 0
        rw [tkc p hp, at_scale, at_unit, if_neg (fun q => hne (inj p k hp hk q.2.symm))]
        simp)] at this
      rw [tkc k hk, at_scale, at_unit, if_pos ⟨hj, rfl⟩, Int.mul_one] at this
      rcases Int.mul_eq_zero.mp this with q | q
      · exact q
      · exact absurd q h0
    · obtain ⟨a, ha, rfl⟩ := List.mem_map.mp ht
      obtain ⟨han, hap⟩ := (d.mc a).mp ha
      refine ⟨zn_at (by rw [scale_len]; exact unit_len), fun i hi => ?_, fun u hu => ?_⟩
      · rw [at_scale, at_unit, if_neg (fun q => hap i hi q.2), Int.mul_zero]
      · unfold pr2
        rw [sm_one (c := a) han (fun p hp hne => by show at_ (scaleL sc (unitL n (a : Int))) p * u p = 0; rw [at_scale, at_unit, if_neg (fun q => hne q.2)]; simp)]
        show sc ∣ at_ (scaleL sc (unitL n (a : Int))) a * u a
        rw [at_scale, at_unit, if_pos ⟨han, rfl⟩, Int.mul_one]
        exact Int.dvd_mul_right _ _
/-- a form cleared by the exact rows -/
theorem clr_dl (d : Du n L B Ex pvx cs inn pvi) {v : Vc} (hl : v.length = n) : Dl n Ex pvx L (bpr Ex pvx Ex.length) (at_ (clr Ex v Ex.length).1) := by
  obtain ⟨_, h2, h3, l, h4, h5⟩ := clr_gen d.rE hl Ex.length (Nat.le_refl _)
  refine ⟨zn_at h2, h3, fun u hu => ?_⟩
  have k0 : pr2 n l u = 0 := ker_lat (in_kerker d.hB d.hE hu) h4
  have e : pr2 n (at_ (clr Ex v Ex.length).1) u = bpr Ex pvx Ex.length * pr2 n (at_ v) u := by
    rw [pr2_comm, pr2_lin (y := u) (w := at_ (clr Ex v Ex.length).1) (u := at_ v) (v := l) (a := bpr Ex pvx Ex.length) (b := 1) (fun j => by rw [h5 j]; omega), pr2_comm u l, k0, pr2_comm u]
    omega
  rw [e]
  exact Int.dvd_mul_right _ _
theorem clr_quo (d : Du n L B Ex pvx cs inn pvi) (i : Itg n Ex pvx L sc) (hR : HB n (Dl n Ex pvx L sc) rows) {v : Vc} (hl : v.length = n) :
    (∀ x ∈ (clr Ex v Ex.length).1, bpr Ex pvx Ex.length ∣ sc * x) ∧ Lat (Gr rows) (at_ ((clr Ex v Ex.length).1.map fun x => (sc * x).fdiv (bpr Ex pvx Ex.length))) := by
  have b0 := bpr_pos d.rE Ex.length (Nat.le_refl _)
  obtain ⟨z, hz, e⟩ := i _ b0 _ (clr_dl d hl)
  have hl2 := (clr_gen d.rE hl Ex.length (Nat.le_refl _)).2.1
  generalize bpr Ex pvx Ex.length = b at *
  generalize (clr Ex v Ex.length).1 = w at *
  have dv : ∀ x ∈ w, b ∣ sc * x := fun x hx => by
    obtain ⟨j, hj, rfl⟩ := List.getElem_of_mem hx
    have : at_ w j = w[j] := by have := at_get hj; rw [List.getElem?_eq_getElem hj] at this; exact (Option.some.inj this).symm
    rw [← this, ← e j]
    exact Int.dvd_mul_right _ _
  refine ⟨dv, ((hR.lat _).mpr ?_)⟩
  have ez : at_ (w.map fun x => (sc * x).fdiv b) = z := by
    funext j
    by_cases hj : j < w.length
    · have h1 : at_ w j = w[j] := by have := at_get hj; rw [List.getElem?_eq_getElem hj] at this; exact (Option.some.inj this).symm
      have h2 : at_ (w.map fun x => (sc * x).fdiv b) j = (sc * w[j]).fdiv b := by
        unfold at_; rw [List.getD_eq_getElem?_getD, List.getElem?_map, List.getElem?_eq_getElem hj]; rfl
      rw [h2, ← h1, ← e j, Int.mul_comm, Int.mul_fdiv_cancel _ (by omega)]
    · rw [at_out (by rw [List.length_map]; omega), hz.1 j (by omega)]
  rw [ez]; exact hz
theorem gcdA_app (a : Int) (xs ys : List Int) : gcdA a (xs ++ ys) = gcdA (gcdA a xs) ys := by unfold gcdA; rw [List.foldl_append]
theorem gcdA_norm {sc : Int} (h : 0 < sc) (xs : List Int) : gcdA sc xs = gcdL (sc :: xs) := by
  show _ = gcdA (Int.gcd 0 sc : Int) xs
  rw [Int.zero_gcd]
  congr 1
  omega
theorem lsv_val {f v : Vc} (hf : f.length = n) (hv : v.length = n) : dotL f v = pr2 n (at_ f) (at_ v) := by rw [val_dot hf hv, val_pr]
end
end K87

namespace K87
open PySem PySem.Spec PyProof.Rows L2 DL
open PySem.Builtin.Int (intBits)
variable {P : Program} {w : World} {K : PySem.W.Frag} {mg : Str → Option Value} {base : Heap}
def topS (i : Nat) : Stmt := PySem.Challenge.pw_hushgrain_k81_whole_duals_there_and_back.main.body.getD i (.Pass ⟨0, 0, 0, 0⟩)
abbrev s_dot : Stmt := topS 15
abbrev nm_dot : List Str := ["form", "vector", "weight", "entry"]
theorem sc_dot : FnScope nm_dot ["form", "vector"] (defScope s_dot) := ⟨rfl, rfl, rfl, by decide +kernel, rfl, by decide +kernel, by decide +kernel⟩
def F_dot (ds : List PyData) (d : PyData) : Prop := ∃ a b f v, ds = [a, b] ∧ Sq a f ∧ Sq b v ∧ f.length ≤ 1000 ∧ (∀ p ∈ List.zip f v, IntMulOk p.1 p.2) ∧ d = .int (dotL f v)
abbrev T_dot (P : Program) (w : World) (K : PySem.W.Frag) (mg : Str → Option Value) (base : Heap) : Prop := Cal P w K mg base "dot" 41 ["form", "vector"] (PR K F_dot)
theorem ok_dot (S : Sur P mg base) (A : FunAt K mg "dot" s_dot) : T_dot P w K mg base := by
  refine cal_pure A sc_dot (fun _ _ _ _ _ _ us hl => match us, hl with | [_, _], _ => rfl) ?_ (fun f cdv A outer s H E hr => ⟨_, (pss_one (ps_ret (pe_callB (kSum K rfl) (by rfl) (S.no "sum" (by decide)) boot_sum (pa_cons (pe_lc (own := [("weight", 2), ("entry", 3)]) rfl sc_dot.nd (kZip K (by rfl) (S.no "zip" (by decide)) (pa_cons (pv 0) (pa_cons (pv 1) pa_nil))) (blkOk_by (N := nm_dot) (sc := defScope s_dot) (by decide +kernel)) (fun _ _ _ _ _ => (kAny K (n := 2) rfl (pgs_cons (pg_name (i := 2) sc_dot.nd rfl (by first | exact .inl rfl | exact .inr rfl)) (pgs_cons (pg_name (i := 3) sc_dot.nd rfl (by first | exact .inl rfl | exact .inr rfl)) pgs_nil)))) (fun _ _ _ _ _ => pts_nil) (fun _ _ _ _ _ => (pe_op (kMul K) (pv 2) (pv 3)))) pa_nil)))), ?_⟩)
  · rintro _ _ ⟨_, _, _, _, rfl, _⟩; rfl
  · rintro _ _ ⟨a, b, f, v, rfl, ha, hb, hl, hm, rfl⟩
    show RS K false _ [.dat a, .dat b, .un, .un] _
    exact rs_ret (re_cb (ra_cons (RL.re (rl_mapP (List.zip f v) (fun p => .int p.1) (fun p => .int p.2) (fun p => .int (p.1 * p.2)) (ri_zip2 (ra_cons (re_var rfl) (ra_cons (re_var rfl) ra_nil)) ha hb)
      (by rw [List.length_zip]; omega) (fun p hp => re_mulI (re_var rfl) (re_var rfl) (hm p hp)))) ra_nil) cd_sumM) rfl
abbrev s_scale_form : Stmt := topS 16
abbrev nm_scale_form : List Str := ["factor", "form", "entry"]
theorem sc_scale_form : FnScope nm_scale_form ["factor", "form"] (defScope s_scale_form) := ⟨rfl, rfl, rfl, by decide +kernel, rfl, by decide +kernel, by decide +kernel⟩
def F_scale_form (ds : List PyData) (d : PyData) : Prop := ∃ k b f, ds = [.int k, b] ∧ Sq b f ∧ f.length ≤ 1000 ∧ (∀ x ∈ f, IntMulOk k x) ∧ d = vec (scaleL k f)
abbrev T_scale_form (P : Program) (w : World) (K : PySem.W.Frag) (mg : Str → Option Value) (base : Heap) : Prop := Cal P w K mg base "scale_form" 41 ["factor", "form"] (PR K F_scale_form)
theorem ok_scale_form (S : Sur P mg base) (A : FunAt K mg "scale_form" s_scale_form) : T_scale_form P w K mg base := by
  refine cal_pure A sc_scale_form (fun _ _ _ _ _ _ us hl => match us, hl with | [_, _], _ => rfl) ?_ (fun f cdv A outer s H E hr => ⟨_, (pss_one (ps_ret (kTuple K (by rfl) (S.no "tuple" (by decide)) (pe_lc (own := [("entry", 2)]) rfl sc_scale_form.nd (kSeq K (pv 1)) (blkOk_by (N := nm_scale_form) (sc := defScope s_scale_form) (by decide +kernel)) (fun _ _ _ _ _ => (pg_name (i := 2) sc_scale_form.nd rfl (by first | exact .inl rfl | exact .inr rfl))) (fun _ _ _ _ _ => pts_nil) (fun _ _ _ _ _ => (pe_op (kMul K) (pv 0) (pv 2))))))), ?_⟩)
  · rintro _ _ ⟨_, _, _, rfl, _⟩; rfl
  · rintro _ _ ⟨k, b, f, rfl, hb, hl, hm, rfl⟩
    show RS K false _ [.dat (.int k), .dat b, .un] _
    exact rs_ret (re_tupleL (RL.re (rl_map f .int (fun x => .int (k * x)) (ri_seq (re_var rfl) hb) (by omega) (fun x hx => re_mulI (re_var rfl) (re_var rfl) (hm x hx))))) (by simp [vec, scaleL])
abbrev s_combined : Stmt := topS 17
abbrev nm_combined : List Str := ["factor", "one", "other_factor", "other", "a", "b"]
theorem sc_combined : FnScope nm_combined ["factor", "one", "other_factor", "other"] (defScope s_combined) := ⟨rfl, rfl, rfl, by decide +kernel, rfl, by decide +kernel, by decide +kernel⟩
def F_combined (ds : List PyData) (d : PyData) : Prop := ∃ k a f l b g, ds = [.int k, a, .int l, b] ∧ Sq a f ∧ Sq b g ∧ f.length ≤ 1000 ∧ (∀ x ∈ f, IntMulOk k x) ∧ (∀ x ∈ g, IntMulOk l x) ∧ d = vec (combL k f l g)
abbrev T_combined (P : Program) (w : World) (K : PySem.W.Frag) (mg : Str → Option Value) (base : Heap) : Prop := Cal P w K mg base "combined" 41 ["factor", "one", "other_factor", "other"] (PR K F_combined)
theorem ok_combined (S : Sur P mg base) (A : FunAt K mg "combined" s_combined) : T_combined P w K mg base := by
  refine cal_pure A sc_combined (fun _ _ _ _ _ _ us hl => match us, hl with | [_, _, _, _], _ => rfl) ?_ (fun f cdv A outer s H E hr => ⟨_, (pss_one (ps_ret (kTuple K (by rfl) (S.no "tuple" (by decide)) (pe_lc (own := [("a", 4), ("b", 5)]) rfl sc_combined.nd (kZip K (by rfl) (S.no "zip" (by decide)) (pa_cons (pv 1) (pa_cons (pv 3) pa_nil))) (blkOk_by (N := nm_combined) (sc := defScope s_combined) (by decide +kernel)) (fun _ _ _ _ _ => (kAny K (n := 2) rfl (pgs_cons (pg_name (i := 4) sc_combined.nd rfl (by first | exact .inl rfl | exact .inr rfl)) (pgs_cons (pg_name (i := 5) sc_combined.nd rfl (by first | exact .inl rfl | exact .inr rfl)) pgs_nil)))) (fun _ _ _ _ _ => pts_nil) (fun _ _ _ _ _ => (pe_op (kAdd K) (pe_op (kMul K) (pv 0) (pv 4)) (pe_op (kMul K) (pv 2) (pv 5)))))))), ?_⟩)
  · rintro _ _ ⟨_, _, _, _, _, _, rfl, _⟩; rfl
  · rintro _ _ ⟨k, a, f, l, b, g, rfl, ha, hb, hl, hm, hn, rfl⟩
    show RS K false _ [.dat (.int k), .dat a, .dat (.int l), .dat b, .un, .un] _
    exact rs_ret (re_tupleL (RL.re (rl_mapP (List.zip f g) (fun p => .int p.1) (fun p => .int p.2) (fun p => .int (k * p.1 + l * p.2)) (ri_zip2 (ra_cons (re_var rfl) (ra_cons (re_var rfl) ra_nil)) ha hb)
      (by rw [List.length_zip]; omega) (fun p hp => re_addI (re_mulI (re_var rfl) (re_var rfl) (hm _ (List.of_mem_zip hp).1)) (re_mulI (re_var rfl) (re_var rfl) (hn _ (List.of_mem_zip hp).2)))))) (by simp [vec, combL])
abbrev s_unit_form : Stmt := topS 18
abbrev nm_unit_form : List Str := ["size", "place", "at"]
theorem sc_unit_form : FnScope nm_unit_form ["size", "place"] (defScope s_unit_form) := ⟨rfl, rfl, rfl, by decide +kernel, rfl, by decide +kernel, by decide +kernel⟩
def F_unit_form (ds : List PyData) (d : PyData) : Prop := ∃ (n : Nat) (k : Int), ds = [.int n, .int k] ∧ n ≤ 1000 ∧ d = vec (unitL n k)
abbrev T_unit_form (P : Program) (w : World) (K : PySem.W.Frag) (mg : Str → Option Value) (base : Heap) : Prop := Cal P w K mg base "unit_form" 41 ["size", "place"] (PR K F_unit_form)
theorem ok_unit_form (S : Sur P mg base) (A : FunAt K mg "unit_form" s_unit_form) : T_unit_form P w K mg base := by
  refine cal_pure A sc_unit_form (fun _ _ _ _ _ _ us hl => match us, hl with | [_, _], _ => rfl) ?_ (fun f cdv A outer s H E hr => ⟨_, (pss_one (ps_ret (kTuple K (by rfl) (S.no "tuple" (by decide)) (pe_lc (own := [("at", 2)]) rfl sc_unit_form.nd (pi_range1 (by rfl) (S.no "range" (by decide)) (pa_cons (pv 0) pa_nil)) (blkOk_by (N := nm_unit_form) (sc := defScope s_unit_form) (by decide +kernel)) (fun _ _ _ _ _ => (pg_name (i := 2) sc_unit_form.nd rfl (by first | exact .inl rfl | exact .inr rfl))) (fun _ _ _ _ _ => pts_nil) (fun _ _ _ _ _ => (pe_callTy call_int1 (by rfl) (S.no "int" (by decide)) boot_int (pa_cons (pe_cmpR (kEq K hr.units) (pv 2) (pv 1) (nomark _)) pa_nil))))))), ?_⟩)
  · rintro _ _ ⟨_, _, rfl, _⟩; rfl
  · rintro _ _ ⟨n, k, rfl, hl, rfl⟩
    show RS K false _ [.dat (.int n), .dat (.int k), .un] _
    exact rs_ret (re_tupleL (RL.re (rl_map (List.range n) (fun (i : Nat) => .int (i : Int)) (fun (i : Nat) => .int (if decide ((i : Int) = k) = true then 1 else 0)) (ri_range (ra_cons (re_var rfl) ra_nil) (by omega)) (by simp; omega) (fun x hx => re_cb (ra_cons (re_eqI (re_var rfl) (re_var rfl)) ra_nil) cd_intB)))) (by simp [vec, unitL, Function.comp_def])
abbrev s_bezout : Stmt := topS 9
abbrev nm_bezout : List Str := ["one", "other", "left", "right", "factor", "number", "a", "b"]
theorem sc_bezout : FnScope nm_bezout ["one", "other"] (defScope s_bezout) := ⟨rfl, rfl, rfl, by decide +kernel, rfl, by decide +kernel, by decide +kernel⟩
def F_bezout (ds : List PyData) (d : PyData) : Prop := ∃ a b z n, ds = [.int a, .int b] ∧ BzRun n (a, 1, 0) (bzStart a b) z ∧ d = trip (neg3 z)
abbrev T_bezout (P : Program) (w : World) (K : PySem.W.Frag) (mg : Str → Option Value) (base : Heap) : Prop := Cal P w K mg base "bezout" 41 ["one", "other"] (PR K F_bezout)
theorem ok_bezout (S : Sur P mg base) (A : FunAt K mg "bezout" s_bezout) : T_bezout P w K mg base := by
  refine cal_pure A sc_bezout (fun _ _ _ _ _ _ us hl => match us, hl with | [_, _], _ => rfl) ?_ (fun f cdv A outer s H E hr => ⟨_, (pss_cons (ps_par (i := 2) (j := 3) rfl sc_bezout.nd rfl rfl (by decide) rfl rfl (pa_cons (pe_tup (pa_cons (pv 0) (pa_cons pe_int (pa_cons pe_int pa_nil)))) (pa_cons (pe_tup (pa_cons (pv 1) (pa_cons pe_int (pa_cons pe_int pa_nil)))) pa_nil)) rfl) (pss_cons (ps_if (PW.pt (pw_and (pt_cmpR (kNe K hr.units) (pv 0) pe_int (nomark _)) (pw_and1 (pt_cmpR (kEq K hr.units) (pe_op op_modN (pv 1) (pv 0)) pe_int (nomark _))))) (pss_one (ps_set (i := 3) sc_bezout.nd rfl (by first | exact .inl rfl | exact .inr rfl) (pe_tup (pa_cons pe_int (pa_cons pe_int (pa_cons pe_int pa_nil)))))) pss_nil) (pss_cons (ps_while PassesOwn.never (pt_cmpR (kNe K hr.units) (pe_ix (kIx K) (pv 3) pe_int (fun _ _ => rfl)) pe_int (nomark _)) (pss_cons (ps_set (i := 4) sc_bezout.nd rfl (by first | exact .inl rfl | exact .inr rfl) (pe_op (op_fdivX (py_of S.seer S.tree hr)) (pe_ix (kIx K) (pv 2) pe_int (fun _ _ => rfl)) (pe_ix (kIx K) (pv 3) pe_int (fun _ _ => rfl)))) (pss_one (ps_par (i := 2) (j := 3) rfl sc_bezout.nd rfl rfl (by decide) rfl rfl (pa_cons (pv 3) (pa_cons (kTuple K (by rfl) (S.no "tuple" (by decide)) (pe_lc (own := [("a", 6), ("b", 7)]) rfl sc_bezout.nd (kZip K (by rfl) (S.no "zip" (by decide)) (pa_cons (pv 2) (pa_cons (pv 3) pa_nil))) (blkOk_by (N := nm_bezout) (sc := defScope s_bezout) (by decide +kernel)) (fun _ _ _ _ _ => (kAny K (n := 2) rfl (pgs_cons (pg_name (i := 6) sc_bezout.nd rfl (by first | exact .inl rfl | exact .inr rfl)) (pgs_cons (pg_name (i := 7) sc_bezout.nd rfl (by first | exact .inl rfl | exact .inr rfl)) pgs_nil)))) (fun _ _ _ _ _ => pts_nil) (fun _ _ _ _ _ => (pe_op op_sub (pv 6) (pe_op (kMul K) (pv 4) (pv 7)))))) pa_nil)) rfl)))) (pss_cons (ps_if (pt_cmpR op_lt (pe_ix (kIx K) (pv 2) pe_int (fun _ _ => rfl)) pe_int (nomark _)) (pss_one (ps_set (i := 2) sc_bezout.nd rfl (by first | exact .inl rfl | exact .inr rfl) (kTuple K (by rfl) (S.no "tuple" (by decide)) (pe_lc (own := [("number", 5)]) rfl sc_bezout.nd (kSeq K (pv 2)) (blkOk_by (N := nm_bezout) (sc := defScope s_bezout) (by decide +kernel)) (fun _ _ _ _ _ => (pg_name (i := 5) sc_bezout.nd rfl (by first | exact .inl rfl | exact .inr rfl))) (fun _ _ _ _ _ => pts_nil) (fun _ _ _ _ _ => (pe_un un_neg (pv 5))))))) pss_nil) (pss_one (ps_ret (pv 2))))))), ?_⟩)
  · rintro _ _ ⟨_, _, _, _, rfl, _⟩; rfl
  · rintro _ _ ⟨a, b, z, n, rfl, run, rfl⟩
    show RS K false _ [.dat (.int a), .dat (.int b), .un, .un, .un, .un, .un, .un] _
    refine rs_seq (rs_par (ra_cons (re_tup (ra_cons (re_var rfl) (ra_cons re_int (ra_cons re_int ra_nil)))) (ra_cons (re_tup (ra_cons (re_var rfl) (ra_cons re_int (ra_cons re_int ra_nil)))) ra_nil)) ?_)
    show RS K false _ [.dat (.int a), .dat (.int b), .dat (trip (a, 1, 0)), .dat (trip (b, 0, 1)), .un, .un, .un, .un] _
    refine rs_cut (fun Γ => ∃ r : T3, Γ = [.dat (.int a), .dat (.int b), .dat (trip (a, 1, 0)), .dat (trip r), .un, .un, .un, .un] ∧ BzRun n (a, 1, 0) r z) ?_ ?_
    · by_cases ha : a = 0
      · have e : bzStart a b = (b, 0, 1) := by unfold bzStart; rw [if_neg (fun q => q.1 ha)]
        rw [e] at run
        refine rs_if (b := false) ((rt_and (c := true) (rt_test (re_neI (re_var rfl) re_int)) (fun _ => rfl) (fun hh => by subst ha; cases hh)).is (by subst ha; rfl)) (fun z => by cases z) (fun _ => rs_nx ⟨_, rfl, run⟩)
      · refine rs_if (rt_and (rt_test (re_neI (re_var rfl) re_int)) (fun _ => rfl) (fun _ => rt_test (re_eqI (re_modI (re_var rfl) (re_var rfl) ha) re_int))) (fun hb => ?_) (fun hb => rs_nx ?_)
        · refine rs_set (re_tup (ra_cons re_int (ra_cons re_int (ra_cons re_int ra_nil)))) ?_
          have hb2 : b.fmod a = 0 := by simp at hb; exact hb.2
          have e : bzStart a b = (0, 0, 1) := by unfold bzStart; rw [if_pos ⟨ha, hb2⟩]
          rw [e] at run
          exact ⟨_, rfl, run⟩
        · have hb2 : ¬ b.fmod a = 0 := by simp [ha] at hb; exact hb
          have e : bzStart a b = (b, 0, 1) := by unfold bzStart; rw [if_neg (fun q => hb2 q.2)]
          rw [e] at run
          exact ⟨_, rfl, run⟩
    · rintro _ ⟨r, rfl, run⟩
      refine rs_seq (rs_while (fun m Γ => ∃ l r x, Γ = [.dat (.int a), .dat (.int b), .dat (trip l), .dat (trip r), x, .un, .un, .un] ∧ BzRun m l r z) n ⟨(a, 1, 0), r, .un, rfl, run⟩ fun m Γ hW => ?_)
      obtain ⟨l, r, x, rfl, run⟩ := hW
      refine ⟨_, _, rt_test (re_neI (re_ixT (re_var rfl) re_int rfl) re_int), fun hb => ?_, fun hb => ?_⟩
      · cases run with
        | stop h => rw [h] at hb; cases hb
        | @step m' _ _ _ h m1 m2 m3 run =>
          refine rs_seq (rs_set (re_fdivI (re_ixT (re_var rfl) re_int rfl) (re_ixT (re_var rfl) re_int rfl) h) ?_)
          show RS K false _ [.dat (.int a), .dat (.int b), .dat (trip l), .dat (trip r), .dat (.int (l.1.fdiv r.1)), .un, .un, .un] _
          have hz : RI K (iZipX K (tCons (tVar 2) (tCons (tVar 3) tNil))) [.dat (.int a), .dat (.int b), .dat (trip l), .dat (trip r), .dat (.int (l.1.fdiv r.1)), .un, .un, .un]
            ([(l.1, r.1), (l.2.1, r.2.1), (l.2.2, r.2.2)].map fun p => .tuple [.int p.1, .int p.2]) [.dat (.int a), .dat (.int b), .dat (trip l), .dat (trip r), .dat (.int (l.1.fdiv r.1)), .un, .un, .un] :=
            ri_zip (ds := [.int l.1, .int l.2.1, .int l.2.2]) (es := [.int r.1, .int r.2.1, .int r.2.2]) (ra_cons (d := trip l) (re_var rfl) (ra_cons (d := trip r) (re_var rfl) ra_nil)) rfl rfl
          refine rs_par (ra_cons (re_var rfl) (ra_cons (re_tupleL (RL.re (rl_mapP [(l.1, r.1), (l.2.1, r.2.1), (l.2.2, r.2.2)] (fun p => .int p.1) (fun p => .int p.2) (fun p => .int (p.1 - l.1.fdiv r.1 * p.2))
            hz (by simp) (fun p hp => re_subI (re_var rfl) (re_mulI (re_var rfl) (re_var rfl) ?_))))) ra_nil)) ?_
          · simp only [List.mem_cons, List.not_mem_nil, or_false] at hp
            rcases hp with rfl | rfl | rfl
            · exact m1
            · exact m2
            · exact m3
          · exact ⟨m', Nat.lt_succ_self m', r, sub3 (l.1.fdiv r.1) l r, _, rfl, run⟩
      · cases run with
        | step h _ _ _ _ => rw [decide_eq_false h] at hb; cases hb
        | stop h =>
          show RS K false _ [.dat (.int a), .dat (.int b), .dat (trip z), .dat (trip r), x, .un, .un, .un] _
          refine rs_seq (rs_if (rt_test (re_op (re_ixT (re_var rfl) re_int rfl) re_int od_lt)) (fun hb => ?_) (fun hb => rs_nx ?_))
          · refine rs_set (re_tupleL (RL.re (rl_map [z.1, z.2.1, z.2.2] .int (fun n => .int (-n)) (ri_seq (re_var rfl) rfl) (by simp) (fun n hn => re_neg (re_var rfl))))) ?_
            refine rs_ret (re_var rfl) ?_
            have : z.1 < 0 := of_decide_eq_true hb
            show _ = trip (neg3 z)
            unfold neg3
            rw [if_pos this]
            rfl
          · refine rs_ret (re_var rfl) ?_
            have : ¬ z.1 < 0 := of_decide_eq_false hb
            show _ = trip (neg3 z)
            unfold neg3
            rw [if_neg this]
abbrev s_lowered : Stmt := topS 21
abbrev nm_lowered : List Str := ["rows", "column", "vector", "pivot", "row"]
theorem sc_lowered : FnScope nm_lowered ["rows", "column", "vector"] (defScope s_lowered) := ⟨rfl, rfl, rfl, by decide +kernel, rfl, by decide +kernel, by decide +kernel⟩
def F_lowered (sl : Sl) (ds : List PyData) (d : PyData) (sl' : Sl) : Prop := ∃ (n : Nat) (E : Ec) (c : Nat) (v : Vc), sl = dicE E ∧ ds = [.int (c : Int), vec v] ∧ EOk n E ∧ n ≤ 60 ∧ LowOk n E c v ∧ d = vec (lowF n E c v) ∧ sl' = sl
abbrev T_lowered (P : Program) (w : World) (K : PySem.W.Frag) (mg : Str → Option Value) (base : Heap) : Prop := Cal P w K mg base "lowered" 44 ["rows", "column", "vector"] (PO K F_lowered)
theorem ok_lowered (S : Sur P mg base) (A : FunAt K mg "lowered" s_lowered) (C_combined : T_combined P w K mg base) : T_lowered P w K mg base := by
  refine cal_own A sc_lowered (fun _ _ _ _ _ _ us hl => match us, hl with | [_, _, _], _ => rfl) ?_ (fun f cdv A outer s H E hr => ⟨_, (pss_cons (ps_for PassesOwn.never rfl (kSeq K (pe_callB (call_sortedDI rfl) (by rfl) (S.no "sorted" (by decide)) boot_sorted (pa_cons (pv 0) pa_nil))) (pg_name (i := 3) sc_lowered.nd rfl (by first | exact .inl rfl | exact .inr rfl)) (pss_one (ps_if (pt_cmpR op_gt (pv 3) (pv 1) (nomark _)) (pss_cons (ps_set (i := 4) sc_lowered.nd rfl (by first | exact .inl rfl | exact .inr rfl) (pe_dget (hu_of hr) (pv 0) (pv 3) (fun _ _ => rfl))) (pss_one (ps_set (i := 2) sc_lowered.nd rfl (by first | exact .inl rfl | exact .inr rfl) (pe_own C_combined (hr.mono (by decide)) (by rfl) (pa_cons pe_int (pa_cons (pv 2) (pa_cons (pe_un un_neg (pe_op (op_fdivX (py_of S.seer S.tree hr)) (pe_ix (kIx K) (pv 2) (pv 3) (fun _ _ => rfl)) (pe_ix (kIx K) (pv 4) (pv 3) (fun _ _ => rfl)))) (pa_cons (pv 4) pa_nil)))))))) pss_nil))) (pss_one (ps_ret (pv 2)))), ?_⟩)
  · rintro _ _ _ _ ⟨_, _, _, _, rfl, rfl, _, _, _, _, rfl⟩; exact ⟨rfl, rfl⟩
  · rintro _ _ _ _ ⟨n, E, c, v, rfl, rfl, hE, hn, hL, rfl, rfl⟩
    show RS K true _ [dicE E, .dat (.int (c : Int)), .dat (vec v), .un, .un] _
    have hms := keys_sorted hE.1
    refine rs_seq (rs_for (ds := ((keysE n E).map Int.ofNat).map .int) (ri_seqL (RL.re (rl_sortedD rfl (Nat.lt_of_le_of_lt (keys_len hE.1) (by omega)) hms)))
      (fun i Γ => ∃ s3 s4, Γ = [dicE E, .dat (.int (c : Int)), .dat (vec (((keysE n E).take i).foldl (lowStep E c) v)), s3, s4]) ⟨_, _, rfl⟩ (fun i d Γ hd hW => ?_) (fun Γ hW => ?_))
    · obtain ⟨s3, s4, rfl⟩ := hW
      rw [List.getElem?_map, List.getElem?_map] at hd
      obtain ⟨k, hk, rfl⟩ := Option.map_eq_some_iff.mp hd
      obtain ⟨p, hp, rfl⟩ := Option.map_eq_some_iff.mp hk
      refine ⟨_, _, rg_name, by decide, ?_⟩
      obtain ⟨row, hrow⟩ := keys_get (List.mem_of_getElem? hp)
      obtain ⟨hpn, hr, hr0⟩ := hE.2 p row hrow
      have e : ((keysE n E).take (i + 1)).foldl (lowStep E c) v = lowStep E c (((keysE n E).take i).foldl (lowStep E c) v) p := by
        rw [List.take_add_one, hp, List.foldl_append]; rfl
      have hv := hL i
      have hv2 := hL (i + 1)
      generalize ((keysE n E).take i).foldl (lowStep E c) v = u at e hv ⊢
      show RS K true _ [dicE E, .dat (.int (c : Int)), .dat (vec u), .dat (.int (p : Int)), s4] _
      refine rs_if (rt_test (re_op (re_var rfl) (re_var rfl) od_gt)) (fun hb => ?_) (fun hb => rs_nx ⟨.dat (.int (p : Int)), s4, ?_⟩)
      · have hcp : c < p := by have := of_decide_eq_true hb; omega
        refine rs_seq (rs_set (re_dget (i := 0) rfl (re_var rfl) rfl (by rw [getD_E, hrow]; rfl)) ?_)
        refine rs_set (re_call (ra_cons re_int (ra_cons (re_var rfl) (ra_cons (re_neg (re_fdivI (re_at (re_var rfl) (sq_vec u) (re_var rfl) (by rw [hv.1]; exact hpn)) (re_at (re_var rfl) (sq_vec row) (re_var rfl) (by rw [hr.1]; exact hpn)) hr0)) (ra_cons (re_var rfl) ra_nil))))
          ⟨_, _, _, _, _, _, rfl, sq_vec u, sq_vec row, by rw [hv.1]; omega, fun x hx => (Sm.one (by decide)).mul (hv.2 x hx), fun x hx => (at_sm hv hpn).fdiv.neg.mul (hr.2 x hx), rfl⟩) ?_
        refine ⟨.dat (.int (p : Int)), .dat (vec row), ?_⟩
        rw [e]
        unfold lowStep
        rw [if_pos hcp, hrow]
        rfl
      · have hcp : ¬ c < p := by have := of_decide_eq_false hb; omega
        rw [e]
        unfold lowStep
        rw [if_neg hcp]
    · obtain ⟨s3, s4, rfl⟩ := hW
      rw [List.length_map, List.length_map, List.take_length]
      exact rs_ret (re_var rfl) ⟨rfl, rfl⟩
abbrev s_add_vector : Stmt := topS 22
abbrev nm_add_vector : List Str := ["rows", "vector", "column", "entry", "row", "better", "rest", "common", "one", "other"]
theorem sc_add_vector : FnScope nm_add_vector ["rows", "vector"] (defScope s_add_vector) := ⟨rfl, rfl, rfl, by decide +kernel, rfl, by decide +kernel, by decide +kernel⟩
def F_add_vector (sl : Sl) (ds : List PyData) (d : PyData) (sl' : Sl) : Prop := ∃ (n : Nat) (E E' : Ec) (v : Vc), sl = dicE E ∧ ds = [vec v] ∧ v.length = n ∧ n ≤ 60 ∧ AddRun n 0 E v E' ∧ d = .none ∧ sl' = dicE E'
abbrev T_add_vector (P : Program) (w : World) (K : PySem.W.Frag) (mg : Str → Option Value) (base : Heap) : Prop := Cal P w K mg base "add_vector" 48 ["rows", "vector"] (PO K F_add_vector)
theorem ok_add_vector (S : Sur P mg base) (A : FunAt K mg "add_vector" s_add_vector) (C_scale_form : T_scale_form P w K mg base) (C_combined : T_combined P w K mg base) (C_bezout : T_bezout P w K mg base) (C_lowered : T_lowered P w K mg base) : T_add_vector P w K mg base := by
  refine cal_own A sc_add_vector (fun _ _ _ _ _ _ us hl => match us, hl with | [_, _], _ => rfl) ?_ (fun f cdv A outer s H E hr => ⟨_, (pss_one (ps_for PassesOwn.never rfl (pi_range1 (by rfl) (S.no "range" (by decide)) (pa_cons (pe_callB (kLen K) (by rfl) (S.no "len" (by decide)) boot_len (pa_cons (pv 1) pa_nil)) pa_nil)) (pg_name (i := 2) sc_add_vector.nd rfl (by first | exact .inl rfl | exact .inr rfl)) (pss_cons (ps_set (i := 3) sc_add_vector.nd rfl (by first | exact .inl rfl | exact .inr rfl) (pe_ix (kIx K) (pv 1) (pv 2) (fun _ _ => rfl))) (pss_cons (ps_if (PW.pt (pw_and (pt_cmpR (kNe K hr.units) (pv 3) pe_int (nomark _)) (pw_and1 (pt_cmp (pc_dnotin (hu_of hr) (pv 2) (pv 0)))))) (pss_cons (ps_dput (hu_of hr) (pv 0) (pv 2) (pe_ifExp (pt_cmpR op_lt (pv 3) pe_int (nomark _)) (pe_own C_scale_form (hr.mono (by decide)) (by rfl) (pa_cons (pe_un un_neg pe_int) (pa_cons (pv 1) pa_nil))) (pv 1)) rfl) (pss_one ps_retN)) pss_nil) (pss_one (ps_if (pt_cmpR (kNe K hr.units) (pv 3) pe_int (nomark _)) (pss_cons (ps_set (i := 4) sc_add_vector.nd rfl (by first | exact .inl rfl | exact .inr rfl) (pe_dget (hu_of hr) (pv 0) (pv 2) (fun _ _ => rfl))) (pss_cons (ps_asg (pe_own C_bezout (hr.mono (by decide)) (by rfl) (pa_cons (pe_ix (kIx K) (pv 4) (pv 2) (fun _ _ => rfl)) (pa_cons (pv 3) pa_nil))) (kAny K (n := 3) rfl (pgs_cons (pg_name (i := 7) sc_add_vector.nd rfl (by first | exact .inl rfl | exact .inr rfl)) (pgs_cons (pg_name (i := 8) sc_add_vector.nd rfl (by first | exact .inl rfl | exact .inr rfl)) (pgs_cons (pg_name (i := 9) sc_add_vector.nd rfl (by first | exact .inl rfl | exact .inr rfl)) pgs_nil))))) (pss_cons (ps_set (i := 5) sc_add_vector.nd rfl (by first | exact .inl rfl | exact .inr rfl) (pe_own C_combined (hr.mono (by decide)) (by rfl) (pa_cons (pv 8) (pa_cons (pv 4) (pa_cons (pv 9) (pa_cons (pv 1) pa_nil)))))) (pss_cons (ps_set (i := 6) sc_add_vector.nd rfl (by first | exact .inl rfl | exact .inr rfl) (pe_own C_combined (hr.mono (by decide)) (by rfl) (pa_cons (pe_op (op_fdivX (py_of S.seer S.tree hr)) (pe_ix (kIx K) (pv 4) (pv 2) (fun _ _ => rfl)) (pv 7)) (pa_cons (pv 1) (pa_cons (pe_un un_neg (pe_op (op_fdivX (py_of S.seer S.tree hr)) (pv 3) (pv 7))) (pa_cons (pv 4) pa_nil)))))) (pss_cons (ps_dput (hu_of hr) (pv 0) (pv 2) (pe_own C_lowered (hr.mono (by decide)) (by rfl) (pa_cons (pv 0) (pa_cons (pv 2) (pa_cons (pv 5) pa_nil)))) rfl) (pss_one (ps_set (i := 1) sc_add_vector.nd rfl (by first | exact .inl rfl | exact .inr rfl) (pe_own C_lowered (hr.mono (by decide)) (by rfl) (pa_cons (pv 0) (pa_cons (pv 2) (pa_cons (pv 6) pa_nil))))))))))) pss_nil)))))), ?_⟩)
  · rintro _ _ _ _ ⟨_, _, _, _, rfl, rfl, _, _, _, _, rfl⟩; exact ⟨rfl, rfl⟩
  · rintro _ _ _ _ ⟨n, E, E', v, rfl, rfl, hv, hn, run, rfl, rfl⟩
    show RS K true _ [dicE E, .dat (vec v), .un, .un, .un, .un, .un, .un, .un, .un] _
    refine rs_for (ds := (List.range n).map fun (i : Nat) => .int (i : Int)) (ri_range (ra_cons (re_cb (ra_cons (re_var rfl) ra_nil) (by have := cd_len (K := K) (sq_vec v); rw [List.length_map, hv] at this; exact this)) ra_nil) (by omega))
      (fun i Γ => ∃ E2 v2 s2 s3 s4 s5 s6 s7 s8 s9, Γ = [dicE E2, .dat (vec v2), s2, s3, s4, s5, s6, s7, s8, s9] ∧ AddRun n i E2 v2 E') ⟨_, _, _, _, _, _, _, _, _, _, rfl, run⟩ (fun i d Γ hd hW => ?_) (fun Γ hW => ?_)
    · obtain ⟨E2, v2, s2, s3, s4, s5, s6, s7, s8, s9, rfl, run⟩ := hW
      rw [List.getElem?_map] at hd
      obtain ⟨c, hc, rfl⟩ := Option.map_eq_some_iff.mp hd
      have hci : c = i := by obtain ⟨_, h2⟩ := List.getElem?_eq_some_iff.mp hc; simpa using h2.symm
      subst hci
      have hcn : c < n := by have := (List.getElem?_eq_some_iff.mp hc).1; simpa using this
      refine ⟨_, _, rg_name, by decide, ?_⟩
      have hv2 : Vn n v2 := by
        cases run with
        | stop => exact absurd hcn (Nat.lt_irrefl _)
        | zero _ h _ _ => exact h
        | new _ h _ _ _ => exact h
        | step _ h => exact h
      refine rs_seq (rs_set (re_at (re_var rfl) (sq_vec v2) (re_var rfl) (by rw [hv2.1]; exact hcn)) ?_)
      show RS K true _ [dicE E2, .dat (vec v2), .dat (.int (c : Int)), .dat (.int (at_ v2 c)), s4, s5, s6, s7, s8, s9] _
      have t1 : RT K _ [dicE E2, .dat (vec v2), .dat (.int (c : Int)), .dat (.int (at_ v2 c)), s4, s5, s6, s7, s8, s9] _ _ := rt_and (rt_test (re_neI (re_var (i := 3) rfl) (re_int (i := 0)))) (fun _ => rfl) (fun _ => rt_test (re_dnotin (i := 0) (kvs := ecD E2) (re_var (i := 2) rfl) rfl))
      have t2 : RT K _ [dicE E2, .dat (vec v2), .dat (.int (c : Int)), .dat (.int (at_ v2 c)), s4, s5, s6, s7, s8, s9] _ _ := rt_test (re_neI (re_var (i := 3) rfl) (re_int (i := 0)))
      have eg := getD_E E2 c
      cases run with
      | stop => exact absurd hcn (Nat.lt_irrefl _)
      | zero _ _ h0 run =>
        refine rs_seq (rs_if (t1.is (show _ = false by rw [h0]; rfl)) (fun z => by cases z) (fun _ => rs_nx ?_))
        exact rs_if (t2.is (show _ = false by rw [h0]; rfl)) (fun z => by cases z) (fun _ => rs_nx ⟨_, _, _, _, _, _, _, _, _, _, rfl, run⟩)
      | new _ _ h0 hg hk =>
        refine rs_seq (rs_if (t1.is (show _ = true by rw [eg, hg, decide_eq_false h0]; rfl)) (fun _ => ?_) (fun z => by cases z))
        refine rs_seq (rs_dput (Γ1 := [dicE E2, .dat (vec v2), .dat (.int (c : Int)), .dat (.int (at_ v2 c)), s4, s5, s6, s7, s8, s9]) (i := 0) (k := (c : Int)) (d := vec (if at_ v2 c < 0 then scaleL (-1) v2 else v2)) (kvs := ecD E2) (re_if (rt_test (re_op (re_var rfl) re_int od_lt)) (fun hb => ?_) (fun hb => ?_)) rfl (re_var rfl) ?_ ?_)
        · exact (re_call (ra_cons (re_neg re_int) (ra_cons (re_var rfl) ra_nil)) ⟨_, _, _, rfl, sq_vec v2, by rw [hv2.1]; omega, fun x hx => (Sm.one (by decide)).mul (hv2.2 x hx), rfl⟩).is (by rw [if_pos (of_decide_eq_true hb)])
        · exact (re_var rfl).is (by rw [if_neg (of_decide_eq_false hb)])
        · exact Nat.lt_of_le_of_lt (keys_len hk) (by show _ < 16777216; omega)
        · exact rs_retN ⟨rfl, by rw [putD_E]; rfl⟩
      | @step _ k _ _ _ row z g s t _ _ h0 hE hg hz e3 g0 hs ht l1 hE2 l2 run =>
        refine rs_seq (rs_if (t1.is (show _ = false by rw [eg, hg, decide_eq_false h0]; rfl)) (fun z => by cases z) (fun _ => rs_nx ?_))
        refine rs_if (t2.is (show _ = true by rw [decide_eq_false h0]; rfl)) (fun _ => ?_) (fun z => by cases z)
        obtain ⟨_, hr, hr0⟩ := hE.2 c row hg
        refine rs_seq (rs_set (re_dget (i := 0) (k := (c : Int)) (kvs := ecD E2) rfl (re_var rfl) rfl (by rw [eg, hg]; rfl)) ?_)
        show RS K true _ [dicE E2, .dat (vec v2), .dat (.int (c : Int)), .dat (.int (at_ v2 c)), .dat (vec row), s5, s6, s7, s8, s9] _
        refine rs_seq (rs_setG (d := .tuple [.int g, .int s, .int t]) (re_call (ra_cons (re_at (re_var rfl) (sq_vec row) (re_var rfl) (by rw [hr.1]; exact hcn)) (ra_cons (re_var rfl) ra_nil)) ⟨_, _, z, k, rfl, hz, by rw [e3]; rfl⟩) (rg_anyT (rgs_cons rg_name (rgs_cons rg_name (rgs_cons rg_name rgs_nil)))) ?_)
        show RS K true _ [dicE E2, .dat (vec v2), .dat (.int (c : Int)), .dat (.int (at_ v2 c)), .dat (vec row), s5, s6, .dat (.int g), .dat (.int s), .dat (.int t)] _
        refine rs_seq (rs_set (re_call (ra_cons (re_var rfl) (ra_cons (re_var rfl) (ra_cons (re_var rfl) (ra_cons (re_var rfl) ra_nil)))) ⟨_, _, _, _, _, _, rfl, sq_vec row, sq_vec v2, by rw [hr.1]; omega, fun x hx => hs.mul (hr.2 x hx), fun x hx => ht.mul (hv2.2 x hx), rfl⟩) ?_)
        refine rs_seq (rs_set (re_call (ra_cons (re_fdivI (re_at (re_var rfl) (sq_vec row) (re_var rfl) (by rw [hr.1]; exact hcn)) (re_var rfl) g0) (ra_cons (re_var rfl) (ra_cons (re_neg (re_fdivI (re_var rfl) (re_var rfl) g0)) (ra_cons (re_var rfl) ra_nil))))
          ⟨_, _, _, _, _, _, rfl, sq_vec v2, sq_vec row, by rw [hv2.1]; omega, fun x hx => (at_sm hr hcn).fdiv.mul (hv2.2 x hx), fun x hx => (at_sm hv2 hcn).fdiv.neg.mul (hr.2 x hx), rfl⟩) ?_)
        show RS K true _ [dicE E2, .dat (vec v2), .dat (.int (c : Int)), .dat (.int (at_ v2 c)), .dat (vec row), .dat (vec (combL s row t v2)), .dat (vec (combL ((at_ row c).fdiv g) v2 (-((at_ v2 c).fdiv g)) row)), .dat (.int g), .dat (.int s), .dat (.int t)] _
        refine rs_seq (rs_dput (i := 0) (k := (c : Int)) (kvs := ecD E2) (re_callO (i := 0) (sl := dicE E2) rfl (ra_cons (re_var rfl) (ra_cons (re_var rfl) ra_nil)) rfl rfl ⟨n, E2, c, _, rfl, rfl, hE, hn, l1, rfl, rfl⟩) rfl (re_var rfl) (Nat.lt_of_le_of_lt (keys_len hE.1) (by show _ < 16777216; omega)) ?_)
        show RS K true _ [.dic (putD (ecD E2) c (vec (lowF n E2 c (combL s row t v2)))), .dat (vec v2), .dat (.int (c : Int)), .dat (.int (at_ v2 c)), .dat (vec row), .dat (vec (combL s row t v2)), .dat (vec (combL ((at_ row c).fdiv g) v2 (-((at_ v2 c).fdiv g)) row)), .dat (.int g), .dat (.int s), .dat (.int t)] _
        rw [putD_E]
        refine rs_set (re_callO (i := 0) (sl := dicE _) rfl (ra_cons (re_var rfl) (ra_cons (re_var rfl) ra_nil)) rfl rfl ⟨n, _, c, _, rfl, rfl, hE2, hn, l2, rfl, rfl⟩) ?_
        exact ⟨_, _, _, _, _, _, _, _, _, _, rfl, run⟩
    · obtain ⟨E2, v2, s2, s3, s4, s5, s6, s7, s8, s9, rfl, run⟩ := hW
      rw [List.length_map, List.length_range] at run
      cases run with
      | stop => exact ⟨rfl, rfl⟩
      | zero h => exact absurd h (Nat.lt_irrefl _)
      | new h => exact absurd h (Nat.lt_irrefl _)
      | step h => exact absurd h (Nat.lt_irrefl _)
abbrev s_hermite : Stmt := topS 23
abbrev nm_hermite : List Str := ["rows", "size", "echelon", "row", "column"]
theorem sc_hermite : FnScope nm_hermite ["rows", "size"] (defScope s_hermite) := ⟨rfl, rfl, rfl, by decide +kernel, rfl, by decide +kernel, by decide +kernel⟩
def F_hermite (ds : List PyData) (d : PyData) : Prop := ∃ (rd : PyData) (rows : List Vc) (n : Nat) (m : Int) (E : Ec), ds = [rd, .int m] ∧ SqM rd rows ∧ n ≤ 60 ∧ HRun n rows [] E ∧ EOk n E ∧ (∀ p r, gE E p = some r → LowOk n E p r) ∧ d = matT (hermF n E)
abbrev T_hermite (P : Program) (w : World) (K : PySem.W.Frag) (mg : Str → Option Value) (base : Heap) : Prop := Cal P w K mg base "hermite" 52 ["rows", "size"] (PR K F_hermite)
theorem ok_hermite (S : Sur P mg base) (A : FunAt K mg "hermite" s_hermite) (C_add_vector : T_add_vector P w K mg base) (C_lowered : T_lowered P w K mg base) : T_hermite P w K mg base := by
  refine cal_pure A sc_hermite (fun _ _ _ _ _ _ us hl => match us, hl with | [_, _], _ => rfl) ?_ (fun f cdv A outer s H E hr => ⟨_, (pss_cons (ps_set (i := 2) sc_hermite.nd rfl (by first | exact .inl rfl | exact .inr rfl) pe_dnewK) (pss_cons (ps_for PassesOwn.never rfl (kSeq K (pv 0)) (pg_name (i := 3) sc_hermite.nd rfl (by first | exact .inl rfl | exact .inr rfl)) (pss_one (ps_expr (pe_own C_add_vector (hr.mono (by decide)) (by rfl) (pa_cons (pv 2) (pa_cons (kTuple K (by rfl) (S.no "tuple" (by decide)) (pv 3)) pa_nil)))))) (pss_one (ps_ret (kTuple K (by rfl) (S.no "tuple" (by decide)) (pe_lc (own := [("column", 4)]) rfl sc_hermite.nd (kSeq K (pe_callB (call_sortedDI rfl) (by rfl) (S.no "sorted" (by decide)) boot_sorted (pa_cons (pv 2) pa_nil))) (blkOk_by (N := nm_hermite) (sc := defScope s_hermite) (by decide +kernel)) (fun _ _ _ _ _ => (pg_name (i := 4) sc_hermite.nd rfl (by first | exact .inl rfl | exact .inr rfl))) (fun _ _ _ _ _ => pts_nil) (fun _ _ _ _ _ => (pe_own C_lowered (hr.mono (by decide)) (by rfl) (pa_cons (pv 2) (pa_cons (pv 4) (pa_cons (pe_dget (hu_of hr) (pv 2) (pv 4) (fun _ _ => rfl)) pa_nil))))))))))), ?_⟩)
  · rintro _ _ ⟨_, _, _, _, _, rfl, _⟩; rfl
  · rintro _ _ ⟨rd, rows, n, m, E, rfl, ⟨rs, hrs, hsq, rfl⟩, hn, run, hE, hL, rfl⟩
    show RS K false _ [.dat rd, .dat (.int m), .un, .un, .un] _
    refine rs_seq (rs_setK ?_)
    show RS K false _ [.dat rd, .dat (.int m), dicE [], .un, .un] _
    refine rs_seq (rs_for (ds := rs.map (·.1)) (ri_seq (re_var rfl) hrs)
      (fun i Γ => ∃ E2 s3 s4, Γ = [.dat rd, .dat (.int m), dicE E2, s3, s4] ∧ HRun n ((rs.map Prod.snd).drop i) E2 E ∧ Sl.flat s4 = true) ⟨[], _, _, rfl, run, rfl⟩ (fun i d Γ hd hW => ?_) (fun Γ hW => ?_))
    · obtain ⟨E2, s3, s4, rfl, run, hs4⟩ := hW
      rw [List.getElem?_map] at hd
      obtain ⟨p, hp, rfl⟩ := Option.map_eq_some_iff.mp hd
      refine ⟨_, _, rg_name, by decide, ?_⟩
      have hi := (List.getElem?_eq_some_iff.mp hp).1
      have e : (rs.map Prod.snd).drop i = p.2 :: (rs.map Prod.snd).drop (i + 1) := by
        rw [List.drop_eq_getElem_cons (by rw [List.length_map]; exact hi), List.getElem_map]
        rw [(List.getElem?_eq_some_iff.mp hp).2]
      rw [e] at run
      cases run with
      | cons hr ha run =>
        refine rs_drop (d := .none) (re_callO (i := 2) (sl := dicE E2) rfl (ra_cons (re_tupleS (re_var rfl) (hsq p (List.mem_of_getElem? hp))) ra_nil) rfl rfl ⟨n, E2, _, p.2, rfl, rfl, hr, hn, ha, rfl, rfl⟩) ?_
        exact ⟨_, _, _, rfl, run, hs4⟩
    · obtain ⟨E2, s3, s4, rfl, run, hs4⟩ := hW
      rw [List.length_map, List.drop_eq_nil_of_le (by rw [List.length_map]; exact Nat.le_refl _)] at run
      cases run
      have hms := keys_sorted hE.1
      have key : RL K _ [.dat rd, .dat (.int m), dicE E, s3, s4] _ _ := rl_map (K := K) (j := 4) (te := _) (keysE n E) (fun (p : Nat) => .int (p : Int)) (fun p => vec (lowF n E p ((gE E p).getD []))) (wi := iSeq K (tCB rSortD (tCons (tVar 2) tNil)))
        (by
          have := ri_seqL (K := K) (Γ := [.dat rd, .dat (.int m), dicE E, s3, s4]) (RL.re (rl_sortedD (i := 2) (kvs := ecD E) rfl (Nat.lt_of_le_of_lt (keys_len hE.1) (by omega)) hms))
          rw [List.map_map] at this
          exact this) (by
          unfold keysE
          exact Nat.le_trans (List.length_filter_le _ _) (by rw [List.length_range]; omega)) (fun p hp => by
          obtain ⟨r, hr⟩ := keys_get hp
          have hl := hL p r hr
          have := re_callO (K := K) (E := E0) (i := 2) (sl := dicE E) (sl' := dicE E) (F := F_lowered) (Γ := [.dat rd, .dat (.int m), dicE E, s3, .dat (.int (p : Int))]) (Γ1 := [.dat rd, .dat (.int m), dicE E, s3, .dat (.int (p : Int))]) (tr := tCons (tVar 4) (tCons (tDGet (tVar 2) (tVar 4)) tNil)) rfl
            (ra_cons (re_var rfl) (ra_cons (re_dget (i := 2) (k := (p : Int)) (kvs := ecD E) rfl (re_var rfl) rfl (by rw [getD_E, hr]; rfl)) ra_nil)) rfl rfl ⟨n, E, p, r, rfl, rfl, hE, hn, hl, rfl, rfl⟩
          rw [hr]
          exact this) (by show (Sl.flat s4 && true) = true; rw [hs4]; rfl)
      refine rs_ret (re_tupleL (RL.re key)) ?_
      show _ = PyData.tuple _
      rw [hermF, List.map_map]
      rfl
abbrev s_whole : Stmt := topS 24
abbrev nm_whole : List Str := ["size", "place"]
theorem sc_whole : FnScope nm_whole ["size"] (defScope s_whole) := ⟨rfl, rfl, rfl, by decide +kernel, rfl, by decide +kernel, by decide +kernel⟩
def F_whole (ds : List PyData) (d : PyData) : Prop := ∃ n : Nat, ds = [.int (n : Int)] ∧ n ≤ 1000 ∧ d = matT (unitsL n)
abbrev T_whole (P : Program) (w : World) (K : PySem.W.Frag) (mg : Str → Option Value) (base : Heap) : Prop := Cal P w K mg base "whole" 44 ["size"] (PR K F_whole)
theorem ok_whole (S : Sur P mg base) (A : FunAt K mg "whole" s_whole) (C_unit_form : T_unit_form P w K mg base) : T_whole P w K mg base := by
  refine cal_pure A sc_whole (fun _ _ _ _ _ _ us hl => match us, hl with | [_], _ => rfl) ?_ (fun f cdv A outer s H E hr => ⟨_, (pss_one (ps_ret (kTuple K (by rfl) (S.no "tuple" (by decide)) (pe_lc (own := [("place", 1)]) rfl sc_whole.nd (pi_range1 (by rfl) (S.no "range" (by decide)) (pa_cons (pv 0) pa_nil)) (blkOk_by (N := nm_whole) (sc := defScope s_whole) (by decide +kernel)) (fun _ _ _ _ _ => (pg_name (i := 1) sc_whole.nd rfl (by first | exact .inl rfl | exact .inr rfl))) (fun _ _ _ _ _ => pts_nil) (fun _ _ _ _ _ => (pe_own C_unit_form (hr.mono (by decide)) (by rfl) (pa_cons (pv 0) (pa_cons (pv 1) pa_nil)))))))), ?_⟩)
  · rintro _ _ ⟨_, rfl, _⟩; rfl
  · rintro _ _ ⟨n, rfl, hn, rfl⟩
    show RS K false _ [.dat (.int n), .un] _
    exact rs_ret (re_tupleL (RL.re (rl_map (List.range n) (fun (i : Nat) => .int (i : Int)) (fun (k : Nat) => vec (unitL n (k : Int))) (ri_range (ra_cons (re_var rfl) ra_nil) (by omega)) (by simp; omega) (fun x hx =>
      re_call (ra_cons (re_var rfl) (ra_cons (re_var rfl) ra_nil)) ⟨n, (x : Int), rfl, hn, rfl⟩)))) (by simp [matT, unitsL, Function.comp_def])
end K87

namespace K87
open PySem PySem.Spec PyProof.Rows L2 DL
open PySem.Builtin.Int (intBits)
variable {P : Program} {w : World} {K : PySem.W.Frag} {mg : Str → Option Value} {base : Heap}
/-! ### gcd_of -/
abbrev s_gcd_of : Stmt := topS 10
abbrev nm_gcd_of : List Str := ["numbers", "result", "number"]
theorem sc_gcd_of : FnScope nm_gcd_of ["numbers"] (defScope s_gcd_of) := ⟨rfl, rfl, rfl, by decide +kernel, rfl, by decide +kernel, by decide +kernel⟩
def F_gcd_of (ds : List PyData) (d : PyData) : Prop := ∃ (nd : PyData) (ns : List Int) (g : Int), ds = [nd] ∧ Sq nd ns ∧ GRun ns 0 g ∧ d = .int g
abbrev T_gcd_of (P : Program) (w : World) (K : PySem.W.Frag) (mg : Str → Option Value) (base : Heap) : Prop := Cal P w K mg base "gcd_of" 44 ["numbers"] (PR K F_gcd_of)
theorem ok_gcd_of (S : Sur P mg base) (A : FunAt K mg "gcd_of" s_gcd_of) (C_bezout : T_bezout P w K mg base) : T_gcd_of P w K mg base := by
  refine cal_pure A sc_gcd_of (fun _ _ _ _ _ _ us hl => match us, hl with | [_], _ => rfl) ?_ (fun f cdv A outer s H E hr => ⟨_, (pss_cons (ps_set (i := 1) sc_gcd_of.nd rfl (by first | exact .inl rfl | exact .inr rfl) pe_int) (pss_cons (ps_for PassesOwn.never rfl (kSeq K (pv 0)) (pg_name (i := 2) sc_gcd_of.nd rfl (by first | exact .inl rfl | exact .inr rfl)) (pss_one (ps_set (i := 1) sc_gcd_of.nd rfl (by first | exact .inl rfl | exact .inr rfl) (pe_ix (kIx K) (pe_own C_bezout (hr.mono (by decide)) (by rfl) (pa_cons (pv 1) (pa_cons (pv 2) pa_nil))) pe_int (fun _ _ => rfl))))) (pss_one (ps_ret (pv 1))))), ?_⟩)
  · rintro _ _ ⟨_, _, _, rfl, _⟩; rfl
  · rintro _ _ ⟨nd, ns, g, rfl, hn, run, rfl⟩
    show RS K false _ [.dat nd, .un, .un] _
    refine rs_seq (rs_set re_int ?_)
    refine rs_seq (rs_for (ds := ns.map .int) (ri_seq (re_var rfl) hn) (fun i Γ => ∃ r s2, Γ = [.dat nd, .dat (.int r), s2] ∧ GRun (ns.drop i) r g) ⟨0, _, rfl, run⟩ (fun i d Γ hd hW => ?_) (fun Γ hW => ?_))
    · obtain ⟨r, s2, rfl, run⟩ := hW
      rw [List.getElem?_map] at hd
      obtain ⟨x, hx, rfl⟩ := Option.map_eq_some_iff.mp hd
      have hi := (List.getElem?_eq_some_iff.mp hx).1
      have e : ns.drop i = x :: ns.drop (i + 1) := by rw [List.drop_eq_getElem_cons hi, (List.getElem?_eq_some_iff.mp hx).2]
      rw [e] at run
      refine ⟨_, _, rg_name, by decide, ?_⟩
      cases run with
      | @cons _ _ _ _ k z hz run =>
        refine rs_set (re_ixT (ds := [.int (neg3 z).1, .int (neg3 z).2.1, .int (neg3 z).2.2]) (re_call (ra_cons (re_var rfl) (ra_cons (re_var rfl) ra_nil)) ⟨r, x, z, k, rfl, hz, rfl⟩) re_int (at_nat (k := 0) rfl)) ?_
        exact ⟨_, _, rfl, run⟩
    · obtain ⟨r, s2, rfl, run⟩ := hW
      rw [List.length_map, List.drop_length] at run
      cases run
      exact rs_ret (re_var rfl) rfl
/-! ### split_by -/
def tpD : Option Vc → PyData
  | none => .none
  | some t => vec t
abbrev s_split_by : Stmt := topS 31
abbrev nm_split_by : List Str := ["basis", "form", "rows", "row", "top", "value", "here", "common", "one", "other"]
theorem sc_split_by : FnScope nm_split_by ["basis", "form"] (defScope s_split_by) := ⟨rfl, rfl, rfl, by decide +kernel, rfl, by decide +kernel, by decide +kernel⟩
def F_split_by (ds xs : List PyData) (d2 d3 : PyData) : Prop := ∃ (bd fd : PyData) (n : Nat) (f : Vc) (bs rs : List Vc) (tp : Option Vc) (v : Int), ds = [bd, fd] ∧ seqD bd = some (bs.map vec) ∧ Sq fd f ∧ Vn n f ∧ n ≤ 1000 ∧ bs.length ≤ 1000 ∧ SpRun n f bs [] none 0 rs tp v ∧ xs = rs.map vec ∧ d2 = tpD tp ∧ d3 = .int v
abbrev T_split_by (P : Program) (w : World) (K : PySem.W.Frag) (mg : Str → Option Value) (base : Heap) : Prop := Cal P w K mg base "split_by" 48 ["basis", "form"] (PT K F_split_by)
theorem ok_split_by (S : Sur P mg base) (A : FunAt K mg "split_by" s_split_by) (C_dot : T_dot P w K mg base) (C_scale_form : T_scale_form P w K mg base) (C_bezout : T_bezout P w K mg base) (C_combined : T_combined P w K mg base) : T_split_by P w K mg base := by
  refine cal_pt A sc_split_by (fun _ _ _ _ _ _ us hl => match us, hl with | [_, _], _ => rfl) ?_ (fun f cdv A outer s H E hr => ⟨_, (pss_cons (ps_set (i := 2) sc_split_by.nd rfl (by first | exact .inl rfl | exact .inr rfl) (pe_lst pa_nil)) (pss_cons (ps_asg (pe_tup (pa_cons pe_non (pa_cons pe_int pa_nil))) (kAny K (n := 2) rfl (pgs_cons (pg_name (i := 4) sc_split_by.nd rfl (by first | exact .inl rfl | exact .inr rfl)) (pgs_cons (pg_name (i := 5) sc_split_by.nd rfl (by first | exact .inl rfl | exact .inr rfl)) pgs_nil)))) (pss_cons (ps_for PassesOwn.never rfl (kSeq K (pv 0)) (pg_name (i := 3) sc_split_by.nd rfl (by first | exact .inl rfl | exact .inr rfl)) (pss_cons (ps_set (i := 6) sc_split_by.nd rfl (by first | exact .inl rfl | exact .inr rfl) (pe_own C_dot (hr.mono (by decide)) (by rfl) (pa_cons (pv 1) (pa_cons (pv 3) pa_nil)))) (pss_one (ps_if (pt_cmpR (kEq K hr.units) (pv 6) pe_int (nomark _)) (pss_one (ps_expr (kMeth K PySem.F.plainAttrs_list PySem.F.slot_list_append PySem.F.type_list_append mt_append (pv 2) (pa_cons (pv 3) pa_nil)))) (pss_one (ps_if (pt_cmp (pc_isN (pv 4))) (pss_one (ps_asg (pe_ifExp (pt_cmpR op_gt (pv 6) pe_int (nomark _)) (pe_tup (pa_cons (pv 3) (pa_cons (pv 6) pa_nil))) (pe_tup (pa_cons (pe_own C_scale_form (hr.mono (by decide)) (by rfl) (pa_cons (pe_un un_neg pe_int) (pa_cons (pv 3) pa_nil))) (pa_cons (pe_un un_neg (pv 6)) pa_nil)))) (kAny K (n := 2) rfl (pgs_cons (pg_name (i := 4) sc_split_by.nd rfl (by first | exact .inl rfl | exact .inr rfl)) (pgs_cons (pg_name (i := 5) sc_split_by.nd rfl (by first | exact .inl rfl | exact .inr rfl)) pgs_nil))))) (pss_cons (ps_asg (pe_own C_bezout (hr.mono (by decide)) (by rfl) (pa_cons (pv 5) (pa_cons (pv 6) pa_nil))) (kAny K (n := 3) rfl (pgs_cons (pg_name (i := 7) sc_split_by.nd rfl (by first | exact .inl rfl | exact .inr rfl)) (pgs_cons (pg_name (i := 8) sc_split_by.nd rfl (by first | exact .inl rfl | exact .inr rfl)) (pgs_cons (pg_name (i := 9) sc_split_by.nd rfl (by first | exact .inl rfl | exact .inr rfl)) pgs_nil))))) (pss_cons (ps_expr (kMeth K PySem.F.plainAttrs_list PySem.F.slot_list_append PySem.F.type_list_append mt_append (pv 2) (pa_cons (pe_own C_combined (hr.mono (by decide)) (by rfl) (pa_cons (pe_op (op_fdivX (py_of S.seer S.tree hr)) (pv 6) (pv 7)) (pa_cons (pv 4) (pa_cons (pe_un un_neg (pe_op (op_fdivX (py_of S.seer S.tree hr)) (pv 5) (pv 7))) (pa_cons (pv 3) pa_nil))))) pa_nil))) (pss_one (ps_par (i := 4) (j := 5) rfl sc_split_by.nd rfl rfl (by decide) rfl rfl (pa_cons (pe_own C_combined (hr.mono (by decide)) (by rfl) (pa_cons (pv 8) (pa_cons (pv 4) (pa_cons (pv 9) (pa_cons (pv 3) pa_nil))))) (pa_cons (pv 7) pa_nil)) rfl)))))))))) (pss_one (ps_ret (pe_tup (pa_cons (pv 2) (pa_cons (pv 4) (pa_cons (pv 5) pa_nil))))))))), ?_⟩)
  · rintro _ _ _ _ ⟨_, _, _, _, _, _, _, _, rfl, _⟩; rfl
  · rintro _ _ _ _ ⟨bd, fd, n, f, bs, rs, tp, v, rfl, hb, hf, hfn, hn, hbl, run, rfl, rfl, rfl⟩
    show RX K _ [.dat bd, .dat fd, .un, .un, .un, .un, .un, .un, .un, .un] _ _ _
    refine rx_seq (rs_setL (rl_lst ra_nil) ?_)
    refine rx_seq (rs_setG (d := .tuple [.none, .int 0]) (re_tup (ra_cons re_non (ra_cons re_int ra_nil))) (rg_anyT (rgs_cons rg_name (rgs_cons rg_name rgs_nil))) ?_)
    show RX K _ [.dat bd, .dat fd, .lst [], .un, .dat .none, .dat (.int 0), .un, .un, .un, .un] _ _ _
    refine rx_seq (rs_for (ds := bs.map vec) (ri_seq (re_var rfl) hb)
      (fun i Γ => ∃ rs2 tp2 v2 s3 s6 s7 s8 s9, Γ = [.dat bd, .dat fd, .lst (rs2.map vec), s3, .dat (tpD tp2), .dat (.int v2), s6, s7, s8, s9] ∧ SpRun n f (bs.drop i) rs2 tp2 v2 rs tp v ∧ rs2.length ≤ i) ⟨[], none, 0, _, _, _, _, _, rfl, run, Nat.le_refl _⟩ (fun i d Γ hd hW => ?_) (fun Γ hW => ?_))
    · obtain ⟨rs2, tp2, v2, s3, s6, s7, s8, s9, rfl, run, hlen⟩ := hW
      rw [List.getElem?_map] at hd
      obtain ⟨r, hr, rfl⟩ := Option.map_eq_some_iff.mp hd
      have hi := (List.getElem?_eq_some_iff.mp hr).1
      have e : bs.drop i = r :: bs.drop (i + 1) := by rw [List.drop_eq_getElem_cons hi, (List.getElem?_eq_some_iff.mp hr).2]
      rw [e] at run
      refine ⟨_, _, rg_name, by decide, ?_⟩
      have hv : Vn n r := by
        cases run with
        | zero h _ _ => exact h
        | first h _ _ => exact h
        | go h _ => exact h
      have hsz : (rs2.map vec).length < sizeLine := by rw [List.length_map]; show _ < 16777216; omega
      refine rs_seq (rs_set (re_call (ra_cons (re_var rfl) (ra_cons (re_var (d := vec r) rfl) ra_nil)) ⟨fd, vec r, f, r, rfl, hf, sq_vec r, by rw [hfn.1]; exact hn, fun p hp => (hfn.2 _ (List.of_mem_zip hp).1).mul (hv.2 _ (List.of_mem_zip hp).2), rfl⟩) ?_)
      show RS K false _ [.dat bd, .dat fd, .lst (rs2.map vec), .dat (vec r), .dat (tpD tp2), .dat (.int v2), .dat (.int (dotL f r)), s7, s8, s9] _
      cases run with
      | zero _ h0 run =>
        refine rs_if (b := true) ((rt_test (re_eqI (re_var rfl) re_int)).is (by rw [decide_eq_true h0])) (fun _ => ?_) (fun z => (nomatch z))
        refine rs_app (i := 2) rfl (re_var rfl) rfl hsz ?_
        exact ⟨rs2 ++ [r], tp2, v2, _, _, _, _, _, by rw [List.map_append]; rfl, run, by rw [List.length_append]; simp; omega⟩
      | first _ h0 run =>
        refine rs_if (b := false) ((rt_test (re_eqI (re_var rfl) re_int)).is (by rw [decide_eq_false h0])) (fun z => (nomatch z)) (fun _ => ?_)
        refine rs_if (b := true) (rt_test (re_isN (d := .none) (re_var rfl) rfl)) (fun _ => ?_) (fun z => (nomatch z))
        refine rs_setG (Γ1 := [.dat bd, .dat fd, .lst (rs2.map vec), .dat (vec r), .dat .none, .dat (.int v2), .dat (.int (dotL f r)), s7, s8, s9]) (d := .tuple [vec (if dotL f r > 0 then r else scaleL (-1) r), .int (if dotL f r > 0 then dotL f r else -(dotL f r))]) (re_if (rt_test (re_op (re_var rfl) re_int od_gt)) (fun hb => ?_) (fun hb => ?_)) (rg_anyT (rgs_cons rg_name (rgs_cons rg_name rgs_nil))) ?_
        · have hp : dotL f r > 0 := of_decide_eq_true hb
          exact (re_tup (ra_cons (re_var rfl) (ra_cons (re_var rfl) ra_nil))).is (by rw [if_pos hp, if_pos hp])
        · have hp : ¬ dotL f r > 0 := of_decide_eq_false hb
          exact (re_tup (ra_cons (re_call (ra_cons (re_neg re_int) (ra_cons (re_var rfl) ra_nil)) ⟨_, vec r, r, rfl, sq_vec r, by rw [hv.1]; exact hn, fun x hx => (Sm.one (by decide)).mul (hv.2 x hx), rfl⟩) (ra_cons (re_neg (re_var rfl)) ra_nil))).is (by rw [if_neg hp, if_neg hp])
        · exact ⟨rs2, some _, _, _, _, _, _, _, rfl, run, by omega⟩
      | @go _ t _ _ _ _ _ _ g a b k z _ ht h0 hz e3 g0 q1 q2 q3 q4 run =>
        refine rs_if (b := false) ((rt_test (re_eqI (re_var rfl) re_int)).is (by rw [decide_eq_false h0])) (fun z => (nomatch z)) (fun _ => ?_)
        refine rs_if (b := false) (rt_test (re_isN (d := vec t) (re_var rfl) rfl)) (fun z => (nomatch z)) (fun _ => ?_)
        refine rs_seq (rs_setG (d := .tuple [.int g, .int a, .int b]) (re_call (ra_cons (re_var rfl) (ra_cons (re_var rfl) ra_nil)) ⟨v2, dotL f r, z, k, rfl, hz, by rw [e3]; rfl⟩) (rg_anyT (rgs_cons rg_name (rgs_cons rg_name (rgs_cons rg_name rgs_nil)))) ?_)
        show RS K false _ [.dat bd, .dat fd, .lst (rs2.map vec), .dat (vec r), .dat (vec t), .dat (.int v2), .dat (.int (dotL f r)), .dat (.int g), .dat (.int a), .dat (.int b)] _
        refine rs_seq (rs_app (i := 2) rfl (re_call (ra_cons (re_fdivI (re_var rfl) (re_var rfl) g0) (ra_cons (re_var rfl) (ra_cons (re_neg (re_fdivI (re_var rfl) (re_var rfl) g0)) (ra_cons (re_var rfl) ra_nil)))) ⟨_, _, t, _, _, r, rfl, sq_vec t, sq_vec r, by rw [ht.1]; exact hn, fun x hx => q1.mul (ht.2 x hx), fun x hx => q2.mul (hv.2 x hx), rfl⟩) rfl hsz ?_)
        refine rs_par (ra_cons (re_call (ra_cons (re_var rfl) (ra_cons (re_var rfl) (ra_cons (re_var rfl) (ra_cons (re_var rfl) ra_nil)))) ⟨_, _, t, _, _, r, rfl, sq_vec t, sq_vec r, by rw [ht.1]; exact hn, fun x hx => q3.mul (ht.2 x hx), fun x hx => q4.mul (hv.2 x hx), rfl⟩) (ra_cons (re_var rfl) ra_nil)) ?_
        exact ⟨rs2 ++ [combL ((dotL f r).fdiv g) t (-(v2.fdiv g)) r], some (combL a t b r), g, _, _, _, _, _, by rw [List.map_append]; rfl, run, by rw [List.length_append]; simp; omega⟩
    · obtain ⟨rs2, tp2, v2, s3, s6, s7, s8, s9, rfl, run, _⟩ := hW
      rw [List.length_map, List.drop_length] at run
      cases run
      exact rx_ret (i := 2) rfl (re_var rfl) (re_var rfl) rfl
end K87

namespace K87
open PySem PySem.Spec PyProof.Rows L2 DL
open PySem.Builtin.Int (intBits)
variable {P : Program} {w : World} {K : PySem.W.Frag} {mg : Str → Option Value} {base : Heap}
/-! ### restrict -/
abbrev s_restrict : Stmt := topS 32
abbrev nm_restrict : List Str := ["basis", "form", "modulus", "rows", "top", "grain", "row"]
theorem sc_restrict : FnScope nm_restrict ["basis", "form", "modulus"] (defScope s_restrict) := ⟨rfl, rfl, rfl, by decide +kernel, rfl, by decide +kernel, by decide +kernel⟩
def F_restrict (ds : List PyData) (d : PyData) : Prop := ∃ (bd fd : PyData) (B : List Vc) (f : Vc) (n : Nat) (m : Int) (rs : List Vc) (tp : Option Vc) (v : Int), ds = [bd, fd, .int m] ∧ seqD bd = some (B.map vec) ∧ Sq fd f ∧ Vn n f ∧ n ≤ 60 ∧ B.length ≤ 1000 ∧ SpRun n f B [] none 0 rs tp v ∧ rs.length ≤ 1000 ∧
  (v = 0 → d = matT B) ∧ (v ≠ 0 → ∃ (t : Vc) (E : Ec), tp = some t ∧ t.length = n ∧ (m > 0 → GRun [m, v] 0 (gcdL [m, v]) ∧ gcdL [m, v] ≠ 0 ∧ ∀ x ∈ t, IntMulOk (m.fdiv (gcdL [m, v])) x) ∧ HRun n (rsRows rs m v t) [] E ∧ EOk n E ∧ (∀ p r, gE E p = some r → LowOk n E p r) ∧ d = matT (hermF n E))
abbrev T_restrict (P : Program) (w : World) (K : PySem.W.Frag) (mg : Str → Option Value) (base : Heap) : Prop := Cal P w K mg base "restrict" 53 ["basis", "form", "modulus"] (PR K F_restrict)
theorem ok_restrict (S : Sur P mg base) (A : FunAt K mg "restrict" s_restrict) (C_split_by : T_split_by P w K mg base) (C_scale_form : T_scale_form P w K mg base) (C_gcd_of : T_gcd_of P w K mg base) (C_hermite : T_hermite P w K mg base) : T_restrict P w K mg base := by
  refine cal_pure A sc_restrict (fun _ _ _ _ _ _ us hl => match us, hl with | [_, _, _], _ => rfl) ?_ (fun f cdv A outer s H E hr => ⟨_, (pss_cons (ps_asg (pe_own C_split_by (hr.mono (by decide)) (by rfl) (pa_cons (pv 0) (pa_cons (pv 1) pa_nil))) (kAny K (n := 3) rfl (pgs_cons (pg_name (i := 3) sc_restrict.nd rfl (by first | exact .inl rfl | exact .inr rfl)) (pgs_cons (pg_name (i := 4) sc_restrict.nd rfl (by first | exact .inl rfl | exact .inr rfl)) (pgs_cons (pg_name (i := 5) sc_restrict.nd rfl (by first | exact .inl rfl | exact .inr rfl)) pgs_nil))))) (pss_cons (ps_if (pt_cmpR (kEq K hr.units) (pv 5) pe_int (nomark _)) (pss_one (ps_ret (kTuple K (by rfl) (S.no "tuple" (by decide)) (pe_lc (own := [("row", 6)]) rfl sc_restrict.nd (kSeq K (pv 0)) (blkOk_by (N := nm_restrict) (sc := defScope s_restrict) (by decide +kernel)) (fun _ _ _ _ _ => (pg_name (i := 6) sc_restrict.nd rfl (by first | exact .inl rfl | exact .inr rfl))) (fun _ _ _ _ _ => pts_nil) (fun _ _ _ _ _ => (kTuple K (by rfl) (S.no "tuple" (by decide)) (pv 6))))))) pss_nil) (pss_cons (ps_if (pt_cmpR op_gt (pv 2) pe_int (nomark _)) (pss_one (ps_expr (kMeth K PySem.F.plainAttrs_list PySem.F.slot_list_append PySem.F.type_list_append mt_append (pv 3) (pa_cons (pe_own C_scale_form (hr.mono (by decide)) (by rfl) (pa_cons (pe_op (op_fdivX (py_of S.seer S.tree hr)) (pv 2) (pe_own C_gcd_of (hr.mono (by decide)) (by rfl) (pa_cons (pe_tup (pa_cons (pv 2) (pa_cons (pv 5) pa_nil))) pa_nil))) (pa_cons (pv 4) pa_nil))) pa_nil)))) pss_nil) (pss_one (ps_ret (pe_own C_hermite (hr.mono (by decide)) (by rfl) (pa_cons (pv 3) (pa_cons (pe_callB (kLen K) (by rfl) (S.no "len" (by decide)) boot_len (pa_cons (pv 1) pa_nil)) pa_nil)))))))), ?_⟩)
  · rintro _ _ ⟨_, _, _, _, _, _, _, _, _, rfl, _⟩; rfl
  · rintro _ _ ⟨bd, fd, B, f, n, m, rs, tp, v, rfl, hb, hf, hfn, hn, hbl, run, hrl, h0, h1⟩
    show RS K false _ [.dat bd, .dat fd, .dat (.int m), .un, .un, .un, .un] _
    refine rs_seq (rs_call3 (xs := rs.map vec) (d2 := tpD tp) (d3 := .int v) (ra_cons (re_var rfl) (ra_cons (re_var rfl) ra_nil)) ⟨bd, fd, n, f, B, rs, tp, v, rfl, hb, hf, hfn, by omega, hbl, run, rfl, rfl, rfl⟩ ?_)
    show RS K false _ [.dat bd, .dat fd, .dat (.int m), .lst (rs.map vec), .dat (tpD tp), .dat (.int v), .un] _
    by_cases v0 : v = 0
    · refine rs_seq (rs_if (b := true) ((rt_test (re_eqI (re_var rfl) re_int)).is (by rw [decide_eq_true v0])) (fun _ => ?_) (fun z => (nomatch z)))
      refine rs_ret (re_tupleL (RL.re (rl_map B vec vec (ri_seq (re_var rfl) hb) (by omega) (fun r hr => re_tupleT (re_var rfl))))) ?_
      exact (h0 v0).symm
    · obtain ⟨t, E, rfl, htl, hg, hr, hE, hL, rfl⟩ := h1 v0
      refine rs_seq (rs_if (b := false) ((rt_test (re_eqI (re_var rfl) re_int)).is (by rw [decide_eq_false v0])) (fun z => (nomatch z)) (fun _ => rs_nx ?_))
      have fin : ∀ rows : List Vc, rows = rsRows rs m v t → RS K false (tRet (tCall (PR K F_hermite) [] E0 (tCons (tVar 3) (tCons (tCB (DL.rLen K) (tCons (tVar 1) tNil)) tNil)))) [.dat bd, .dat fd, .dat (.int m), .lst (rows.map vec), .dat (vec t), .dat (.int v), .un] ⟨fun _ => matT (hermF n E) = .none, fun d' _ => d' = matT (hermF n E), fun _ => False, fun _ => False⟩ := fun rows e => by
        subst e
        exact rs_ret (re_call (ra_cons (re_out (i := 3) rfl) (ra_cons (re_cb (ra_cons (re_var rfl) ra_nil) (cd_len hf)) ra_nil)) ⟨_, rsRows rs m v t, n, _, E, rfl, sqm_map sq_vec rfl, hn, hr, hE, hL, rfl⟩) rfl
      show RS K false _ [.dat bd, .dat fd, .dat (.int m), .lst (rs.map vec), .dat (vec t), .dat (.int v), .un] _
      by_cases m0 : m > 0
      · obtain ⟨g1, g2, g3⟩ := hg m0
        refine rs_seq (rs_if (b := true) ((rt_test (re_op (re_var rfl) re_int od_gt)).is (by rw [decide_eq_true m0])) (fun _ => ?_) (fun z => (nomatch z)))
        refine rs_app (i := 3) rfl (re_call (ra_cons (re_fdivI (re_var rfl) (re_call (ra_cons (re_tup (ra_cons (re_var rfl) (ra_cons (re_var rfl) ra_nil))) ra_nil) ⟨_, [m, v], _, rfl, rfl, g1, rfl⟩) g2) (ra_cons (re_var (d := vec t) rfl) ra_nil)) ⟨_, vec t, t, rfl, sq_vec t, by rw [htl]; omega, g3, rfl⟩) rfl (by rw [List.length_map]; show _ < 16777216; omega) ?_
        have e : rs.map vec ++ [vec (scaleL (m.fdiv (gcdL [m, v])) t)] = (rsRows rs m v t).map vec := by unfold rsRows; rw [if_pos m0, List.map_append]; rfl
        show RS K false _ [.dat bd, .dat fd, .dat (.int m), .lst (rs.map vec ++ [vec (scaleL (m.fdiv (gcdL [m, v])) t)]), .dat (vec t), .dat (.int v), .un] _
        rw [e]
        exact fin _ rfl
      · refine rs_seq (rs_if (b := false) ((rt_test (re_op (re_var rfl) re_int od_gt)).is (by rw [decide_eq_false m0])) (fun z => (nomatch z)) (fun _ => rs_nx ?_))
        exact fin rs (by unfold rsRows; rw [if_neg m0])
/-! ### project -/
abbrev s_project : Stmt := topS 33
abbrev nm_project : List Str := ["basis", "columns", "row", "column"]
theorem sc_project : FnScope nm_project ["basis", "columns"] (defScope s_project) := ⟨rfl, rfl, rfl, by decide +kernel, rfl, by decide +kernel, by decide +kernel⟩
def F_project (ds : List PyData) (d : PyData) : Prop := ∃ (B : List Vc) (cs : List Nat), ds = [matT B, natsL cs] ∧ B.length ≤ 1000 ∧ cs.length ≤ 1000 ∧ (∀ r ∈ B, ∀ c ∈ cs, c < r.length) ∧ F_hermite [.list (B.map fun r => vec (cs.map (at_ r))), .int (cs.length : Int)] d
abbrev T_project (P : Program) (w : World) (K : PySem.W.Frag) (mg : Str → Option Value) (base : Heap) : Prop := Cal P w K mg base "project" 53 ["basis", "columns"] (PR K F_project)
theorem ok_project (S : Sur P mg base) (A : FunAt K mg "project" s_project) (C_hermite : T_hermite P w K mg base) : T_project P w K mg base := by
  refine cal_pure A sc_project (fun _ _ _ _ _ _ us hl => match us, hl with | [_, _], _ => rfl) ?_ (fun f cdv A outer s H E hr => ⟨_, (pss_one (ps_ret (pe_own C_hermite (hr.mono (by decide)) (by rfl) (pa_cons (pe_lc (own := [("row", 2)]) rfl sc_project.nd (kSeq K (pv 0)) (blkOk_by (N := nm_project) (sc := defScope s_project) (by decide +kernel)) (fun _ _ _ _ _ => (pg_name (i := 2) sc_project.nd rfl (by first | exact .inl rfl | exact .inr rfl))) (fun _ _ _ _ _ => pts_nil) (fun _ _ _ _ _ => (kTuple K (by rfl) (S.no "tuple" (by decide)) (pe_lc (own := [("column", 3)]) rfl sc_project.nd (kSeq K (pv 1)) (blkOk_by (N := nm_project) (sc := relS _ (defScope s_project)) (by decide +kernel)) (fun _ _ _ _ _ => (pg_name (i := 3) sc_project.nd rfl (by first | exact .inl rfl | exact .inr rfl))) (fun _ _ _ _ _ => pts_nil) (fun _ _ _ _ _ => (pe_ix (kIx K) (pv 2) (pv 3) (fun _ _ => rfl))))))) (pa_cons (pe_callB (kLen K) (by rfl) (S.no "len" (by decide)) boot_len (pa_cons (pv 1) pa_nil)) pa_nil))))), ?_⟩)
  · rintro _ _ ⟨_, _, rfl, _⟩; rfl
  · rintro _ _ ⟨B, cs, rfl, hbl, hcl, hc, hh⟩
    show RS K false _ [.dat (matT B), .dat (natsL cs), .un, .un] _
    refine rs_ret (re_call (ra_cons (RL.re (rl_map B vec (fun r => vec (cs.map (at_ r))) (ri_seq (re_var rfl) rfl) (by omega) (fun r hr => ?_))) (ra_cons (re_cb (ra_cons (re_var (d := natsL cs) rfl) ra_nil) (cd_len rfl)) ra_nil)) (by rw [List.length_map]; exact hh)) rfl
    exact (re_tupleL (RL.re (rl_map cs (fun (c : Nat) => .int (c : Int)) (fun c => .int (at_ r c)) (ri_seq (re_var (d := natsL cs) rfl) rfl) (by omega) (fun c hcc => re_at (re_var rfl) (sq_vec r) (re_var rfl) (hc r hr c hcc))))).is (by unfold vec; rw [List.map_map]; rfl)
/-! ### annihilator, saturation -/
abbrev s_annihilator : Stmt := topS 34
abbrev nm_annihilator : List Str := ["basis", "size", "result", "row"]
theorem sc_annihilator : FnScope nm_annihilator ["basis", "size"] (defScope s_annihilator) := ⟨rfl, rfl, rfl, by decide +kernel, rfl, by decide +kernel, by decide +kernel⟩
def F_annihilator (ds : List PyData) (d : PyData) : Prop := ∃ (B : List Vc) (n : Nat) (R : Nat → List Vc), ds = [matT B, .int (n : Int)] ∧ n ≤ 1000 ∧ R 0 = unitsL n ∧ (∀ k, k < B.length → F_restrict [matT (R k), vec (tk B k), .int 0] (matT (R (k + 1)))) ∧ d = matT (R B.length)
abbrev T_annihilator (P : Program) (w : World) (K : PySem.W.Frag) (mg : Str → Option Value) (base : Heap) : Prop := Cal P w K mg base "annihilator" 54 ["basis", "size"] (PR K F_annihilator)
theorem ok_annihilator (S : Sur P mg base) (A : FunAt K mg "annihilator" s_annihilator) (C_whole : T_whole P w K mg base) (C_restrict : T_restrict P w K mg base) : T_annihilator P w K mg base := by
  refine cal_pure A sc_annihilator (fun _ _ _ _ _ _ us hl => match us, hl with | [_, _], _ => rfl) ?_ (fun f cdv A outer s H E hr => ⟨_, (pss_cons (ps_set (i := 2) sc_annihilator.nd rfl (by first | exact .inl rfl | exact .inr rfl) (pe_own C_whole (hr.mono (by decide)) (by rfl) (pa_cons (pv 1) pa_nil))) (pss_cons (ps_for PassesOwn.never rfl (kSeq K (pv 0)) (pg_name (i := 3) sc_annihilator.nd rfl (by first | exact .inl rfl | exact .inr rfl)) (pss_one (ps_set (i := 2) sc_annihilator.nd rfl (by first | exact .inl rfl | exact .inr rfl) (pe_own C_restrict (hr.mono (by decide)) (by rfl) (pa_cons (pv 2) (pa_cons (pv 3) (pa_cons pe_int pa_nil))))))) (pss_one (ps_ret (pv 2))))), ?_⟩)
  · rintro _ _ ⟨_, _, _, rfl, _⟩; rfl
  · rintro _ _ ⟨B, n, R, rfl, hn, h0, hs, rfl⟩
    show RS K false _ [.dat (matT B), .dat (.int n), .un, .un] _
    refine rs_seq (rs_set (re_call (ra_cons (re_var rfl) ra_nil) ⟨n, rfl, hn, rfl⟩) ?_)
    refine rs_seq (rs_for (ds := B.map vec) (ri_seq (re_var rfl) rfl) (fun i Γ => ∃ s3, Γ = [.dat (matT B), .dat (.int n), .dat (matT (R i)), s3]) ⟨_, by rw [h0]; rfl⟩ (fun i d Γ hd hW => ?_) (fun Γ hW => ?_))
    · obtain ⟨s3, rfl⟩ := hW
      obtain ⟨hi, rfl⟩ := tk_getD hd
      refine ⟨_, _, rg_name, by decide, ?_⟩
      refine rs_set (re_call (ra_cons (re_var rfl) (ra_cons (re_var rfl) (ra_cons re_int ra_nil))) (hs i hi)) ?_
      exact ⟨_, rfl⟩
    · obtain ⟨s3, rfl⟩ := hW
      rw [List.length_map]
      exact rs_ret (re_var rfl) rfl
abbrev s_saturation : Stmt := topS 35
abbrev nm_saturation : List Str := ["basis", "size"]
theorem sc_saturation : FnScope nm_saturation ["basis", "size"] (defScope s_saturation) := ⟨rfl, rfl, rfl, by decide +kernel, rfl, by decide +kernel, by decide +kernel⟩
def F_saturation (ds : List PyData) (d : PyData) : Prop := ∃ (b x : PyData) (n : Int), ds = [b, .int n] ∧ F_annihilator [b, .int n] x ∧ F_annihilator [x, .int n] d
abbrev T_saturation (P : Program) (w : World) (K : PySem.W.Frag) (mg : Str → Option Value) (base : Heap) : Prop := Cal P w K mg base "saturation" 55 ["basis", "size"] (PR K F_saturation)
theorem ok_saturation (S : Sur P mg base) (A : FunAt K mg "saturation" s_saturation) (C_annihilator : T_annihilator P w K mg base) : T_saturation P w K mg base := by
  refine cal_pure A sc_saturation (fun _ _ _ _ _ _ us hl => match us, hl with | [_, _], _ => rfl) ?_ (fun f cdv A outer s H E hr => ⟨_, (pss_one (ps_ret (pe_own C_annihilator (hr.mono (by decide)) (by rfl) (pa_cons (pe_own C_annihilator (hr.mono (by decide)) (by rfl) (pa_cons (pv 0) (pa_cons (pv 1) pa_nil))) (pa_cons (pv 1) pa_nil))))), ?_⟩)
  · rintro _ _ ⟨_, _, _, rfl, _⟩; rfl
  · rintro _ d ⟨b, x, n, rfl, h1, h2⟩
    show RS K false _ [.dat b, .dat (.int n)] _
    exact rs_ret (re_call (ra_cons (re_call (ra_cons (re_var rfl) (ra_cons (re_var rfl) ra_nil)) h1) (ra_cons (re_var rfl) ra_nil)) h2) rfl
/-! ### pivot_of -/
abbrev s_pivot_of : Stmt := topS 20
abbrev nm_pivot_of : List Str := ["vector", "column", "entry"]
theorem sc_pivot_of : FnScope nm_pivot_of ["vector"] (defScope s_pivot_of) := ⟨rfl, rfl, rfl, by decide +kernel, rfl, by decide +kernel, by decide +kernel⟩
def F_pivot_of (ds : List PyData) (d : PyData) : Prop := ∃ (v : Vc), ds = [vec v] ∧ v.length ≤ 1000 ∧ d = fstD (fstN v)
abbrev T_pivot_of (P : Program) (w : World) (K : PySem.W.Frag) (mg : Str → Option Value) (base : Heap) : Prop := Cal P w K mg base "pivot_of" 41 ["vector"] (PR K F_pivot_of)
theorem ok_pivot_of (S : Sur P mg base) (A : FunAt K mg "pivot_of" s_pivot_of) : T_pivot_of P w K mg base := by
  refine cal_pure A sc_pivot_of (fun _ _ _ _ _ _ us hl => match us, hl with | [_], _ => rfl) ?_ (fun f cdv A outer s H E hr => ⟨_, (pss_cons (ps_for PassesOwn.never rfl (kEnum K (by rfl) (S.no "enumerate" (by decide)) (pa_cons (pv 0) pa_nil)) (kAny K (n := 2) rfl (pgs_cons (pg_name (i := 1) sc_pivot_of.nd rfl (by first | exact .inl rfl | exact .inr rfl)) (pgs_cons (pg_name (i := 2) sc_pivot_of.nd rfl (by first | exact .inl rfl | exact .inr rfl)) pgs_nil))) (pss_one (ps_if (pt_cmpR (kNe K hr.units) (pv 2) pe_int (nomark _)) (pss_one (ps_ret (pv 1))) pss_nil))) (pss_one (ps_ret pe_non))), ?_⟩)
  · rintro _ _ ⟨_, rfl, _⟩; rfl
  · rintro _ _ ⟨v, rfl, hl, rfl⟩
    show RS K false _ [.dat (vec v), .un, .un] _
    refine rs_seq (rs_for (ds := enumD (v.map .int)) (ri_enum (ra_cons (re_var (d := vec v) rfl) ra_nil) rfl) (fun i Γ => ∃ s1 s2, Γ = [.dat (vec v), s1, s2] ∧ fstN v = (fstN (v.drop i)).map (· + i)) ⟨_, _, rfl, ?_⟩ (fun i d Γ hd hW => ?_) (fun Γ hW => ?_))
    · rw [List.drop_zero]
      cases fstN v <;> rfl
    · obtain ⟨s1, s2, rfl, hw⟩ := hW
      obtain ⟨x, hx, rfl⟩ := enumD_get hd
      rw [List.getElem?_map] at hx
      obtain ⟨y, hy, rfl⟩ := Option.map_eq_some_iff.mp hx
      have hi := (List.getElem?_eq_some_iff.mp hy).1
      have ey : y = at_ v i := by have := at_get hi; rw [hy] at this; exact Option.some.inj this
      subst ey
      refine ⟨_, _, rg_anyT (rgs_cons rg_name (rgs_cons rg_name rgs_nil)), by decide, ?_⟩
      show RS K false _ [.dat (vec v), .dat (.int (i : Int)), .dat (.int (at_ v i))] _
      rw [fst_drop hi] at hw
      by_cases z : at_ v i = 0
      · rw [if_neg (fun q => q z)] at hw
        refine rs_if (b := false) ((rt_test (re_neI (re_var rfl) re_int)).is (by rw [decide_eq_true z]; rfl)) (fun z => (nomatch z)) (fun _ => rs_nx ⟨_, _, rfl, ?_⟩)
        rw [hw]
        cases fstN (v.drop (i + 1)) with
        | none => rfl
        | some p => show some (p + 1 + i) = some (p + (i + 1)); congr 1; omega
      · rw [if_pos z] at hw
        refine rs_if (b := true) ((rt_test (re_neI (re_var rfl) re_int)).is (by rw [decide_eq_false z]; rfl)) (fun _ => rs_ret (re_var rfl) ?_) (fun z => (nomatch z))
        rw [hw]
        show _ = PyData.int ((0 + i : Nat) : Int)
        rw [Nat.zero_add]
    · obtain ⟨s1, s2, rfl, hw⟩ := hW
      rw [enumD_len, List.length_map, List.drop_length] at hw
      refine rs_ret re_non ?_
      rw [hw]; rfl
end K87

namespace K87
open PySem PySem.Spec PyProof.Rows L2 DL
open PySem.Builtin.Int (intBits)
variable {P : Program} {w : World} {K : PySem.W.Frag} {mg : Str → Option Value} {base : Heap}
/-! ### is_integer, is_form -/
abbrev s_is_integer : Stmt := topS 8
abbrev nm_is_integer : List Str := ["thing"]
theorem sc_is_integer : FnScope nm_is_integer ["thing"] (defScope s_is_integer) := ⟨rfl, rfl, rfl, by decide +kernel, rfl, by decide +kernel, by decide +kernel⟩
def F_is_integer (ds : List PyData) (d : PyData) : Prop := ∃ i : Int, ds = [.int i] ∧ d = .bool true
abbrev T_is_integer (P : Program) (w : World) (K : PySem.W.Frag) (mg : Str → Option Value) (base : Heap) : Prop := Cal P w K mg base "is_integer" 41 ["thing"] (PR K F_is_integer)
theorem ok_is_integer (S : Sur P mg base) (A : FunAt K mg "is_integer" s_is_integer) : T_is_integer P w K mg base := by
  refine cal_pure A sc_is_integer (fun _ _ _ _ _ _ us hl => match us, hl with | [_], _ => rfl) ?_ (fun f cdv A outer s H E hr => ⟨_, (pss_one (ps_ret (pe_and (pe_callB (kIsi K) (by rfl) (S.no "isinstance" (by decide)) boot_isinstance (pa_cons (pv 0) (pa_cons (pe_bltn (v := .ty "int") (by rfl) (S.no "int" (by decide)) boot_int rfl) pa_nil))) (pe_one (pe_not (pe_callB (kIsi K) (by rfl) (S.no "isinstance" (by decide)) boot_isinstance (pa_cons (pv 0) (pa_cons (pe_bltn (v := .ty "bool") (by rfl) (S.no "bool" (by decide)) boot_bool rfl) pa_nil)))))))), ?_⟩)
  · rintro _ _ ⟨_, rfl, _⟩; rfl
  · rintro _ _ ⟨i, rfl, rfl⟩
    show RS K false _ [.dat (.int i)] _
    exact rs_ret (re_andV (b := true) (c := true) (re_isi (b := true) (re_var rfl) (kit_ty (by decide +kernel))) (fun z => (nomatch z)) (fun _ => re_notV (b := false) (re_isi (b := false) (re_var rfl) (kit_ty (by decide +kernel))))) rfl
abbrev s_is_form : Stmt := topS 14
abbrev nm_is_form : List Str := ["thing", "size", "entry"]
theorem sc_is_form : FnScope nm_is_form ["thing", "size"] (defScope s_is_form) := ⟨rfl, rfl, rfl, by decide +kernel, rfl, by decide +kernel, by decide +kernel⟩
def F_is_form (ds : List PyData) (d : PyData) : Prop := ∃ (v : Vc) (n : Nat), ds = [vec v, .int (n : Int)] ∧ v.length = n ∧ n ≤ 1000 ∧ d = .bool true
abbrev T_is_form (P : Program) (w : World) (K : PySem.W.Frag) (mg : Str → Option Value) (base : Heap) : Prop := Cal P w K mg base "is_form" 42 ["thing", "size"] (PR K F_is_form)
theorem ok_is_form (S : Sur P mg base) (A : FunAt K mg "is_form" s_is_form) (C_is_integer : T_is_integer P w K mg base) : T_is_form P w K mg base := by
  refine cal_pure A sc_is_form (fun _ _ _ _ _ _ us hl => match us, hl with | [_, _], _ => rfl) ?_ (fun f cdv A outer s H E hr => ⟨_, (pss_one (ps_ret (pe_and (pe_callB (kIsi K) (by rfl) (S.no "isinstance" (by decide)) boot_isinstance (pa_cons (pv 0) (pa_cons (pe_bltn (v := .ty "tuple") (by rfl) (S.no "tuple" (by decide)) boot_tuple rfl) pa_nil))) (pe_and (pe_cmpR (kEq K hr.units) (pe_callB (kLen K) (by rfl) (S.no "len" (by decide)) boot_len (pa_cons (pv 0) pa_nil)) (pv 1) (nomark _)) (pe_one (pe_callB (kAll K rfl) (by rfl) (S.no "all" (by decide)) boot_all (pa_cons (pe_lc (own := [("entry", 2)]) rfl sc_is_form.nd (kSeq K (pv 0)) (blkOk_by (N := nm_is_form) (sc := defScope s_is_form) (by decide +kernel)) (fun _ _ _ _ _ => (pg_name (i := 2) sc_is_form.nd rfl (by first | exact .inl rfl | exact .inr rfl))) (fun _ _ _ _ _ => pts_nil) (fun _ _ _ _ _ => (pe_own C_is_integer (hr.mono (by decide)) (by rfl) (pa_cons (pv 2) pa_nil)))) pa_nil))))))), ?_⟩)
  · rintro _ _ ⟨_, _, rfl, _⟩; rfl
  · rintro _ _ ⟨v, n, rfl, hl, hn, rfl⟩
    show RS K false _ [.dat (vec v), .dat (.int n), .un] _
    refine rs_ret (re_andV (b := true) (c := true && true) (re_isi (d := vec v) (b := true) (re_var rfl) (kit_ty (by decide +kernel))) (fun z => (nomatch z)) (fun _ => re_andV (b := true) (c := true) ((re_eqI (re_cb (ra_cons (re_var (d := vec v) rfl) ra_nil) (cd_len rfl)) (re_var rfl)).is (by rw [List.length_map, hl]; simp)) (fun z => (nomatch z)) (fun _ => (re_cb (ra_cons (RL.re (rl_map v .int (fun _ => .bool true) (ri_seq (re_var rfl) (sq_vec v)) (by omega) (fun x hx => re_call (ra_cons (re_var rfl) ra_nil) ⟨x, rfl, rfl⟩))) ra_nil) (cd_allM (g := fun _ => true))).is (by simp)))) rfl
/-! ### is_basis -/
abbrev s_is_basis : Stmt := topS 25
abbrev nm_is_basis : List Str := ["thing", "size", "pivots", "low", "column", "pivot", "row"]
theorem sc_is_basis : FnScope nm_is_basis ["thing", "size"] (defScope s_is_basis) := ⟨rfl, rfl, rfl, by decide +kernel, rfl, by decide +kernel, by decide +kernel⟩
def F_is_basis (ds : List PyData) (d : PyData) : Prop := ∃ (B : List Vc) (n : Nat) (pv : Nat → Nat), ds = [matT B, .int (n : Int)] ∧ RB n B pv ∧ n ≤ 60 ∧ B.length ≤ n ∧ d = .bool true
abbrev T_is_basis (P : Program) (w : World) (K : PySem.W.Frag) (mg : Str → Option Value) (base : Heap) : Prop := Cal P w K mg base "is_basis" 43 ["thing", "size"] (PR K F_is_basis)
def pvL (B : List Vc) (pv : Nat → Nat) : List Int := (List.range B.length).map fun k => (pv k : Int)
theorem mem_tk {B : List Vc} {r : Vc} (h : r ∈ B) : ∃ k, k < B.length ∧ tk B k = r := tk_ex h
theorem ok_is_basis (S : Sur P mg base) (A : FunAt K mg "is_basis" s_is_basis) (C_is_form : T_is_form P w K mg base) (C_pivot_of : T_pivot_of P w K mg base) : T_is_basis P w K mg base := by
  refine cal_pure A sc_is_basis (fun _ _ _ _ _ _ us hl => match us, hl with | [_, _], _ => rfl) ?_ (fun f cdv A outer s H E hr => ⟨_, (pss_cons (ps_if (PW.pt (pw_or (pt_not (pt_val (pe_callB (kIsi K) (by rfl) (S.no "isinstance" (by decide)) boot_isinstance (pa_cons (pv 0) (pa_cons (pe_bltn (v := .ty "tuple") (by rfl) (S.no "tuple" (by decide)) boot_tuple rfl) pa_nil))))) (pw_or1 (pt_not (pt_val (pe_callB (kAll K rfl) (by rfl) (S.no "all" (by decide)) boot_all (pa_cons (pe_lc (own := [("row", 6)]) rfl sc_is_basis.nd (kSeq K (pv 0)) (blkOk_by (N := nm_is_basis) (sc := defScope s_is_basis) (by decide +kernel)) (fun _ _ _ _ _ => (pg_name (i := 6) sc_is_basis.nd rfl (by first | exact .inl rfl | exact .inr rfl))) (fun _ _ _ _ _ => pts_nil) (fun _ _ _ _ _ => (pe_own C_is_form (hr.mono (by decide)) (by rfl) (pa_cons (pv 6) (pa_cons (pv 1) pa_nil))))) pa_nil))))))) (pss_one (ps_ret pe_bl)) pss_nil) (pss_cons (ps_setLc (own := [("row", 6)]) (i := 2) rfl sc_is_basis.nd rfl rfl (sw_true rfl rfl rfl (by decide +kernel)) (kSeq K (pv 0)) (blkOk_by (N := nm_is_basis) (sc := defScope s_is_basis) (by decide +kernel)) (fun _ _ _ _ _ => (pg_name (i := 6) sc_is_basis.nd rfl (by first | exact .inl rfl | exact .inr rfl))) (fun _ _ _ _ _ => pts_nil) (fun _ _ _ _ _ => (pe_own C_pivot_of (hr.mono (by decide)) (by rfl) (pa_cons (pv 6) pa_nil)))) (pss_cons (ps_if (PW.pt (pw_or (pt_cmpR (kIn K) pe_non (pv 2) (by with_unfolding_all rfl)) (pw_or (pt_cmpR (kNe K hr.units) (pv 2) (pe_callB (kSorted K) (by rfl) (S.no "sorted" (by decide)) boot_sorted (pa_cons (pv 2) pa_nil)) (nomark _)) (pw_or1 (pt_cmpR (kNe K hr.units) (kLenSet K (by rfl) (S.no "len" (by decide)) (by rfl) (S.no "set" (by decide)) (pv 2)) (pe_callB (kLen K) (by rfl) (S.no "len" (by decide)) boot_len (pa_cons (pv 2) pa_nil)) (nomark _)))))) (pss_one (ps_ret pe_bl)) pss_nil) (pss_cons (ps_for PassesOwn.never rfl (kEnum K (by rfl) (S.no "enumerate" (by decide)) (pa_cons (pv 2) pa_nil)) (kAny K (n := 2) rfl (pgs_cons (pg_name (i := 3) sc_is_basis.nd rfl (by first | exact .inl rfl | exact .inr rfl)) (pgs_cons (pg_name (i := 4) sc_is_basis.nd rfl (by first | exact .inl rfl | exact .inr rfl)) pgs_nil))) (pss_cons (ps_set (i := 5) sc_is_basis.nd rfl (by first | exact .inl rfl | exact .inr rfl) (pe_ix (kIx K) (pe_ix (kIx K) (pv 0) (pv 3) (fun _ _ => rfl)) (pv 4) (fun _ _ => rfl))) (pss_one (ps_if (PW.pt (pw_or (pt_cmpR op_lt (pv 5) pe_int (nomark _)) (pw_or1 (pt_not (pt_val (pe_callB (kAll K rfl) (by rfl) (S.no "all" (by decide)) boot_all (pa_cons (pe_lc (own := [("row", 6)]) rfl sc_is_basis.nd (kSeq K (pe_slice (kSl K) (pv 0) po_none (po_some (pv 3)))) (blkOk_by (N := nm_is_basis) (sc := defScope s_is_basis) (by decide +kernel)) (fun _ _ _ _ _ => (pg_name (i := 6) sc_is_basis.nd rfl (by first | exact .inl rfl | exact .inr rfl))) (fun _ _ _ _ _ => pts_nil) (fun _ _ _ _ _ => (pe_chain op_le op_lt pe_int (pe_ix (kIx K) (pv 6) (pv 4) (fun _ _ => rfl)) (pv 5)))) pa_nil))))))) (pss_one (ps_ret pe_bl)) pss_nil)))) (pss_one (ps_ret pe_bl)))))), ?_⟩)
  · rintro _ _ ⟨_, _, _, rfl, _⟩; rfl
  · rintro _ _ ⟨B, n, pv, rfl, hB, hn, hl, rfl⟩
    have len : ∀ r ∈ B, r.length = n := fun r hr => by
      obtain ⟨k, hk, rfl⟩ := mem_tk hr
      exact hB.len k hk
    have pw : (pvL B pv).Pairwise (· < ·) := by
      unfold pvL
      rw [List.pairwise_map]
      refine List.Pairwise.imp_of_mem (R := (· < ·)) ?_ List.pairwise_lt_range
      intro a b ha hb hab
      have := hB.mono a b hab (List.mem_range.mp hb)
      omega
    have ll : (pvL B pv).length = B.length := by unfold pvL; rw [List.length_map, List.length_range]
    show RS K false _ [.dat (matT B), .dat (.int n), .un, .un, .un, .un, .un] _
    refine rs_seq (rs_if (b := false) (rt_or (b := false) (c := false) (rt_not (b := true) (rt_test (re_isi (d := matT B) (b := true) (re_var rfl) (kit_ty (by decide +kernel))))) (fun z => (nomatch z)) (fun _ => rt_not (b := true) (rt_test ((re_cb (ra_cons (RL.re (rl_map B vec (fun _ => .bool true) (ri_seq (re_var rfl) rfl) (by omega) (fun r hr => re_call (ra_cons (re_var rfl) (ra_cons (re_var rfl) ra_nil)) ⟨r, n, rfl, len r hr, by omega, rfl⟩))) ra_nil) (cd_allM (g := fun _ => true))).is (by simp))))) (fun z => (nomatch z)) (fun _ => rs_nx ?_))
    have eP : (B.map fun r => fstD (fstN r)) = (pvL B pv).map .int := by
      apply List.ext_getElem
      · rw [List.length_map, List.length_map, ll]
      · intro k h1 h2
        rw [List.length_map] at h1
        rw [List.getElem_map, List.getElem_map]
        have e1 : B[k] = tk B k := by unfold tk; rw [List.getD_eq_getElem?_getD, List.getElem?_eq_getElem h1]; rfl
        rw [e1, hB.fst h1]
        unfold pvL
        rw [List.getElem_map, List.getElem_range]; rfl
    refine rs_seq (rs_set (d := .list ((pvL B pv).map .int)) ((RL.re (rl_map B vec (fun r => fstD (fstN r)) (ri_seq (re_var rfl) rfl) (by omega) (fun r hr => re_call (ra_cons (re_var rfl) ra_nil) ⟨r, rfl, by rw [len r hr]; omega, rfl⟩))).is (by rw [eP])) ?_)
    show RS K false _ [.dat (matT B), .dat (.int n), .dat (.list ((pvL B pv).map .int)), .un, .un, .un, .un] _
    have srt : ∀ ys : List Int, ys.Perm (pvL B pv) → ys.Pairwise (· ≤ ·) → ys = pvL B pv := fun ys hp hs => List.Perm.eq_of_pairwise (fun a b _ _ h1 h2 => Int.le_antisymm h1 h2) hs (pw.imp fun h => Int.le_of_lt h) hp
    refine rs_seq (rs_if (b := false) (rt_or (b := false) (c := false || false) (rt_test (re_noneIn (re_var rfl))) (fun z => (nomatch z)) (fun _ => rt_or (b := false) (c := false) ((rt_test (re_neD (re_var rfl) (RL.re (rl_cb (ra_cons (re_var rfl) ra_nil) (cdl_sorted (by rw [ll]; omega) srt))) (shp_mapL (n := 0) fun _ _ => shp_int).sh (shp_mapL (n := 0) fun _ _ => shp_int).sh)).is (by rw [eqv_lst eqv_int]; simp)) (fun z => (nomatch z)) (fun _ => (rt_test (re_neI (re_lenSet (re_var rfl) (pw.imp fun h => Int.ne_of_lt h) (by rw [ll]; omega)) (re_cb (ra_cons (re_var rfl) ra_nil) (cd_len rfl)))).is (by rw [List.length_map]; simp)))) (fun z => (nomatch z)) (fun _ => rs_nx ?_))
    refine rs_seq (rs_for (ds := enumD ((pvL B pv).map .int)) (ri_enum (ra_cons (re_var (d := .list ((pvL B pv).map .int)) rfl) ra_nil) rfl) (fun i Γ => ∃ s3 s4 s5, Γ = [.dat (matT B), .dat (.int n), .dat (.list ((pvL B pv).map .int)), s3, s4, s5, .un]) ⟨_, _, _, rfl⟩ (fun i d Γ hd hW => ?_) (fun Γ hW => ?_))
    · obtain ⟨s3, s4, s5, rfl⟩ := hW
      obtain ⟨x, hx, rfl⟩ := enumD_get hd
      rw [List.getElem?_map] at hx
      obtain ⟨y, hy, rfl⟩ := Option.map_eq_some_iff.mp hx
      have hi := (List.getElem?_eq_some_iff.mp hy).1
      rw [ll] at hi
      have ey : y = (pv i : Int) := by
        unfold pvL at hy
        rw [List.getElem?_map, List.getElem?_range hi] at hy
        exact (Option.some.inj hy).symm
      subst ey
      refine ⟨_, _, rg_anyT (rgs_cons rg_name (rgs_cons rg_name rgs_nil)), by decide, ?_⟩
      show RS K false _ [.dat (matT B), .dat (.int n), .dat (.list ((pvL B pv).map .int)), .dat (.int (i : Int)), .dat (.int (pv i : Int)), s5, .un] _
      have gt : atI (B.map vec) (i : Int) = some (vec (tk B i)) := at_nat (by
        rw [List.getElem?_map, List.getElem?_eq_getElem hi]
        unfold tk; rw [List.getD_eq_getElem?_getD, List.getElem?_eq_getElem hi]; rfl)
      refine rs_seq (rs_set (re_at (re_ixT (re_var rfl) (re_var rfl) gt) (sq_vec (tk B i)) (re_var rfl) (by rw [hB.len i hi]; exact hB.lt i hi)) ?_)
      show RS K false _ [.dat (matT B), .dat (.int n), .dat (.list ((pvL B pv).map .int)), .dat (.int (i : Int)), .dat (.int (pv i : Int)), .dat (.int (at_ (tk B i) (pv i))), .un] _
      refine rs_if (b := false) (rt_or (b := false) (c := false) ((rt_test (re_op (re_var rfl) re_int od_lt)).is (by have := hB.pos i hi; rw [decide_eq_false]; omega)) (fun z => (nomatch z)) (fun _ => rt_not (b := true) (rt_test ((re_cb (ra_cons (RL.re (rl_map (B.take i) vec (fun _ => .bool true) (ri_seq (re_slice (re_var (d := matT B) rfl) ro_no (ro_some (re_var rfl))) (by rw [cut_to, List.map_take]; rfl)) (by rw [List.length_take]; omega) (fun r hr => ?_))) ra_nil) (cd_allM (g := fun _ => true))).is (by simp))))) (fun z => (nomatch z)) (fun _ => rs_nx ⟨_, _, _, rfl⟩)
      obtain ⟨k, hk, rfl⟩ := mem_tk hr
      have hk' : k < i := by rw [List.length_take] at hk; omega
      have ek : tk (B.take i) k = tk B k := by unfold tk; rw [List.getD_eq_getElem?_getD, List.getD_eq_getElem?_getD, List.getElem?_take_of_lt hk']
      have rd := hB.red k i hk' hi
      rw [ek]
      refine (re_chain (b := true) (c := true) re_int (re_at (re_var rfl) (sq_vec (tk B k)) (re_var rfl) (by rw [hB.len k (by omega)]; exact hB.lt i hi)) ?_ (re_var rfl) ?_).is (by rfl)
      · have := od_le (K := K) (i := 0) (j := at_ (tk B k) (pv i))
        rw [decide_eq_true rd.1] at this; exact this
      · have := od_lt (K := K) (i := at_ (tk B k) (pv i)) (j := at_ (tk B i) (pv i))
        rw [decide_eq_true rd.2] at this; exact this
    · obtain ⟨s3, s4, s5, rfl⟩ := hW
      exact rs_ret re_bl rfl
/-! ### coordinates -/
/-- rows that may be taken away -/
def RowsOk (n : Nat) (B : List Vc) : Prop := n ≤ 1000 ∧ B.length ≤ 1000 ∧ ∀ k, k < B.length → ∃ p, fstN (tk B k) = some p ∧ p < n ∧ at_ (tk B k) p ≠ 0 ∧ Vn n (tk B k)
abbrev s_coordinates : Stmt := topS 26
abbrev nm_coordinates : List Str := ["basis", "vector", "found", "row", "column", "factor"]
theorem sc_coordinates : FnScope nm_coordinates ["basis", "vector"] (defScope s_coordinates) := ⟨rfl, rfl, rfl, by decide +kernel, rfl, by decide +kernel, by decide +kernel⟩
def coD (B : List Vc) (v : Vc) : PyData := match fstN (cow B v B.length) with
  | none => vec (coL B v)
  | some _ => .none
def F_coordinates (ds : List PyData) (d : PyData) : Prop := ∃ (n : Nat) (B : List Vc) (v : Vc), ds = [matT B, vec v] ∧ RowsOk n B ∧ (∀ k, k ≤ B.length → Vn n (cow B v k) ∧ (k < B.length → Sm (cof B v k))) ∧ d = coD B v
abbrev T_coordinates (P : Program) (w : World) (K : PySem.W.Frag) (mg : Str → Option Value) (base : Heap) : Prop := Cal P w K mg base "coordinates" 43 ["basis", "vector"] (PR K F_coordinates)
theorem ok_coordinates (S : Sur P mg base) (A : FunAt K mg "coordinates" s_coordinates) (C_pivot_of : T_pivot_of P w K mg base) (C_combined : T_combined P w K mg base) : T_coordinates P w K mg base := by
  refine cal_pure A sc_coordinates (fun _ _ _ _ _ _ us hl => match us, hl with | [_, _], _ => rfl) ?_ (fun f cdv A outer s H E hr => ⟨_, (pss_cons (ps_set (i := 2) sc_coordinates.nd rfl (by first | exact .inl rfl | exact .inr rfl) (pe_lst pa_nil)) (pss_cons (ps_for PassesOwn.never rfl (kSeq K (pv 0)) (pg_name (i := 3) sc_coordinates.nd rfl (by first | exact .inl rfl | exact .inr rfl)) (pss_cons (ps_set (i := 4) sc_coordinates.nd rfl (by first | exact .inl rfl | exact .inr rfl) (pe_own C_pivot_of (hr.mono (by decide)) (by rfl) (pa_cons (pv 3) pa_nil))) (pss_cons (ps_set (i := 5) sc_coordinates.nd rfl (by first | exact .inl rfl | exact .inr rfl) (pe_op (op_fdivX (py_of S.seer S.tree hr)) (pe_ix (kIx K) (pv 1) (pv 4) (fun _ _ => rfl)) (pe_ix (kIx K) (pv 3) (pv 4) (fun _ _ => rfl)))) (pss_cons (ps_set (i := 1) sc_coordinates.nd rfl (by first | exact .inl rfl | exact .inr rfl) (pe_own C_combined (hr.mono (by decide)) (by rfl) (pa_cons pe_int (pa_cons (pv 1) (pa_cons (pe_un un_neg (pv 5)) (pa_cons (pv 3) pa_nil)))))) (pss_one (ps_expr (kMeth K PySem.F.plainAttrs_list PySem.F.slot_list_append PySem.F.type_list_append mt_append (pv 2) (pa_cons (pv 5) pa_nil)))))))) (pss_cons (ps_if (pt_cmp (pc_notN (pe_own C_pivot_of (hr.mono (by decide)) (by rfl) (pa_cons (pv 1) pa_nil)))) (pss_one (ps_ret pe_non)) pss_nil) (pss_one (ps_ret (kTuple K (by rfl) (S.no "tuple" (by decide)) (pv 2))))))), ?_⟩)
  · rintro _ _ ⟨_, _, _, rfl, _⟩; rfl
  · rintro _ _ ⟨n, B, v, rfl, ⟨hn, hl, hB⟩, hw, rfl⟩
    show RS K false _ [.dat (matT B), .dat (vec v), .un, .un, .un, .un] _
    refine rs_seq (rs_setL (rl_lst ra_nil) ?_)
    refine rs_seq (rs_for (ds := B.map vec) (ri_seq (re_var rfl) rfl) (fun i Γ => ∃ s3 s4 s5, Γ = [.dat (matT B), .dat (vec (cow B v i)), .lst (((List.range i).map (cof B v)).map .int), s3, s4, s5]) ⟨_, _, _, rfl⟩ (fun i d Γ hd hW => ?_) (fun Γ hW => ?_))
    · obtain ⟨s3, s4, s5, rfl⟩ := hW
      obtain ⟨hi, rfl⟩ := tk_getD hd
      obtain ⟨p, h1, h2, h3, h4⟩ := hB i hi
      have w0 := (hw i (by omega)).1
      have c0 := (hw i (by omega)).2 hi
      refine ⟨_, _, rg_name, by decide, ?_⟩
      refine rs_seq (rs_set (re_call (ra_cons (re_var rfl) ra_nil) ⟨tk B i, rfl, by rw [h4.1]; exact hn, rfl⟩) ?_)
      rw [h1]
      show RS K false _ [.dat (matT B), .dat (vec (cow B v i)), .lst (((List.range i).map (cof B v)).map .int), .dat (vec (tk B i)), .dat (.int (p : Int)), s5] _
      have ec : cof B v i = (at_ (cow B v i) p).fdiv (at_ (tk B i) p) := by unfold cof; rw [h1]; rfl
      refine rs_seq (rs_set (d := .int (cof B v i)) ((re_fdivI (re_at (re_var rfl) (sq_vec _) (re_var rfl) (by rw [w0.1]; exact h2)) (re_at (re_var rfl) (sq_vec _) (re_var rfl) (by rw [h4.1]; exact h2)) h3).is (by rw [ec])) ?_)
      show RS K false _ [.dat (matT B), .dat (vec (cow B v i)), .lst (((List.range i).map (cof B v)).map .int), .dat (vec (tk B i)), .dat (.int (p : Int)), .dat (.int (cof B v i))] _
      refine rs_seq (rs_set (re_call (ra_cons re_int (ra_cons (re_var rfl) (ra_cons (re_neg (re_var rfl)) (ra_cons (re_var rfl) ra_nil)))) ⟨_, _, _, _, _, _, rfl, sq_vec (cow B v i), sq_vec (tk B i), by rw [w0.1]; exact hn, fun x hx => sm1.mul (w0.2 x hx), fun x hx => c0.neg.mul (h4.2 x hx), rfl⟩) ?_)
      refine rs_app (i := 2) rfl (re_var rfl) rfl (by rw [List.length_map, List.length_map, List.length_range]; show _ < 16777216; omega) ?_
      refine ⟨.dat (vec (tk B i)), .dat (.int (p : Int)), .dat (.int (cof B v i)), ?_⟩
      have e1 : combL 1 (cow B v i) (-(cof B v i)) (tk B i) = cow B v (i + 1) := by
        show _ = combL 1 (cow B v i) (-((at_ (cow B v i) ((fstN (tk B i)).getD 0)).fdiv (at_ (tk B i) ((fstN (tk B i)).getD 0)))) (tk B i)
        rfl
      rw [← e1, List.range_succ, List.map_append, List.map_append]
      rfl
    · obtain ⟨s3, s4, s5, rfl⟩ := hW
      rw [List.length_map]
      have w0 := (hw B.length (Nat.le_refl _)).1
      have call : RE K (tCall (PR K F_pivot_of) [] E0 (tCons (tVar 1) tNil)) [.dat (matT B), .dat (vec (cow B v B.length)), .lst (((List.range B.length).map (cof B v)).map .int), s3, s4, s5] (fstD (fstN (cow B v B.length))) _ := re_call (ra_cons (re_var rfl) ra_nil) ⟨_, rfl, by rw [w0.1]; exact hn, rfl⟩
      unfold coD
      cases e : fstN (cow B v B.length) with
      | none =>
        rw [e] at call
        refine rs_seq (rs_if (b := false) (rt_test (re_notN (d := .none) call rfl)) (fun z => (nomatch z)) (fun _ => rs_nx ?_))
        exact rs_ret (re_tupleL (re_out (i := 2) rfl)) rfl
      | some p =>
        rw [e] at call
        refine rs_seq (rs_if (b := true) (rt_test (re_notN (d := .int p) call rfl)) (fun _ => rs_ret re_non rfl) (fun z => (nomatch z)))
abbrev s_contains : Stmt := topS 27
abbrev nm_contains : List Str := ["basis", "vector"]
theorem sc_contains : FnScope nm_contains ["basis", "vector"] (defScope s_contains) := ⟨rfl, rfl, rfl, by decide +kernel, rfl, by decide +kernel, by decide +kernel⟩
def F_contains (ds : List PyData) (d : PyData) : Prop := ∃ (a b x : PyData), ds = [a, b] ∧ F_coordinates ds x ∧ d = .bool (match x with | .none => false | _ => true)
abbrev T_contains (P : Program) (w : World) (K : PySem.W.Frag) (mg : Str → Option Value) (base : Heap) : Prop := Cal P w K mg base "contains" 44 ["basis", "vector"] (PR K F_contains)
theorem ok_contains (S : Sur P mg base) (A : FunAt K mg "contains" s_contains) (C_coordinates : T_coordinates P w K mg base) : T_contains P w K mg base := by
  refine cal_pure A sc_contains (fun _ _ _ _ _ _ us hl => match us, hl with | [_, _], _ => rfl) ?_ (fun f cdv A outer s H E hr => ⟨_, (pss_one (ps_ret (pe_cmp (pc_notN (pe_own C_coordinates (hr.mono (by decide)) (by rfl) (pa_cons (pv 0) (pa_cons (pv 1) pa_nil))))))), ?_⟩)
  · rintro _ _ ⟨_, _, _, rfl, _⟩; rfl
  · rintro _ _ ⟨a, b, x, rfl, h, rfl⟩
    show RS K false _ [.dat a, .dat b] _
    exact rs_ret (re_notN (re_call (ra_cons (re_var rfl) (ra_cons (re_var rfl) ra_nil)) h) (by cases x <;> rfl)) rfl
abbrev s_includes : Stmt := topS 28
abbrev nm_includes : List Str := ["basis", "other", "row"]
theorem sc_includes : FnScope nm_includes ["basis", "other"] (defScope s_includes) := ⟨rfl, rfl, rfl, by decide +kernel, rfl, by decide +kernel, by decide +kernel⟩
def F_includes (ds : List PyData) (d : PyData) : Prop := ∃ (b : PyData) (C : List Vc) (g : Vc → Bool), ds = [b, matT C] ∧ C.length ≤ 1000 ∧ (∀ r ∈ C, F_contains [b, vec r] (.bool (g r))) ∧ d = .bool (C.all g)
abbrev T_includes (P : Program) (w : World) (K : PySem.W.Frag) (mg : Str → Option Value) (base : Heap) : Prop := Cal P w K mg base "includes" 45 ["basis", "other"] (PR K F_includes)
theorem ok_includes (S : Sur P mg base) (A : FunAt K mg "includes" s_includes) (C_contains : T_contains P w K mg base) : T_includes P w K mg base := by
  refine cal_pure A sc_includes (fun _ _ _ _ _ _ us hl => match us, hl with | [_, _], _ => rfl) ?_ (fun f cdv A outer s H E hr => ⟨_, (pss_one (ps_ret (pe_callB (kAll K rfl) (by rfl) (S.no "all" (by decide)) boot_all (pa_cons (pe_lc (own := [("row", 2)]) rfl sc_includes.nd (kSeq K (pv 1)) (blkOk_by (N := nm_includes) (sc := defScope s_includes) (by decide +kernel)) (fun _ _ _ _ _ => (pg_name (i := 2) sc_includes.nd rfl (by first | exact .inl rfl | exact .inr rfl))) (fun _ _ _ _ _ => pts_nil) (fun _ _ _ _ _ => (pe_own C_contains (hr.mono (by decide)) (by rfl) (pa_cons (pv 0) (pa_cons (pv 2) pa_nil))))) pa_nil)))), ?_⟩)
  · rintro _ _ ⟨_, _, _, rfl, _⟩; rfl
  · rintro _ _ ⟨b, C, g, rfl, hl, h, rfl⟩
    show RS K false _ [.dat b, .dat (matT C), .un] _
    exact rs_ret (re_cb (ra_cons (RL.re (rl_map C vec (fun r => .bool (g r)) (ri_seq (re_var rfl) rfl) (by omega) (fun r hr => re_call (ra_cons (re_var rfl) (ra_cons (re_var rfl) ra_nil)) (h r hr)))) ra_nil) (cd_allM (g := g))) rfl
abbrev s_class_count : Stmt := topS 36
abbrev nm_class_count : List Str := ["basis", "other", "result", "place", "row"]
theorem sc_class_count : FnScope nm_class_count ["basis", "other"] (defScope s_class_count) := ⟨rfl, rfl, rfl, by decide +kernel, rfl, by decide +kernel, by decide +kernel⟩
def F_class_count (ds : List PyData) (d : PyData) : Prop := ∃ (B C : List Vc) (co : Vc → Vc) (X : List Vc), ds = [matT B, matT C] ∧ B.length = C.length ∧ C.length ≤ 1000 ∧ F_includes ds (.bool true) ∧ (∀ r ∈ C, F_coordinates [matT B, vec r] (vec (co r))) ∧
  F_hermite [.list (C.map fun r => vec (co r)), .int (B.length : Int)] (matT X) ∧ (∀ k, k < X.length → k < (tk X k).length ∧ IntMulOk (prodD X k) (at_ (tk X k) k)) ∧ d = .int (prodD X X.length)
abbrev T_class_count (P : Program) (w : World) (K : PySem.W.Frag) (mg : Str → Option Value) (base : Heap) : Prop := Cal P w K mg base "class_count" 53 ["basis", "other"] (PR K F_class_count)
theorem ok_class_count (S : Sur P mg base) (A : FunAt K mg "class_count" s_class_count) (C_includes : T_includes P w K mg base) (C_coordinates : T_coordinates P w K mg base) (C_hermite : T_hermite P w K mg base) : T_class_count P w K mg base := by
  refine cal_pure A sc_class_count (fun _ _ _ _ _ _ us hl => match us, hl with | [_, _], _ => rfl) ?_ (fun f cdv A outer s H E hr => ⟨_, (pss_cons (ps_if (pt_not (pt_val (pe_own C_includes (hr.mono (by decide)) (by rfl) (pa_cons (pv 0) (pa_cons (pv 1) pa_nil))))) (pss_one DL.ps_never) pss_nil) (pss_cons (ps_if (pt_cmpR (kNe K hr.units) (pe_callB (kLen K) (by rfl) (S.no "len" (by decide)) boot_len (pa_cons (pv 0) pa_nil)) (pe_callB (kLen K) (by rfl) (S.no "len" (by decide)) boot_len (pa_cons (pv 1) pa_nil)) (nomark _)) (pss_one (ps_ret pe_int)) pss_nil) (pss_cons (ps_set (i := 2) sc_class_count.nd rfl (by first | exact .inl rfl | exact .inr rfl) pe_int) (pss_cons (ps_for PassesOwn.never rfl (kEnum K (by rfl) (S.no "enumerate" (by decide)) (pa_cons (pe_own C_hermite (hr.mono (by decide)) (by rfl) (pa_cons (pe_lc (own := [("row", 4)]) rfl sc_class_count.nd (kSeq K (pv 1)) (blkOk_by (N := nm_class_count) (sc := defScope s_class_count) (by decide +kernel)) (fun _ _ _ _ _ => (pg_name (i := 4) sc_class_count.nd rfl (by first | exact .inl rfl | exact .inr rfl))) (fun _ _ _ _ _ => pts_nil) (fun _ _ _ _ _ => (pe_own C_coordinates (hr.mono (by decide)) (by rfl) (pa_cons (pv 0) (pa_cons (pv 4) pa_nil))))) (pa_cons (pe_callB (kLen K) (by rfl) (S.no "len" (by decide)) boot_len (pa_cons (pv 0) pa_nil)) pa_nil))) pa_nil)) (kAny K (n := 2) rfl (pgs_cons (pg_name (i := 3) sc_class_count.nd rfl (by first | exact .inl rfl | exact .inr rfl)) (pgs_cons (pg_name (i := 4) sc_class_count.nd rfl (by first | exact .inl rfl | exact .inr rfl)) pgs_nil))) (pss_one (ps_aug (i := 2) sc_class_count.nd rfl (by first | exact .inl rfl | exact .inr rfl) (pe_ix (kIx K) (pv 4) (pv 3) (fun _ _ => rfl)) ip_mulC))) (pss_one (ps_ret (pv 2))))))), ?_⟩)
  · rintro _ _ ⟨_, _, _, _, rfl, _⟩; rfl
  · rintro _ _ ⟨B, C, co, X, rfl, hl, hc, hi, ho, hh, hp, rfl⟩
    show RS K false _ [.dat (matT B), .dat (matT C), .un, .un, .un] _
    refine rs_seq (rs_if (b := false) (rt_not (b := true) (rt_test (re_call (ra_cons (re_var rfl) (ra_cons (re_var rfl) ra_nil)) hi))) (fun z => (nomatch z)) (fun _ => rs_nx ?_))
    refine rs_seq (rs_if (b := false) ((rt_test (re_neI (re_cb (ra_cons (re_var (d := matT B) rfl) ra_nil) (cd_len rfl)) (re_cb (ra_cons (re_var (d := matT C) rfl) ra_nil) (cd_len rfl)))).is (by rw [List.length_map, List.length_map, hl]; simp)) (fun z => (nomatch z)) (fun _ => rs_nx ?_))
    refine rs_seq (rs_set re_int ?_)
    show RS K false _ [.dat (matT B), .dat (matT C), .dat (.int 1), .un, .un] _
    refine rs_seq (rs_for (ds := enumD (X.map vec)) (ri_enum (ra_cons (re_call (ra_cons (RL.re (rl_map C vec (fun r => vec (co r)) (ri_seq (re_var rfl) rfl) (by omega) (fun r hr => re_call (ra_cons (re_var rfl) (ra_cons (re_var rfl) ra_nil)) (ho r hr)))) (ra_cons (re_cb (ra_cons (re_var (d := matT B) rfl) ra_nil) (cd_len rfl)) ra_nil)) (by rw [List.length_map]; exact hh)) ra_nil) rfl) (fun i Γ => ∃ s3 s4, Γ = [.dat (matT B), .dat (matT C), .dat (.int (prodD X i)), s3, s4]) ⟨_, _, rfl⟩ (fun i d Γ hd hW => ?_) (fun Γ hW => ?_))
    · obtain ⟨s3, s4, rfl⟩ := hW
      obtain ⟨x, hx, rfl⟩ := enumD_get hd
      obtain ⟨hi, rfl⟩ := tk_getD hx
      refine ⟨_, _, rg_anyT (rgs_cons rg_name (rgs_cons rg_name rgs_nil)), by decide, ?_⟩
      show RS K false _ [.dat (matT B), .dat (matT C), .dat (.int (prodD X i)), .dat (.int (i : Int)), .dat (vec (tk X i))] _
      exact rs_augC rfl (re_at (re_var rfl) (sq_vec _) (re_var rfl) (hp i hi).1) (hp i hi).2 ⟨_, _, rfl⟩
    · obtain ⟨s3, s4, rfl⟩ := hW
      rw [enumD_len, List.length_map]
      exact rs_ret (re_var rfl) rfl
/-! ### cleared_by -/
abbrev s_cleared_by : Stmt := topS 41
abbrev nm_cleared_by : List Str := ["exact", "vector", "bottom", "row", "column"]
theorem sc_cleared_by : FnScope nm_cleared_by ["exact", "vector"] (defScope s_cleared_by) := ⟨rfl, rfl, rfl, by decide +kernel, rfl, by decide +kernel, by decide +kernel⟩
def F_cleared_by (ds : List PyData) (d : PyData) : Prop := ∃ (n : Nat) (B : List Vc) (v : Vc), ds = [matT B, vec v] ∧ RowsOk n B ∧ (∀ k, k ≤ B.length → Vn n (clr B v k).1 ∧ Sm (clr B v k).2) ∧ d = .tuple [vec (clr B v B.length).1, .int (clr B v B.length).2]
abbrev T_cleared_by (P : Program) (w : World) (K : PySem.W.Frag) (mg : Str → Option Value) (base : Heap) : Prop := Cal P w K mg base "cleared_by" 43 ["exact", "vector"] (PR K F_cleared_by)
theorem ok_cleared_by (S : Sur P mg base) (A : FunAt K mg "cleared_by" s_cleared_by) (C_pivot_of : T_pivot_of P w K mg base) (C_combined : T_combined P w K mg base) : T_cleared_by P w K mg base := by
  refine cal_pure A sc_cleared_by (fun _ _ _ _ _ _ us hl => match us, hl with | [_, _], _ => rfl) ?_ (fun f cdv A outer s H E hr => ⟨_, (pss_cons (ps_set (i := 2) sc_cleared_by.nd rfl (by first | exact .inl rfl | exact .inr rfl) pe_int) (pss_cons (ps_for PassesOwn.never rfl (kSeq K (pv 0)) (pg_name (i := 3) sc_cleared_by.nd rfl (by first | exact .inl rfl | exact .inr rfl)) (pss_cons (ps_set (i := 4) sc_cleared_by.nd rfl (by first | exact .inl rfl | exact .inr rfl) (pe_own C_pivot_of (hr.mono (by decide)) (by rfl) (pa_cons (pv 3) pa_nil))) (pss_cons (ps_set (i := 1) sc_cleared_by.nd rfl (by first | exact .inl rfl | exact .inr rfl) (pe_own C_combined (hr.mono (by decide)) (by rfl) (pa_cons (pe_ix (kIx K) (pv 3) (pv 4) (fun _ _ => rfl)) (pa_cons (pv 1) (pa_cons (pe_un un_neg (pe_ix (kIx K) (pv 1) (pv 4) (fun _ _ => rfl))) (pa_cons (pv 3) pa_nil)))))) (pss_one (ps_aug (i := 2) sc_cleared_by.nd rfl (by first | exact .inl rfl | exact .inr rfl) (pe_ix (kIx K) (pv 3) (pv 4) (fun _ _ => rfl)) ip_mulC))))) (pss_one (ps_ret (pe_tup (pa_cons (pv 1) (pa_cons (pv 2) pa_nil))))))), ?_⟩)
  · rintro _ _ ⟨_, _, _, rfl, _⟩; rfl
  · rintro _ _ ⟨n, B, v, rfl, ⟨hn, hl, hB⟩, hw, rfl⟩
    show RS K false _ [.dat (matT B), .dat (vec v), .un, .un, .un] _
    refine rs_seq (rs_set re_int ?_)
    refine rs_seq (rs_for (ds := B.map vec) (ri_seq (re_var rfl) rfl) (fun i Γ => ∃ s3 s4, Γ = [.dat (matT B), .dat (vec (clr B v i).1), .dat (.int (clr B v i).2), s3, s4]) ⟨_, _, rfl⟩ (fun i d Γ hd hW => ?_) (fun Γ hW => ?_))
    · obtain ⟨s3, s4, rfl⟩ := hW
      obtain ⟨hi, rfl⟩ := tk_getD hd
      obtain ⟨p, h1, h2, h3, h4⟩ := hB i hi
      have w0 := hw i (by omega)
      refine ⟨_, _, rg_name, by decide, ?_⟩
      refine rs_seq (rs_set (re_call (ra_cons (re_var rfl) ra_nil) ⟨tk B i, rfl, by rw [h4.1]; exact hn, rfl⟩) ?_)
      rw [h1]
      show RS K false _ [.dat (matT B), .dat (vec (clr B v i).1), .dat (.int (clr B v i).2), .dat (vec (tk B i)), .dat (.int (p : Int))] _
      have a1 := at_sm h4 h2
      have a2 := at_sm w0.1 h2
      refine rs_seq (rs_set (re_call (ra_cons (re_at (re_var rfl) (sq_vec _) (re_var rfl) (by rw [h4.1]; exact h2)) (ra_cons (re_var rfl) (ra_cons (re_neg (re_at (re_var rfl) (sq_vec _) (re_var rfl) (by rw [w0.1.1]; exact h2))) (ra_cons (re_var rfl) ra_nil)))) ⟨_, _, _, _, _, _, rfl, sq_vec (clr B v i).1, sq_vec (tk B i), by rw [w0.1.1]; exact hn, fun x hx => a1.mul (w0.1.2 x hx), fun x hx => a2.neg.mul (h4.2 x hx), rfl⟩) ?_)
      refine rs_augC rfl (re_at (re_var (d := vec (tk B i)) rfl) (sq_vec _) (re_var rfl) (by rw [h4.1]; exact h2)) (w0.2.mul a1) ⟨.dat (vec (tk B i)), .dat (.int (p : Int)), ?_⟩
      have e1 : clr B v (i + 1) = (combL (at_ (tk B i) p) (clr B v i).1 (-(at_ (clr B v i).1 p)) (tk B i), (clr B v i).2 * at_ (tk B i) p) := by
        show (combL _ _ _ _, _) = _
        rw [h1]; rfl
      rw [e1]
      rfl
    · obtain ⟨s3, s4, rfl⟩ := hW
      rw [List.length_map]
      exact rs_ret (re_tup (ra_cons (re_var rfl) (ra_cons (re_var rfl) ra_nil))) rfl
end K87

namespace K87
open PySem PySem.Spec PyProof.Rows L2 DL
open PySem.Builtin.Int (intBits)
variable {P : Program} {w : World} {K : PySem.W.Frag} {mg : Str → Option Value} {base : Heap}
/-! ### frozen -/
abbrev s_frozen : Stmt := topS 1
abbrev nm_frozen : List Str := ["thing", "part"]
theorem sc_frozen : FnScope nm_frozen ["thing"] (defScope s_frozen) := ⟨rfl, rfl, rfl, by decide +kernel, rfl, by decide +kernel, by decide +kernel⟩
def F_frozen (k : Nat) (ds : List PyData) (d : PyData) : Prop := ∃ (d0 : PyData), ds = [d0] ∧ FrzOk k d0 ∧ d = frz d0
abbrev TF_frozen (P : Program) (w : World) (K : PySem.W.Frag) (mg : Str → Option Value) (base : Heap) (k : Nat) : Prop := Cal P w K mg base "frozen" (41 + k) ["thing"] (PR K (F_frozen k))
abbrev T_frozen (P : Program) (w : World) (K : PySem.W.Frag) (mg : Str → Option Value) (base : Heap) : Prop := TF_frozen P w K mg base 8
theorem kit2 {K : PySem.W.Frag} {a : String} {b : Bool} (h1 : kitB a "list" = some (b && decide (a = "list"))) (h2 : kitB a "tuple" = some (b && decide (a = "tuple"))) (h3 : b = true → a = "list" ∨ a = "tuple") : PySem.W.kitAny K (.type a) [.type "list", .type "tuple"] = some b := by
  cases b with
  | false =>
    have e1 : PySem.W.kitOne K (.type a) (.type "list") = some false := by have := kit_ty (K := K) h1; simpa using this
    have e2 : PySem.W.kitOne K (.type a) (.type "tuple") = some false := by have := kit_ty (K := K) h2; simpa using this
    exact kitAny_cons e1 (fun _ => kitAny_cons e2 (fun _ => kitAny_nil) (fun z => nomatch z)) (fun z => nomatch z)
  | true =>
    rcases h3 rfl with h | h
    · subst h
      have e1 : PySem.W.kitOne K (.type "list") (.type "list") = some true := kit_ty (by decide +kernel)
      exact kitAny_cons e1 (fun z => nomatch z) (fun _ => rfl)
    · subst h
      have e1 : PySem.W.kitOne K (.type "tuple") (.type "list") = some false := kit_ty (by decide +kernel)
      have e2 : PySem.W.kitOne K (.type "tuple") (.type "tuple") = some true := kit_ty (by decide +kernel)
      exact kitAny_cons e1 (fun _ => kitAny_cons e2 (fun z => nomatch z) (fun _ => rfl)) (fun z => nomatch z)
theorem ok_frozen (S : Sur P mg base) (A : FunAt K mg "frozen" s_frozen) : ∀ k, TF_frozen P w K mg base k := by
  intro k
  induction k with
  | zero =>
    refine cal_pure A sc_frozen (fun _ _ _ _ _ _ us hl => match us, hl with | [_], _ => rfl) ?_ (fun f cdv A outer s H E hr => ⟨DL.tNever, DL.pss_never, ?_⟩)
    · rintro _ _ ⟨_, rfl, _⟩; rfl
    · rintro _ _ ⟨_, rfl, h, _⟩; exact h.elim
  | succ k C_frozen =>
    refine cal_pure A sc_frozen (fun _ _ _ _ _ _ us hl => match us, hl with | [_], _ => rfl) ?_ (fun f cdv A outer s H E hr => ⟨_, (pss_cons (ps_if (pt_val (pe_callB (kIsiT K) (by rfl) (S.no "isinstance" (by decide)) boot_isinstance (pa_cons (pv 0) (pa_cons (pe_tup (pa_cons (pe_bltn (v := .ty "list") (by rfl) (S.no "list" (by decide)) boot_list rfl) (pa_cons (pe_bltn (v := .ty "tuple") (by rfl) (S.no "tuple" (by decide)) boot_tuple rfl) pa_nil))) pa_nil)))) (pss_one (ps_ret (kTuple K (by rfl) (S.no "tuple" (by decide)) (pe_lc (own := [("part", 1)]) rfl sc_frozen.nd (kSeq K (pv 0)) (blkOk_by (N := nm_frozen) (sc := defScope s_frozen) (by decide +kernel)) (fun _ _ _ _ _ => (pg_name (i := 1) sc_frozen.nd rfl (by first | exact .inl rfl | exact .inr rfl))) (fun _ _ _ _ _ => pts_nil) (fun _ _ _ _ _ => (pe_own C_frozen (hr.mono (Nat.le_refl _)) (by rfl) (pa_cons (pv 1) pa_nil))))))) pss_nil) (pss_one (ps_ret (pv 0)))), ?_⟩)
    · rintro _ _ ⟨_, rfl, _⟩; rfl
    · rintro _ _ ⟨d0, rfl, h, rfl⟩
      show RS K false _ [.dat d0, .un] _
      have seq : ∀ ds, seqD d0 = some ds → ds.length ≤ 1000000 → (∀ x ∈ ds, FrzOk k x) → frz d0 = .tuple (frzs ds) → RE K (tThen (tLc (iSeq K (tVar 0)) (gName 1) tYes (tCall (PR K (F_frozen k)) [] E0 (tCons (tVar 1) tNil)) [1]) (kTup K)) [.dat d0, .un] (frz d0) [.dat d0, .un] := fun ds hs hl ho e =>
        (re_tupleL (RL.re (rl_map ds id frz (ri_seq (re_var rfl) (by rw [List.map_id]; exact hs)) (by omega) (fun x hx => re_call (ra_cons (re_var rfl) ra_nil) ⟨x, rfl, ho x hx, rfl⟩)))).is (by rw [e, frzs_map])
      cases d0 with
      | none => exact rs_seq (rs_if (b := false) (rt_test (re_isi2 (S := "list") (T := "tuple") (b1 := false) (re_var rfl) (fun t ht => by subst ht; exact kit2 (by decide +kernel) (by decide +kernel) (fun z => nomatch z)))) (fun z => (nomatch z)) (fun _ => rs_nx (rs_ret (re_var rfl) (by simp [frz]))))
      | bool b => exact rs_seq (rs_if (b := false) (rt_test (re_isi2 (S := "list") (T := "tuple") (b1 := false) (re_var rfl) (fun t ht => by subst ht; exact kit2 (by decide +kernel) (by decide +kernel) (fun z => nomatch z)))) (fun z => (nomatch z)) (fun _ => rs_nx (rs_ret (re_var rfl) (by simp [frz]))))
      | int b => exact rs_seq (rs_if (b := false) (rt_test (re_isi2 (S := "list") (T := "tuple") (b1 := false) (re_var rfl) (fun t ht => by subst ht; exact kit2 (by decide +kernel) (by decide +kernel) (fun z => nomatch z)))) (fun z => (nomatch z)) (fun _ => rs_nx (rs_ret (re_var rfl) (by simp [frz]))))
      | str b => exact rs_seq (rs_if (b := false) (rt_test (re_isi2 (S := "list") (T := "tuple") (b1 := false) (re_var rfl) (fun t ht => by subst ht; exact kit2 (by decide +kernel) (by decide +kernel) (fun z => nomatch z)))) (fun z => (nomatch z)) (fun _ => rs_nx (rs_ret (re_var rfl) (by simp [frz]))))
      | dict b => exact h.elim
      | list ds => exact rs_seq (rs_if (b := true) (rt_test (re_isi2 (S := "list") (T := "tuple") (b1 := true) (re_var rfl) (fun t ht => by subst ht; exact kit2 (by decide +kernel) (by decide +kernel) (fun _ => .inl rfl)))) (fun _ => rs_ret (seq ds rfl h.1 h.2 (by rw [frz])) rfl) (fun z => (nomatch z)))
      | tuple ds => exact rs_seq (rs_if (b := true) (rt_test (re_isi2 (S := "list") (T := "tuple") (b1 := true) (re_var rfl) (fun t ht => by subst ht; exact kit2 (by decide +kernel) (by decide +kernel) (fun _ => .inr rfl)))) (fun _ => rs_ret (seq ds rfl h.1 h.2 (by rw [frz])) rfl) (fun z => (nomatch z)))
/-! ### dual_from -/
abbrev s_dual_from : Stmt := topS 42
abbrev nm_dual_from : List Str := ["exact", "scale", "rows", "size", "forms", "bottom", "basis", "common", "lower", "row", "entry"]
theorem sc_dual_from : FnScope nm_dual_from ["exact", "scale", "rows", "size"] (defScope s_dual_from) := ⟨rfl, rfl, rfl, by decide +kernel, rfl, by decide +kernel, by decide +kernel⟩
def F_dual_from (ds : List PyData) (d : PyData) : Prop := ∃ (ed rd x1 zz : PyData) (sc bo g : Int) (rows fo Bs : List Vc) (n : Nat) (cr : Vc → Vc) (cb : Vc → Int), ds = [ed, .int sc, rd, .int (n : Int)] ∧ 1 ≤ n ∧ n ≤ 1000 ∧ seqD rd = some (rows.map vec) ∧ rows.length ≤ 1000 ∧
  F_hermite [ed, .int (n : Int)] x1 ∧ F_saturation [x1, .int (n : Int)] (matT fo) ∧ F_cleared_by [matT fo, vec (List.replicate n 0)] (.tuple [zz, .int bo]) ∧ (∀ r ∈ rows, F_cleared_by [matT fo, vec r] (.tuple [vec (cr r), .int (cb r)])) ∧
  F_hermite [.list (rows.map fun r => vec (cr r)), .int (n : Int)] (matT Bs) ∧ IntMulOk sc bo ∧ F_gcd_of [.list ((sc * bo :: Bs.flatten).map .int)] (.int g) ∧ g ≠ 0 ∧ Bs.length ≤ 1000 ∧ (∀ r ∈ Bs, r.length ≤ 1000) ∧ Bs.flatten.length ≤ 100000 ∧
  d = dualD fo ((sc * bo).fdiv g) (Bs.map fun r => r.map fun x => x.fdiv g)
abbrev T_dual_from (P : Program) (w : World) (K : PySem.W.Frag) (mg : Str → Option Value) (base : Heap) : Prop := Cal P w K mg base "dual_from" 56 ["exact", "scale", "rows", "size"] (PR K F_dual_from)
theorem ok_dual_from (S : Sur P mg base) (A : FunAt K mg "dual_from" s_dual_from) (g_DUAL : Glo mg "DUAL" (.str "dual")) (C_saturation : T_saturation P w K mg base) (C_hermite : T_hermite P w K mg base) (C_cleared_by : T_cleared_by P w K mg base) (C_gcd_of : T_gcd_of P w K mg base) : T_dual_from P w K mg base := by
  refine cal_pure A sc_dual_from (fun _ _ _ _ _ _ us hl => match us, hl with | [_, _, _, _], _ => rfl) ?_ (fun f cdv A outer s H E hr => ⟨_, (pss_cons (ps_set (i := 4) sc_dual_from.nd rfl (by first | exact .inl rfl | exact .inr rfl) (pe_own C_saturation (hr.mono (by decide)) (by rfl) (pa_cons (pe_own C_hermite (hr.mono (by decide)) (by rfl) (pa_cons (pv 0) (pa_cons (pv 3) pa_nil))) (pa_cons (pv 3) pa_nil)))) (pss_cons (ps_set (i := 5) sc_dual_from.nd rfl (by first | exact .inl rfl | exact .inr rfl) (pe_ix (kIx K) (pe_own C_cleared_by (hr.mono (by decide)) (by rfl) (pa_cons (pv 4) (pa_cons (pe_op (kMul K) (pe_tup (pa_cons pe_int pa_nil)) (pv 3)) pa_nil))) pe_int (fun _ _ => rfl))) (pss_cons (ps_set (i := 6) sc_dual_from.nd rfl (by first | exact .inl rfl | exact .inr rfl) (pe_own C_hermite (hr.mono (by decide)) (by rfl) (pa_cons (pe_lc (own := [("row", 9)]) rfl sc_dual_from.nd (kSeq K (pv 2)) (blkOk_by (N := nm_dual_from) (sc := defScope s_dual_from) (by decide +kernel)) (fun _ _ _ _ _ => (pg_name (i := 9) sc_dual_from.nd rfl (by first | exact .inl rfl | exact .inr rfl))) (fun _ _ _ _ _ => pts_nil) (fun _ _ _ _ _ => (pe_ix (kIx K) (pe_own C_cleared_by (hr.mono (by decide)) (by rfl) (pa_cons (pv 4) (pa_cons (pv 9) pa_nil))) pe_int (fun _ _ => rfl)))) (pa_cons (pv 3) pa_nil)))) (pss_cons (ps_aug (i := 1) sc_dual_from.nd rfl (by first | exact .inl rfl | exact .inr rfl) (pv 5) ip_mulC) (pss_cons (ps_set (i := 7) sc_dual_from.nd rfl (by first | exact .inl rfl | exact .inr rfl) (pe_own C_gcd_of (hr.mono (by decide)) (by rfl) (pa_cons (pe_op (kAdd K) (pe_lst (pa_cons (pv 1) pa_nil)) (pe_lc2 (own := [("row", 9), ("entry", 10)]) (vs1 := [10]) rfl sc_dual_from.nd (kSeq K (pv 6)) (blkOk_by (N := nm_dual_from) (sc := defScope s_dual_from) (by decide +kernel)) (by decide) (fun _ _ _ _ _ => (pg_name (i := 9) sc_dual_from.nd rfl (by first | exact .inl rfl | exact .inr rfl))) (fun _ _ _ _ _ => pts_nil) (fun _ _ _ _ _ => (kSeq K (pv 9))) (fun _ _ _ _ _ => (pg_name (i := 10) sc_dual_from.nd rfl (by first | exact .inl rfl | exact .inr rfl))) (fun _ _ _ _ _ => pts_nil) (fun _ _ _ _ _ => (pv 10)))) pa_nil))) (pss_cons (ps_set (i := 8) sc_dual_from.nd rfl (by first | exact .inl rfl | exact .inr rfl) (kTuple K (by rfl) (S.no "tuple" (by decide)) (pe_lc (own := [("row", 9)]) rfl sc_dual_from.nd (kSeq K (pv 6)) (blkOk_by (N := nm_dual_from) (sc := defScope s_dual_from) (by decide +kernel)) (fun _ _ _ _ _ => (pg_name (i := 9) sc_dual_from.nd rfl (by first | exact .inl rfl | exact .inr rfl))) (fun _ _ _ _ _ => pts_nil) (fun _ _ _ _ _ => (kTuple K (by rfl) (S.no "tuple" (by decide)) (pe_lc (own := [("entry", 10)]) rfl sc_dual_from.nd (kSeq K (pv 9)) (blkOk_by (N := nm_dual_from) (sc := relS _ (defScope s_dual_from)) (by decide +kernel)) (fun _ _ _ _ _ => (pg_name (i := 10) sc_dual_from.nd rfl (by first | exact .inl rfl | exact .inr rfl))) (fun _ _ _ _ _ => pts_nil) (fun _ _ _ _ _ => (pe_op (op_fdivX (py_of S.seer S.tree hr)) (pv 10) (pv 7))))))))) (pss_one (ps_ret (pe_tup (pa_cons (pe_gl g_DUAL (by rfl)) (pa_cons (pv 4) (pa_cons (pe_op (op_fdivX (py_of S.seer S.tree hr)) (pv 1) (pv 7)) (pa_cons (pv 8) pa_nil))))))))))))), ?_⟩)
  · rintro _ _ ⟨_, _, _, _, _, _, _, _, _, _, _, _, _, rfl, _⟩; rfl
  · rintro _ _ ⟨ed, rd, x1, zz, sc, bo, g, rows, fo, Bs, n, cr, cb, rfl, hn1, hn, hrd, hrl, h1, h2, h3, h4, h5, h6, h7, h8, h9, h10, h11, rfl⟩
    show RS K false _ [.dat ed, .dat (.int sc), .dat rd, .dat (.int n), .un, .un, .un, .un, .un, .un, .un] _
    refine rs_seq (rs_set (re_call (ra_cons (re_call (ra_cons (re_var rfl) (ra_cons (re_var rfl) ra_nil)) h1) (ra_cons (re_var rfl) ra_nil)) h2) ?_)
    refine rs_seq (rs_set (d := .int bo) (re_ixT (ds := [zz, .int bo]) (re_call (ra_cons (re_var (d := matT fo) rfl) (ra_cons ((re_mulT (re_tup (ra_cons re_int ra_nil)) (re_var rfl) (by omega)).is (d2 := vec (List.replicate n 0)) (by unfold vec; rw [List.map_replicate]; rfl)) ra_nil)) h3) re_int (at_nat (k := 1) rfl)) ?_)
    show RS K false _ [.dat ed, .dat (.int sc), .dat rd, .dat (.int n), .dat (matT fo), .dat (.int bo), .un, .un, .un, .un, .un] _
    refine rs_seq (rs_set (re_call (ra_cons (RL.re (rl_map rows vec (fun r => vec (cr r)) (ri_seq (re_var rfl) hrd) (by omega) (fun r hr => re_ixT (ds := [vec (cr r), .int (cb r)]) (re_call (ra_cons (re_var rfl) (ra_cons (re_var rfl) ra_nil)) (h4 r hr)) re_int (at_nat (k := 0) rfl)))) (ra_cons (re_var rfl) ra_nil)) h5) ?_)
    refine rs_seq (rs_augC (x := sc) (y := bo) rfl (re_var rfl) h6 ?_)
    show RS K false _ [.dat ed, .dat (.int (sc * bo)), .dat rd, .dat (.int n), .dat (matT fo), .dat (.int bo), .dat (matT Bs), .un, .un, .un, .un] _
    have e1 : [PyData.int (sc * bo)] ++ Bs.flatMap (fun r => r.map PyData.int) = (sc * bo :: Bs.flatten).map .int := by
      rw [List.map_cons, List.map_flatten]; rfl
    have l1 : (Bs.flatMap (fun r => r.map PyData.int)).length ≤ 1000000 := by
      have : Bs.flatMap (fun r => r.map PyData.int) = Bs.flatten.map .int := by rw [List.map_flatten]; rfl
      rw [this, List.length_map]; omega
    refine rs_seq (rs_set (re_call (ra_cons (RL.re ((rl_addL (rl_lst (ra_cons (re_var rfl) ra_nil)) (rl_lc2 Bs vec (fun r => r.map .int) (ri_seq (re_var (d := matT Bs) rfl) rfl) (by decide) (fun r hr => by
      have := ri_seq (K := K) (xs := r) (a := PyData.int) (re_var (K := K) (i := 9) (d := vec r) (Γ := [.dat ed, .dat (.int (sc * bo)), .dat rd, .dat (.int n), .dat (matT fo), .dat (.int bo), .dat (matT Bs), .un, .un, .dat (vec r), .un]) rfl) rfl
      exact this) l1) (by show _ ≤ 16777216; rw [List.length_singleton]; omega)).is e1)) ra_nil) h7) ?_)
    show RS K false _ [.dat ed, .dat (.int (sc * bo)), .dat rd, .dat (.int n), .dat (matT fo), .dat (.int bo), .dat (matT Bs), .dat (.int g), .un, .un, .un] _
    refine rs_seq (rs_set (d := matT (Bs.map fun r => r.map fun x => x.fdiv g)) ((re_tupleL (RL.re (rl_map Bs vec (fun r => vec (r.map fun x => x.fdiv g)) (ri_seq (re_var (d := matT Bs) rfl) rfl) (by omega) (fun r hr => (re_tupleL (RL.re (rl_map r .int (fun x => .int (x.fdiv g)) (ri_seq (re_var rfl) (sq_vec r)) (by have := h10 r hr; omega) (fun x hx => re_fdivI (re_var rfl) (re_var rfl) h8)))).is (by unfold vec; rw [List.map_map]; rfl))))).is (by unfold matT; rw [List.map_map]; rfl)) ?_)
    exact rs_ret (re_tup (ra_cons re_str (ra_cons (re_var rfl) (ra_cons (re_fdivI (re_var rfl) (re_var rfl) h8) (ra_cons (re_var rfl) ra_nil))))) rfl
/-! ### dual_of -/
abbrev s_dual_of : Stmt := topS 43
abbrev nm_dual_of : List Str := ["basis", "size", "exact", "pivots", "columns", "inner", "scale", "rows", "row", "wide", "column", "at"]
theorem sc_dual_of : FnScope nm_dual_of ["basis", "size"] (defScope s_dual_of) := ⟨rfl, rfl, rfl, by decide +kernel, rfl, by decide +kernel, by decide +kernel⟩
def F_dual_of (ds : List PyData) (d : PyData) : Prop := ∃ (B Ex : List Vc) (n : Nat) (ps : List Nat), ds = [matT B, .int (n : Int)] ∧ n ≤ 1000 ∧ F_annihilator ds (matT Ex) ∧ Ex.length ≤ 1000 ∧ (∀ r ∈ Ex, r.length ≤ 1000) ∧ Ex.map fstN = ps.map some ∧
  (colsL n ps = [] → d = dualD Ex 1 []) ∧ (colsL n ps ≠ [] → ∃ (inn : List Vc) (sc : Int) (R : Nat → List Vc), F_project [matT B, natsL (colsL n ps)] (matT inn) ∧ F_class_count [matT (unitsL (colsL n ps).length), matT inn] (.int sc) ∧ R 0 = unitsL (colsL n ps).length ∧
    (∀ k, k < inn.length → F_restrict [matT (R k), vec (tk inn k), .int sc] (matT (R (k + 1)))) ∧ (R inn.length).length ≤ 1000 ∧ (∀ r ∈ R inn.length, r.length = (colsL n ps).length) ∧
    F_dual_from [matT Ex, .int sc, .list ((R inn.length).map fun r => vec (wideL n (colsL n ps) r)), .int (n : Int)] d)
abbrev T_dual_of (P : Program) (w : World) (K : PySem.W.Frag) (mg : Str → Option Value) (base : Heap) : Prop := Cal P w K mg base "dual_of" 57 ["basis", "size"] (PR K F_dual_of)
theorem ok_dual_of (S : Sur P mg base) (A : FunAt K mg "dual_of" s_dual_of) (g_DUAL : Glo mg "DUAL" (.str "dual")) (C_annihilator : T_annihilator P w K mg base) (C_pivot_of : T_pivot_of P w K mg base) (C_project : T_project P w K mg base) (C_class_count : T_class_count P w K mg base) (C_whole : T_whole P w K mg base) (C_restrict : T_restrict P w K mg base) (C_dual_from : T_dual_from P w K mg base) : T_dual_of P w K mg base := by
  refine cal_pure A sc_dual_of (fun _ _ _ _ _ _ us hl => match us, hl with | [_, _], _ => rfl) ?_ (fun f cdv A outer s H E hr => ⟨_, (pss_cons (ps_set (i := 2) sc_dual_of.nd rfl (by first | exact .inl rfl | exact .inr rfl) (pe_own C_annihilator (hr.mono (by decide)) (by rfl) (pa_cons (pv 0) (pa_cons (pv 1) pa_nil)))) (pss_cons (ps_set (i := 3) sc_dual_of.nd rfl (by first | exact .inl rfl | exact .inr rfl) (pe_lc (own := [("row", 8)]) rfl sc_dual_of.nd (kSeq K (pv 2)) (blkOk_by (N := nm_dual_of) (sc := defScope s_dual_of) (by decide +kernel)) (fun _ _ _ _ _ => (pg_name (i := 8) sc_dual_of.nd rfl (by first | exact .inl rfl | exact .inr rfl))) (fun _ _ _ _ _ => pts_nil) (fun _ _ _ _ _ => (pe_own C_pivot_of (hr.mono (by decide)) (by rfl) (pa_cons (pv 8) pa_nil))))) (pss_cons (ps_set (i := 4) sc_dual_of.nd rfl (by first | exact .inl rfl | exact .inr rfl) (pe_lc (own := [("column", 10)]) rfl sc_dual_of.nd (pi_range1 (by rfl) (S.no "range" (by decide)) (pa_cons (pv 1) pa_nil)) (blkOk_by (N := nm_dual_of) (sc := defScope s_dual_of) (by decide +kernel)) (fun _ _ _ _ _ => (pg_name (i := 10) sc_dual_of.nd rfl (by first | exact .inl rfl | exact .inr rfl))) (fun _ _ _ _ _ => (pts_one (pt_cmpR (kNotIn K) (pv 10) (pv 3) (by with_unfolding_all rfl)))) (fun _ _ _ _ _ => (pv 10)))) (pss_cons (ps_if (pt_cmpR (kEq K hr.units) (pv 4) (pe_lst pa_nil) (nomark _)) (pss_one (ps_ret (pe_tup (pa_cons (pe_gl g_DUAL (by rfl)) (pa_cons (pv 2) (pa_cons pe_int (pa_cons (pe_tup pa_nil) pa_nil))))))) pss_nil) (pss_cons (ps_set (i := 5) sc_dual_of.nd rfl (by first | exact .inl rfl | exact .inr rfl) (pe_own C_project (hr.mono (by decide)) (by rfl) (pa_cons (pv 0) (pa_cons (pv 4) pa_nil)))) (pss_cons (ps_set (i := 6) sc_dual_of.nd rfl (by first | exact .inl rfl | exact .inr rfl) (pe_own C_class_count (hr.mono (by decide)) (by rfl) (pa_cons (pe_own C_whole (hr.mono (by decide)) (by rfl) (pa_cons (pe_callB (kLen K) (by rfl) (S.no "len" (by decide)) boot_len (pa_cons (pv 4) pa_nil)) pa_nil)) (pa_cons (pv 5) pa_nil)))) (pss_cons (ps_set (i := 7) sc_dual_of.nd rfl (by first | exact .inl rfl | exact .inr rfl) (pe_own C_whole (hr.mono (by decide)) (by rfl) (pa_cons (pe_callB (kLen K) (by rfl) (S.no "len" (by decide)) boot_len (pa_cons (pv 4) pa_nil)) pa_nil))) (pss_cons (ps_for PassesOwn.never rfl (kSeq K (pv 5)) (pg_name (i := 8) sc_dual_of.nd rfl (by first | exact .inl rfl | exact .inr rfl)) (pss_one (ps_set (i := 7) sc_dual_of.nd rfl (by first | exact .inl rfl | exact .inr rfl) (pe_own C_restrict (hr.mono (by decide)) (by rfl) (pa_cons (pv 7) (pa_cons (pv 8) (pa_cons (pv 6) pa_nil))))))) (pss_cons (ps_setLc (own := [("row", 8)]) (i := 9) rfl sc_dual_of.nd rfl rfl (sw_true rfl rfl rfl (by decide +kernel)) (kSeq K (pv 7)) (blkOk_by (N := nm_dual_of) (sc := defScope s_dual_of) (by decide +kernel)) (fun _ _ _ _ _ => (pg_name (i := 8) sc_dual_of.nd rfl (by first | exact .inl rfl | exact .inr rfl))) (fun _ _ _ _ _ => pts_nil) (fun _ _ _ _ _ => (kTuple K (by rfl) (S.no "tuple" (by decide)) (pe_lc (own := [("at", 11)]) rfl sc_dual_of.nd (pi_range1 (by rfl) (S.no "range" (by decide)) (pa_cons (pv 1) pa_nil)) (blkOk_by (N := nm_dual_of) (sc := relS _ (defScope s_dual_of)) (by decide +kernel)) (fun _ _ _ _ _ => (pg_name (i := 11) sc_dual_of.nd rfl (by first | exact .inl rfl | exact .inr rfl))) (fun _ _ _ _ _ => pts_nil) (fun _ _ _ _ _ => (pe_ifExp (pt_cmpR (kIn K) (pv 11) (pv 4) (by with_unfolding_all rfl)) (pe_ix (kIx K) (pv 8) (kMeth K PySem.F.plainAttrs_list PySem.F.slot_list_index PySem.F.type_list_index (kIndex K) (pv 4) (pa_cons (pv 11) pa_nil)) (fun _ _ => rfl)) pe_int)))))) (pss_one (ps_ret (pe_own C_dual_from (hr.mono (by decide)) (by rfl) (pa_cons (pv 2) (pa_cons (pv 6) (pa_cons (pv 9) (pa_cons (pv 1) pa_nil)))))))))))))))), ?_⟩)
  · rintro _ _ ⟨_, _, _, _, rfl, _⟩; rfl
  · rintro _ d ⟨B, Ex, n, ps, rfl, hn, h1, hel, her, hps, c0, c1⟩
    show RS K false _ [.dat (matT B), .dat (.int n), .un, .un, .un, .un, .un, .un, .un, .un, .un, .un] _
    refine rs_seq (rs_set (re_call (ra_cons (re_var rfl) (ra_cons (re_var rfl) ra_nil)) h1) ?_)
    show RS K false _ [.dat (matT B), .dat (.int n), .dat (matT Ex), .un, .un, .un, .un, .un, .un, .un, .un, .un] _
    have eP : (Ex.map fun r => fstD (fstN r)) = (ps.map Int.ofNat).map .int := by
      have : (Ex.map fun r => fstD (fstN r)) = (Ex.map fstN).map fstD := by rw [List.map_map]; rfl
      rw [this, hps, List.map_map, List.map_map]; rfl
    refine rs_seq (rs_set (d := .list ((ps.map Int.ofNat).map .int)) ((RL.re (rl_map Ex vec (fun r => fstD (fstN r)) (ri_seq (re_var (d := matT Ex) rfl) rfl) (by omega) (fun r hr => re_call (ra_cons (re_var rfl) ra_nil) ⟨r, rfl, her r hr, rfl⟩))).is (by rw [eP])) ?_)
    show RS K false _ [.dat (matT B), .dat (.int n), .dat (matT Ex), .dat (.list ((ps.map Int.ofNat).map .int)), .un, .un, .un, .un, .un, .un, .un, .un] _
    refine rs_seq (rs_set (d := natsL (colsL n ps)) (RL.re (rl_filt (List.range n) (fun (c : Nat) => .int (c : Int)) (fun (c : Nat) => .int (c : Int)) (fun c => !decide ((c : Int) ∈ ps.map Int.ofNat)) (ri_range (ra_cons (re_var rfl) ra_nil) (by omega)) (by simp; omega) (fun c hc => rt_test (re_niS (re_var rfl) (re_var (d := .list ((ps.map Int.ofNat).map .int)) rfl) rfl)) (fun c hc _ => re_var rfl))) ?_)
    show RS K false _ [.dat (matT B), .dat (.int n), .dat (matT Ex), .dat (.list ((ps.map Int.ofNat).map .int)), .dat (natsL (colsL n ps)), .un, .un, .un, .un, .un, .un, .un] _
    have hcl : (colsL n ps).length ≤ 1000 := by
      unfold colsL
      exact Nat.le_trans (List.length_filter_le _ _) (by rw [List.length_range]; exact hn)
    have eqn : PyData.eqv (natsL (colsL n ps)) (.list ([].map fun (c : Nat) => .int (c : Int))) = decide (colsL n ps = []) := eqv_lst (f := fun (c : Nat) => .int (c : Int)) (fun a b => by rw [eqv_int]; exact dec_nat) _ _
    generalize hcs : colsL n ps = cs at *
    have test : RE K (tOp (rEqX K) (tVar 4) (tLst tNil)) [.dat (matT B), .dat (.int n), .dat (matT Ex), .dat (.list ((ps.map Int.ofNat).map .int)), .dat (natsL cs), .un, .un, .un, .un, .un, .un, .un] (.bool (decide (cs = []))) [.dat (matT B), .dat (.int n), .dat (matT Ex), .dat (.list ((ps.map Int.ofNat).map .int)), .dat (natsL cs), .un, .un, .un, .un, .un, .un, .un] :=
      (re_eqD (d2 := .list ([].map fun (c : Nat) => .int (c : Int))) (re_var rfl) (RL.re (rl_lst ra_nil)) (shp_mapL (n := 0) fun _ _ => shp_int).sh (shp_mapL (n := 0) fun _ _ => shp_int).sh).is (by show PyData.bool (PyData.eqv (natsL cs) _) = _; rw [eqn])
    by_cases z : cs = []
    · refine rs_seq (rs_if (b := true) ((rt_test test).is (decide_eq_true z)) (fun _ => ?_) (fun z => (nomatch z)))
      refine rs_ret (re_tup (ra_cons re_str (ra_cons (re_var rfl) (ra_cons re_int (ra_cons (re_tup ra_nil) ra_nil))))) ?_
      exact (c0 z).symm
    · obtain ⟨inn, sc, R, q1, q2, q3, q4, q5, q6, q7⟩ := c1 z
      refine rs_seq (rs_if (b := false) ((rt_test test).is (decide_eq_false z)) (fun z => (nomatch z)) (fun _ => rs_nx ?_))
      refine rs_seq (rs_set (re_call (ra_cons (re_var rfl) (ra_cons (re_var rfl) ra_nil)) q1) ?_)
      have lenC : ∀ Γ : Ga, Γ[4]? = some (.dat (natsL cs)) → RE K (tCB (DL.rLen K) (tCons (tVar 4) tNil)) Γ (.int (cs.length : Int)) Γ := fun Γ h => (re_cb (ra_cons (re_var h) ra_nil) (cd_len rfl)).is (by rw [List.length_map])
      refine rs_seq (rs_set (re_call (ra_cons (re_call (ra_cons (lenC _ rfl) ra_nil) ⟨cs.length, rfl, hcl, rfl⟩) (ra_cons (re_var rfl) ra_nil)) q2) ?_)
      refine rs_seq (rs_set (re_call (ra_cons (lenC _ rfl) ra_nil) ⟨cs.length, rfl, hcl, rfl⟩) ?_)
      refine rs_seq (rs_for (ds := inn.map vec) (ri_seq (re_var (d := matT inn) rfl) rfl) (fun i Γ => ∃ s8, Γ = [.dat (matT B), .dat (.int n), .dat (matT Ex), .dat (.list ((ps.map Int.ofNat).map .int)), .dat (natsL cs), .dat (matT inn), .dat (.int sc), .dat (matT (R i)), s8, .un, .un, .un] ∧ s8.flat = true) ⟨_, by rw [q3]; rfl, rfl⟩ (fun i d Γ hd hW => ?_) (fun Γ hW => ?_))
      · obtain ⟨s8, rfl, _⟩ := hW
        obtain ⟨hi, rfl⟩ := tk_getD hd
        refine ⟨_, _, rg_name, by decide, ?_⟩
        refine rs_set (re_call (ra_cons (re_var rfl) (ra_cons (re_var rfl) (ra_cons (re_var rfl) ra_nil))) (q4 i hi)) ?_
        exact ⟨_, rfl, rfl⟩
      · obtain ⟨s8, rfl, h8⟩ := hW
        rw [List.length_map]
        refine rs_seq (rs_set (d := .list ((R inn.length).map fun r => vec (wideL n cs r))) (RL.re (rl_map (R inn.length) vec (fun r => vec (wideL n cs r)) (ri_seq (re_var (d := matT (R inn.length)) rfl) rfl) (by omega) (fun r hr => ?_) ?_)) ?_)
        · have key : RL K _ [.dat (matT B), .dat (.int n), .dat (matT Ex), .dat (.list ((ps.map Int.ofNat).map .int)), .dat (natsL cs), .dat (matT inn), .dat (.int sc), .dat (matT (R inn.length)), .dat (vec r), .un, .un, .un] _ _ := rl_map (K := K) (j := 11) (te := tIf (tTest (tOp (rIn K false) (tVar 11) (tVar 4))) (tOp (rIx K) (tVar 8) (tBM K "list" (rIndex K) (tVar 4) (tCons (tVar 11) tNil))) (tC (.int 0))) (List.range n) (fun (a : Nat) => .int (a : Int)) (fun (a : Nat) => .int (if (a : Int) ∈ cs.map Int.ofNat then at_ r ((cs.map Int.ofNat).idxOf (a : Int)) else 0)) (ri_range (ra_cons (re_var (i := 1) rfl) ra_nil) (by omega)) (by simp; omega) (fun a ha => by
            have cd : seqD (natsL cs) = some ((cs.map Int.ofNat).map .int) := by unfold natsL; rw [List.map_map]; rfl
            have cl : natsL cs = .list ((cs.map Int.ofNat).map .int) := by unfold natsL; rw [List.map_map]; rfl
            refine re_if (rt_test (re_inS (re_var rfl) (re_var (d := natsL cs) rfl) cd)) (fun hb => ?_) (fun hb => ?_)
            · have hm : (a : Int) ∈ cs.map Int.ofNat := of_decide_eq_true hb
              refine (re_at (re_var rfl) (sq_vec r) (re_indexI (ns := cs.map Int.ofNat) ((re_var (d := natsL cs) rfl).is cl) (re_var rfl) hm) ?_).is (by rw [if_pos hm])
              have := List.idxOf_lt_length_of_mem hm
              rw [List.length_map] at this
              rw [q6 r hr]; exact this
            · have hm : ¬ (a : Int) ∈ cs.map Int.ofNat := of_decide_eq_false hb
              exact re_int.is (by rw [if_neg hm]))
          exact (re_tupleL (RL.re key)).is (by unfold vec wideL; rw [List.map_map]; rfl)
        · show (Sl.flat s8 && true) = true
          rw [h8]; rfl
        · exact rs_ret (re_call (ra_cons (re_var rfl) (ra_cons (re_var rfl) (ra_cons (re_var rfl) (ra_cons (re_var rfl) ra_nil)))) q7) rfl
end K87

namespace K87
open PySem PySem.Spec PyProof.Rows L2 DL
open PySem.Builtin.Int (intBits)
variable {P : Program} {w : World} {K : PySem.W.Frag} {mg : Str → Option Value} {base : Heap}
abbrev s_basis_of_dual : Stmt := topS 44
abbrev nm_basis_of_dual : List Str := ["exact", "scale", "rows", "size", "result", "row"]
theorem sc_basis_of_dual : FnScope nm_basis_of_dual ["exact", "scale", "rows", "size"] (defScope s_basis_of_dual) := ⟨rfl, rfl, rfl, by decide +kernel, rfl, by decide +kernel, by decide +kernel⟩
def F_basis_of_dual (ds : List PyData) (d : PyData) : Prop := ∃ (Ex rows : List Vc) (sc : Int) (n : Nat) (R R' : Nat → List Vc), ds = [matT Ex, .int sc, matT rows, .int (n : Int)] ∧ n ≤ 1000 ∧ R 0 = unitsL n ∧ (∀ k, k < Ex.length → F_restrict [matT (R k), vec (tk Ex k), .int 0] (matT (R (k + 1)))) ∧
  R' 0 = R Ex.length ∧ (∀ k, k < rows.length → F_restrict [matT (R' k), vec (tk rows k), .int sc] (matT (R' (k + 1)))) ∧ d = matT (R' rows.length)
abbrev T_basis_of_dual (P : Program) (w : World) (K : PySem.W.Frag) (mg : Str → Option Value) (base : Heap) : Prop := Cal P w K mg base "basis_of_dual" 54 ["exact", "scale", "rows", "size"] (PR K F_basis_of_dual)
theorem ok_basis_of_dual (S : Sur P mg base) (A : FunAt K mg "basis_of_dual" s_basis_of_dual) (C_whole : T_whole P w K mg base) (C_restrict : T_restrict P w K mg base) : T_basis_of_dual P w K mg base := by
  refine cal_pure A sc_basis_of_dual (fun _ _ _ _ _ _ us hl => match us, hl with | [_, _, _, _], _ => rfl) ?_ (fun f cdv A outer s H E hr => ⟨_, (pss_cons (ps_set (i := 4) sc_basis_of_dual.nd rfl (by first | exact .inl rfl | exact .inr rfl) (pe_own C_whole (hr.mono (by decide)) (by rfl) (pa_cons (pv 3) pa_nil))) (pss_cons (ps_for PassesOwn.never rfl (kSeq K (pv 0)) (pg_name (i := 5) sc_basis_of_dual.nd rfl (by first | exact .inl rfl | exact .inr rfl)) (pss_one (ps_set (i := 4) sc_basis_of_dual.nd rfl (by first | exact .inl rfl | exact .inr rfl) (pe_own C_restrict (hr.mono (by decide)) (by rfl) (pa_cons (pv 4) (pa_cons (pv 5) (pa_cons pe_int pa_nil))))))) (pss_cons (ps_for PassesOwn.never rfl (kSeq K (pv 2)) (pg_name (i := 5) sc_basis_of_dual.nd rfl (by first | exact .inl rfl | exact .inr rfl)) (pss_one (ps_set (i := 4) sc_basis_of_dual.nd rfl (by first | exact .inl rfl | exact .inr rfl) (pe_own C_restrict (hr.mono (by decide)) (by rfl) (pa_cons (pv 4) (pa_cons (pv 5) (pa_cons (pv 1) pa_nil))))))) (pss_one (ps_ret (pv 4)))))), ?_⟩)
  · rintro _ _ ⟨_, _, _, _, _, _, rfl, _⟩; rfl
  · rintro _ _ ⟨Ex, rows, sc, n, R, R', rfl, hn, h0, hs, h0', hs', rfl⟩
    show RS K false _ [.dat (matT Ex), .dat (.int sc), .dat (matT rows), .dat (.int n), .un, .un] _
    refine rs_seq (rs_set (re_call (ra_cons (re_var rfl) ra_nil) ⟨n, rfl, hn, rfl⟩) ?_)
    refine rs_seq (rs_for (ds := Ex.map vec) (ri_seq (re_var (d := matT Ex) rfl) rfl) (fun i Γ => ∃ s5, Γ = [.dat (matT Ex), .dat (.int sc), .dat (matT rows), .dat (.int n), .dat (matT (R i)), s5]) ⟨_, by rw [h0]; rfl⟩ (fun i d Γ hd hW => ?_) (fun Γ hW => ?_))
    · obtain ⟨s5, rfl⟩ := hW
      obtain ⟨hi, rfl⟩ := tk_getD hd
      exact ⟨_, _, rg_name, by decide, rs_set (re_call (ra_cons (re_var rfl) (ra_cons (re_var rfl) (ra_cons re_int ra_nil))) (hs i hi)) ⟨_, rfl⟩⟩
    · obtain ⟨s5, rfl⟩ := hW
      rw [List.length_map, ← h0']
      refine rs_seq (rs_for (ds := rows.map vec) (ri_seq (re_var (d := matT rows) rfl) rfl) (fun i Γ => ∃ s5, Γ = [.dat (matT Ex), .dat (.int sc), .dat (matT rows), .dat (.int n), .dat (matT (R' i)), s5]) ⟨_, rfl⟩ (fun i d Γ hd hW => ?_) (fun Γ hW => ?_))
      · obtain ⟨s5, rfl⟩ := hW
        obtain ⟨hi, rfl⟩ := tk_getD hd
        exact ⟨_, _, rg_name, by decide, rs_set (re_call (ra_cons (re_var rfl) (ra_cons (re_var rfl) (ra_cons (re_var rfl) ra_nil))) (hs' i hi)) ⟨_, rfl⟩⟩
      · obtain ⟨s5, rfl⟩ := hW
        rw [List.length_map]
        exact rs_ret (re_var rfl) rfl
abbrev s_represented : Stmt := topS 46
abbrev nm_represented : List Str := ["basis", "word", "size"]
theorem sc_represented : FnScope nm_represented ["basis", "word", "size"] (defScope s_represented) := ⟨rfl, rfl, rfl, by decide +kernel, rfl, by decide +kernel, by decide +kernel⟩
def F_represented (ds : List PyData) (d : PyData) : Prop := ∃ (bd : PyData) (B : List Vc) (n : Int), ds = [bd, .str "dual", .int n] ∧ FrzOk 8 bd ∧ frz bd = matT B ∧ F_dual_of [matT B, .int n] d
abbrev T_represented (P : Program) (w : World) (K : PySem.W.Frag) (mg : Str → Option Value) (base : Heap) : Prop := Cal P w K mg base "represented" 58 ["basis", "word", "size"] (PR K F_represented)
theorem ok_represented (S : Sur P mg base) (A : FunAt K mg "represented" s_represented) (g_PRIMAL : Glo mg "PRIMAL" (.str "primal")) (g_DUAL : Glo mg "DUAL" (.str "dual")) (C_frozen : T_frozen P w K mg base) (C_dual_of : T_dual_of P w K mg base) : T_represented P w K mg base := by
  refine cal_pure A sc_represented (fun _ _ _ _ _ _ us hl => match us, hl with | [_, _, _], _ => rfl) ?_ (fun f cdv A outer s H E hr => ⟨_, (pss_cons (ps_set (i := 0) sc_represented.nd rfl (by first | exact .inl rfl | exact .inr rfl) (pe_own C_frozen (hr.mono (by decide)) (by rfl) (pa_cons (pv 0) pa_nil))) (pss_cons (ps_if (pt_cmpR (kEq K hr.units) (pv 1) (pe_gl g_PRIMAL (by rfl)) (nomark _)) (pss_one (ps_ret (pe_tup (pa_cons (pe_gl g_PRIMAL (by rfl)) (pa_cons (pv 0) pa_nil))))) pss_nil) (pss_cons (ps_if (pt_cmpR (kEq K hr.units) (pv 1) (pe_gl g_DUAL (by rfl)) (nomark _)) (pss_one (ps_ret (pe_own C_dual_of (hr.mono (by decide)) (by rfl) (pa_cons (pv 0) (pa_cons (pv 2) pa_nil))))) pss_nil) DL.pss_never))), ?_⟩)
  · rintro _ _ ⟨_, _, _, rfl, _⟩; rfl
  · rintro _ d ⟨bd, B, n, rfl, h1, h2, h3⟩
    show RS K false _ [.dat bd, .dat (.str "dual"), .dat (.int n)] _
    refine rs_seq (rs_set (re_call (ra_cons (re_var rfl) ra_nil) ⟨bd, rfl, h1, h2.symm⟩) ?_)
    refine rs_seq (rs_if (b := false) ((rt_test (re_eqS (re_var rfl) re_str)).is (by decide)) (fun z => (nomatch z)) (fun _ => rs_nx ?_))
    refine rs_seq (rs_if (b := true) ((rt_test (re_eqS (re_var rfl) re_str)).is (by decide)) (fun _ => ?_) (fun z => (nomatch z)))
    exact rs_ret (re_call (ra_cons (re_var rfl) (ra_cons (re_var rfl) ra_nil)) h3) rfl
abbrev s_basis_of : Stmt := topS 47
abbrev nm_basis_of : List Str := ["representation", "size", "result", "word", "prime", "part", "parts", "exact", "scale", "rows"]
theorem sc_basis_of : FnScope nm_basis_of ["representation", "size"] (defScope s_basis_of) := ⟨rfl, rfl, rfl, by decide +kernel, rfl, by decide +kernel, by decide +kernel⟩
def F_basis_of (ds : List PyData) (d : PyData) : Prop := ∃ (rd : PyData) (Ex rows : List Vc) (sc n : Int), ds = [rd, .int n] ∧ FrzOk 8 rd ∧ frz rd = dualD Ex sc rows ∧ F_basis_of_dual [matT Ex, .int sc, matT rows, .int n] d
abbrev T_basis_of (P : Program) (w : World) (K : PySem.W.Frag) (mg : Str → Option Value) (base : Heap) : Prop := Cal P w K mg base "basis_of" 55 ["representation", "size"] (PR K F_basis_of)
theorem ok_basis_of (S : Sur P mg base) (A : FunAt K mg "basis_of" s_basis_of) (g_PRIMAL : Glo mg "PRIMAL" (.str "primal")) (g_DUAL : Glo mg "DUAL" (.str "dual")) (C_frozen : T_frozen P w K mg base) (C_basis_of_dual : T_basis_of_dual P w K mg base) : T_basis_of P w K mg base := by
  refine cal_pure A sc_basis_of (fun _ _ _ _ _ _ us hl => match us, hl with | [_, _], _ => rfl) ?_ (fun f cdv A outer s H E hr => ⟨_, (pss_cons (ps_asg (pe_own C_frozen (hr.mono (by decide)) (by rfl) (pa_cons (pv 0) pa_nil)) (kStar K (pg_star rfl (pgs_cons (pg_name (i := 3) sc_basis_of.nd rfl (by first | exact .inl rfl | exact .inr rfl)) (pgs_cons (pg_name (i := 6) sc_basis_of.nd rfl (by first | exact .inl rfl | exact .inr rfl)) pgs_nil))))) (pss_cons (ps_if (pt_cmpR (kEq K hr.units) (pv 3) (pe_gl g_PRIMAL (by rfl)) (nomark _)) (pss_one (ps_ret (pe_ix (kIx K) (pv 6) pe_int (fun _ _ => rfl)))) pss_nil) (pss_cons (ps_if (pt_cmpR (kEq K hr.units) (pv 3) (pe_gl g_DUAL (by rfl)) (nomark _)) (pss_cons (ps_asg (pv 6) (kAny K (n := 3) rfl (pgs_cons (pg_name (i := 7) sc_basis_of.nd rfl (by first | exact .inl rfl | exact .inr rfl)) (pgs_cons (pg_name (i := 8) sc_basis_of.nd rfl (by first | exact .inl rfl | exact .inr rfl)) (pgs_cons (pg_name (i := 9) sc_basis_of.nd rfl (by first | exact .inl rfl | exact .inr rfl)) pgs_nil))))) (pss_one (ps_ret (pe_own C_basis_of_dual (hr.mono (by decide)) (by rfl) (pa_cons (pv 7) (pa_cons (pv 8) (pa_cons (pv 9) (pa_cons (pv 1) pa_nil)))))))) pss_nil) DL.pss_never))), ?_⟩)
  · rintro _ _ ⟨_, _, _, _, _, rfl, _⟩; rfl
  · rintro _ d ⟨rd, Ex, rows, sc, n, rfl, h1, h2, h3⟩
    show RS K false _ [.dat rd, .dat (.int n), .un, .un, .un, .un, .un, .un, .un, .un] _
    refine rs_seq (rs_setG (re_call (d := dualD Ex sc rows) (ra_cons (re_var rfl) ra_nil) ⟨rd, rfl, h1, h2.symm⟩) (rg_star (rgs_cons rg_name (rgs_cons rg_name rgs_nil)) (by show 4 ≤ 16777216; decide)) ?_)
    show RS K false _ [.dat rd, .dat (.int n), .un, .dat (.str "dual"), .un, .un, .dat (.list [matT Ex, .int sc, matT rows]), .un, .un, .un] _
    refine rs_seq (rs_if (b := false) ((rt_test (re_eqS (re_var rfl) re_str)).is (by decide)) (fun z => (nomatch z)) (fun _ => rs_nx ?_))
    refine rs_seq (rs_if (b := true) ((rt_test (re_eqS (re_var rfl) re_str)).is (by decide)) (fun _ => ?_) (fun z => (nomatch z)))
    refine rs_seq (rs_setG (re_var rfl) (rg_anyL (rgs_cons rg_name (rgs_cons rg_name (rgs_cons rg_name rgs_nil)))) ?_)
    show RS K false _ [.dat rd, .dat (.int n), .un, .dat (.str "dual"), .un, .un, .dat (.list [matT Ex, .int sc, matT rows]), .dat (matT Ex), .dat (.int sc), .dat (matT rows)] _
    exact rs_ret (re_call (ra_cons (re_var rfl) (ra_cons (re_var rfl) (ra_cons (re_var rfl) (ra_cons (re_var rfl) ra_nil)))) h3) rfl
theorem shp_str {n : Nat} : Shp n (.str "dual") := ⟨by show PyData.canLay0 (.str "dual") = true; rw [PyData.canLay0]; decide +kernel, Nat.zero_le _⟩
theorem shp_dual (Ex rows : List Vc) (sc : Int) : Shp 3 (dualD Ex sc rows) := shp_tup fun d hd => by
  simp only [List.mem_cons, List.not_mem_nil, or_false] at hd
  rcases hd with rfl | rfl | rfl | rfl
  · exact shp_str
  · exact shp_mat _
  · exact shp_int
  · exact shp_mat _
theorem eqv_dual (Ex rows Ex' rows' : List Vc) (sc sc' : Int) : PyData.eqv (dualD Ex sc rows) (dualD Ex' sc' rows') = decide (Ex = Ex' ∧ sc = sc' ∧ rows = rows') := by
  unfold dualD
  simp only [PyData.eqv, PyData.eqvAll]
  have h1 := eqv_mat Ex Ex'
  have h2 := eqv_int sc sc'
  have h3 := eqv_mat rows rows'
  simp only [PyData.eqv] at h1 h2 h3 ⊢
  unfold matT at h1 h3 ⊢
  simp only [PyData.eqv] at h1 h3 ⊢
  rw [h1, h3]
  by_cases a : Ex = Ex' <;> by_cases b : sc = sc' <;> by_cases c : rows = rows' <;> simp [a, b, c]
end K87

namespace K87
open PySem PySem.Spec PyProof.Rows L2 DL
open PySem.Builtin.Int (intBits)
variable {P : Program} {w : World} {K : PySem.W.Frag} {mg : Str → Option Value} {base : Heap}
abbrev s_law_draw : Stmt := topS 49
abbrev nm_law_draw : List Str := ["stream", "count", "number"]
theorem sc_law_draw : FnScope nm_law_draw ["stream", "count"] (defScope s_law_draw) := ⟨rfl, rfl, rfl, by decide +kernel, rfl, by decide +kernel, by decide +kernel⟩
def F_law_draw (sl : Sl) (ds : List PyData) (d : PyData) (sl' : Sl) : Prop := ∃ (s : Stm) (many : Int) (m : Nat), sl = stmS s ∧ ds = [.int many] ∧ 0 < many ∧ SOk m s ∧ m ≤ 100000 ∧ d = .int (drV s many) ∧ sl' = stmS (drS s many)
abbrev T_law_draw (P : Program) (w : World) (K : PySem.W.Frag) (mg : Str → Option Value) (base : Heap) : Prop := Cal P w K mg base "_law_draw" 41 ["stream", "count"] (PO K F_law_draw)
theorem ok_law_draw (S : Sur P mg base) (A : FunAt K mg "_law_draw" s_law_draw) : T_law_draw P w K mg base := by
  refine cal_own A sc_law_draw (fun _ _ _ _ _ _ us hl => match us, hl with | [_, _], _ => rfl) ?_ (fun f cdv A outer s H E hr => ⟨_, (pss_cons (ps_asg (pe_op (kAdd K) (pe_ix (kIx K) (pv 0) pe_int (fun _ _ => rfl)) pe_int) (pg_sub (pv 0) pe_int set_list)) (pss_cons (ps_if (PW.pt (pw_and (pt_cmpR (kEq K hr.units) (pe_ix (kIx K) (pv 0) pe_int (fun _ _ => rfl)) pe_int (nomark _)) (pw_and1 (pt_cmpR (kNe K hr.units) (pe_ix (kIx K) (pv 0) pe_int (fun _ _ => rfl)) (pe_lst pa_nil) (nomark _))))) (pss_cons (ps_asg (kMeth K PySem.F.plainAttrs_list PySem.F.slot_list_pop PySem.F.type_list_pop mt_popAt (pe_ix (kIx K) (pv 0) pe_int (fun _ _ => rfl)) (pa_cons pe_int pa_nil)) (pg_sub (pv 0) pe_int set_list)) (pss_one (ps_if (pt_cmpR op_lt (pe_ix (kIx K) (pv 0) pe_int (fun _ _ => rfl)) (pe_op op_pow pe_int pe_int) (nomark _)) (pss_cons (ps_asg (pe_op op_modN (pe_op (kAdd K) (pe_op (kMul K) (pe_ix (kIx K) (pv 0) pe_int (fun _ _ => rfl)) pe_int) (pe_ix (kIx K) (pv 0) pe_int (fun _ _ => rfl))) pe_int) (pg_sub (pv 0) pe_int set_list)) (pss_one (ps_asg pe_int (pg_sub (pv 0) pe_int set_list)))) pss_nil))) pss_nil) (pss_cons (ps_if (pt_cmpR op_gt (pe_ix (kIx K) (pv 0) pe_int (fun _ _ => rfl)) pe_int (nomark _)) (pss_cons (ps_set (i := 2) sc_law_draw.nd rfl (by first | exact .inl rfl | exact .inr rfl) (pe_op op_modN (pe_ix (kIx K) (pv 0) pe_int (fun _ _ => rfl)) (pv 1))) (pss_cons (ps_asg (pe_op (op_fdivX (py_of S.seer S.tree hr)) (pe_ix (kIx K) (pv 0) pe_int (fun _ _ => rfl)) (pv 1)) (pg_sub (pv 0) pe_int set_list)) (pss_one (ps_ret (pv 2))))) pss_nil) (pss_cons (ps_set (i := 2) sc_law_draw.nd rfl (by first | exact .inl rfl | exact .inr rfl) (pe_op op_modN (pe_op op_pow (pe_op (kAdd K) (pe_op (kAdd K) (pe_ix (kIx K) (pv 0) pe_int (fun _ _ => rfl)) (pe_op (kMul K) pe_int (pe_ix (kIx K) (pv 0) pe_int (fun _ _ => rfl)))) pe_int) pe_int) pe_int)) (pss_one (ps_ret (pe_op op_modN (pe_op op_modN (pe_op (kMul K) (pe_op (kAdd K) (pv 2) (pe_ix (kIx K) (pv 0) pe_int (fun _ _ => rfl))) pe_int) pe_int) (pv 1)))))))), ?_⟩)
  · rintro _ _ _ _ ⟨_, _, _, rfl, rfl, _, _, _, _, rfl⟩; exact ⟨rfl, rfl⟩
  · rintro _ _ _ _ ⟨s, many, m, rfl, rfl, hm0, hs, hm, rfl, rfl⟩
    show RS K true _ [.stm s.cs s.a s.b s.c, .dat (.int many), .un] _
    refine rs_seq (rs_stm (i := 0) (k := 1) (re_addI (re_stm (k := 1) rfl rfl) re_int) rfl _ (.inr (.inl ⟨rfl, rfl⟩)) ?_)
    show RS K true _ [.stm s.cs s.a (s.b + 1) s.c, .dat (.int many), .un] _
    refine rs_cut (fun Γ => Γ = [stmS (drA s), .dat (.int many), .un]) ?_ ?_
    · refine rs_if (rt_and (rt_test (re_eqI (re_stm (k := 0) rfl rfl) re_int)) (fun _ => rfl) (fun _ => rt_test (re_stmNe rfl))) (fun hb => ?_) (fun hb => rs_nx ?_)
      · have ha : s.a = 0 := by
          have := (Bool.and_eq_true_iff.mp hb).1
          exact of_decide_eq_true this
        have hc := (Bool.and_eq_true_iff.mp hb).2
        cases ec : s.cs with
        | nil => rw [ec] at hc; cases hc
        | cons x r =>
          refine rs_seq (rs_stm (i := 0) (k := 0) (cs := r) (re_stmPop (i := 0) rfl) rfl _ (.inl ⟨rfl, rfl⟩) ?_)
          show RS K true _ [.stm r x (s.b + 1) s.c, .dat (.int many), .un] _
          refine rs_if (rt_test (re_op (re_stm (k := 0) rfl rfl) (re_powI re_int re_int ⟨by decide, by decide, by decide⟩) od_lt)) (fun hx => ?_) (fun hx => rs_nx ?_)
          · have hx : x < 10 ^ 18 := of_decide_eq_true hx
            refine rs_seq (rs_stm (i := 0) (k := 2) (re_modI (re_addI (re_mulI (re_stm (k := 2) rfl rfl) re_int (IntMulOk.of_right (by decide))) (re_stm (k := 0) rfl rfl)) re_int (by decide)) rfl _ (.inr (.inr ⟨rfl, rfl⟩)) ?_)
            refine rs_stm (i := 0) (k := 0) (cs := r) re_int rfl _ (.inl ⟨rfl, rfl⟩) ?_
            show _ = [stmS (drA s), .dat (.int many), .un]
            unfold drA
            rw [if_pos ha, ec]
            show _ = [stmS (if x < 10 ^ 18 then _ else _), _, _]
            rw [if_pos hx]; rfl
          · have hx : ¬ x < 10 ^ 18 := of_decide_eq_false hx
            show _ = [stmS (drA s), .dat (.int many), .un]
            unfold drA
            rw [if_pos ha, ec]
            show _ = [stmS (if x < 10 ^ 18 then _ else _), _, _]
            rw [if_neg hx]; rfl
      · show _ = [stmS (drA s), .dat (.int many), .un]
        unfold drA
        by_cases ha : s.a = 0
        · rw [if_pos ha]
          cases ec : s.cs with
          | nil => rfl
          | cons x r => rw [ec, decide_eq_true ha] at hb; cases hb
        · rw [if_neg ha]; rfl
    · intro Γ e
      subst e
      have h2 := sok_drA hs
      have es : drV s many = drV s many := rfl
      unfold drV drS
      generalize drA s = t at h2
      obtain ⟨h21, h22, h23, h24⟩ := h2
      show RS K true _ [.stm t.cs t.a t.b t.c, .dat (.int many), .un] _
      refine rs_seq (rs_if (rt_test (re_op (re_stm (k := 0) rfl rfl) re_int od_gt)) (fun hb => ?_) (fun hb => rs_nx ?_))
      · have hb : 0 < t.a := of_decide_eq_true hb
        refine rs_seq (rs_set (re_modI (re_stm (k := 0) rfl rfl) (re_var rfl) (by omega)) ?_)
        refine rs_seq (rs_stm (i := 0) (k := 0) (re_fdivI (re_stm (k := 0) rfl rfl) (re_var rfl) (by omega)) rfl _ (.inl ⟨rfl, rfl⟩) ?_)
        refine rs_ret (re_var rfl) ?_
        rw [if_pos hb, if_pos hb]; exact ⟨rfl, rfl⟩
      · have hb : ¬ 0 < t.a := of_decide_eq_false hb
        rw [if_neg hb, if_neg hb]
        refine rs_seq (rs_set (re_modI (re_powI (re_addI (re_addI (re_stm (k := 2) rfl rfl) (re_mulI re_int (re_stm (k := 1) rfl rfl) (IntMulOk.of_left (by decide)))) re_int) re_int ⟨by decide, by decide, ?_⟩) re_int (by decide)) ?_)
        · have : (2 : Nat) ^ 64 = 18446744073709551616 := by decide
          rw [this]
          omega
        refine rs_ret (re_modI (re_modI (re_mulI (re_addI (re_var rfl) (re_stm (k := 1) rfl rfl)) re_int (IntMulOk.of_right (by decide))) re_int (by decide)) (re_var rfl) (by omega)) ⟨rfl, rfl⟩
/-- a draw as an expression -/
theorem re_draw {Γ Γ1 : Ga} {te : TE} {E : XK} {i m : Nat} {s : Stm} {many : Int} (h : Γ[i]? = some (stmS s)) (ht : RE K te Γ (.int many) Γ1) (h1 : Γ1[i]? = some (stmS s)) (h0 : 0 < many) (hs : SOk m s) (hm : m ≤ 100000) :
    RE K (tCall (PO K F_law_draw) [] E (tCons (tVar i) (tCons te tNil))) Γ (.int (drV s many)) (Γ1.set i (stmS (drS s many))) :=
  re_callO h (ra_cons ht ra_nil) h1 rfl ⟨s, many, m, rfl, rfl, h0, hs, hm, rfl, rfl⟩

end K87

namespace K87
open PySem PySem.Spec PyProof.Rows L2 DL
open PySem.Builtin.Int (intBits)
/-! ### what the defs return, by lattices -/
theorem f_herm {rd : PyData} {rows X : List Vc} {n t : Nat} {m : Int} (hr : SqM rd rows) (hn : n ≤ 7) (hF : Fits n t) (hb : ∀ r ∈ rows, Bd n (2 ^ t) r) (hX : HB n (Lat (Gr rows)) X) : F_hermite [rd, .int m] (matT X) := by
  obtain ⟨E, h1, h2, h3, rfl⟩ := f_hermite (K := []) hn hF hb hX
  exact ⟨rd, rows, n, m, E, rfl, hr, by omega, h1, h2, h3, rfl⟩
theorem f_rest {n : Nat} {B B' : List Vc} {f : Vc} {m : Int} (h : RestC n B f m B') (hf : Vn n f) (hn : n ≤ 60) (hl : B.length ≤ 1000) : F_restrict [matT B, vec f, .int m] (matT B') := by
  obtain ⟨rs, tp, v, run, hrl, h0, h1⟩ := h
  refine ⟨matT B, vec f, B, f, n, m, rs, tp, v, rfl, rfl, sq_vec f, hf, hn, hl, run, by omega, fun z => by rw [h0 z], fun z => ?_⟩
  obtain ⟨t, E, e1, e2, e3, e4, e5, e6, e7⟩ := h1 z
  exact ⟨t, E, e1, e2, e3, e4, e5, e6, by rw [e7]⟩
theorem vn_of {n e : Nat} {v : Vc} (he : e < 60000000) (h : Bd n (2 ^ e) v) : Vn n v := h.vn fun x hx => sm_pow he hx
theorem annfit_e {n N e : Nat} (h : AnnFit n N e) : e < 60000000 := by
  obtain ⟨_, _, s, t, _, h1, _, h2⟩ := h
  omega
theorem f_ann {n e N : Nat} {B X : List Vc} {pv : Nat → Nat} (h : RB n B pv) (hb : ∀ r ∈ B, Bd n (2 ^ e) r) (hf : AnnFit n N e) (hl : B.length = N) (hX : HB n (ker n B) X) : F_annihilator [matT B, .int (n : Int)] (matT X) := by
  subst hl
  obtain ⟨R, h0, h1, h2⟩ := ann_ex h hb hf
  have he := annfit_e hf
  have hn := hf.1
  refine ⟨B, n, R, rfl, by omega, h0, fun k hk => f_rest (h2 k hk) (vn_of he (hb _ (tk_mem hk))) (by omega) ?_, ?_⟩
  · have := (h1 k (by omega)).2.1; omega
  · have := (h1 B.length (Nat.le_refl _)).1
    rw [List.take_length] at this
    rw [hX.uniq this]
section
variable {n ρ b e : Nat} {L : Fv → Prop} {B Ex St inn : List Vc} {pvx pvi : Nat → Nat} {cs : List Nat}
theorem f_sat (p : Par n ρ b e) (d : Du2 n ρ b e L B Ex St pvx cs inn pvi) : F_saturation [matT Ex, .int (n : Int)] (matT Ex) := by
  obtain ⟨pvs, hs⟩ := d.hS.rb
  exact ⟨_, matT St, _, rfl, f_ann d.d.rE d.bE p.a2 (by have := d.rk; have := d.er; omega) d.hS, f_ann hs d.bS p.a3 d.rS (d.d.hE.cong fun u => (kerker_ker d.d.hB d.d.hE d.hS d.hC u).symm)⟩
theorem f_proj (p : Par n ρ b e) (d : Du2 n ρ b e L B Ex St pvx cs inn pvi) (hb : ∀ r ∈ B, Bd n (2 ^ e) r) : F_project [matT B, natsL cs] (matT inn) := by
  have n7 := p.n7
  have h1 := d.rk
  have h2 := d.lc
  refine ⟨B, cs, rfl, by omega, by omega, fun r hr c hc => by rw [(hb r hr).1]; exact ((d.d.mc c).mp hc).1, ?_⟩
  refine f_herm (rows := B.map fun r => cs.map (at_ r)) (n := cs.length) (t := e) (sqm_map (f := vec) sq_vec (by rw [List.map_map]; rfl)) (by omega) (p.f4 _ (by omega)) (fun r hr => ?_) d.d.hI
  obtain ⟨v, hv, rfl⟩ := List.mem_map.mp hr
  refine ⟨by rw [List.length_map], fun j => ?_⟩
  rw [at_pj]
  unfold pj
  split
  · exact (hb v hv).2 _
  · simp
theorem f_coord {r c : Nat} {v : Vc} (hr : r ≤ 60) (hc : c < 60000000) (hv : Bd r (2 ^ c) v) : F_coordinates [matT (unitsL r), vec v] (vec v) := by
  have hl := hv.1
  have e0 : fstN (cow (unitsL r) v (unitsL r).length) = none := by
    rw [units_len]
    refine fst_none fun j => ?_
    rw [(cow_units hl r (Nat.le_refl r)).2]
    split
    · rfl
    · exact at_out (by omega)
  refine ⟨r, unitsL r, v, rfl, ⟨by omega, by rw [units_len]; omega, fun k hk => ⟨k, (rb_units r).fst hk, by rw [units_len] at hk; exact hk, ?_, ?_⟩⟩, fun k hk => ⟨?_, fun hk2 => ?_⟩, ?_⟩
  · rw [units_len] at hk; rw [tk_units hk, at_unit, if_pos ⟨hk, rfl⟩]; decide
  · rw [units_len] at hk; rw [tk_units hk]; exact unit_vn
  · rw [units_len] at hk
    obtain ⟨h1, h2⟩ := cow_units hl k hk
    refine Bd.vn (B := 2 ^ c) ⟨h1, fun j => ?_⟩ fun x hx => sm_pow hc hx
    rw [h2]
    split
    · simp
    · exact hv.2 j
  · rw [units_len] at hk2
    rw [cof_units hl hk2]
    exact sm_pow hc (hv.2 k)
  · unfold coD
    rw [e0]
    show _ = vec (coL (unitsL r) v)
    rw [coL_units hl]
theorem f_class (p : Par n ρ b e) (d : Du2 n ρ b e L B Ex St pvx cs inn pvi) : F_class_count [matT (unitsL cs.length), matT inn] (.int (prodD inn cs.length)) := by
  have n7 := p.n7
  have h1 := d.rk
  have h2 := d.lc
  have hl := d.d.lI
  have hc : bb n b < 60000000 := by obtain ⟨t, ht, _, ht2⟩ := p.t2; omega
  have co : ∀ r ∈ inn, F_coordinates [matT (unitsL cs.length), vec r] (vec r) := fun r hr => f_coord (by omega) hc (d.bI r hr)
  refine ⟨unitsL cs.length, inn, id, inn, rfl, by rw [units_len, hl], by omega, ⟨_, inn, fun _ => true, rfl, by omega, fun r hr => ⟨_, _, vec r, rfl, co r hr, rfl⟩, by simp⟩, co, ?_, fun k hk => ⟨?_, ?_⟩, by rw [hl]⟩
  · rw [units_len]
    exact f_herm (rows := inn) (n := cs.length) (t := bb n b) (sqm_map (f := vec) sq_vec rfl) (by omega) (p.f5 _ (by omega)) d.bI (rb_hb d.d.rI)
  · rw [d.d.rI.len k hk]; omega
  · have f2 := p.f2
    have q1 := prod_bd d.pI k (by omega)
    have q2 := d.pI k hk
    have m1 : k * (n * (b + 5)) ≤ n * (n * (b + 5)) := Nat.mul_le_mul_right _ (by omega)
    have m2 : n * (b + 5) ≤ n * (n * (b + 5)) := Nat.le_mul_of_pos_left _ (by omega)
    exact (sm_pow (s := n * (n * (b + 5))) (by omega) (Nat.le_trans q1 (pow_mono2 m1))).mul (sm_pow (s := n * (n * (b + 5))) (by omega) (Nat.le_trans q2 (pow_mono2 m2)))
theorem d_bd (d : Du2 n ρ b e L B Ex St pvx cs inn pvi) : (prodD inn cs.length).natAbs ≤ 2 ^ (n * (n * (b + 5))) := by
  have h1 := d.rk
  have h2 := d.lc
  have hl := d.d.lI
  have := prod_bd d.pI inn.length (Nat.le_refl _)
  rw [hl] at this
  exact Nat.le_trans this (pow_mono2 (Nat.mul_le_mul_right _ (by omega)))
/-- the rows of the dual over the free columns, step by step -/
theorem rs_chain (p : Par n ρ b e) (d : Du2 n ρ b e L B Ex St pvx cs inn pvi) : ∃ R : Nat → List Vc, R 0 = unitsL cs.length ∧ (∀ k, k < inn.length → F_restrict [matT (R k), vec (tk inn k), .int (prodD inn cs.length)] (matT (R (k + 1)))) ∧
    HB cs.length (Rs inn cs.length (prodD inn cs.length)) (R inn.length) ∧ ∀ r ∈ R inn.length, Bd cs.length (2 ^ wb n b) r := by
  have n7 := p.n7
  have h1 := d.rk
  have h2 := d.lc
  have hl := d.d.lI
  have D0 := d.d.D0
  have db := d_bd d
  generalize prodD inn cs.length = D at *
  obtain ⟨t, ht, hF, ht2⟩ := p.t1
  let S : Nat → Fv → Prop := fun k y => Zn cs.length y ∧ ∀ m, m < k → D ∣ val cs.length (tk inn m) y
  have smS : ∀ k, Sml cs.length (n * (n * (b + 5))) (S k) := fun k => by
    refine ⟨(unitsL cs.length).map (scaleL D), fun r hr => ?_, fun y hy => ⟨D, by omega, (lat_map (lin_scale D) (fun b _ j => at_scale j) _).mpr ⟨y, (units_lat y).mpr hy.1, fun _ => rfl⟩⟩⟩
    obtain ⟨u, hu, rfl⟩ := List.mem_map.mp hr
    have bu := units_bd u hu
    refine ⟨⟨by rw [scale_len]; exact bu.1, fun j => ?_⟩, zn_at (by rw [scale_len]; exact bu.1), fun m hm => ?_⟩
    · rw [at_scale, Int.natAbs_mul]
      have := Nat.mul_le_mul db (bu.2 j)
      rw [Nat.pow_zero, Nat.mul_one] at this
      exact this
    · rw [val_comm, val_pr]
      have : at_ (scaleL D u) = fun j => D * at_ u j := funext fun j => at_scale j
      rw [this, pr2_scale]
      exact Int.dvd_mul_right _ _
  have bdS : ∀ k X, HB cs.length (S k) X → ∀ r ∈ X, Bd cs.length (2 ^ wb n b) r := fun k X hX r hr => (hX.bd (by omega) (smS k) hr).mono (pow_mono2 (bb_mono (by have := hX.le; omega) (Nat.le_refl _)))
  obtain ⟨R, q0, q1, q2⟩ := chain_ex (N := inn.length) (s := wb n b) (F := bb n b) (μ := n * (n * (b + 5))) (t := t) (S := S) (B0 := unitsL cs.length) (f := fun k => tk inn k) (m := fun _ => D) (n := cs.length) (by omega)
    ((units_hb cs.length).cong fun u => ⟨fun h => ⟨h, fun m hm => absurd hm (Nat.not_lt_zero _)⟩, fun h => h.1⟩)
    (fun k hk u => ⟨fun h => ⟨⟨h.1, fun m hm => h.2 m (by omega)⟩, h.2 k (by omega)⟩, fun h => ⟨h.1.1, fun m hm => by
      by_cases z : m = k
      · rw [z]; exact h.2
      · exact h.1.2 m (by omega)⟩⟩)
    (fun k _ X hX => bdS k X hX) (fun k hk => d.bI _ (tk_mem hk)) (fun k _ => ⟨by omega, db⟩) (by
      have : (wb n b + bb n b + 7) * cs.length ≤ (wb n b + bb n b + 7) * n := Nat.mul_le_mul_left _ (by omega)
      omega) (hF _ (by omega)) ht2
  have hR := q1 inn.length (Nat.le_refl _)
  refine ⟨R, q0, fun k hk => f_rest (q2 k hk) (vn_of (by obtain ⟨t, ht, _, ht2⟩ := p.t2; omega) (d.bI _ (tk_mem hk))) (by omega) (by have := (q1 k (by omega)).le; omega), ?_, bdS _ _ hR⟩
  have e : S inn.length = Rs inn cs.length D := by show (fun y => _) = _; rw [hl]; rfl
  rw [← e]; exact hR
theorem f_clr (p : Par n ρ b e) (d : Du2 n ρ b e L B Ex St pvx cs inn pvi) {v : Vc} (hv : Bd n (2 ^ wb n b) v) (hz : ∀ i, i < Ex.length → at_ v (pvx i) = 0) : F_cleared_by [matT Ex, vec v] (.tuple [vec (scaleL (bpr Ex pvx Ex.length) v), .int (bpr Ex pvx Ex.length)]) := by
  have n7 := p.n7
  have h1 := d.rk
  have f2 := p.f2
  have he := annfit_e p.a2
  have cz := clr_zero d.d.rE hv.1 hz
  refine ⟨n, Ex, v, rfl, ⟨by omega, by omega, fun k hk => ⟨pvx k, d.d.rE.fst hk, d.d.rE.lt k hk, by have := d.d.rE.pos k hk; omega, vn_of he (d.bE _ (tk_mem hk))⟩⟩, fun k hk => ?_, by rw [cz _ (Nat.le_refl _)]⟩
  rw [cz k hk]
  have b1 := bpr_bd (pvx := pvx) d.bE k hk
  have m1 : k * kbk n ρ e ≤ n * kbk n ρ e := Nat.mul_le_mul_right _ (by omega)
  have b2 := Nat.le_trans b1 (pow_mono2 m1)
  refine ⟨Bd.vn (B := 2 ^ (wb n b + n * kbk n ρ e)) ⟨by show (scaleL _ v).length = n; rw [scale_len]; exact hv.1, fun j => ?_⟩ fun x hx => sm_pow (by omega) hx, sm_pow (by omega) b2⟩
  show (at_ (scaleL _ v) j).natAbs ≤ _
  rw [at_scale, Int.natAbs_mul, Nat.add_comm, Nat.pow_add]
  exact Nat.mul_le_mul b2 (hv.2 j)
/-- the dual that is returned -/
structure DualR (n ρ b e : Nat) (L : Fv → Prop) (B Ex St : List Vc) (pvx : Nat → Nat) (cs : List Nat) (inn : List Vc) (pvi : Nat → Nat) (sc : Int) (rows : List Vc) : Prop where
  d : Du2 n ρ b e L B Ex St pvx cs inn pvi
  s0 : 0 < sc
  it : Itg n Ex pvx L sc
  hR : HB n (Dl n Ex pvx L sc) rows
  sb : sc.natAbs ≤ 2 ^ (n * (n * (b + 5)))
  bR : ∀ r ∈ rows, Bd n (2 ^ wb n b) r
  g1 : gcdL (sc :: rows.flatten) = 1
theorem wide_bd (d : Du2 n ρ b e L B Ex St pvx cs inn pvi) {c : Nat} {r : Vc} (h : Bd cs.length (2 ^ c) r) : Bd n (2 ^ c) (wideL n cs r) ∧ ∀ i, i < Ex.length → at_ (wideL n cs r) (pvx i) = 0 := by
  have hc : ∀ a ∈ cs, a < n := fun a ha => ((d.d.mc a).mp ha).1
  refine ⟨⟨by unfold wideL; rw [List.length_map, List.length_range], fun j => ?_⟩, fun i hi => by rw [at_wide hc]; exact d.d.wd_piv _ i hi⟩
  rw [at_wide hc]
  unfold wd
  split
  · exact h.2 _
  · simp
theorem f_dual_from (p : Par n ρ b e) (hn : 1 ≤ n) (d : Du2 n ρ b e L B Ex St pvx cs inn pvi) {Rr : List Vc} (hR : HB cs.length (Rs inn cs.length (prodD inn cs.length)) Rr) (bR : ∀ r ∈ Rr, Bd cs.length (2 ^ wb n b) r) :
    ∃ sc rows, DualR n ρ b e L B Ex St pvx cs inn pvi sc rows ∧ F_dual_from [matT Ex, .int (prodD inn cs.length), .list (Rr.map fun r => vec (wideL n cs r)), .int (n : Int)] (dualD Ex sc rows) := by
  have n7 := p.n7
  have h1 := d.rk
  have h2 := d.lc
  have f2 := p.f2
  have D0 := d.d.D0
  have db := d_bd d
  have itD := d.d.itg
  have wl := d.d.dl_wide hR
  generalize prodD inn cs.length = D at *
  have b0 := bpr_pos d.d.rE Ex.length (Nat.le_refl _)
  have bb0 := bpr_bd (pvx := pvx) d.bE Ex.length (Nat.le_refl _)
  have m1 : Ex.length * kbk n ρ e ≤ n * kbk n ρ e := Nat.mul_le_mul_right _ (by omega)
  have bb1 := Nat.le_trans bb0 (pow_mono2 m1)
  have cl : ∀ v, Bd n (2 ^ wb n b) v → (∀ i, i < Ex.length → at_ v (pvx i) = 0) → F_cleared_by [matT Ex, vec v] (.tuple [vec (scaleL (bpr Ex pvx Ex.length) v), .int (bpr Ex pvx Ex.length)]) := fun v hv hz => f_clr p d hv hz
  generalize bpr Ex pvx Ex.length = bo at *
  have wbd : ∀ r ∈ Rr.map (wideL n cs), Bd n (2 ^ wb n b) r ∧ ∀ i, i < Ex.length → at_ r (pvx i) = 0 := fun r hr => by
    obtain ⟨y, hy, rfl⟩ := List.mem_map.mp hr
    exact wide_bd d (bR y hy)
  -- the rows times bo
  have rowsb : ∀ r ∈ (Rr.map (wideL n cs)).map (scaleL bo), Bd n (2 ^ (wb n b + n * kbk n ρ e)) r := fun r hr => by
    obtain ⟨y, hy, rfl⟩ := List.mem_map.mp hr
    refine ⟨by rw [scale_len]; exact (wbd y hy).1.1, fun j => ?_⟩
    rw [at_scale, Int.natAbs_mul, Nat.add_comm, Nat.pow_add]
    exact Nat.mul_le_mul bb1 ((wbd y hy).1.2 j)
  obtain ⟨Bs, hBs⟩ := HB.of_rows n7 p.f1 rowsb
  have dlB : HB n (Dl n Ex pvx L (D * bo)) Bs := hBs.cong fun u => by
    rw [lat_map (lin_scale bo) (fun b _ j => at_scale j), Dl.scale D0 b0 itD]
    exact ⟨fun ⟨v, hv, e⟩ => ⟨v, (wl v).mp hv, e⟩, fun ⟨v, hv, e⟩ => ⟨v, (wl v).mpr hv, e⟩⟩
  have itB : Itg n Ex pvx L (D * bo) := Itg.scale b0 D0 itD
  have G0 : 0 < D * bo := Int.mul_pos D0 b0
  obtain ⟨n1, n2, n3⟩ := norm_dl G0 itB dlB
  -- the scale is at most D
  obtain ⟨W, hW⟩ := HB.of_rows n7 (p.f1.mono (show wb n b ≤ wb n b + n * kbk n ρ e by omega)) (fun r hr => (wbd r hr).1)
  have dlW : HB n (Dl n Ex pvx L D) W := hW.cong wl
  have un := (norm_uniq G0 D0 itB itD dlB dlW).1
  have scb : ((D * bo).fdiv (gcdL ((D * bo) :: Bs.flatten))).natAbs ≤ 2 ^ (n * (n * (b + 5))) := by
    rw [un]; exact Nat.le_trans (natAbs_fdiv_le _ _) db
  have rowsB : ∀ r ∈ Bs, Bd n (2 ^ bb n (wb n b + n * kbk n ρ e)) r := fun r hr => (hBs.bd (by omega) ⟨_, fun r hr => ⟨rowsb r hr, .of ⟨r, hr, rfl⟩⟩, (com_refl _).lat⟩ hr).mono (pow_mono2 (bb_mono hBs.le (Nat.le_refl _)))
  have fl : Bs.flatten.length ≤ 1000 := by
    have : ∀ X : List Vc, (∀ r ∈ X, r.length ≤ 7) → X.flatten.length ≤ 7 * X.length := fun X => by
      induction X with
      | nil => intro _; simp
      | cons x X ih =>
        intro h
        have := ih fun r hr => h r (by simp [hr])
        have := h x (by simp)
        rw [List.flatten_cons, List.length_append, List.length_cons]; omega
    have := this Bs fun r hr => by rw [(rowsB r hr).1]; exact n7
    have := hBs.le
    omega
  have gb : (D * bo).natAbs ≤ 2 ^ (bb n (wb n b + n * kbk n ρ e) + wb n b + n * kbk n ρ e + n * (n * (b + 5))) := by
    rw [Int.natAbs_mul]
    refine Nat.le_trans (Nat.mul_le_mul db bb1) ?_
    rw [← Nat.pow_add]
    exact pow_mono2 (by omega)
  have gr : GRun (D * bo :: Bs.flatten) 0 (gcdL (D * bo :: Bs.flatten)) := grun_ex (k := bb n (wb n b + n * kbk n ρ e) + wb n b + n * kbk n ρ e + n * (n * (b + 5))) (by omega) _ 0 (Int.le_refl 0) (by simp) fun x hx => by
    rcases List.mem_cons.mp hx with rfl | hx
    · exact gb
    · obtain ⟨r, hr, hxr⟩ := List.mem_flatten.mp hx
      obtain ⟨j, hj, rfl⟩ := List.getElem_of_mem hxr
      have : at_ r j = r[j] := by have := at_get hj; rw [List.getElem?_eq_getElem hj] at this; exact (Option.some.inj this).symm
      rw [← this]
      exact Nat.le_trans ((rowsB r hr).2 j) (pow_mono2 (by omega))
  have gne : gcdL (D * bo :: Bs.flatten) ≠ 0 := fun z => by
    have := gcdL_zero.mp z (D * bo) (by simp)
    omega
  refine ⟨_, _, ⟨d, n1, n2, n3, scb, fun r hr => (n3.bd (by omega) (dl_sml d.d (by omega) scb) hr).mono (pow_mono2 (bb_mono n3.le (Nat.le_refl _))), norm_gcd G0⟩, ?_⟩
  have sz : F_cleared_by [matT Ex, vec (List.replicate n 0)] (.tuple [vec (scaleL bo (List.replicate n 0)), .int bo]) := cl _ ⟨List.length_replicate, fun j => by
    have : at_ (List.replicate n (0 : Int)) j = 0 := by
      unfold at_
      rw [List.getD_eq_getElem?_getD, List.getElem?_replicate]
      split <;> rfl
    rw [this]; simp⟩ fun i hi => by
      unfold at_
      rw [List.getD_eq_getElem?_getD, List.getElem?_replicate]
      split <;> rfl
  refine ⟨matT Ex, _, matT Ex, _, D, bo, gcdL (D * bo :: Bs.flatten), Rr.map (wideL n cs), Ex, Bs, n, scaleL bo, fun _ => bo, rfl, hn, by omega, by rw [List.map_map]; rfl, ?_, f_herm (m := (n : Int)) (sqm_T Ex) n7 p.f3 d.bE (d.d.hE.cong fun u => ((d.d.hE.lat u).symm)), f_sat p d, sz, fun r hr => cl r (wbd r hr).1 (wbd r hr).2, ?_, ?_, ⟨_, _, _, rfl, rfl, gr, rfl⟩, gne, by have := hBs.le; omega, fun r hr => by rw [(rowsB r hr).1]; omega, by omega, rfl⟩
  · rw [List.length_map]; have := hR.le; omega
  · exact f_herm (rows := (Rr.map (wideL n cs)).map (scaleL bo)) (sqm_map (f := vec) sq_vec (by rw [List.map_map, List.map_map, List.map_map]; rfl)) n7 p.f1 rowsb hBs
  · exact (sm_pow (s := n * (n * (b + 5))) (by omega) db).mul (sm_pow (s := n * kbk n ρ e) (by omega) bb1)
end
end K87

namespace K87
open PySem PySem.Spec PyProof.Rows L2 DL
open PySem.Builtin.Int (intBits)
section
variable {n ρ b e : Nat} {L : Fv → Prop} {B Ex St inn : List Vc} {pvx pvi : Nat → Nat} {cs : List Nat}
theorem f_dual_of (p : Par n ρ b e) (hn : 1 ≤ n) (hb : ∀ r ∈ B, Bd n (2 ^ e) r) (d : Du2 n ρ b e L B Ex St pvx cs inn pvi) :
    ∃ sc rows, DualR n ρ b e L B Ex St pvx cs inn pvi sc rows ∧ F_dual_of [matT B, .int (n : Int)] (dualD Ex sc rows) := by
  have n7 := p.n7
  have h1 := d.rk
  have h2 := d.lc
  obtain ⟨pv, hr⟩ := d.d.hB.rb
  have fa := f_ann hr hb p.a1 d.er d.d.hE
  have el : Ex.length ≤ 1000 := by omega
  have er : ∀ r ∈ Ex, r.length ≤ 1000 := fun r hr => by rw [d.d.hE.len hr]; omega
  have fp : Ex.map fstN = (psL Ex pvx).map some := fst_ps d.d.rE
  have ec := d.ecs
  by_cases z : cs = []
  · -- the lattice of the zero vector
    have cl : cs.length = 0 := by rw [z]; rfl
    have exl : Ex.length = n := by omega
    have z0 : ∀ y, Dl n Ex pvx L 1 y ↔ ∀ j, y j = 0 := fun y => by
      constructor
      · intro h j
        by_cases hj : j < n
        · exact d.d.out h.2.1 hj (by rw [z]; simp)
        · exact h.1 j (by omega)
      · intro h
        exact ⟨fun j _ => h j, fun i _ => h _, fun u _ => Int.one_dvd _⟩
    have hE : HB n (Dl n Ex pvx L 1) [] := by
      have r0 : RB n [] (fun _ => 0) := ⟨fun k hk => absurd hk (Nat.not_lt_zero _), fun k hk => absurd hk (Nat.not_lt_zero _), fun i j _ hj => absurd hj (Nat.not_lt_zero _), fun k j hk => absurd hk (Nat.not_lt_zero _), fun k hk => absurd hk (Nat.not_lt_zero _), fun i k _ hk => absurd hk (Nat.not_lt_zero _)⟩
      refine (rb_hb r0).cong fun u => ?_
      rw [z0]
      constructor
      · intro h
        induction h with
        | zero => exact fun _ => rfl
        | add k _ hg _ => obtain ⟨r, hr, _⟩ := hg; simp at hr
      · intro h
        exact Lat.zero.eq fun j => (h j).symm
    refine ⟨1, [], ⟨d, by decide, fun t ht y hy => ⟨fun _ => 0, (z0 _).mpr fun _ => rfl, fun j => ?_⟩, hE, by
      show (1 : Int).natAbs ≤ _
      exact one_pow2 _, fun r hr => by simp at hr, by decide⟩, B, Ex, n, psL Ex pvx, rfl, by omega, fa, el, er, fp, fun _ => rfl, fun q => absurd (by rw [← ec]; exact z) q⟩
    have : y j = 0 := by
      by_cases hj : j < n
      · exact d.d.out hy.2.1 hj (by rw [z]; simp)
      · exact hy.1 j (by omega)
    show t * (0 : Int) = 1 * y j
    rw [this]; omega
  · obtain ⟨R, q0, q1, q2, q3⟩ := rs_chain p d
    obtain ⟨sc, rows, dr, fd⟩ := f_dual_from p hn d q2 q3
    refine ⟨sc, rows, dr, B, Ex, n, psL Ex pvx, rfl, by omega, fa, el, er, fp, fun q => absurd (by rw [ec]; exact q) z, fun _ => ?_⟩
    rw [← ec]
    exact ⟨inn, _, R, f_proj p d hb, f_class p d, q0, q1, by have := q2.le; omega, fun r hr => (q3 r hr).1, fd⟩
theorem f_back (p : Par n ρ b e) (hs : Sml n b L) {sc : Int} {rows : List Vc} (rr : DualR n ρ b e L B Ex St pvx cs inn pvi sc rows) : F_basis_of_dual [matT Ex, .int sc, matT rows, .int (n : Int)] (matT B) := by
  have n7 := p.n7
  have d := rr.d
  have h1 := d.rk
  have eq : n - ρ = Ex.length := by have := d.er; omega
  have pa2 := p.a2
  rw [eq] at pa2
  obtain ⟨R, q0, q1, q2⟩ := ann_ex d.d.rE d.bE pa2
  have hRe := (q1 Ex.length (Nat.le_refl _)).1
  rw [List.take_length] at hRe
  have eS : R Ex.length = St := hRe.uniq d.hS
  obtain ⟨t, ht, hF, ht2⟩ := p.t2
  let S : Nat → Fv → Prop := fun k v => ker n Ex v ∧ ∀ m, m < k → sc ∣ val n (tk rows m) v
  have LS : ∀ k u, k ≤ rows.length → L u → S k u := fun k u hk hu => ⟨in_kerker d.d.hB d.d.hE hu, fun m hm => (rr.hR.mem (tk_mem (show m < rows.length by omega))).2.2 u hu⟩
  have smS : ∀ k, k ≤ rows.length → Sml n b (S k) := fun k hk => by
    obtain ⟨rs, h1, h2⟩ := hs
    exact ⟨rs, fun x hx => ⟨(h1 x hx).1, LS k _ hk (h1 x hx).2⟩, Com.trans (h2.mono fun u ⟨x, hx, e⟩ => by rw [e]; exact d.d.hB.mem hx) (d.hC.mono fun u hu => hu.1)⟩
  obtain ⟨R', q0', q1', q2'⟩ := chain_ex (N := rows.length) (s := bb n b) (F := wb n b) (μ := n * (n * (b + 5))) (t := t) (S := S) (B0 := St) (f := fun k => tk rows k) (m := fun _ => sc) n7
    (d.hS.cong fun u => ⟨fun h => ⟨h, fun m hm => absurd hm (Nat.not_lt_zero _)⟩, fun h => h.1⟩)
    (fun k hk u => ⟨fun h => ⟨⟨h.1, fun m hm => h.2 m (by omega)⟩, h.2 k (by omega)⟩, fun h => ⟨h.1.1, fun m hm => by
      by_cases z : m = k
      · rw [z]; exact h.2
      · exact h.1.2 m (by omega)⟩⟩)
    (fun k hk X hX x hx => (hX.bd (by omega) (smS k (by omega)) hx).mono (pow_mono2 (bb_mono hX.le (Nat.le_refl _)))) (fun k hk => rr.bR _ (tk_mem hk)) (fun k _ => ⟨by have := rr.s0; omega, rr.sb⟩) (by omega) hF ht2
  have hfin := q1' rows.length (Nat.le_refl _)
  have eB : R' rows.length = B := (hfin.cong fun u => by
    rw [← d.d.back rr.s0 rr.it rr.hR u]
    constructor
    · rintro ⟨a, c⟩
      refine ⟨a, fun y hy => ?_⟩
      obtain ⟨m, hm, rfl⟩ := tk_ex hy
      exact c m hm
    · rintro ⟨a, c⟩
      exact ⟨a, fun m hm => c _ (tk_mem hm)⟩).uniq d.d.hB
  have wbl : wb n b < 60000000 := by have := p.f2; omega
  refine ⟨Ex, rows, sc, n, R, R', rfl, by omega, q0, fun k hk => f_rest (q2 k hk) (vn_of (annfit_e p.a2) (d.bE _ (tk_mem hk))) (by omega) (by have := (q1 k (by omega)).2.1; omega), by rw [eS]; exact q0', fun k hk => f_rest (q2' k hk) (vn_of wbl (rr.bR _ (tk_mem hk))) (by omega) (by have := (q1' k (by omega)).le; omega), by rw [eB]⟩
theorem f_basis {S : Fv → Prop} {X : List Vc} (hn : n ≤ 60) (h : HB n S X) : F_is_basis [matT X, .int (n : Int)] (.bool true) := by
  obtain ⟨pv, hr⟩ := h.rb
  exact ⟨X, n, pv, rfl, hr, hn, h.le, rfl⟩
theorem frzOk_hb {S : Fv → Prop} {X : List Vc} (hn : n ≤ 60) (h : HB n S X) (k : Nat) : FrzOk (k + 3) (matT X) := frz_matOk k (by have := h.le; omega) fun r hr => by rw [h.len hr]; omega
theorem f_repr (p : Par n ρ b e) (hn : 1 ≤ n) (hb : ∀ r ∈ B, Bd n (2 ^ e) r) (d : Du2 n ρ b e L B Ex St pvx cs inn pvi) :
    ∃ sc rows, DualR n ρ b e L B Ex St pvx cs inn pvi sc rows ∧ ∀ bd, FrzOk 8 bd → frz bd = matT B → F_represented [bd, .str "dual", .int (n : Int)] (dualD Ex sc rows) := by
  obtain ⟨sc, rows, rr, f⟩ := f_dual_of p hn hb d
  exact ⟨sc, rows, rr, fun bd h1 h2 => ⟨bd, B, n, rfl, h1, h2, f⟩⟩
theorem frz_dualR (p : Par n ρ b e) {sc : Int} {rows : List Vc} (rr : DualR n ρ b e L B Ex St pvx cs inn pvi sc rows) : FrzOk 8 (dualD Ex sc rows) := by
  have n7 := p.n7
  show 4 ≤ 1000000 ∧ ∀ x ∈ [PyData.str "dual", matT Ex, .int sc, matT rows], FrzOk 7 x
  refine ⟨by decide, fun x hx => ?_⟩
  simp only [List.mem_cons, List.not_mem_nil, or_false] at hx
  rcases hx with rfl | rfl | rfl | rfl
  · exact True.intro
  · exact frzOk_hb (by omega) rr.d.d.hE 4
  · exact True.intro
  · exact frzOk_hb (by omega) rr.hR 4
theorem f_basis_of (p : Par n ρ b e) (hs : Sml n b L) {sc : Int} {rows : List Vc} (rr : DualR n ρ b e L B Ex St pvx cs inn pvi sc rows) {rd : PyData} (h1 : FrzOk 8 rd) (h2 : frz rd = dualD Ex sc rows) : F_basis_of [rd, .int (n : Int)] (matT B) :=
  ⟨rd, Ex, rows, sc, n, rfl, h1, h2, f_back p hs rr⟩
end
end K87

namespace K87
open PySem PySem.Spec PyProof.Rows L2 DL
open PySem.Builtin.Int (intBits)
variable {P : Program} {w : World} {K : PySem.W.Frag} {mg : Str → Option Value} {base : Heap}
abbrev s_law_common : Stmt := topS 51
abbrev nm_law_common : List Str := ["one", "other"]
theorem sc_law_common : FnScope nm_law_common ["one", "other"] (defScope s_law_common) := ⟨rfl, rfl, rfl, by decide +kernel, rfl, by decide +kernel, by decide +kernel⟩
def F_law_common (ds : List PyData) (d : PyData) : Prop := ∃ a b : Int, ds = [.int a, .int b] ∧ d = .int (Int.gcd a b : Int)
abbrev T_law_common (P : Program) (w : World) (K : PySem.W.Frag) (mg : Str → Option Value) (base : Heap) : Prop := Cal P w K mg base "_law_common" 41 ["one", "other"] (PR K F_law_common)
theorem ok_law_common (S : Sur P mg base) (A : FunAt K mg "_law_common" s_law_common) : T_law_common P w K mg base := by
  refine cal_pure A sc_law_common (fun _ _ _ _ _ _ us hl => match us, hl with | [_, _], _ => rfl) ?_ (fun f cdv A outer s H E hr => ⟨_, (pss_cons (ps_par (i := 0) (j := 1) rfl sc_law_common.nd rfl rfl (by decide) rfl rfl (pa_cons (pe_callB call_abs (by rfl) (S.no "abs" (by decide)) boot_abs (pa_cons (pv 0) pa_nil)) (pa_cons (pe_callB call_abs (by rfl) (S.no "abs" (by decide)) boot_abs (pa_cons (pv 1) pa_nil)) pa_nil)) rfl) (pss_cons (ps_while PassesOwn.never (pt_cmpR op_gt (pv 1) pe_int (nomark _)) (pss_one (ps_par (i := 0) (j := 1) rfl sc_law_common.nd rfl rfl (by decide) rfl rfl (pa_cons (pv 1) (pa_cons (pe_op op_modN (pv 0) (pv 1)) pa_nil)) rfl))) (pss_one (ps_ret (pv 0))))), ?_⟩)
  · rintro _ _ ⟨_, _, rfl, _⟩; rfl
  · rintro _ _ ⟨a, b, rfl, rfl⟩
    show RS K false _ [.dat (.int a), .dat (.int b)] _
    refine rs_seq (rs_par (ra_cons (re_cb (ra_cons (re_var rfl) ra_nil) cd_abs) (ra_cons (re_cb (ra_cons (re_var rfl) ra_nil) cd_abs) ra_nil)) ?_)
    have ab : ∀ x : Int, (if x < 0 then -x else x) = (x.natAbs : Int) := fun x => by split <;> omega
    rw [ab, ab]
    show RS K false _ [.dat (.int (a.natAbs : Int)), .dat (.int (b.natAbs : Int))] _
    have eg : (Int.gcd a b : Int) = (Nat.gcd a.natAbs b.natAbs : Nat) := rfl
    rw [eg]
    generalize a.natAbs = p
    generalize b.natAbs = q
    refine rs_seq (rs_while (fun m Γ => ∃ x y : Nat, m = y ∧ Γ = [.dat (.int (x : Int)), .dat (.int (y : Int))] ∧ Nat.gcd x y = Nat.gcd p q) q ⟨p, q, rfl, rfl, rfl⟩ fun m Γ hW => ?_)
    obtain ⟨x, y, rfl, rfl, hg⟩ := hW
    refine ⟨_, _, rt_test (re_op (re_var rfl) re_int od_gt), fun hb => ?_, fun hb => ?_⟩
    · have hy : (0 : Int) < m := of_decide_eq_true hb
      refine rs_par (ra_cons (re_var rfl) (ra_cons (re_modI (re_var rfl) (re_var rfl) (by omega)) ra_nil)) ?_
      refine ⟨x % m, Nat.mod_lt _ (by omega), m, x % m, rfl, ?_, ?_⟩
      · have : (x : Int).fmod (m : Int) = ((x % m : Nat) : Int) := by rw [Int.fmod_eq_emod_of_nonneg _ (by omega)]; rfl
        rw [this]; rfl
      · rw [Nat.gcd_comm m, ← Nat.gcd_rec, Nat.gcd_comm]; exact hg
    · have hy : ¬ (0 : Int) < m := of_decide_eq_false hb
      have : m = 0 := by omega
      subst this
      rw [Nat.gcd_zero_right] at hg
      rw [← hg]
      exact rs_ret (re_var rfl) rfl
abbrev s_law_plus : Stmt := topS 52
abbrev nm_law_plus : List Str := ["factor", "one", "other", "a", "b"]
theorem sc_law_plus : FnScope nm_law_plus ["factor", "one", "other"] (defScope s_law_plus) := ⟨rfl, rfl, rfl, by decide +kernel, rfl, by decide +kernel, by decide +kernel⟩
def F_law_plus (ds : List PyData) (d : PyData) : Prop := ∃ (k : Int) (a b : PyData) (f g : Vc), ds = [.int k, a, b] ∧ Sq a f ∧ Sq b g ∧ f.length ≤ 1000 ∧ (∀ x ∈ f, IntMulOk k x) ∧ d = vec (plusL k f g)
abbrev T_law_plus (P : Program) (w : World) (K : PySem.W.Frag) (mg : Str → Option Value) (base : Heap) : Prop := Cal P w K mg base "_law_plus" 41 ["factor", "one", "other"] (PR K F_law_plus)
theorem ok_law_plus (S : Sur P mg base) (A : FunAt K mg "_law_plus" s_law_plus) : T_law_plus P w K mg base := by
  refine cal_pure A sc_law_plus (fun _ _ _ _ _ _ us hl => match us, hl with | [_, _, _], _ => rfl) ?_ (fun f cdv A outer s H E hr => ⟨_, (pss_one (ps_ret (kTuple K (by rfl) (S.no "tuple" (by decide)) (pe_lc (own := [("a", 3), ("b", 4)]) rfl sc_law_plus.nd (kZip K (by rfl) (S.no "zip" (by decide)) (pa_cons (pv 1) (pa_cons (pv 2) pa_nil))) (blkOk_by (N := nm_law_plus) (sc := defScope s_law_plus) (by decide +kernel)) (fun _ _ _ _ _ => (kAny K (n := 2) rfl (pgs_cons (pg_name (i := 3) sc_law_plus.nd rfl (by first | exact .inl rfl | exact .inr rfl)) (pgs_cons (pg_name (i := 4) sc_law_plus.nd rfl (by first | exact .inl rfl | exact .inr rfl)) pgs_nil)))) (fun _ _ _ _ _ => pts_nil) (fun _ _ _ _ _ => (pe_op (kAdd K) (pe_op (kMul K) (pv 0) (pv 3)) (pv 4))))))), ?_⟩)
  · rintro _ _ ⟨_, _, _, _, _, rfl, _⟩; rfl
  · rintro _ _ ⟨k, a, b, f, g, rfl, ha, hb, hl, hm, rfl⟩
    show RS K false _ [.dat (.int k), .dat a, .dat b, .un, .un] _
    exact rs_ret (re_tupleL (RL.re (rl_mapP (List.zip f g) (fun p => .int p.1) (fun p => .int p.2) (fun p => .int (k * p.1 + p.2)) (ri_zip2 (ra_cons (re_var rfl) (ra_cons (re_var rfl) ra_nil)) ha hb)
      (by rw [List.length_zip]; omega) (fun p hp => re_addI (re_mulI (re_var rfl) (re_var rfl) (hm _ (List.of_mem_zip hp).1)) (re_var rfl))))) (by simp [vec, plusL])
abbrev s_law_cleared : Stmt := topS 55
abbrev nm_law_cleared : List Str := ["exact", "vector", "factor", "row", "column", "entry", "a", "b"]
theorem sc_law_cleared : FnScope nm_law_cleared ["exact", "vector"] (defScope s_law_cleared) := ⟨rfl, rfl, rfl, by decide +kernel, rfl, by decide +kernel, by decide +kernel⟩
def F_law_cleared (ds : List PyData) (d : PyData) : Prop := ∃ (n : Nat) (B : List Vc) (v : Vc), ds = [matT B, vec v] ∧ RowsOk n B ∧ (∀ k, k ≤ B.length → Vn n (clr B v k).1 ∧ Sm (clr B v k).2) ∧ d = .tuple [vec (clr B v B.length).1, .int (clr B v B.length).2]
abbrev T_law_cleared (P : Program) (w : World) (K : PySem.W.Frag) (mg : Str → Option Value) (base : Heap) : Prop := Cal P w K mg base "_law_cleared" 43 ["exact", "vector"] (PR K F_law_cleared)
theorem ok_law_cleared (S : Sur P mg base) (A : FunAt K mg "_law_cleared" s_law_cleared) : T_law_cleared P w K mg base := by
  refine cal_pure A sc_law_cleared (fun _ _ _ _ _ _ us hl => match us, hl with | [_, _], _ => rfl) ?_ (fun f cdv A outer s H E hr => ⟨_, (pss_cons (ps_set (i := 2) sc_law_cleared.nd rfl (by first | exact .inl rfl | exact .inr rfl) pe_int) (pss_cons (ps_for PassesOwn.never rfl (kSeq K (pv 0)) (pg_name (i := 3) sc_law_cleared.nd rfl (by first | exact .inl rfl | exact .inr rfl)) (pss_cons (ps_set (i := 4) sc_law_cleared.nd rfl (by first | exact .inl rfl | exact .inr rfl) (kMeth K PySem.F.plainAttrs_list PySem.F.slot_list_index PySem.F.type_list_index (kIndex K) (pe_lc (own := [("entry", 5)]) rfl sc_law_cleared.nd (kSeq K (pv 3)) (blkOk_by (N := nm_law_cleared) (sc := defScope s_law_cleared) (by decide +kernel)) (fun _ _ _ _ _ => (pg_name (i := 5) sc_law_cleared.nd rfl (by first | exact .inl rfl | exact .inr rfl))) (fun _ _ _ _ _ => pts_nil) (fun _ _ _ _ _ => (pe_cmpR (kNe K hr.units) (pv 5) pe_int (nomark _)))) (pa_cons pe_bl pa_nil))) (pss_cons (ps_set (i := 1) sc_law_cleared.nd rfl (by first | exact .inl rfl | exact .inr rfl) (kTuple K (by rfl) (S.no "tuple" (by decide)) (pe_lc (own := [("a", 6), ("b", 7)]) rfl sc_law_cleared.nd (kZip K (by rfl) (S.no "zip" (by decide)) (pa_cons (pv 1) (pa_cons (pv 3) pa_nil))) (blkOk_by (N := nm_law_cleared) (sc := defScope s_law_cleared) (by decide +kernel)) (fun _ _ _ _ _ => (kAny K (n := 2) rfl (pgs_cons (pg_name (i := 6) sc_law_cleared.nd rfl (by first | exact .inl rfl | exact .inr rfl)) (pgs_cons (pg_name (i := 7) sc_law_cleared.nd rfl (by first | exact .inl rfl | exact .inr rfl)) pgs_nil)))) (fun _ _ _ _ _ => pts_nil) (fun _ _ _ _ _ => (pe_op op_sub (pe_op (kMul K) (pe_ix (kIx K) (pv 3) (pv 4) (fun _ _ => rfl)) (pv 6)) (pe_op (kMul K) (pe_ix (kIx K) (pv 1) (pv 4) (fun _ _ => rfl)) (pv 7))))))) (pss_one (ps_set (i := 2) sc_law_cleared.nd rfl (by first | exact .inl rfl | exact .inr rfl) (pe_op (kMul K) (pv 2) (pe_ix (kIx K) (pv 3) (pv 4) (fun _ _ => rfl)))))))) (pss_one (ps_ret (pe_tup (pa_cons (pv 1) (pa_cons (pv 2) pa_nil))))))), ?_⟩)
  · rintro _ _ ⟨_, _, _, rfl, _⟩; rfl
  · rintro _ _ ⟨n, B, v, rfl, ⟨hn, hl, hB⟩, hw, rfl⟩
    show RS K false _ [.dat (matT B), .dat (vec v), .un, .un, .un, .un, .un, .un] _
    refine rs_seq (rs_set re_int ?_)
    refine rs_seq (rs_for (ds := B.map vec) (ri_seq (re_var rfl) rfl) (fun i Γ => ∃ s3 s4, Γ = [.dat (matT B), .dat (vec (clr B v i).1), .dat (.int (clr B v i).2), s3, s4, .un, .un, .un]) ⟨_, _, rfl⟩ (fun i d Γ hd hW => ?_) (fun Γ hW => ?_))
    · obtain ⟨s3, s4, rfl⟩ := hW
      obtain ⟨hi, rfl⟩ := tk_getD hd
      obtain ⟨p, h1, h2, h3, h4⟩ := hB i hi
      obtain ⟨q1, q2, q3⟩ := fst_spec h1
      have w0 := hw i (by omega)
      refine ⟨_, _, rg_name, by decide, ?_⟩
      show RS K false _ [.dat (matT B), .dat (vec (clr B v i).1), .dat (.int (clr B v i).2), .dat (vec (tk B i)), s4, .un, .un, .un] _
      refine rs_seq (rs_set (d := .int (p : Int)) (re_indexB (bs := (tk B i).map fun x => !decide (x = 0)) (j := p) ((RL.re (rl_map (tk B i) .int (fun x => .bool (!decide (x = 0))) (ri_seq (re_var rfl) (sq_vec _)) (by rw [h4.1]; omega) (fun x hx => re_neI (re_var rfl) re_int))).is (by rw [List.map_map]; rfl)) re_bl (by rw [List.getElem?_map, at_get q1]; show some (!decide (at_ (tk B i) p = 0)) = _; rw [decide_eq_false q2]; rfl) (fun m hm e => by
        rw [List.getElem?_map, at_get (by omega)] at e
        have e2 : (!decide (at_ (tk B i) m = 0)) = true := Option.some.inj e
        rw [decide_eq_true (q3 m hm)] at e2; cases e2)) ?_)
      show RS K false _ [.dat (matT B), .dat (vec (clr B v i).1), .dat (.int (clr B v i).2), .dat (vec (tk B i)), .dat (.int (p : Int)), .un, .un, .un] _
      have a1 := at_sm h4 h2
      have a2 := at_sm w0.1 h2
      have e1 : clr B v (i + 1) = (combL (at_ (tk B i) p) (clr B v i).1 (-(at_ (clr B v i).1 p)) (tk B i), (clr B v i).2 * at_ (tk B i) p) := by
        show (combL _ _ _ _, _) = _
        rw [h1]; rfl
      refine rs_seq (rs_set (d := vec (clr B v (i + 1)).1) ((re_tupleL (RL.re (rl_mapP (List.zip (clr B v i).1 (tk B i)) (fun p => .int p.1) (fun p => .int p.2) (fun q => .int (at_ (tk B i) p * q.1 - at_ (clr B v i).1 p * q.2)) (ri_zip2 (ra_cons (re_var (d := vec (clr B v i).1) rfl) (ra_cons (re_var (d := vec (tk B i)) rfl) ra_nil)) rfl rfl) (by rw [List.length_zip, w0.1.1]; omega) (fun q hq => re_subI (re_mulI (re_at (re_var (d := vec (tk B i)) rfl) (sq_vec _) (re_var rfl) (by rw [h4.1]; exact h2)) (re_var rfl) (a1.mul (w0.1.2 _ (List.of_mem_zip hq).1))) (re_mulI (re_at (re_var (d := vec (clr B v i).1) rfl) (sq_vec _) (re_var rfl) (by rw [w0.1.1]; exact h2)) (re_var rfl) (a2.mul (h4.2 _ (List.of_mem_zip hq).2))))))).is (by
          rw [e1]
          show _ = vec (combL (at_ (tk B i) p) (clr B v i).1 (-(at_ (clr B v i).1 p)) (tk B i))
          rw [← comb_sub]
          unfold vec
          rw [List.map_map]; rfl)) ?_)
      refine rs_set (d := .int (clr B v (i + 1)).2) ((re_mulI (re_var rfl) (re_at (re_var (d := vec (tk B i)) rfl) (sq_vec _) (re_var rfl) (by rw [h4.1]; exact h2)) (w0.2.mul a1)).is (by rw [e1])) ?_
      exact ⟨.dat (vec (tk B i)), .dat (.int (p : Int)), rfl⟩
    · obtain ⟨s3, s4, rfl⟩ := hW
      rw [List.length_map]
      exact rs_ret (re_tup (ra_cons (re_var rfl) (ra_cons (re_var rfl) ra_nil))) rfl
abbrev s_law_integer : Stmt := topS 50
abbrev nm_law_integer : List Str := ["thing"]
theorem sc_law_integer : FnScope nm_law_integer ["thing"] (defScope s_law_integer) := ⟨rfl, rfl, rfl, by decide +kernel, rfl, by decide +kernel, by decide +kernel⟩
def F_law_integer (ds : List PyData) (d : PyData) : Prop := ∃ i : Int, ds = [.int i] ∧ d = .bool true
abbrev T_law_integer (P : Program) (w : World) (K : PySem.W.Frag) (mg : Str → Option Value) (base : Heap) : Prop := Cal P w K mg base "_law_integer" 41 ["thing"] (PR K F_law_integer)
theorem ok_law_integer (S : Sur P mg base) (A : FunAt K mg "_law_integer" s_law_integer) : T_law_integer P w K mg base := by
  refine cal_pure A sc_law_integer (fun _ _ _ _ _ _ us hl => match us, hl with | [_], _ => rfl) ?_ (fun f cdv A outer s H E hr => ⟨_, (pss_one (ps_ret (pe_and (pe_callB (kIsi K) (by rfl) (S.no "isinstance" (by decide)) boot_isinstance (pa_cons (pv 0) (pa_cons (pe_bltn (v := .ty "int") (by rfl) (S.no "int" (by decide)) boot_int rfl) pa_nil))) (pe_one (pe_not (pe_callB (kIsi K) (by rfl) (S.no "isinstance" (by decide)) boot_isinstance (pa_cons (pv 0) (pa_cons (pe_bltn (v := .ty "bool") (by rfl) (S.no "bool" (by decide)) boot_bool rfl) pa_nil)))))))), ?_⟩)
  · rintro _ _ ⟨_, rfl, _⟩; rfl
  · rintro _ _ ⟨i, rfl, rfl⟩
    show RS K false _ [.dat (.int i)] _
    exact rs_ret (re_andV (b := true) (c := true) (re_isi (b := true) (re_var rfl) (kit_ty (by decide +kernel))) (fun z => (nomatch z)) (fun _ => re_notV (b := false) (re_isi (b := false) (re_var rfl) (kit_ty (by decide +kernel))))) rfl
abbrev s_law_value : Stmt := topS 53
abbrev nm_law_value : List Str := ["form", "vector", "a", "b"]
theorem sc_law_value : FnScope nm_law_value ["form", "vector"] (defScope s_law_value) := ⟨rfl, rfl, rfl, by decide +kernel, rfl, by decide +kernel, by decide +kernel⟩
def F_law_value (ds : List PyData) (d : PyData) : Prop := ∃ f v, ds = [vec f, vec v] ∧ f.length ≤ 1000 ∧ (∀ p ∈ List.zip f v, IntMulOk p.1 p.2) ∧ d = .int (dotL f v)
abbrev T_law_value (P : Program) (w : World) (K : PySem.W.Frag) (mg : Str → Option Value) (base : Heap) : Prop := Cal P w K mg base "_law_value" 41 ["form", "vector"] (PR K F_law_value)
theorem ok_law_value (S : Sur P mg base) (A : FunAt K mg "_law_value" s_law_value) : T_law_value P w K mg base := by
  refine cal_pure A sc_law_value (fun _ _ _ _ _ _ us hl => match us, hl with | [_, _], _ => rfl) ?_ (fun f cdv A outer s H E hr => ⟨_, (pss_one (ps_ret (pe_callB (kSum K rfl) (by rfl) (S.no "sum" (by decide)) boot_sum (pa_cons (pe_lc (own := [("a", 2), ("b", 3)]) rfl sc_law_value.nd (kZip K (by rfl) (S.no "zip" (by decide)) (pa_cons (pv 0) (pa_cons (pv 1) pa_nil))) (blkOk_by (N := nm_law_value) (sc := defScope s_law_value) (by decide +kernel)) (fun _ _ _ _ _ => (kAny K (n := 2) rfl (pgs_cons (pg_name (i := 2) sc_law_value.nd rfl (by first | exact .inl rfl | exact .inr rfl)) (pgs_cons (pg_name (i := 3) sc_law_value.nd rfl (by first | exact .inl rfl | exact .inr rfl)) pgs_nil)))) (fun _ _ _ _ _ => pts_nil) (fun _ _ _ _ _ => (pe_op (kMul K) (pv 2) (pv 3)))) pa_nil)))), ?_⟩)
  · rintro _ _ ⟨_, _, rfl, _⟩; rfl
  · rintro _ _ ⟨f, v, rfl, hl, hm, rfl⟩
    show RS K false _ [.dat (vec f), .dat (vec v), .un, .un] _
    exact rs_ret (re_cb (ra_cons (RL.re (rl_mapP (List.zip f v) (fun p => .int p.1) (fun p => .int p.2) (fun p => .int (p.1 * p.2)) (ri_zip2 (ra_cons (re_var rfl) (ra_cons (re_var rfl) ra_nil)) (sq_vec f) (sq_vec v))
      (by rw [List.length_zip]; omega) (fun p hp => re_mulI (re_var rfl) (re_var rfl) (hm p hp)))) ra_nil) cd_sumM) rfl
/-! ### _law_listed -/
abbrev s_law_listed : Stmt := topS 56
abbrev nm_law_listed : List Str := ["stream", "thing", "parts", "part"]
theorem sc_law_listed : FnScope nm_law_listed ["stream", "thing"] (defScope s_law_listed) := ⟨rfl, rfl, rfl, by decide +kernel, rfl, by decide +kernel, by decide +kernel⟩
def F_law_listed (k : Nat) (sl : Sl) (ds : List PyData) (d : PyData) (sl' : Sl) : Prop := ∃ (d0 : PyData) (s : Stm) (m : Nat), sl = stmS s ∧ ds = [d0] ∧ TupOk k d0 ∧ SOk m s ∧ m + tnum k d0 ≤ 100000 ∧ d = (lsd d0 s).1 ∧ sl' = stmS (lsd d0 s).2
abbrev TF_law_listed (P : Program) (w : World) (K : PySem.W.Frag) (mg : Str → Option Value) (base : Heap) (k : Nat) : Prop := Cal P w K mg base "_law_listed" (41 + k) ["stream", "thing"] (PO K (F_law_listed k))
abbrev T_law_listed (P : Program) (w : World) (K : PySem.W.Frag) (mg : Str → Option Value) (base : Heap) : Prop := TF_law_listed P w K mg base 8
theorem ok_law_listed (S : Sur P mg base) (A : FunAt K mg "_law_listed" s_law_listed) (C_law_draw : T_law_draw P w K mg base) : ∀ k, TF_law_listed P w K mg base k := by
  intro k
  induction k with
  | zero =>
    refine cal_own A sc_law_listed (fun _ _ _ _ _ _ us hl => match us, hl with | [_, _], _ => rfl) ?_ (fun f cdv A outer s H E hr => ⟨DL.tNever, DL.pss_never, ?_⟩)
    · rintro _ _ _ _ ⟨_, _, _, rfl, rfl, _, _, _, _, rfl⟩; exact ⟨rfl, rfl⟩
    · rintro _ _ _ _ ⟨_, _, _, _, _, h, _⟩; exact h.elim
  | succ k C_law_listed =>
    refine cal_own A sc_law_listed (fun _ _ _ _ _ _ us hl => match us, hl with | [_, _], _ => rfl) ?_ (fun f cdv A outer s H E hr => ⟨_, (pss_cons (ps_if (pt_not (pt_val (pe_callB (kIsi K) (by rfl) (S.no "isinstance" (by decide)) boot_isinstance (pa_cons (pv 1) (pa_cons (pe_bltn (v := .ty "tuple") (by rfl) (S.no "tuple" (by decide)) boot_tuple rfl) pa_nil))))) (pss_one (ps_ret (pv 1))) pss_nil) (pss_cons (ps_setLc (own := [("part", 3)]) (i := 2) rfl sc_law_listed.nd rfl rfl (sw_true rfl rfl rfl (by decide +kernel)) (kSeq K (pv 1)) (blkOk_by (N := nm_law_listed) (sc := defScope s_law_listed) (by decide +kernel)) (fun _ _ _ _ _ => (pg_name (i := 3) sc_law_listed.nd rfl (by first | exact .inl rfl | exact .inr rfl))) (fun _ _ _ _ _ => pts_nil) (fun _ _ _ _ _ => (pe_own C_law_listed (hr.mono (by first | exact Nat.le_refl _ | exact Nat.le_add_right 41 _)) (by rfl) (pa_cons (pv 0) (pa_cons (pv 3) pa_nil))))) (pss_one (ps_ret (pe_ix (kIx K) (pe_lst (pa_cons (kTuple K (by rfl) (S.no "tuple" (by decide)) (pv 2)) (pa_cons (pv 2) pa_nil))) (pe_own C_law_draw (hr.mono (by first | exact Nat.le_refl _ | exact Nat.le_add_right 41 _)) (by rfl) (pa_cons (pv 0) (pa_cons pe_int pa_nil))) (fun _ _ => rfl)))))), ?_⟩)
    · rintro _ _ _ _ ⟨_, _, _, rfl, rfl, _, _, _, _, rfl⟩; exact ⟨rfl, rfl⟩
    · rintro _ _ _ _ ⟨d0, s, m, rfl, rfl, hT, hs, hm, rfl, rfl⟩
      show RS K true _ [stmS s, .dat d0, .un, .un] _
      cases d0 with
      | none => exact hT.elim
      | bool b => exact hT.elim
      | list b => exact hT.elim
      | dict b => exact hT.elim
      | int i => exact rs_seq (rs_if (b := true) (rt_not (b := false) (rt_test (re_isi (b := false) (re_var rfl) (kit_ty (by decide +kernel))))) (fun _ => rs_ret (re_var rfl) ⟨by simp [lsd], by simp [lsd]⟩) (fun z => (nomatch z)))
      | str i => exact rs_seq (rs_if (b := true) (rt_not (b := false) (rt_test (re_isi (b := false) (re_var rfl) (kit_ty (by decide +kernel))))) (fun _ => rs_ret (re_var rfl) ⟨by simp [lsd], by simp [lsd]⟩) (fun z => (nomatch z)))
      | tuple ds =>
        obtain ⟨h1, h2⟩ := hT
        have hm : m + ((ds.map (tnum k)).sum + 1) ≤ 100000 := hm
        refine rs_seq (rs_if (b := false) (rt_not (b := true) (rt_test (re_isi (d := .tuple ds) (b := true) (re_var rfl) (kit_ty (by decide +kernel))))) (fun z => (nomatch z)) (fun _ => rs_nx ?_))
        -- the state ahead of part i
        have sp : ∀ i, ∃ u : List PyData × Stm, u = (((lsds ds s).1.take i), (lsds (ds.take i) s).2) := fun i => ⟨_, rfl⟩
        have pre : ∀ (ds : List PyData) (s : Stm) (m : Nat), (∀ x ∈ ds, TupOk k x) → SOk m s → ∀ i x, ds[i]? = some x → (lsds (ds.take (i + 1)) s).2 = (lsd x (lsds (ds.take i) s).2).2 ∧ (lsds ds s).1[i]? = some (lsd x (lsds (ds.take i) s).2).1 ∧ SOk (m + ((ds.take i).map (tnum k)).sum) (lsds (ds.take i) s).2 := fun ds => by
          induction ds with
          | nil => intro s m _ _ i x hx; simp at hx
          | cons d ds ih =>
            intro s m hd hs i x hx
            cases i with
            | zero =>
              have : d = x := by simpa using hx
              subst this
              simp [lsds]
              exact hs
            | succ i =>
              have hx : ds[i]? = some x := by simpa using hx
              have a := (lsd_ok k d s m (hd d (by simp)) hs).2.2
              obtain ⟨b1, b2, b3⟩ := ih (lsd d s).2 _ (fun x hx => hd x (by simp [hx])) a i x hx
              simp only [List.take_succ_cons, lsds, List.map_cons, List.sum_cons, List.getElem?_cons_succ]
              exact ⟨b1, b2, by rw [← Nat.add_assoc]; exact b3⟩
        have hpre := pre ds s m h2 hs
        have tot : ∀ i, ((ds.take i).map (tnum k)).sum ≤ (ds.map (tnum k)).sum := fun i => by
          have e : ds.map (tnum k) = (ds.take i).map (tnum k) ++ (ds.drop i).map (tnum k) := by rw [← List.map_append, List.take_append_drop]
          rw [e, List.sum_append]; omega
        refine rs_seq (rs_set (d := .list (lsds ds s).1) ((RL.re (rl_mapS ds id (fun i => [stmS (lsds (ds.take i) s).2, .dat (.tuple ds), .un, .un]) (fun i => ((lsds ds s).1[i]?).getD .none) .un (ri_seq (xs := ds) (a := id) (d := .tuple ds) (re_var (by simp [lsds])) (by rw [List.map_id]; rfl)) (by omega) (fun i x hx => ?_))).is ?_) ?_)
        · obtain ⟨p1, p2, p3⟩ := hpre i x hx
          have hx2 := h2 x (List.mem_of_getElem? hx)
          have tx : tnum k x + ((ds.take i).map (tnum k)).sum ≤ (ds.map (tnum k)).sum := by
            have e := tot (i + 1)
            have e2 : ((ds.take (i + 1)).map (tnum k)).sum = ((ds.take i).map (tnum k)).sum + tnum k x := by
              rw [List.take_add_one, hx, List.map_append, List.sum_append]; simp
            omega
          rw [p1, p2]
          exact re_callO (i := 0) (sl := stmS (lsds (ds.take i) s).2) rfl (ra_cons (re_var rfl) ra_nil) rfl rfl ⟨x, _, _, rfl, rfl, hx2, p3, by omega, rfl, rfl⟩
        · congr 1
          have hl := lsds_len ds s
          apply List.ext_getElem
          · rw [List.length_map, List.length_range, hl]
          · intro i i1 i2
            rw [List.getElem_map, List.getElem_range, List.getElem?_eq_getElem i2]; rfl
        · rw [List.take_length]
          have sfin := (lsd_ok (k + 1) (.tuple ds) s m ⟨h1, h2⟩ hs)
          show RS K true _ [stmS (lsds ds s).2, .dat (.tuple ds), .dat (.list (lsds ds s).1), .un] _
          have s3 : SOk (m + (ds.map (tnum k)).sum) (lsds ds s).2 := by
            cases e : ds with
            | nil => simp [lsds]; exact hs
            | cons x r =>
              have hlast : ds[ds.length - 1]? = some (ds.getD (ds.length - 1) .none) := by
                have : 0 < ds.length := by rw [e]; simp
                rw [List.getD_eq_getElem?_getD, List.getElem?_eq_getElem (by omega)]; rfl
              obtain ⟨q1, _, q3⟩ := hpre _ _ hlast
              have e2 : ds.length - 1 + 1 = ds.length := by have : 0 < ds.length := by (rw [e]; simp)
                                                            omega
              rw [e2, List.take_length] at q1
              have a := (lsd_ok k _ _ _ (h2 _ (List.mem_of_getElem? hlast)) q3).2.2
              rw [← q1] at a
              have tx : tnum k (ds.getD (ds.length - 1) .none) + ((ds.take (ds.length - 1)).map (tnum k)).sum = (ds.map (tnum k)).sum := by
                have e3 : ds = ds.take (ds.length - 1) ++ [ds.getD (ds.length - 1) .none] := by
                  conv => lhs; rw [← List.take_length (l := ds)]
                  rw [← e2, List.take_add_one, hlast]; rfl
                conv => rhs; rw [e3]
                rw [List.map_append, List.sum_append]; simp; omega
              rw [← e]
              exact a.mono (by omega)
          obtain ⟨g0, g1⟩ := drV_rng (lsds ds s).2 (show (0 : Int) < 2 by decide)
          have hidx : atI [PyData.tuple (lsds ds s).1, .list (lsds ds s).1] (drV (lsds ds s).2 2) = some (lsd (.tuple ds) s).1 := by
            simp only [lsd]
            obtain ⟨j, hj⟩ := Int.eq_ofNat_of_zero_le g0
            rw [hj]
            have : j < 2 := by omega
            match j, this with
            | 0, _ => rfl
            | 1, _ => rfl
          refine rs_ret (re_ixL (RL.re (rl_lst (ra_cons (re_tupleL (re_var rfl)) (ra_cons (re_var rfl) ra_nil)))) (re_draw (i := 0) (s := (lsds ds s).2) rfl re_int rfl (by decide) s3 (by omega)) hidx) ⟨rfl, ?_⟩
          simp only [lsd]; rfl
end K87

namespace K87
open PySem PySem.Spec PyProof.Rows L2 DL
open PySem.Builtin.Int (intBits)
variable {P : Program} {w : World} {K : PySem.W.Frag} {mg : Str → Option Value} {base : Heap}
/-! ### _law_basis -/
def bkMenu : List Int := [1, 1, 2, 3, 4, 6, 12, 35, 1009, 10 ^ (6 : Int).toNat]
theorem bkMenu_rng {v : Int} (h0 : 0 ≤ v) (h1 : v < 10) : 1 ≤ bkMenu.getD v.toNat 0 ∧ bkMenu.getD v.toNat 0 ≤ 1000000 := by
  obtain ⟨j, rfl⟩ := Int.eq_ofNat_of_zero_le h0
  rw [Int.toNat_natCast]
  have : j < 10 := by omega
  have all : ∀ j, j < 10 → 1 ≤ bkMenu.getD j 0 ∧ bkMenu.getD j 0 ≤ 1000000 := by decide
  exact all j this
abbrev s_law_basis : Stmt := topS 54
abbrev nm_law_basis : List Str := ["stream", "size", "menu", "columns", "rows", "column", "row", "low", "high", "factor"]
theorem sc_law_basis : FnScope nm_law_basis ["stream", "size"] (defScope s_law_basis) := ⟨rfl, rfl, rfl, by decide +kernel, rfl, by decide +kernel, by decide +kernel⟩
def P_law_basis (a : Stm × Nat × Nat) (sl : Sl) (ds : List PyData) : Prop := sl = stmS a.1 ∧ ds = [.int (a.2.1 : Int)] ∧ a.2.1 ≤ 5 ∧ SOk a.2.2 a.1 ∧ a.2.2 ≤ 1000
def G_law_basis (a : Stm × Nat × Nat) (d : PyData) (sl' : Sl) : Prop := ∃ s' B, sl' = stmS s' ∧ d = matT B ∧ BkR a.2.1 B ∧ SOk (a.2.2 + 100) s'
abbrev T_law_basis (P : Program) (w : World) (K : PySem.W.Frag) (mg : Str → Option Value) (base : Heap) : Prop := Cal P w K mg base "_law_basis" 44 ["stream", "size"] (PD K P_law_basis G_law_basis)
/-- a drawn row -/
structure RowO (n c : Nat) (r : Vc) : Prop where
  l : r.length = n
  z : ∀ j, j < c → at_ r j = 0
  p : 0 < at_ r c
  b : ∀ x ∈ r, x.natAbs ≤ 2 ^ 20
theorem at_app {u v : Vc} (j : Nat) : at_ (u ++ v) j = if j < u.length then at_ u j else at_ v (j - u.length) := by
  unfold at_
  rw [List.getD_eq_getElem?_getD, List.getD_eq_getElem?_getD, List.getD_eq_getElem?_getD]
  by_cases h : j < u.length
  · rw [if_pos h, List.getElem?_append_left h]
  · rw [if_neg h, List.getElem?_append_right (by omega)]
theorem tk_item {V : List Vc} {i : Nat} (hi : i < V.length) : (V.map vec)[i]? = some (vec (tk V i)) := by
  rw [List.getElem?_map, List.getElem?_eq_getElem hi]
  unfold tk; rw [List.getD_eq_getElem?_getD, List.getElem?_eq_getElem hi]; rfl
theorem at_rep {c : Nat} (j : Nat) : at_ (List.replicate c (0 : Int)) j = 0 := by
  unfold at_
  rw [List.getD_eq_getElem?_getD, List.getElem?_replicate]
  split <;> rfl
theorem ok_law_basis (S : Sur P mg base) (A : FunAt K mg "_law_basis" s_law_basis) (C_law_draw : T_law_draw P w K mg base) (C_law_plus : T_law_plus P w K mg base) : T_law_basis P w K mg base := by
  refine cal_ownD A sc_law_basis (fun _ _ _ _ _ _ us hl => match us, hl with | [_, _], _ => rfl) ?_ (fun f cdv A outer s H E hr => ⟨_, (pss_cons (ps_set (i := 2) sc_law_basis.nd rfl (by first | exact .inl rfl | exact .inr rfl) (pe_lst (pa_cons pe_int (pa_cons pe_int (pa_cons pe_int (pa_cons pe_int (pa_cons pe_int (pa_cons pe_int (pa_cons pe_int (pa_cons pe_int (pa_cons pe_int (pa_cons (pe_op op_pow pe_int pe_int) pa_nil)))))))))))) (pss_cons (ps_setLc (own := [("column", 5)]) (i := 3) rfl sc_law_basis.nd rfl rfl (sw_true rfl rfl rfl (by decide +kernel)) (pi_range1 (by rfl) (S.no "range" (by decide)) (pa_cons (pv 1) pa_nil)) (blkOk_by (N := nm_law_basis) (sc := defScope s_law_basis) (by decide +kernel)) (fun _ _ _ _ _ => (pg_name (i := 5) sc_law_basis.nd rfl (by first | exact .inl rfl | exact .inr rfl))) (fun _ _ _ _ _ => (pts_one (pt_cmpR op_gt (pe_own C_law_draw (hr.mono (by decide)) (by rfl) (pa_cons (pv 0) (pa_cons pe_int pa_nil))) pe_int (nomark _)))) (fun _ _ _ _ _ => (pv 5))) (pss_cons (ps_set (i := 4) sc_law_basis.nd rfl (by first | exact .inl rfl | exact .inr rfl) (pe_lst pa_nil)) (pss_cons (ps_for PassesOwn.never rfl (kSeq K (pv 3)) (pg_name (i := 5) sc_law_basis.nd rfl (by first | exact .inl rfl | exact .inr rfl)) (pss_cons (ps_set (i := 6) sc_law_basis.nd rfl (by first | exact .inl rfl | exact .inr rfl) (pe_op (kAdd K) (pe_op (kMul K) (pe_lst (pa_cons pe_int pa_nil)) (pv 5)) (pe_lst (pa_cons (pe_ix (kIx K) (pv 2) (pe_own C_law_draw (hr.mono (by decide)) (by rfl) (pa_cons (pv 0) (pa_cons pe_int pa_nil))) (fun _ _ => rfl)) pa_nil)))) (pss_cons (ps_while PassesOwn.never (pt_cmpR op_lt (pe_callB (kLen K) (by rfl) (S.no "len" (by decide)) boot_len (pa_cons (pv 6) pa_nil)) (pv 1) (nomark _)) (pss_one (ps_expr (kMeth K PySem.F.plainAttrs_list PySem.F.slot_list_append PySem.F.type_list_append mt_append (pv 6) (pa_cons (pe_ix (kIx K) (pe_lst (pa_cons pe_int (pa_cons (pe_op op_sub (pe_own C_law_draw (hr.mono (by decide)) (by rfl) (pa_cons (pv 0) (pa_cons pe_int pa_nil))) pe_int) (pa_cons (pe_own C_law_draw (hr.mono (by decide)) (by rfl) (pa_cons (pv 0) (pa_cons (pe_op op_pow pe_int pe_int) pa_nil))) pa_nil)))) (pe_own C_law_draw (hr.mono (by decide)) (by rfl) (pa_cons (pv 0) (pa_cons pe_int pa_nil))) (fun _ _ => rfl)) pa_nil))))) (pss_one (ps_expr (kMeth K PySem.F.plainAttrs_list PySem.F.slot_list_append PySem.F.type_list_append mt_append (pv 4) (pa_cons (kTuple K (by rfl) (S.no "tuple" (by decide)) (pv 6)) pa_nil))))))) (pss_cons (ps_for PassesOwn.never rfl (kEnum K (by rfl) (S.no "enumerate" (by decide)) (pa_cons (pv 3) pa_nil)) (kAny K (n := 2) rfl (pgs_cons (pg_name (i := 7) sc_law_basis.nd rfl (by first | exact .inl rfl | exact .inr rfl)) (pgs_cons (pg_name (i := 5) sc_law_basis.nd rfl (by first | exact .inl rfl | exact .inr rfl)) pgs_nil))) (pss_one (ps_for PassesOwn.never rfl (pi_range1 (by rfl) (S.no "range" (by decide)) (pa_cons (pv 7) pa_nil)) (pg_name (i := 8) sc_law_basis.nd rfl (by first | exact .inl rfl | exact .inr rfl)) (pss_cons (ps_set (i := 9) sc_law_basis.nd rfl (by first | exact .inl rfl | exact .inr rfl) (pe_op (op_fdivX (py_of S.seer S.tree hr)) (pe_ix (kIx K) (pe_ix (kIx K) (pv 4) (pv 8) (fun _ _ => rfl)) (pv 5) (fun _ _ => rfl)) (pe_ix (kIx K) (pe_ix (kIx K) (pv 4) (pv 7) (fun _ _ => rfl)) (pv 5) (fun _ _ => rfl)))) (pss_one (ps_asg (pe_own C_law_plus (hr.mono (by decide)) (by rfl) (pa_cons (pe_op op_sub pe_int (pv 9)) (pa_cons (pe_ix (kIx K) (pv 4) (pv 7) (fun _ _ => rfl)) (pa_cons (pe_ix (kIx K) (pv 4) (pv 8) (fun _ _ => rfl)) pa_nil)))) (pg_sub (pv 4) (pv 8) set_list))))))) (pss_one (ps_ret (kTuple K (by rfl) (S.no "tuple" (by decide)) (pv 4))))))))), ?_⟩)
  · rintro _ _ _ ⟨rfl, rfl, _⟩
    exact ⟨rfl, fun d sl' ⟨s', B, e, _⟩ => by rw [e]; rfl⟩
  · rintro ⟨s, n, m⟩ _ _ ⟨rfl, rfl, hn, hs, hm⟩
    have hn : n ≤ 5 := hn
    have hs : SOk m s := hs
    have hm : m ≤ 1000 := hm
    show RS K true _ [stmS s, .dat (.int n), .un, .un, .un, .un, .un, .un, .un, .un] _
    refine rs_seq (rs_set (d := .list (bkMenu.map .int)) (RL.re (rl_lst (ra_cons re_int (ra_cons re_int (ra_cons re_int (ra_cons re_int (ra_cons re_int (ra_cons re_int (ra_cons re_int (ra_cons re_int (ra_cons re_int (ra_cons (re_powI re_int re_int ⟨by decide, by decide, by decide⟩) ra_nil)))))))))) (by decide))) ?_)
    show RS K true _ [stmS s, .dat (.int n), .dat (.list (bkMenu.map .int)), .un, .un, .un, .un, .un, .un, .un] _
    -- the columns
    refine rs_seq (rs_set (RL.re (rl_filtS (List.range n) (fun (i : Nat) => .int (i : Int)) (fun i => [stmS (stN s 4 i), .dat (.int n), .dat (.list (bkMenu.map .int)), .un, .un, .un, .un, .un, .un, .un]) (fun (i : Nat) => .int (i : Int)) (fun i => decide (0 < drV (stN s 4 i) 4)) .un (ri_range (n := n) (ra_cons (re_var rfl) ra_nil) (by omega)) (by simp; omega) (fun i x hx => ?_) (fun i x hx => ?_))) ?_)
    · have hsi := sok_stN (q := 4) hs i
      have hi : i < n := by have := (List.getElem?_eq_some_iff.mp hx).1; simpa using this
      exact rt_test (re_op (re_draw (i := 0) (s := stN s 4 i) rfl re_int rfl (by decide) hsi (by omega)) re_int od_gt)
    · have : x = i := by
        obtain ⟨h1, h2⟩ := List.getElem?_eq_some_iff.mp hx
        rw [List.getElem_range] at h2; exact h2.symm
      subst this
      exact re_var rfl
    rw [List.length_range]
    generalize hcs : (List.range n).filter (fun i => decide (0 < drV (stN s 4 i) 4)) = cs
    have hsub : ∀ k, k < cs.length → ck cs k < n := fun k hk => by
      have h1 : ck cs k ∈ cs := by unfold ck; rw [List.getD_eq_getElem?_getD, List.getElem?_eq_getElem hk]; exact List.getElem_mem hk
      have h2 : ∀ x, x ∈ cs → x < n := fun x hx => by rw [← hcs] at hx; exact List.mem_range.mp (List.mem_filter.mp hx).1
      exact h2 _ h1
    have hpw : ∀ i j, i < j → j < cs.length → ck cs i < ck cs j := fun i j hij hj => by
      have pw : cs.Pairwise (· < ·) := by rw [← hcs]; exact List.Pairwise.filter _ (List.pairwise_lt_range (n := n))
      have := List.pairwise_iff_getElem.mp pw i j (Nat.lt_trans hij hj) hj hij
      unfold ck
      rw [List.getD_eq_getElem?_getD, List.getD_eq_getElem?_getD, List.getElem?_eq_getElem hj, List.getElem?_eq_getElem (Nat.lt_trans hij hj)]
      exact this
    have hcl : cs.length ≤ n := by rw [← hcs]; exact Nat.le_trans (List.length_filter_le _ _) (by rw [List.length_range]; exact Nat.le_refl n)
    have hs1 := sok_stN (q := 4) hs n
    generalize stN s 4 n = s1 at hs1
    show RS K true _ [stmS s1, .dat (.int n), .dat (.list (bkMenu.map .int)), .dat (natsL cs), .un, .un, .un, .un, .un, .un] _
    refine rs_seq (rs_setL (rl_lst ra_nil) ?_)
    show RS K true _ [stmS s1, .dat (.int n), .dat (.list (bkMenu.map .int)), .dat (natsL cs), .lst [], .un, .un, .un, .un, .un] _
    have getc : ∀ {i : Nat} {d : PyData}, (cs.map fun (c : Nat) => PyData.int (c : Int))[i]? = some d → i < cs.length ∧ d = .int (ck cs i : Int) := fun {i d} h => by
      rw [List.getElem?_map] at h
      obtain ⟨c, hc, rfl⟩ := Option.map_eq_some_iff.mp h
      refine ⟨(List.getElem?_eq_some_iff.mp hc).1, ?_⟩
      unfold ck
      rw [List.getD_eq_getElem?_getD, hc]; rfl
    -- the rows
    refine rs_seq (rs_for (ds := cs.map fun (c : Nat) => .int (c : Int)) (ri_seq (re_var (d := natsL cs) rfl) rfl) (fun i Γ => ∃ s' X s5 s6, Γ = [stmS s', .dat (.int n), .dat (.list (bkMenu.map .int)), .dat (natsL cs), .lst (X.map vec), s5, s6, .un, .un, .un] ∧ X.length = i ∧ (∀ k, k < i → RowO n (ck cs k) (tk X k)) ∧ SOk (m + n + 16 * i) s') ⟨s1, [], _, _, rfl, rfl, fun k hk => absurd hk (Nat.not_lt_zero _), hs1⟩ (fun i d Γ hd hW => ?_) (fun Γ hW => ?_))
    · obtain ⟨s', X, s5, s6, rfl, hX, hR, hs'⟩ := hW
      obtain ⟨hi, rfl⟩ := getc hd
      have hc := hsub i hi
      refine ⟨_, _, rg_name, by decide, ?_⟩
      generalize hci : ck cs i = c at hc
      show RS K true _ [stmS s', .dat (.int n), .dat (.list (bkMenu.map .int)), .dat (natsL cs), .lst (X.map vec), .dat (.int (c : Int)), s6, .un, .un, .un] _
      obtain ⟨g0, g1⟩ := drV_rng s' (show (0 : Int) < 10 by decide)
      have mr := bkMenu_rng g0 g1
      have hs2 := sok_dr 10 hs'
      refine rs_seq (rs_setL (ds := (List.replicate c 0 ++ [bkMenu.getD (drV s' 10).toNat 0]).map .int) ((rl_addL (rl_mulL (rl_lst (ra_cons re_int ra_nil)) (re_var rfl) ⟨by omega, by omega⟩ (by show 1 * _ ≤ 16777216; omega)) (rl_lst (ra_cons (re_ixL (ds := bkMenu.map .int) (re_var rfl) (re_draw (i := 0) (s := s') rfl re_int rfl (by decide) hs' (by omega)) (lit_int (ns := bkMenu) (k := 10) g0 g1 rfl)) ra_nil)) (by rw [Int.toNat_natCast, rep_one, List.length_replicate]; show c + 1 ≤ 16777216; omega)).is (by rw [Int.toNat_natCast, rep_one, List.map_append, List.map_replicate]; rfl)) ?_)
      generalize bkMenu.getD (drV s' 10).toNat 0 = pv at mr
      generalize drS s' 10 = s2 at hs2
      show RS K true _ [stmS s2, .dat (.int n), .dat (.list (bkMenu.map .int)), .dat (natsL cs), .lst (X.map vec), .dat (.int (c : Int)), .lst ((List.replicate c 0 ++ [pv]).map .int), .un, .un, .un] _
      refine rs_seq (rs_while (fun q Γ => ∃ t r, Γ = [stmS t, .dat (.int n), .dat (.list (bkMenu.map .int)), .dat (natsL cs), .lst (X.map vec), .dat (.int (c : Int)), .lst (r.map .int), .un, .un, .un] ∧ r.length + q = n ∧ c < r.length ∧ (∀ j, j < c → at_ r j = 0) ∧ 0 < at_ r c ∧ (∀ x ∈ r, x.natAbs ≤ 2 ^ 20) ∧ SOk (m + n + 16 * i + 1 + 3 * r.length) t) (n - (c + 1)) ⟨s2, _, rfl, by rw [List.length_append, List.length_replicate, List.length_singleton]; omega, by rw [List.length_append, List.length_replicate, List.length_singleton]; omega, fun j hj => by rw [at_app, List.length_replicate, if_pos hj, at_rep], by rw [at_app, List.length_replicate, if_neg (Nat.lt_irrefl c), Nat.sub_self]; show 0 < pv; omega, fun x hx => by
          rcases List.mem_append.mp hx with hx | hx
          · rw [(List.mem_replicate.mp hx).2]; simp
          · rw [List.mem_singleton.mp hx]; exact Nat.le_trans (show pv.natAbs ≤ 1000000 by omega) (by decide), hs2.mono (by omega)⟩ fun q Γ hW => ?_)
      obtain ⟨t, r, rfl, hq, hcr, hz, hp, hbd, ht⟩ := hW
      refine ⟨_, _, rt_test (re_op (re_lenO (i := 6) rfl) (re_var rfl) od_lt), fun hb => ?_, fun hb => ?_⟩
      · have hlt : r.length < n := by have := of_decide_eq_true hb; rw [List.length_map] at this; omega
        have e6 : (10 : Int) ^ (6 : Int).toNat = 1000000 := by decide
        obtain ⟨u0, u1⟩ := drV_rng t (show (0 : Int) < 7 by decide)
        have t1 := sok_dr 7 ht
        obtain ⟨v0, v1⟩ := drV_rng (drS t 7) (show (0 : Int) < 10 ^ (6 : Int).toNat by decide)
        have t2 := sok_dr (10 ^ (6 : Int).toNat) t1
        obtain ⟨w0, w1⟩ := drV_rng (drS (drS t 7) (10 ^ (6 : Int).toNat)) (show (0 : Int) < 3 by decide)
        have t3 := sok_dr 3 t2
        have v2 : drV (drS t 7) (10 ^ (6 : Int).toNat) < 1000000 := by rw [← e6]; exact v1
        clear v1
        obtain ⟨y, hy, hyb⟩ : ∃ y : Int, atI [PyData.int 0, .int (drV t 7 - 3), .int (drV (drS t 7) (10 ^ (6 : Int).toNat))] (drV (drS (drS t 7) (10 ^ (6 : Int).toNat)) 3) = some (.int y) ∧ y.natAbs ≤ 2 ^ 20 := by
          obtain ⟨j, hj⟩ := Int.eq_ofNat_of_zero_le w0
          rw [hj]
          have : j < 3 := by omega
          have p20 : (2 : Nat) ^ 20 = 1048576 := by decide
          match j, this with
          | 0, _ => exact ⟨0, rfl, by rw [p20]; decide⟩
          | 1, _ => exact ⟨_, rfl, by rw [p20]; omega⟩
          | 2, _ => exact ⟨_, rfl, by rw [p20]; omega⟩
        refine rs_app (i := 6) rfl (re_ixL (RL.re (rl_lst (ra_cons re_int (ra_cons (re_subI (re_draw (i := 0) (s := t) rfl re_int rfl (by decide) ht (by omega)) re_int) (ra_cons (re_draw (i := 0) (s := drS t 7) rfl (re_powI re_int re_int ⟨by decide, by decide, by decide⟩) rfl (by decide) t1 (by omega)) ra_nil))))) (re_draw (i := 0) (s := drS (drS t 7) (10 ^ (6 : Int).toNat)) rfl re_int rfl (by decide) t2 (by omega)) hy) rfl (by rw [List.length_map]; show _ < 16777216; omega) ?_
        refine ⟨q - 1, by omega, drS (drS (drS t 7) (10 ^ (6 : Int).toNat)) 3, r ++ [y], ?_, by rw [List.length_append, List.length_singleton]; omega, by rw [List.length_append]; omega, fun j hj => by rw [at_app, if_pos (by omega)]; exact hz j hj, by rw [at_app, if_pos hcr]; exact hp, fun x hx => ?_, by rw [List.length_append, List.length_singleton]; exact t3.mono (by omega)⟩
        · rw [List.map_append]; rfl
        · rcases List.mem_append.mp hx with hx | hx
          · exact hbd x hx
          · rw [List.mem_singleton.mp hx]; exact hyb
      · have hge : ¬ r.length < n := by have := of_decide_eq_false hb; rw [List.length_map] at this; omega
        have hrn : r.length = n := by omega
        refine rs_app (i := 4) rfl (re_tupleL (re_out (i := 6) rfl)) rfl (by rw [List.length_map]; show _ < 16777216; omega) ?_
        refine ⟨t, X ++ [r], .dat (.int (c : Int)), .dat (.list (r.map .int)), ?_, by rw [List.length_append, hX]; rfl, fun k hk => ?_, ht.mono (by omega)⟩
        · rw [List.map_append]; rfl
        · by_cases e : k = i
          · have et : tk (X ++ [r]) k = r := by
              unfold tk; rw [List.getD_eq_getElem?_getD, List.getElem?_append_right (by omega)]
              rw [show k - X.length = 0 by omega]; rfl
            rw [et, e, hci]
            exact ⟨hrn, hz, hp, hbd⟩
          · have et : tk (X ++ [r]) k = tk X k := by
              unfold tk; rw [List.getD_eq_getElem?_getD, List.getD_eq_getElem?_getD, List.getElem?_append_left (by omega)]
            rw [et]; exact hR k (by omega)
    · obtain ⟨s', X, s5, s6, rfl, hX, hR, hs'⟩ := hW
      rw [List.length_map] at hX hR hs'
      have bo : BkO n cs X := ⟨hX, hpw, hsub, fun k j hk hj => (hR k hk).z j hj, fun k hk => (hR k hk).p, fun k hk => ⟨(hR k hk).l, fun j => by
        by_cases hj : j < (tk X k).length
        · exact (hR k hk).b _ (by unfold at_; rw [List.getD_eq_getElem?_getD, List.getElem?_eq_getElem hj]; exact List.getElem_mem hj)
        · rw [at_out (by omega)]; simp⟩⟩
      have tot : 16 * cs.length ≤ 80 := by omega
      have hs2 := hs'.mono (show m + n + 16 * cs.length ≤ m + 100 by omega)
      show RS K true _ [stmS s', .dat (.int n), .dat (.list (bkMenu.map .int)), .dat (natsL cs), .lst (X.map vec), s5, s6, .un, .un, .un] _
      refine rs_seq (rs_for (ds := enumD (cs.map fun (c : Nat) => .int (c : Int))) (ri_enum (ra_cons (re_var (d := natsL cs) rfl) ra_nil) rfl) (fun i Γ => ∃ Y s5 s6 s7 s8 s9, Γ = [stmS s', .dat (.int n), .dat (.list (bkMenu.map .int)), .dat (natsL cs), .lst (Y.map vec), s5, s6, s7, s8, s9] ∧ BkJ n cs X i 0 Y) ⟨X, _, _, _, _, _, rfl, bk_start bo⟩ (fun i d Γ hd hW => ?_) (fun Γ hW => ?_))
      · obtain ⟨Y, s5, s6, s7, s8, s9, rfl, jj⟩ := hW
        obtain ⟨x, hx, rfl⟩ := enumD_get hd
        obtain ⟨hi, rfl⟩ := getc hx
        have hc := hsub i hi
        refine ⟨_, _, rg_anyT (rgs_cons rg_name (rgs_cons rg_name rgs_nil)), by decide, ?_⟩
        show RS K true _ [stmS s', .dat (.int n), .dat (.list (bkMenu.map .int)), .dat (natsL cs), .lst (Y.map vec), .dat (.int (ck cs i : Int)), s6, .dat (.int (i : Int)), s8, s9] _
        refine rs_for (ds := (List.range i).map fun (i : Nat) => .int (i : Int)) (ri_range (n := i) (ra_cons (re_var rfl) ra_nil) (by omega)) (fun h Γ => ∃ Z s8 s9, Γ = [stmS s', .dat (.int n), .dat (.list (bkMenu.map .int)), .dat (natsL cs), .lst (Z.map vec), .dat (.int (ck cs i : Int)), s6, .dat (.int (i : Int)), s8, s9] ∧ BkJ n cs X i h Z) ⟨Y, _, _, rfl, jj⟩ (fun h d Γ hd hW => ?_) (fun Γ hW => ?_)
        · obtain ⟨Z, s8, s9, rfl, kk⟩ := hW
          have hh : h < i := by have := (List.getElem?_eq_some_iff.mp hd).1; simpa using this
          have ed : d = .int (h : Int) := by
            rw [List.getElem?_map, List.getElem?_range hh] at hd
            exact (Option.some.inj hd).symm
          subst ed
          have lZ := kk.ll
          have bh := kk.bd h (by omega)
          have bl := kk.bd i hi
          rw [if_neg (Nat.lt_irrefl h)] at bh
          rw [if_neg (by omega)] at bl
          have nb : 20 + 21 * (i - 1) ≤ 200 := by omega
          have pl := bo.pos i hi
          have pe := kk.piv i hi
          rw [← pe] at pl
          have fb : ((at_ (tk Z h) (ck cs i)).fdiv (at_ (tk Z i) (ck cs i))).natAbs ≤ 2 ^ (20 + 21 * (i - 1)) := Nat.le_trans (natAbs_fdiv_le _ _) (bh.2 _)
          refine ⟨_, _, rg_name, by decide, ?_⟩
          show RS K true _ [stmS s', .dat (.int n), .dat (.list (bkMenu.map .int)), .dat (natsL cs), .lst (Z.map vec), .dat (.int (ck cs i : Int)), s6, .dat (.int (i : Int)), .dat (.int (h : Int)), s9] _
          refine rs_seq (rs_set (re_fdivI (re_at (re_itemO (i := 4) rfl (re_var rfl) rfl (tk_item (by omega))) (sq_vec _) (re_var rfl) (by rw [bh.1]; exact hc)) (re_at (re_itemO (i := 4) rfl (re_var rfl) rfl (tk_item (by omega))) (sq_vec _) (re_var rfl) (by rw [bl.1]; exact hc)) ?_) ?_)
          · omega
          show RS K true _ [stmS s', .dat (.int n), .dat (.list (bkMenu.map .int)), .dat (natsL cs), .lst (Z.map vec), .dat (.int (ck cs i : Int)), s6, .dat (.int (i : Int)), .dat (.int (h : Int)), .dat (.int ((at_ (tk Z h) (ck cs i)).fdiv (at_ (tk Z i) (ck cs i))))] _
          refine rs_item (i := 4) (k := h) (re_call (ra_cons (re_subI re_int (re_var rfl)) (ra_cons (re_itemO (i := 4) rfl (re_var rfl) rfl (tk_item (by omega))) (ra_cons (re_itemO (i := 4) rfl (re_var rfl) rfl (tk_item (by omega))) ra_nil))) ⟨_, _, _, tk Z i, tk Z h, rfl, sq_vec _, sq_vec _, by rw [bl.1]; omega, fun x hx => ?_, rfl⟩) rfl (re_var rfl) (by rw [List.length_map]; omega) ?_
          · refine Sm.mul (sm_pow (s := 20 + 21 * (i - 1)) (by omega) ?_) (sm_pow (s := 20 + 21 * (i - 1)) (by omega) ?_)
            · omega
            · obtain ⟨j, hj, rfl⟩ := List.getElem_of_mem hx
              have : at_ (tk Z i) j = (tk Z i)[j] := by have := at_get hj; rw [List.getElem?_eq_getElem hj] at this; exact (Option.some.inj this).symm
              rw [← this]; exact bl.2 j
          refine ⟨Z.set h (plusL (0 - (at_ (tk Z h) (ck cs i)).fdiv (at_ (tk Z i) (ck cs i))) (tk Z i) (tk Z h)), .dat (.int (h : Int)), .dat (.int ((at_ (tk Z h) (ck cs i)).fdiv (at_ (tk Z i) (ck cs i)))), ?_, bk_step bo kk hi hh⟩
          rw [List.map_set]; rfl
        · obtain ⟨Z, s8, s9, rfl, kk⟩ := hW
          rw [List.length_map, List.length_range] at kk
          exact ⟨Z, _, _, _, _, _, rfl, bk_next kk⟩
      · obtain ⟨Y, s5, s6, s7, s8, s9, rfl, jj⟩ := hW
        rw [enumD_len, List.length_map] at jj
        exact rs_ret (re_tupleL (re_out (i := 4) rfl)) ⟨stmS s', rfl, s', Y, rfl, rfl, bk_end bo jj, hs2⟩
end K87

namespace K87
open PySem PySem.Spec PyProof.Rows L2 DL
open PySem.Builtin.Int (intBits)
variable {P : Program} {w : World} {K : PySem.W.Frag} {mg : Str → Option Value} {base : Heap}
abbrev s_law_parts_good : Stmt := topS 57
abbrev nm_law_parts_good : List Str := ["basis", "exact", "scale", "rows", "size", "columns", "vector", "common", "row", "entry", "column"]
theorem sc_law_parts_good : FnScope nm_law_parts_good ["basis", "exact", "scale", "rows", "size"] (defScope s_law_parts_good) := ⟨rfl, rfl, rfl, by decide +kernel, rfl, by decide +kernel, by decide +kernel⟩
structure PartsOk (n : Nat) (B Ex rows : List Vc) (sc : Int) (pvx : Nat → Nat) : Prop where
  n60 : n ≤ 60
  b1 : F_is_basis [matT Ex, .int (n : Int)] (.bool true)
  b2 : F_is_basis [matT rows, .int (n : Int)] (.bool true)
  s0 : 0 < sc
  l1 : Ex.length + B.length = n
  l2 : rows.length = B.length
  sat : F_saturation [matT Ex, .int (n : Int)] (matT Ex)
  rE : RB n Ex pvx
  zr : ∀ r ∈ rows, r.length = n ∧ ∀ i, i < Ex.length → at_ r (pvx i) = 0
  ex : ∀ v ∈ B, ∀ r ∈ Ex, (∀ p ∈ List.zip r v, IntMulOk p.1 p.2) ∧ dotL r v = 0
  rw : ∀ v ∈ B, ∀ r ∈ rows, (∀ p ∈ List.zip r v, IntMulOk p.1 p.2) ∧ sc ∣ dotL r v
  g1 : gcdA sc rows.flatten = 1
def F_law_parts_good (ds : List PyData) (d : PyData) : Prop := ∃ (n : Nat) (B Ex rows : List Vc) (sc : Int) (pvx : Nat → Nat), ds = [matT B, matT Ex, .int sc, matT rows, .int (n : Int)] ∧ PartsOk n B Ex rows sc pvx ∧ d = .bool true
abbrev T_law_parts_good (P : Program) (w : World) (K : PySem.W.Frag) (mg : Str → Option Value) (base : Heap) : Prop := Cal P w K mg base "_law_parts_good" 57 ["basis", "exact", "scale", "rows", "size"] (PR K F_law_parts_good)
theorem ok_law_parts_good (S : Sur P mg base) (A : FunAt K mg "_law_parts_good" s_law_parts_good) (C_is_basis : T_is_basis P w K mg base) (C_law_integer : T_law_integer P w K mg base) (C_saturation : T_saturation P w K mg base) (C_law_value : T_law_value P w K mg base) (C_law_common : T_law_common P w K mg base) : T_law_parts_good P w K mg base := by
  refine cal_pure A sc_law_parts_good (fun _ _ _ _ _ _ us hl => match us, hl with | [_, _, _, _, _], _ => rfl) ?_ (fun f cdv A outer s H E hr => ⟨_, (pss_cons (ps_if (PW.pt (pw_or (pt_not (pt_val (pe_own C_is_basis (hr.mono (by decide)) (by rfl) (pa_cons (pv 1) (pa_cons (pv 4) pa_nil))))) (pw_or (pt_not (pt_val (pe_own C_is_basis (hr.mono (by decide)) (by rfl) (pa_cons (pv 3) (pa_cons (pv 4) pa_nil))))) (pw_or (pt_not (pt_val (pe_own C_law_integer (hr.mono (by decide)) (by rfl) (pa_cons (pv 2) pa_nil)))) (pw_or1 (pt_cmpR op_lt (pv 2) pe_int (nomark _))))))) (pss_one (ps_ret pe_bl)) pss_nil) (pss_cons (ps_if (PW.pt (pw_or (pt_cmpR (kNe K hr.units) (pe_op (kAdd K) (pe_callB (kLen K) (by rfl) (S.no "len" (by decide)) boot_len (pa_cons (pv 1) pa_nil)) (pe_callB (kLen K) (by rfl) (S.no "len" (by decide)) boot_len (pa_cons (pv 0) pa_nil))) (pv 4) (nomark _)) (pw_or (pt_cmpR (kNe K hr.units) (pe_callB (kLen K) (by rfl) (S.no "len" (by decide)) boot_len (pa_cons (pv 3) pa_nil)) (pe_callB (kLen K) (by rfl) (S.no "len" (by decide)) boot_len (pa_cons (pv 0) pa_nil)) (nomark _)) (pw_or1 (pt_cmpR (kNe K hr.units) (pe_own C_saturation (hr.mono (by decide)) (by rfl) (pa_cons (pv 1) (pa_cons (pv 4) pa_nil))) (pv 1) (nomark _)))))) (pss_one (ps_ret pe_bl)) pss_nil) (pss_cons (ps_set (i := 5) sc_law_parts_good.nd rfl (by first | exact .inl rfl | exact .inr rfl) (pe_lc (own := [("row", 8)]) rfl sc_law_parts_good.nd (kSeq K (pv 1)) (blkOk_by (N := nm_law_parts_good) (sc := defScope s_law_parts_good) (by decide +kernel)) (fun _ _ _ _ _ => (pg_name (i := 8) sc_law_parts_good.nd rfl (by first | exact .inl rfl | exact .inr rfl))) (fun _ _ _ _ _ => pts_nil) (fun _ _ _ _ _ => (kMeth K PySem.F.plainAttrs_list PySem.F.slot_list_index PySem.F.type_list_index (kIndex K) (pe_lc (own := [("entry", 9)]) rfl sc_law_parts_good.nd (kSeq K (pv 8)) (blkOk_by (N := nm_law_parts_good) (sc := relS _ (defScope s_law_parts_good)) (by decide +kernel)) (fun _ _ _ _ _ => (pg_name (i := 9) sc_law_parts_good.nd rfl (by first | exact .inl rfl | exact .inr rfl))) (fun _ _ _ _ _ => pts_nil) (fun _ _ _ _ _ => (pe_cmpR (kNe K hr.units) (pv 9) pe_int (nomark _)))) (pa_cons pe_bl pa_nil))))) (pss_cons (ps_if (pt_val (pe_callB (kAnyB K rfl) (by rfl) (S.no "any" (by decide)) boot_any (pa_cons (pe_lc (own := [("row", 8)]) rfl sc_law_parts_good.nd (kSeq K (pv 3)) (blkOk_by (N := nm_law_parts_good) (sc := defScope s_law_parts_good) (by decide +kernel)) (fun _ _ _ _ _ => (pg_name (i := 8) sc_law_parts_good.nd rfl (by first | exact .inl rfl | exact .inr rfl))) (fun _ _ _ _ _ => pts_nil) (fun _ _ _ _ _ => (pe_callB (kAnyB K rfl) (by rfl) (S.no "any" (by decide)) boot_any (pa_cons (pe_lc (own := [("column", 10)]) rfl sc_law_parts_good.nd (kSeq K (pv 5)) (blkOk_by (N := nm_law_parts_good) (sc := relS _ (defScope s_law_parts_good)) (by decide +kernel)) (fun _ _ _ _ _ => (pg_name (i := 10) sc_law_parts_good.nd rfl (by first | exact .inl rfl | exact .inr rfl))) (fun _ _ _ _ _ => pts_nil) (fun _ _ _ _ _ => (pe_cmpR (kNe K hr.units) (pe_ix (kIx K) (pv 8) (pv 10) (fun _ _ => rfl)) pe_int (nomark _)))) pa_nil)))) pa_nil))) (pss_one (ps_ret pe_bl)) pss_nil) (pss_cons (ps_for PassesOwn.never rfl (kSeq K (pv 0)) (pg_name (i := 6) sc_law_parts_good.nd rfl (by first | exact .inl rfl | exact .inr rfl)) (pss_cons (ps_if (pt_val (pe_callB (kAnyB K rfl) (by rfl) (S.no "any" (by decide)) boot_any (pa_cons (pe_lc (own := [("row", 8)]) rfl sc_law_parts_good.nd (kSeq K (pv 1)) (blkOk_by (N := nm_law_parts_good) (sc := defScope s_law_parts_good) (by decide +kernel)) (fun _ _ _ _ _ => (pg_name (i := 8) sc_law_parts_good.nd rfl (by first | exact .inl rfl | exact .inr rfl))) (fun _ _ _ _ _ => pts_nil) (fun _ _ _ _ _ => (pe_cmpR (kNe K hr.units) (pe_own C_law_value (hr.mono (by decide)) (by rfl) (pa_cons (pv 8) (pa_cons (pv 6) pa_nil))) pe_int (nomark _)))) pa_nil))) (pss_one (ps_ret pe_bl)) pss_nil) (pss_one (ps_if (pt_val (pe_callB (kAnyB K rfl) (by rfl) (S.no "any" (by decide)) boot_any (pa_cons (pe_lc (own := [("row", 8)]) rfl sc_law_parts_good.nd (kSeq K (pv 3)) (blkOk_by (N := nm_law_parts_good) (sc := defScope s_law_parts_good) (by decide +kernel)) (fun _ _ _ _ _ => (pg_name (i := 8) sc_law_parts_good.nd rfl (by first | exact .inl rfl | exact .inr rfl))) (fun _ _ _ _ _ => pts_nil) (fun _ _ _ _ _ => (pe_cmpR (kNe K hr.units) (pe_op op_modN (pe_own C_law_value (hr.mono (by decide)) (by rfl) (pa_cons (pv 8) (pa_cons (pv 6) pa_nil))) (pv 2)) pe_int (nomark _)))) pa_nil))) (pss_one (ps_ret pe_bl)) pss_nil)))) (pss_cons (ps_set (i := 7) sc_law_parts_good.nd rfl (by first | exact .inl rfl | exact .inr rfl) (pv 2)) (pss_cons (ps_for PassesOwn.never rfl (kSeq K (pv 3)) (pg_name (i := 8) sc_law_parts_good.nd rfl (by first | exact .inl rfl | exact .inr rfl)) (pss_one (ps_for PassesOwn.never rfl (kSeq K (pv 8)) (pg_name (i := 9) sc_law_parts_good.nd rfl (by first | exact .inl rfl | exact .inr rfl)) (pss_one (ps_set (i := 7) sc_law_parts_good.nd rfl (by first | exact .inl rfl | exact .inr rfl) (pe_own C_law_common (hr.mono (by decide)) (by rfl) (pa_cons (pv 7) (pa_cons (pv 9) pa_nil)))))))) (pss_one (ps_ret (pe_cmpR (kEq K hr.units) (pv 7) pe_int (nomark _))))))))))), ?_⟩)
  · rintro _ _ ⟨_, _, _, _, _, _, rfl, _⟩; rfl
  · rintro _ _ ⟨n, B, Ex, rows, sc, pvx, rfl, ok, rfl⟩
    have n60 := ok.n60
    have l1 := ok.l1
    have l2 := ok.l2
    show RS K false _ [.dat (matT B), .dat (matT Ex), .dat (.int sc), .dat (matT rows), .dat (.int n), .un, .un, .un, .un, .un, .un] _
    refine rs_seq (rs_if (b := false) (rt_or (b := false) (c := false) (rt_not (b := true) (rt_test (re_call (ra_cons (re_var rfl) (ra_cons (re_var rfl) ra_nil)) ok.b1))) (fun z => (nomatch z)) (fun _ => rt_or (b := false) (c := false) (rt_not (b := true) (rt_test (re_call (ra_cons (re_var rfl) (ra_cons (re_var rfl) ra_nil)) ok.b2))) (fun z => (nomatch z)) (fun _ => rt_or (b := false) (c := false) (rt_not (b := true) (rt_test (re_call (ra_cons (re_var rfl) ra_nil) ⟨sc, rfl, rfl⟩))) (fun z => (nomatch z)) (fun _ => (rt_test (re_op (re_var rfl) re_int od_lt)).is (by have := ok.s0; rw [decide_eq_false]; omega))))) (fun z => (nomatch z)) (fun _ => rs_nx ?_))
    refine rs_seq (rs_if (b := false) (rt_or (b := false) (c := false) ((rt_test (re_neI (re_addI (re_cb (ra_cons (re_var (d := matT Ex) rfl) ra_nil) (cd_len rfl)) (re_cb (ra_cons (re_var (d := matT B) rfl) ra_nil) (cd_len rfl))) (re_var rfl))).is (by rw [List.length_map, List.length_map]; simp; omega)) (fun z => (nomatch z)) (fun _ => rt_or (b := false) (c := false) ((rt_test (re_neI (re_cb (ra_cons (re_var (d := matT rows) rfl) ra_nil) (cd_len rfl)) (re_cb (ra_cons (re_var (d := matT B) rfl) ra_nil) (cd_len rfl)))).is (by rw [List.length_map, List.length_map, l2]; simp)) (fun z => (nomatch z)) (fun _ => (rt_test (re_neD (re_call (ra_cons (re_var rfl) (ra_cons (re_var rfl) ra_nil)) ok.sat) (re_var (d := matT Ex) rfl) (shp_mat _).sh (shp_mat _).sh)).is (by rw [eqv_mat]; simp)))) (fun z => (nomatch z)) (fun _ => rs_nx ?_))
    -- the columns
    have colE : Ex.map (fun r => PyData.int (((fstN r).getD 0 : Nat) : Int)) = (psL Ex pvx).map fun (c : Nat) => .int (c : Int) := by
      have := fst_ps ok.rE
      have e2 : Ex.map (fun r => PyData.int (((fstN r).getD 0 : Nat) : Int)) = (Ex.map fstN).map fun o => PyData.int ((o.getD 0 : Nat) : Int) := by rw [List.map_map]; rfl
      rw [e2, this, List.map_map]; rfl
    refine rs_seq (rs_set (d := natsL (psL Ex pvx)) ((RL.re (rl_map Ex vec (fun r => .int (((fstN r).getD 0 : Nat) : Int)) (ri_seq (re_var (d := matT Ex) rfl) rfl) (by omega) (fun r hr => ?_))).is (by unfold natsL; rw [colE])) ?_)
    · obtain ⟨k, hk, rfl⟩ := tk_ex hr
      have f := ok.rE.fst hk
      obtain ⟨q1, q2, q3⟩ := fst_spec f
      have lr := ok.rE.len k hk
      rw [f]
      exact re_indexB (bs := (tk Ex k).map fun x => !decide (x = 0)) (j := pvx k) ((RL.re (rl_map (tk Ex k) .int (fun x => .bool (!decide (x = 0))) (ri_seq (re_var rfl) (sq_vec _)) (by rw [lr]; omega) (fun x hx => re_neI (re_var rfl) re_int))).is (by rw [List.map_map]; rfl)) re_bl (by rw [List.getElem?_map, at_get q1]; show some (!decide (at_ (tk Ex k) (pvx k) = 0)) = _; rw [decide_eq_false q2]; rfl) (fun m hm e => by
        rw [List.getElem?_map, at_get (by omega)] at e
        have e2 : (!decide (at_ (tk Ex k) m = 0)) = true := Option.some.inj e
        rw [decide_eq_true (q3 m hm)] at e2; cases e2)
    show RS K false _ [.dat (matT B), .dat (matT Ex), .dat (.int sc), .dat (matT rows), .dat (.int n), .dat (natsL (psL Ex pvx)), .un, .un, .un, .un, .un] _
    have pl : (psL Ex pvx).length = Ex.length := by unfold psL; rw [List.length_map, List.length_range]
    have pm : ∀ c ∈ psL Ex pvx, ∃ i, i < Ex.length ∧ pvx i = c := fun c hc => by
      unfold psL at hc
      obtain ⟨i, hi, e⟩ := List.mem_map.mp hc
      exact ⟨i, List.mem_range.mp hi, e⟩
    refine rs_seq (rs_if (b := false) ((rt_test (re_cb (ra_cons (RL.re (rl_map rows vec (fun r => .bool ((psL Ex pvx).any fun c => !decide (at_ r c = 0))) (ri_seq (re_var (d := matT rows) rfl) rfl) (by omega) (fun r hr => re_cb (ra_cons (RL.re (rl_map (psL Ex pvx) (fun (c : Nat) => .int (c : Int)) (fun c => .bool (!decide (at_ r c = 0))) (ri_seq (re_var (d := natsL (psL Ex pvx)) rfl) rfl) (by omega) (fun c hc => ?_))) ra_nil) cd_anyM))) ra_nil) (cd_anyM (xs := rows) (g := fun r => (psL Ex pvx).any fun c => !decide (at_ r c = 0))))).is ?_) (fun z => (nomatch z)) (fun _ => rs_nx ?_))
    · obtain ⟨i, hi, rfl⟩ := pm c hc
      exact re_neI (re_at (re_var rfl) (sq_vec r) (re_var rfl) (by rw [(ok.zr r hr).1]; exact ok.rE.lt i hi)) re_int
    · rw [List.any_eq_false]
      intro r hr h
      obtain ⟨c, hc, h⟩ := List.any_eq_true.mp h
      obtain ⟨i, hi, rfl⟩ := pm c hc
      rw [(ok.zr r hr).2 i hi] at h
      exact absurd h (by decide)
    show RS K false _ [.dat (matT B), .dat (matT Ex), .dat (.int sc), .dat (matT rows), .dat (.int n), .dat (natsL (psL Ex pvx)), .un, .un, .un, .un, .un] _
    have s0 := ok.s0
    refine rs_seq (rs_for (ds := B.map vec) (ri_seq (re_var (d := matT B) rfl) rfl) (fun i Γ => ∃ s6, Γ = [.dat (matT B), .dat (matT Ex), .dat (.int sc), .dat (matT rows), .dat (.int n), .dat (natsL (psL Ex pvx)), s6, .un, .un, .un, .un]) ⟨_, rfl⟩ (fun i d Γ hd hW => ?_) (fun Γ hW => ?_))
    · obtain ⟨s6, rfl⟩ := hW
      obtain ⟨hi, rfl⟩ := tk_getD hd
      have hv := tk_mem hi
      generalize tk B i = v at hv
      refine ⟨_, _, rg_name, by decide, ?_⟩
      show RS K false _ [.dat (matT B), .dat (matT Ex), .dat (.int sc), .dat (matT rows), .dat (.int n), .dat (natsL (psL Ex pvx)), .dat (vec v), .un, .un, .un, .un] _
      refine rs_seq (rs_if (b := false) ((rt_test (re_cb (ra_cons (RL.re (rl_map Ex vec (fun r => .bool (!decide (dotL r v = 0))) (ri_seq (re_var (d := matT Ex) rfl) rfl) (by omega) (fun r hr => re_neI (re_call (ra_cons (re_var rfl) (ra_cons (re_var rfl) ra_nil)) ⟨r, v, rfl, by obtain ⟨k, hk, rfl⟩ := tk_ex hr; rw [ok.rE.len k hk]; omega, (ok.ex v hv r hr).1, rfl⟩) re_int))) ra_nil) (cd_anyM (xs := Ex) (g := fun r => !decide (dotL r v = 0))))).is ?_) (fun z => (nomatch z)) (fun _ => rs_nx ?_))
      · rw [List.any_eq_false]
        intro r hr
        rw [(ok.ex v hv r hr).2]; decide
      refine rs_if (b := false) ((rt_test (re_cb (ra_cons (RL.re (rl_map rows vec (fun r => .bool (!decide ((dotL r v).fmod sc = 0))) (ri_seq (re_var (d := matT rows) rfl) rfl) (by omega) (fun r hr => re_neI (re_modI (re_call (ra_cons (re_var rfl) (ra_cons (re_var rfl) ra_nil)) ⟨r, v, rfl, by rw [(ok.zr r hr).1]; omega, (ok.rw v hv r hr).1, rfl⟩) (re_var rfl) (by omega)) re_int))) ra_nil) (cd_anyM (xs := rows) (g := fun r => !decide ((dotL r v).fmod sc = 0))))).is ?_) (fun z => (nomatch z)) (fun _ => rs_nx ⟨_, rfl⟩)
      rw [List.any_eq_false]
      intro r hr
      have := Int.emod_eq_zero_of_dvd (ok.rw v hv r hr).2
      rw [Int.fmod_eq_emod_of_nonneg _ (by omega), this]; decide
    · obtain ⟨s6, rfl⟩ := hW
      refine rs_seq (rs_set (re_var rfl) ?_)
      show RS K false _ [.dat (matT B), .dat (matT Ex), .dat (.int sc), .dat (matT rows), .dat (.int n), .dat (natsL (psL Ex pvx)), s6, .dat (.int sc), .un, .un, .un] _
      refine rs_seq (rs_for (ds := rows.map vec) (ri_seq (re_var (d := matT rows) rfl) rfl) (fun i Γ => ∃ s8 s9, Γ = [.dat (matT B), .dat (matT Ex), .dat (.int sc), .dat (matT rows), .dat (.int n), .dat (natsL (psL Ex pvx)), s6, .dat (.int (gcdA sc (rows.take i).flatten)), s8, s9, .un]) ⟨_, _, rfl⟩ (fun i d Γ hd hW => ?_) (fun Γ hW => ?_))
      · obtain ⟨s8, s9, rfl⟩ := hW
        obtain ⟨hi, rfl⟩ := tk_getD hd
        refine ⟨_, _, rg_name, by decide, ?_⟩
        show RS K false _ [.dat (matT B), .dat (matT Ex), .dat (.int sc), .dat (matT rows), .dat (.int n), .dat (natsL (psL Ex pvx)), s6, .dat (.int (gcdA sc (rows.take i).flatten)), .dat (vec (tk rows i)), s9, .un] _
        have et : (rows.take (i + 1)).flatten = (rows.take i).flatten ++ tk rows i := by
          rw [List.take_add_one, List.getElem?_eq_getElem hi, List.flatten_append]
          unfold tk; rw [List.getD_eq_getElem?_getD, List.getElem?_eq_getElem hi]; simp
        have ag := gcdA_app sc (rows.take i).flatten (tk rows i)
        rw [← et] at ag
        rw [ag]
        generalize gcdA sc (rows.take i).flatten = c
        generalize tk rows i = r
        refine rs_for (ds := r.map .int) (ri_seq (re_var (d := vec r) rfl) (sq_vec r)) (fun j Γ => ∃ s9, Γ = [.dat (matT B), .dat (matT Ex), .dat (.int sc), .dat (matT rows), .dat (.int n), .dat (natsL (psL Ex pvx)), s6, .dat (.int (gcdA c (r.take j))), .dat (vec r), s9, .un]) ⟨_, rfl⟩ (fun j d Γ hd hW => ?_) (fun Γ hW => ?_)
        · obtain ⟨s9, rfl⟩ := hW
          rw [List.getElem?_map] at hd
          obtain ⟨y, hy, rfl⟩ := Option.map_eq_some_iff.mp hd
          refine ⟨_, _, rg_name, by decide, ?_⟩
          refine rs_set (re_call (ra_cons (re_var rfl) (ra_cons (re_var rfl) ra_nil)) ⟨_, y, rfl, rfl⟩) ?_
          refine ⟨.dat (.int y), ?_⟩
          rw [List.take_add_one, hy, gcdA_app]
          rfl
        · obtain ⟨s9, rfl⟩ := hW
          rw [List.length_map, List.take_length]
          exact ⟨_, _, rfl⟩
      · obtain ⟨s8, s9, rfl⟩ := hW
        rw [List.length_map, List.take_length, ok.g1]
        exact rs_ret ((re_eqI (re_var rfl) re_int).is (by simp)) rfl
end K87

namespace K87
open PySem PySem.Spec PyProof.Rows L2 DL
open PySem.Builtin.Int (intBits)
variable {P : Program} {w : World} {K : PySem.W.Frag} {mg : Str → Option Value} {base : Heap}
/-! ### the law k81 -/
theorem par5 {n r : Nat} (h1 : 1 ≤ n) (h5 : n ≤ 5) (hr : r ≤ n) : Par n r 20 (20 + 21 * (r - 1)) := by
  have num : ∀ n, n ≤ 5 → ∀ r, r ≤ 5 → 1 ≤ n → r ≤ n → ParN n r 20 (20 + 21 * (r - 1)) 1400 7200 3200 70000 := by decide +kernel
  exact par_of (num n h5 r (by omega) h1 hr) fun m hm => fits5 (by omega)
theorem f_contains_lat {n e c : Nat} {B : List Vc} {pv : Nat → Nat} {v : Vc} (h : RB n B pv) (hn : n ≤ 7) (hl : B.length ≤ n) (hb : ∀ r ∈ B, Bd n (2 ^ e) r) (hv : Bd n (2 ^ c) v) (hm : Lat (Gr B) (at_ v)) (hs : c + 7 * (e + 1) < 60000000) : F_contains [matT B, vec v] (.bool true) := by
  have ce := cow_end h hv.1 hm
  have mk : ∀ k, k ≤ B.length → k * (e + 1) ≤ 7 * (e + 1) := fun k hk => Nat.mul_le_mul_right _ (by omega)
  refine ⟨_, _, vec (coL B v), rfl, ⟨n, B, v, rfl, ⟨by omega, by omega, fun k hk => ⟨pv k, h.fst hk, h.lt k hk, by have := h.pos k hk; omega, vn_of (e := e) (by omega) (hb _ (tk_mem hk))⟩⟩, fun k hk => ⟨vn_of (by have := mk k hk; omega) (cow_bd h hb hv k hk), fun hk2 => ?_⟩, ?_⟩, rfl⟩
  · exact sm_pow (s := c + k * (e + 1)) (by have := mk k hk; omega) (Nat.le_trans (cof_le h hk2) ((cow_bd h hb hv k hk).2 _))
  · unfold coD; rw [ce]
theorem law_data {n : Nat} {B : List Vc} (n1 : 1 ≤ n) (n5 : n ≤ 5) (hb : BkR n B) : ∃ (Ex rows : List Vc) (sc bo : Int) (pvx : Nat → Nat) (wv : Vc → Vc),
    (∀ bd, FrzOk 8 bd → frz bd = matT B → F_represented [bd, .str "dual", .int (n : Int)] (dualD Ex sc rows)) ∧ PartsOk n B Ex rows sc pvx ∧ bo ≠ 0 ∧
    (∀ k, k < n → F_law_cleared [matT Ex, vec (unitL n (k : Int))] (.tuple [vec (wv (unitL n (k : Int))), .int bo]) ∧ (wv (unitL n (k : Int))).length = n ∧ (∀ x ∈ wv (unitL n (k : Int)), IntMulOk sc x ∧ bo ∣ sc * x) ∧ F_contains [matT rows, vec ((wv (unitL n (k : Int))).map fun x => (sc * x).fdiv bo)] (.bool true)) ∧
    (∀ rd, FrzOk 8 rd → frz rd = dualD Ex sc rows → F_basis_of [rd, .int (n : Int)] (matT B)) ∧ TupOk 8 (matT B) ∧ tnum 8 (matT B) ≤ 6 ∧ TupOk 8 (dualD Ex sc rows) ∧ tnum 8 (dualD Ex sc rows) ≤ 100 := by
  obtain ⟨⟨pvB, rB⟩, bB, sB⟩ := hb
  have hB := rb_hb rB
  have lB := hB.le
  have p := par5 n1 n5 lB
  obtain ⟨Ex, St, pvx, cs, inn, pvi, d2⟩ := du_ex p rfl hB bB sB
  obtain ⟨sc, rows, r, fr⟩ := f_repr p n1 bB d2
  have d := d2.d
  obtain ⟨pvr, rR⟩ := r.hR.rb
  have rk := d2.rk
  have lc := d2.lc
  have lr := dl_rank d (by have := r.s0; omega) r.hR
  have exl : Ex.length ≤ 5 := by omega
  have e1 : kbk n B.length (20 + 21 * (B.length - 1)) ≤ 828 ∧ wb n 20 ≤ 6304 ∧ n * (n * (20 + 5)) ≤ 625 := by
    have num : ∀ n, n ≤ 5 → ∀ r, r ≤ 5 → r ≤ n → kbk n r (20 + 21 * (r - 1)) ≤ 828 ∧ wb n 20 ≤ 6304 ∧ n * (n * (20 + 5)) ≤ 625 := by decide +kernel
    exact num n n5 B.length (by omega) lB
  have bE : ∀ x ∈ Ex, Bd n (2 ^ 828) x := fun x hx => (d2.bE x hx).mono (pow_mono2 e1.1)
  have bR : ∀ x ∈ rows, Bd n (2 ^ 6304) x := fun x hx => (r.bR x hx).mono (pow_mono2 e1.2.1)
  have bs : sc.natAbs ≤ 2 ^ 625 := Nat.le_trans r.sb (pow_mono2 e1.2.2)
  have bB' : ∀ x ∈ B, Bd n (2 ^ 104) x := fun x hx => (bB x hx).mono (pow_mono2 (by omega))
  have b0 := bpr_pos d.rE Ex.length (Nat.le_refl _)
  have bp := fun k hk => bpr_bd (pvx := pvx) bE k hk
  have vm : ∀ {e f : Nat} {u v : Vc}, e < 60000000 → f < 60000000 → Bd n (2 ^ e) u → Bd n (2 ^ f) v → ∀ q ∈ List.zip u v, IntMulOk q.1 q.2 := fun he hf hu hv q hq => ((vn_of he hu).2 _ (List.of_mem_zip hq).1).mul ((vn_of hf hv).2 _ (List.of_mem_zip hq).2)
  refine ⟨Ex, rows, sc, bpr Ex pvx Ex.length, pvx, fun v => (clr Ex v Ex.length).1, fr, ⟨by omega, f_basis (by omega) d.hE, f_basis (by omega) r.hR, r.s0, by omega, by omega, f_sat p d2, d.rE, fun x hx => ⟨r.hR.len hx, (r.hR.mem hx).2.1⟩, fun v hv x hx => ⟨vm (e := 828) (f := 104) (by decide) (by decide) (bE x hx) (bB' v hv), ?_⟩, fun v hv x hx => ⟨vm (e := 6304) (f := 104) (by decide) (by decide) (bR x hx) (bB' v hv), ?_⟩, by rw [gcdA_norm r.s0]; exact r.g1⟩, by omega, fun k hk => ?_, fun rd h1 h2 => f_basis_of p sB r h1 h2, tup_mat 5 (by omega) (fun x hx => by rw [hB.len hx]; omega), by rw [tnum_mat]; omega, ?_, ?_⟩
  · rw [val_dot (d.hE.len hx) (hB.len hv)]
    exact (in_kerker d.hB d.hE (hB.mem hv)).2 x hx
  · rw [lsv_val (r.hR.len hx) (hB.len hv)]
    exact (r.hR.mem hx).2.2 _ (hB.mem hv)
  · have lu : (unitL n (k : Int)).length = n := unit_len
    have bu : Bd n (2 ^ 0) (unitL n (k : Int)) := ⟨lu, fun j => by rw [at_unit]; split <;> simp⟩
    have cb := fun m hm => clr_bd bE bu m hm
    obtain ⟨cg1, cg2, _⟩ := clr_gen d.rE lu Ex.length (Nat.le_refl _)
    obtain ⟨q1, q2⟩ := clr_quo d r.it r.hR lu
    have m829 : ∀ m, m ≤ Ex.length → m * 829 ≤ 4145 := fun m hm => by have := Nat.mul_le_mul_right 829 (Nat.le_trans hm exl); omega
    have m828 : ∀ m, m ≤ Ex.length → m * 828 ≤ 4140 := fun m hm => by have := Nat.mul_le_mul_right 828 (Nat.le_trans hm exl); omega
    have cw : Bd n (2 ^ 4145) (clr Ex (unitL n (k : Int)) Ex.length).1 := (cb _ (Nat.le_refl _)).mono (pow_mono2 (by have := m829 _ (Nat.le_refl _); omega))
    refine ⟨⟨n, Ex, _, rfl, ⟨by omega, by omega, fun m hm => ⟨pvx m, d.rE.fst hm, d.rE.lt m hm, by have := d.rE.pos m hm; omega, vn_of (e := 828) (by decide) (bE _ (tk_mem hm))⟩⟩, fun m hm => ⟨vn_of (e := 4145) (by decide) ((cb m hm).mono (pow_mono2 (by have := m829 m hm; omega))), ?_⟩, by rw [cg1]⟩, cg2, fun x hx => ⟨(sm_pow (s := 625) (by decide) bs).mul ((vn_of (e := 4145) (by decide) cw).2 x hx), q1 x hx⟩, ?_⟩
    · rw [(clr_gen d.rE lu m hm).1]
      exact sm_pow (s := 4140) (by decide) (Nat.le_trans (bp m hm) (pow_mono2 (m828 m hm)))
    · refine f_contains_lat (e := 6304) (c := 4770) rR (by omega) r.hR.le bR ⟨by rw [List.length_map]; exact cg2, fun j => ?_⟩ q2 (by decide)
      by_cases hj : j < (clr Ex (unitL n (k : Int)) Ex.length).1.length
      · have h2 : at_ ((clr Ex (unitL n (k : Int)) Ex.length).1.map fun x => (sc * x).fdiv (bpr Ex pvx Ex.length)) j = (sc * at_ (clr Ex (unitL n (k : Int)) Ex.length).1 j).fdiv (bpr Ex pvx Ex.length) := by
          unfold at_; rw [List.getD_eq_getElem?_getD, List.getD_eq_getElem?_getD, List.getElem?_map, List.getElem?_eq_getElem hj]; rfl
        rw [h2]
        refine Nat.le_trans (natAbs_fdiv_le _ _) ?_
        rw [Int.natAbs_mul]
        refine Nat.le_trans (Nat.mul_le_mul bs (cw.2 j)) ?_
        rw [← Nat.pow_add]
        exact Nat.le_refl _
      · have o : ∀ u : Vc, u.length ≤ j → (at_ u j).natAbs ≤ 2 ^ 4770 := fun u hu => by rw [at_out hu]; simp
        exact o _ (by rw [List.length_map]; exact Nat.le_of_not_lt hj)
  · show 4 ≤ 100 ∧ ∀ x ∈ [PyData.str "dual", matT Ex, .int sc, matT rows], TupOk 7 x
    refine ⟨by decide, fun x hx => ?_⟩
    simp only [List.mem_cons, List.not_mem_nil, or_false] at hx
    rcases hx with rfl | rfl | rfl | rfl
    · exact True.intro
    · exact tup_mat 4 (by omega) fun x hx => by rw [d.hE.len hx]; omega
    · exact True.intro
    · exact tup_mat 4 (by omega) fun x hx => by rw [r.hR.len hx]; omega
  · show ([PyData.str "dual", matT Ex, .int sc, matT rows].map (tnum 7)).sum + 1 ≤ 100
    have t1 : tnum 7 (matT Ex) = Ex.length + 1 := tnum_mat 4 Ex
    have t2 : tnum 7 (matT rows) = rows.length + 1 := tnum_mat 4 rows
    have t3 : tnum 7 (PyData.str "dual") = 0 := rfl
    have t4 : tnum 7 (PyData.int sc) = 0 := rfl
    rw [List.map_cons, List.map_cons, List.map_cons, List.map_cons, List.map_nil, List.sum_cons, List.sum_cons, List.sum_cons, List.sum_cons, List.sum_nil, t1, t2, t3, t4]
    omega
abbrev s_law : Stmt := topS 58
abbrev nm_law : List Str := ["script", "stream", "size", "basis", "found", "at", "word", "exact", "scale", "rows", "vector", "factor", "entry", "k"]
theorem sc_law : FnScope nm_law ["script"] (defScope s_law) := ⟨rfl, rfl, rfl, by decide +kernel, rfl, by decide +kernel, by decide +kernel⟩
def stm0 (cs : List Int) : Stm := ⟨cs, 0, 0, 0⟩
theorem law_body (S : Sur P mg base) (C_law_draw : T_law_draw P w K mg base) (C_law_basis : T_law_basis P w K mg base) (C_law_listed : T_law_listed P w K mg base) (C_represented : T_represented P w K mg base) (C_law_parts_good : T_law_parts_good P w K mg base) (C_law_cleared : T_law_cleared P w K mg base) (C_contains : T_contains P w K mg base) (C_basis_of : T_basis_of P w K mg base)
    (f : Addr) (cdv : Value) (s : Shared) (H : Hp) (hr : Room 60 (callerA.deeper (envOfC "law" (defScope s_law) s.heap.objs.size f cdv))) :
    ∃ t, PSs (cxOf CX0 P w K mg base nm_law "law" (defScope s_law) f cdv callerA [] s H (fun _ _ _ => False)).nox (defBody s_law) t ∧
      ∀ cs : List Int, RS K false t (gst nm_law [.list (cs.map .int)]) ⟨fun _ => False, fun d' _ => d' = .bool true, fun _ => False, fun _ => False⟩ := by
  refine ⟨_, (pss_cons (ps_set (i := 1) sc_law.nd rfl (by first | exact .inl rfl | exact .inr rfl) (pe_lst (pa_cons (pe_callTy (kList K) (by rfl) (S.no "list" (by decide)) boot_list (pa_cons (pv 0) pa_nil)) (pa_cons pe_int (pa_cons pe_int (pa_cons pe_int pa_nil)))))) (pss_cons (ps_set (i := 2) sc_law.nd rfl (by first | exact .inl rfl | exact .inr rfl) (pe_op (kAdd K) pe_int (pe_own C_law_draw (hr.mono (by decide)) (by rfl) (pa_cons (pv 1) (pa_cons pe_int pa_nil))))) (pss_cons (ps_set (i := 3) sc_law.nd rfl (by first | exact .inl rfl | exact .inr rfl) (pe_own C_law_basis (hr.mono (by decide)) (by rfl) (pa_cons (pv 1) (pa_cons (pv 2) pa_nil)))) (pss_cons (ps_set (i := 4) sc_law.nd rfl (by first | exact .inl rfl | exact .inr rfl) (pe_own C_represented (hr.mono (by decide)) (by rfl) (pa_cons (pe_own C_law_listed (hr.mono (by decide)) (by rfl) (pa_cons (pv 1) (pa_cons (pv 3) pa_nil))) (pa_cons pe_str (pa_cons (pv 2) pa_nil))))) (pss_cons (ps_if (PW.pt (pw_or (pt_not (pt_val (pe_callB (kIsi K) (by rfl) (S.no "isinstance" (by decide)) boot_isinstance (pa_cons (pv 4) (pa_cons (pe_bltn (v := .ty "tuple") (by rfl) (S.no "tuple" (by decide)) boot_tuple rfl) pa_nil))))) (pw_or (pt_cmpR (kNe K hr.units) (pe_callB (kLen K) (by rfl) (S.no "len" (by decide)) boot_len (pa_cons (pv 4) pa_nil)) pe_int (nomark _)) (pw_or1 (pt_cmpR (kNe K hr.units) (pe_ix (kIx K) (pv 4) pe_int (fun _ _ => rfl)) pe_str (nomark _)))))) (pss_one (ps_ret pe_bl)) pss_nil) (pss_cons (ps_asg (pv 4) (kAny K (n := 4) rfl (pgs_cons (pg_name (i := 6) sc_law.nd rfl (by first | exact .inl rfl | exact .inr rfl)) (pgs_cons (pg_name (i := 7) sc_law.nd rfl (by first | exact .inl rfl | exact .inr rfl)) (pgs_cons (pg_name (i := 8) sc_law.nd rfl (by first | exact .inl rfl | exact .inr rfl)) (pgs_cons (pg_name (i := 9) sc_law.nd rfl (by first | exact .inl rfl | exact .inr rfl)) pgs_nil)))))) (pss_cons (ps_if (pt_not (pt_val (pe_own C_law_parts_good (hr.mono (by decide)) (by rfl) (pa_cons (pv 3) (pa_cons (pv 7) (pa_cons (pv 8) (pa_cons (pv 9) (pa_cons (pv 2) pa_nil)))))))) (pss_one (ps_ret pe_bl)) pss_nil) (pss_cons (ps_for PassesOwn.never rfl (pi_range1 (by rfl) (S.no "range" (by decide)) (pa_cons (pv 2) pa_nil)) (pg_name (i := 5) sc_law.nd rfl (by first | exact .inl rfl | exact .inr rfl)) (pss_cons (ps_asg (pe_own C_law_cleared (hr.mono (by decide)) (by rfl) (pa_cons (pv 7) (pa_cons (kTuple K (by rfl) (S.no "tuple" (by decide)) (pe_lc (own := [("k", 13)]) rfl sc_law.nd (pi_range1 (by rfl) (S.no "range" (by decide)) (pa_cons (pv 2) pa_nil)) (blkOk_by (N := nm_law) (sc := defScope s_law) (by decide +kernel)) (fun _ _ _ _ _ => (pg_name (i := 13) sc_law.nd rfl (by first | exact .inl rfl | exact .inr rfl))) (fun _ _ _ _ _ => pts_nil) (fun _ _ _ _ _ => (pe_callTy call_int1 (by rfl) (S.no "int" (by decide)) boot_int (pa_cons (pe_cmpR (kEq K hr.units) (pv 5) (pv 13) (nomark _)) pa_nil))))) pa_nil))) (kAny K (n := 2) rfl (pgs_cons (pg_name (i := 10) sc_law.nd rfl (by first | exact .inl rfl | exact .inr rfl)) (pgs_cons (pg_name (i := 11) sc_law.nd rfl (by first | exact .inl rfl | exact .inr rfl)) pgs_nil)))) (pss_cons (ps_if (pt_val (pe_callB (kAnyB K rfl) (by rfl) (S.no "any" (by decide)) boot_any (pa_cons (pe_lc (own := [("entry", 12)]) rfl sc_law.nd (kSeq K (pv 10)) (blkOk_by (N := nm_law) (sc := defScope s_law) (by decide +kernel)) (fun _ _ _ _ _ => (pg_name (i := 12) sc_law.nd rfl (by first | exact .inl rfl | exact .inr rfl))) (fun _ _ _ _ _ => pts_nil) (fun _ _ _ _ _ => (pe_cmpR (kNe K hr.units) (pe_op op_modN (pe_op (kMul K) (pv 8) (pv 12)) (pv 11)) pe_int (nomark _)))) pa_nil))) (pss_one (ps_ret pe_bl)) pss_nil) (pss_one (ps_if (pt_not (pt_val (pe_own C_contains (hr.mono (by decide)) (by rfl) (pa_cons (pv 9) (pa_cons (kTuple K (by rfl) (S.no "tuple" (by decide)) (pe_lc (own := [("entry", 12)]) rfl sc_law.nd (kSeq K (pv 10)) (blkOk_by (N := nm_law) (sc := defScope s_law) (by decide +kernel)) (fun _ _ _ _ _ => (pg_name (i := 12) sc_law.nd rfl (by first | exact .inl rfl | exact .inr rfl))) (fun _ _ _ _ _ => pts_nil) (fun _ _ _ _ _ => (pe_op (op_fdivX (py_of S.seer S.tree hr)) (pe_op (kMul K) (pv 8) (pv 12)) (pv 11))))) pa_nil))))) (pss_one (ps_ret pe_bl)) pss_nil))))) (pss_one (ps_ret (pe_cmpR (kEq K hr.units) (pe_own C_basis_of (hr.mono (by decide)) (by rfl) (pa_cons (pe_own C_law_listed (hr.mono (by decide)) (by rfl) (pa_cons (pv 1) (pa_cons (pv 4) pa_nil))) (pa_cons (pv 2) pa_nil))) (pv 3) (nomark _)))))))))))), fun cs => ?_⟩
  show RS K false _ [.dat (lsv cs), .un, .un, .un, .un, .un, .un, .un, .un, .un, .un, .un, .un, .un] _
  refine rs_seq (rs_newStm (i := 1) (cs := cs) (a := 0) (b := 0) (c := 0) rfl ?_)
  show RS K false _ [.dat (lsv cs), stmS (stm0 cs), .un, .un, .un, .un, .un, .un, .un, .un, .un, .un, .un, .un] _
  have hs0 : SOk 0 (stm0 cs) := ⟨by show (0 : Int) ≤ 0; omega, by show (0 : Int) < 2147483647; omega, by show (0 : Int) ≤ 0; omega, by show (0 : Int) ≤ 0; omega⟩
  generalize stm0 cs = s0 at hs0
  obtain ⟨z0, z1⟩ := drV_rng s0 (show (0 : Int) < 5 by decide)
  refine rs_seq (rs_set (re_addI re_int (re_draw (i := 1) (s := s0) rfl re_int rfl (by decide) hs0 (by decide))) ?_)
  have hs1 := sok_dr 5 hs0
  generalize drV s0 5 = zi at z0 z1
  generalize drS s0 5 = s1 at hs1
  obtain ⟨n, hn⟩ := Int.eq_ofNat_of_zero_le (show (0 : Int) ≤ 1 + zi by omega)
  have hn1 : 1 ≤ n := by omega
  have hn5 : n ≤ 5 := by omega
  show RS K false _ [.dat (lsv cs), stmS s1, .dat (.int (1 + zi)), .un, .un, .un, .un, .un, .un, .un, .un, .un, .un, .un] _
  rw [hn]
  refine rs_seq (rs_callD (i := 1) rfl (ra_cons (re_var rfl) ra_nil) rfl rfl (s1, n, 1) ⟨rfl, rfl, hn5, hs1, show (1 : Nat) ≤ 1000 by decide⟩ (fun d sl' hG => ?_))
  obtain ⟨s2, B, rfl, rfl, hB, hs2⟩ := hG
  have hB : BkR n B := hB
  have hs2 : SOk 101 s2 := hs2
  show RS K false _ [.dat (lsv cs), stmS s2, .dat (.int n), .dat (matT B), .un, .un, .un, .un, .un, .un, .un, .un, .un, .un] _
  obtain ⟨Ex, rows, sc, bo, pvx, wv, t1, t2, t3, t4, t5, u1, v1, u2, v2⟩ := law_data hn1 hn5 hB
  obtain ⟨x1, x2, x3⟩ := lsd_ok 8 (matT B) s2 101 u1 hs2
  refine rs_seq (rs_set (re_call (ra_cons (re_callO (i := 1) (sl := stmS s2) rfl (ra_cons (re_var rfl) ra_nil) rfl rfl ⟨matT B, s2, 101, rfl, rfl, u1, hs2, by omega, rfl, rfl⟩) (ra_cons re_str (ra_cons (re_var rfl) ra_nil))) (t1 _ x2 x1)) ?_)
  have hs3 := x3.mono (show 101 + tnum 8 (matT B) ≤ 200 by omega)
  generalize (lsd (matT B) s2).2 = s3 at hs3
  show RS K false _ [.dat (lsv cs), stmS s3, .dat (.int n), .dat (matT B), .dat (dualD Ex sc rows), .un, .un, .un, .un, .un, .un, .un, .un, .un] _
  refine rs_seq (rs_if (b := false) (rt_or (b := false) (c := false) (rt_not (b := true) (rt_test (re_isi (d := dualD Ex sc rows) (b := true) (re_var rfl) (kit_ty (by decide +kernel))))) (fun z => (nomatch z)) (fun _ => rt_or (b := false) (c := false) ((rt_test (re_neI (re_cb (ra_cons (re_var (d := dualD Ex sc rows) rfl) ra_nil) (cd_len rfl)) re_int)).is (by simp)) (fun z => (nomatch z)) (fun _ => (rt_test (re_neD (d1 := .str "dual") (re_ixT (re_var (d := dualD Ex sc rows) rfl) re_int rfl) re_str (shp_str (n := 0)).sh (shp_str (n := 0)).sh)).is (by simp [PyData.eqv])))) (fun z => (nomatch z)) (fun _ => rs_nx ?_))
  refine rs_seq (rs_setG (re_var (d := dualD Ex sc rows) rfl) (rg_anyT (rgs_cons rg_name (rgs_cons rg_name (rgs_cons rg_name (rgs_cons rg_name rgs_nil))))) ?_)
  show RS K false _ [.dat (lsv cs), stmS s3, .dat (.int n), .dat (matT B), .dat (dualD Ex sc rows), .un, .dat (.str "dual"), .dat (matT Ex), .dat (.int sc), .dat (matT rows), .un, .un, .un, .un] _
  refine rs_seq (rs_if (b := false) (rt_not (b := true) (rt_test (re_call (ra_cons (re_var rfl) (ra_cons (re_var rfl) (ra_cons (re_var rfl) (ra_cons (re_var rfl) (ra_cons (re_var rfl) ra_nil))))) ⟨n, B, Ex, rows, sc, pvx, rfl, t2, rfl⟩))) (fun z => (nomatch z)) (fun _ => rs_nx ?_))
  refine rs_seq (rs_for (ds := (List.range n).map fun (i : Nat) => .int (i : Int)) (ri_range (n := n) (ra_cons (re_var rfl) ra_nil) (by omega)) (fun i Γ => ∃ s5 s10 s11, Γ = [.dat (lsv cs), stmS s3, .dat (.int n), .dat (matT B), .dat (dualD Ex sc rows), s5, .dat (.str "dual"), .dat (matT Ex), .dat (.int sc), .dat (matT rows), s10, s11, .un, .un]) ⟨_, _, _, rfl⟩ (fun i d Γ hd hW => ?_) (fun Γ hW => ?_))
  · obtain ⟨s5, s10, s11, rfl⟩ := hW
    have hi : i < n := by have := (List.getElem?_eq_some_iff.mp hd).1; simpa using this
    have ed : d = .int (i : Int) := by
      rw [List.getElem?_map, List.getElem?_range hi] at hd
      exact (Option.some.inj hd).symm
    subst ed
    obtain ⟨y1, y2, y3, y4⟩ := t4 i hi
    refine ⟨_, _, rg_name, by decide, ?_⟩
    show RS K false _ [.dat (lsv cs), stmS s3, .dat (.int n), .dat (matT B), .dat (dualD Ex sc rows), .dat (.int (i : Int)), .dat (.str "dual"), .dat (matT Ex), .dat (.int sc), .dat (matT rows), s10, s11, .un, .un] _
    refine rs_seq (rs_setG (re_call (ra_cons (re_var rfl) (ra_cons ((re_tupleL (RL.re (rl_map (List.range n) (fun (i : Nat) => .int (i : Int)) (fun (k : Nat) => .int (if decide ((i : Int) = (k : Int)) = true then 1 else 0)) (ri_range (ra_cons (re_var rfl) ra_nil) (by omega)) (by simp; omega) (fun x hx => re_cb (ra_cons (re_eqI (re_var rfl) (re_var rfl)) ra_nil) cd_intB)))).is (d2 := vec (unitL n (i : Int))) (by
      unfold vec unitL
      rw [List.map_map]
      congr 1
      exact List.map_congr_left fun k _ => by
        show PyData.int (if decide ((i : Int) = (k : Int)) = true then 1 else 0) = PyData.int (if (k : Int) = (i : Int) then 1 else 0)
        by_cases e : (i : Int) = (k : Int)
        · rw [if_pos (decide_eq_true e), if_pos e.symm]
        · rw [if_neg (by rw [decide_eq_false e]; exact Bool.false_ne_true), if_neg fun q => e q.symm])) ra_nil)) y1) (rg_anyT (rgs_cons rg_name (rgs_cons rg_name rgs_nil))) ?_)
    generalize wv (unitL n (i : Int)) = wx at y2 y3 y4
    show RS K false _ [.dat (lsv cs), stmS s3, .dat (.int n), .dat (matT B), .dat (dualD Ex sc rows), .dat (.int (i : Int)), .dat (.str "dual"), .dat (matT Ex), .dat (.int sc), .dat (matT rows), .dat (vec wx), .dat (.int bo), .un, .un] _
    refine rs_seq (rs_if (b := false) ((rt_test (re_cb (ra_cons (RL.re (rl_map wx .int (fun x => .bool (!decide ((sc * x).fmod bo = 0))) (ri_seq (re_var (d := vec wx) rfl) (sq_vec wx)) (by omega) (fun x hx => re_neI (re_modI (re_mulI (re_var rfl) (re_var rfl) (y3 x hx).1) (re_var rfl) t3) re_int))) ra_nil) (cd_anyM (xs := wx) (g := fun x => !decide ((sc * x).fmod bo = 0))))).is ?_) (fun z => (nomatch z)) (fun _ => rs_nx ?_))
    · rw [List.any_eq_false]
      intro x hx
      have : (sc * x).fmod bo = 0 := Int.fmod_eq_zero_of_dvd (y3 x hx).2
      rw [this]; decide
    exact rs_if (b := false) (rt_not (b := true) (rt_test (re_call (ra_cons (re_var rfl) (ra_cons ((re_tupleL (RL.re (rl_map wx .int (fun x => .int ((sc * x).fdiv bo)) (ri_seq (re_var (d := vec wx) rfl) (sq_vec wx)) (by omega) (fun x hx => re_fdivI (re_mulI (re_var rfl) (re_var rfl) (y3 x hx).1) (re_var rfl) t3)))).is (d2 := vec (wx.map fun x => (sc * x).fdiv bo)) (by unfold vec; rw [List.map_map]; rfl)) ra_nil)) y4))) (fun z => (nomatch z)) (fun _ => rs_nx ⟨_, _, _, rfl⟩)
  · obtain ⟨s5, s10, s11, rfl⟩ := hW
    obtain ⟨a1, a2, a3⟩ := lsd_ok 8 (dualD Ex sc rows) s3 200 u2 hs3
    exact rs_ret ((re_eqD (re_call (ra_cons (re_callO (i := 1) (sl := stmS s3) rfl (ra_cons (re_var rfl) ra_nil) rfl rfl ⟨dualD Ex sc rows, s3, 200, rfl, rfl, u2, hs3, by omega, rfl, rfl⟩) (ra_cons (re_var rfl) ra_nil)) (t5 _ a2 a1)) (re_var (d := matT B) rfl) (shp_mat _).sh (shp_mat _).sh).is (by rw [eqv_mat]; simp)) rfl
end K87

namespace K87
open PySem PySem.Spec PyProof.Rows L2 DL
/-- a def of the text among the written part -/
structure DefK (K : PySem.W.Frag) (x : Str) (st : Stmt) : Prop where
  ex : ∃ (f : Addr) (oc : Value) (od an : Option Addr) (kV doc pm cdv ct : Value) (osl : Array (Option Value)), PySem.W.nsIn K mainGlobals x = some (some (.ref f)) ∧
    K.lookup f = some ⟨oc, od, .func (PySem.W.fnOf x x (defArgs st) (defBody st) (defScope st) .none kV doc pm an cdv ct), osl⟩ ∧ PySem.W.codeIn K cdv x = true ∧ PySem.W.keepIn K (.ref f) = true
theorem defK {K : PySem.W.Frag} {x : Str} {st : Stmt} {f : Addr} {oc : Value} {od an : Option Addr} {kV doc pm cdv ct : Value} {osl : Array (Option Value)} (a : PySem.W.nsIn K mainGlobals x = some (some (.ref f)))
    (l : K.lookup f = some ⟨oc, od, .func (PySem.W.fnOf x x (defArgs st) (defBody st) (defScope st) .none kV doc pm an cdv ct), osl⟩) (c : PySem.W.codeIn K cdv x = true) (k : PySem.W.keepIn K (.ref f) = true) : DefK K x st :=
  ⟨f, oc, od, an, kV, doc, pm, cdv, ct, osl, a, l, c, k⟩
theorem DefK.at {K : PySem.W.Frag} {x : Str} {st : Stmt} {h : Heap} {mg : Str → Option Value} (d : DefK K x st) (X : K.In h) (G : h.Ns mainGlobals mg) : FunAt K mg x st := by
  obtain ⟨f, oc, od, an, kV, doc, pm, cdv, ct, osl, a, l, c, k⟩ := d.ex
  exact ⟨f, _, fun_mk (st := st) l c k, PySem.W.mg_of X G a⟩
/-- a constant of the text -/
structure ConK (K : PySem.W.Frag) (x : Str) (v : V) : Prop where
  ex : ∃ u, PySem.W.nsIn K mainGlobals x = some (some u) ∧ RelV v u
theorem conS {K : PySem.W.Frag} {x s : Str} {t : Tok} (a : PySem.W.nsIn K mainGlobals x = some (some (.str s t))) : ConK K x (.str s) := ⟨_, a, t, rfl⟩
theorem conI {K : PySem.W.Frag} {x : Str} {i : Int} {t : Tok} (a : PySem.W.nsIn K mainGlobals x = some (some (.int i t))) : ConK K x (.int i) := ⟨_, a, t, rfl⟩
theorem ConK.at {K : PySem.W.Frag} {x : Str} {v : V} {h : Heap} {mg : Str → Option Value} (d : ConK K x v) (X : K.In h) (G : h.Ns mainGlobals mg) : Glo mg x v := by
  obtain ⟨u, a, r⟩ := d.ex
  exact ⟨u, PySem.W.mg_of X G a, r⟩
structure Facts (K : PySem.W.Frag) : Prop where
  d_dot : DefK K "dot" s_dot
  d_scale_form : DefK K "scale_form" s_scale_form
  d_combined : DefK K "combined" s_combined
  d_unit_form : DefK K "unit_form" s_unit_form
  d_bezout : DefK K "bezout" s_bezout
  d_lowered : DefK K "lowered" s_lowered
  d_add_vector : DefK K "add_vector" s_add_vector
  d_hermite : DefK K "hermite" s_hermite
  d_whole : DefK K "whole" s_whole
  d_gcd_of : DefK K "gcd_of" s_gcd_of
  d_split_by : DefK K "split_by" s_split_by
  d_restrict : DefK K "restrict" s_restrict
  d_project : DefK K "project" s_project
  d_annihilator : DefK K "annihilator" s_annihilator
  d_saturation : DefK K "saturation" s_saturation
  d_pivot_of : DefK K "pivot_of" s_pivot_of
  d_is_integer : DefK K "is_integer" s_is_integer
  d_is_form : DefK K "is_form" s_is_form
  d_is_basis : DefK K "is_basis" s_is_basis
  d_coordinates : DefK K "coordinates" s_coordinates
  d_contains : DefK K "contains" s_contains
  d_includes : DefK K "includes" s_includes
  d_class_count : DefK K "class_count" s_class_count
  d_cleared_by : DefK K "cleared_by" s_cleared_by
  d_frozen : DefK K "frozen" s_frozen
  d_dual_from : DefK K "dual_from" s_dual_from
  d_dual_of : DefK K "dual_of" s_dual_of
  d_basis_of_dual : DefK K "basis_of_dual" s_basis_of_dual
  d_represented : DefK K "represented" s_represented
  d_basis_of : DefK K "basis_of" s_basis_of
  d_law_draw : DefK K "_law_draw" s_law_draw
  d_law_common : DefK K "_law_common" s_law_common
  d_law_plus : DefK K "_law_plus" s_law_plus
  d_law_cleared : DefK K "_law_cleared" s_law_cleared
  d_law_integer : DefK K "_law_integer" s_law_integer
  d_law_value : DefK K "_law_value" s_law_value
  d_law_listed : DefK K "_law_listed" s_law_listed
  d_law_basis : DefK K "_law_basis" s_law_basis
  d_law_parts_good : DefK K "_law_parts_good" s_law_parts_good
  d_law : DefK K "law" s_law
  c_DUAL : ConK K "DUAL" (.str "dual")
  c_PRIMAL : ConK K "PRIMAL" (.str "primal")
  z_range : PySem.W.nsIn K mainGlobals "range" = some none
  z_zip : PySem.W.nsIn K mainGlobals "zip" = some none
  z_len : PySem.W.nsIn K mainGlobals "len" = some none
  z_sum : PySem.W.nsIn K mainGlobals "sum" = some none
  z_tuple : PySem.W.nsIn K mainGlobals "tuple" = some none
  z_list : PySem.W.nsIn K mainGlobals "list" = some none
  z_int : PySem.W.nsIn K mainGlobals "int" = some none
  z_sorted : PySem.W.nsIn K mainGlobals "sorted" = some none
  z_all : PySem.W.nsIn K mainGlobals "all" = some none
  z_any : PySem.W.nsIn K mainGlobals "any" = some none
  z_min : PySem.W.nsIn K mainGlobals "min" = some none
  z_max : PySem.W.nsIn K mainGlobals "max" = some none
  z_isinstance : PySem.W.nsIn K mainGlobals "isinstance" = some none
  z_enumerate : PySem.W.nsIn K mainGlobals "enumerate" = some none
  z_bool : PySem.W.nsIn K mainGlobals "bool" = some none
  z_abs : PySem.W.nsIn K mainGlobals "abs" = some none
  z_repr : PySem.W.nsIn K mainGlobals "repr" = some none
  z_set : PySem.W.nsIn K mainGlobals "set" = some none
  z_dict : PySem.W.nsIn K mainGlobals "dict" = some none
  z_str : PySem.W.nsIn K mainGlobals "str" = some none
  z_reversed : PySem.W.nsIn K mainGlobals "reversed" = some none
theorem Facts.no {K : PySem.W.Frag} {h : Heap} {mg : Str → Option Value} (T : Facts K) (X : K.In h) (G : h.Ns mainGlobals mg) : ∀ x ∈ (["range", "zip", "len", "sum", "tuple", "list", "int", "sorted", "all", "any", "min", "max", "isinstance", "enumerate", "bool", "abs", "repr", "set", "dict", "str", "reversed"] : List Str), mg x = none := by
  intro x hx
  simp only [List.mem_cons, List.not_mem_nil, or_false] at hx
  rcases hx with rfl | rfl | rfl | rfl | rfl | rfl | rfl | rfl | rfl | rfl | rfl | rfl | rfl | rfl | rfl | rfl | rfl | rfl | rfl | rfl | rfl
  · exact PySem.W.mg_none_of X G T.z_range
  · exact PySem.W.mg_none_of X G T.z_zip
  · exact PySem.W.mg_none_of X G T.z_len
  · exact PySem.W.mg_none_of X G T.z_sum
  · exact PySem.W.mg_none_of X G T.z_tuple
  · exact PySem.W.mg_none_of X G T.z_list
  · exact PySem.W.mg_none_of X G T.z_int
  · exact PySem.W.mg_none_of X G T.z_sorted
  · exact PySem.W.mg_none_of X G T.z_all
  · exact PySem.W.mg_none_of X G T.z_any
  · exact PySem.W.mg_none_of X G T.z_min
  · exact PySem.W.mg_none_of X G T.z_max
  · exact PySem.W.mg_none_of X G T.z_isinstance
  · exact PySem.W.mg_none_of X G T.z_enumerate
  · exact PySem.W.mg_none_of X G T.z_bool
  · exact PySem.W.mg_none_of X G T.z_abs
  · exact PySem.W.mg_none_of X G T.z_repr
  · exact PySem.W.mg_none_of X G T.z_set
  · exact PySem.W.mg_none_of X G T.z_dict
  · exact PySem.W.mg_none_of X G T.z_str
  · exact PySem.W.mg_none_of X G T.z_reversed
theorem walk {l : PySem.W.OpenLaw} {q : Program} {loose : List Str} {XP : (Str → Option Value) → Heap → Prop} {YP : World → Heap → Prop} {d : DefRec} {K : Params → PySem.W.Frag} (hn : l.most = some 63) (hdf : d.params.defaults = []) (hdn : d.name = "law") (hi : importsNone q = true) (ht : l.prog.given.tree = none)
    (hY : ∀ (w : World) (h : Heap), YP w h → (K w.params).In h) (T : ∀ w : World, Facts (K w.params)) : PySem.W.WalkO q loose XP YP l.row.toRowW d [] (fun f vs => PySem.call f vs) := by
  refine Att.attach_call hn hdf fun w s₀ s₁ mg mb fa o pm cd doc a vs ns G Y ho hd hcd hmg hobj hints hlen hg => ?_
  have X := hY w _ Y
  have F := T w
  generalize K w.params = K at X F
  obtain ⟨f, fd, Fn, hm⟩ := (F.d_law.at X G.T.g).ex
  rw [hdn] at hmg
  have e := hmg.symm.trans hm
  cases e
  have bnd : ∀ (s : Shared) (u : Value), BindsTo s fd ⟨[u], []⟩ [("script", u)] := fun s u => by
    obtain ⟨oc, od, kV, doc, pm, an, cdv, ct, osl, rfl, _, _⟩ := Fn.ex
    exact .of_eq rfl
  have hr : Room 61 callerA := ⟨rfl, by decide, by decide⟩
  refine law_at (k := 60) (N := nm_law) X G.T.g G.T.b G.T.builtins G.T.nolimit (G.T.seer hi) hg hobj hints (Nat.le_trans hlen (by decide)) hr Fn sc_law bnd fun base cdv H hN hK hG => ?_
  have S : Sur l.prog mg base := ⟨F.no hK hG, hN, ht⟩
  have C_dot := ok_dot (P := l.prog) (w := w) S (F.d_dot.at hK hG) 
  have C_scale_form := ok_scale_form (P := l.prog) (w := w) S (F.d_scale_form.at hK hG) 
  have C_combined := ok_combined (P := l.prog) (w := w) S (F.d_combined.at hK hG) 
  have C_unit_form := ok_unit_form (P := l.prog) (w := w) S (F.d_unit_form.at hK hG) 
  have C_bezout := ok_bezout (P := l.prog) (w := w) S (F.d_bezout.at hK hG) 
  have C_lowered := ok_lowered (P := l.prog) (w := w) S (F.d_lowered.at hK hG) C_combined
  have C_add_vector := ok_add_vector (P := l.prog) (w := w) S (F.d_add_vector.at hK hG) C_scale_form C_combined C_bezout C_lowered
  have C_hermite := ok_hermite (P := l.prog) (w := w) S (F.d_hermite.at hK hG) C_add_vector C_lowered
  have C_whole := ok_whole (P := l.prog) (w := w) S (F.d_whole.at hK hG) C_unit_form
  have C_gcd_of := ok_gcd_of (P := l.prog) (w := w) S (F.d_gcd_of.at hK hG) C_bezout
  have C_split_by := ok_split_by (P := l.prog) (w := w) S (F.d_split_by.at hK hG) C_dot C_scale_form C_bezout C_combined
  have C_restrict := ok_restrict (P := l.prog) (w := w) S (F.d_restrict.at hK hG) C_split_by C_scale_form C_gcd_of C_hermite
  have C_project := ok_project (P := l.prog) (w := w) S (F.d_project.at hK hG) C_hermite
  have C_annihilator := ok_annihilator (P := l.prog) (w := w) S (F.d_annihilator.at hK hG) C_whole C_restrict
  have C_saturation := ok_saturation (P := l.prog) (w := w) S (F.d_saturation.at hK hG) C_annihilator
  have C_pivot_of := ok_pivot_of (P := l.prog) (w := w) S (F.d_pivot_of.at hK hG) 
  have C_is_integer := ok_is_integer (P := l.prog) (w := w) S (F.d_is_integer.at hK hG) 
  have C_is_form := ok_is_form (P := l.prog) (w := w) S (F.d_is_form.at hK hG) C_is_integer
  have C_is_basis := ok_is_basis (P := l.prog) (w := w) S (F.d_is_basis.at hK hG) C_is_form C_pivot_of
  have C_coordinates := ok_coordinates (P := l.prog) (w := w) S (F.d_coordinates.at hK hG) C_pivot_of C_combined
  have C_contains := ok_contains (P := l.prog) (w := w) S (F.d_contains.at hK hG) C_coordinates
  have C_includes := ok_includes (P := l.prog) (w := w) S (F.d_includes.at hK hG) C_contains
  have C_class_count := ok_class_count (P := l.prog) (w := w) S (F.d_class_count.at hK hG) C_includes C_coordinates C_hermite
  have C_cleared_by := ok_cleared_by (P := l.prog) (w := w) S (F.d_cleared_by.at hK hG) C_pivot_of C_combined
  have C_frozen := ok_frozen (P := l.prog) (w := w) S (F.d_frozen.at hK hG)  8
  have C_dual_from := ok_dual_from (P := l.prog) (w := w) S (F.d_dual_from.at hK hG) (F.c_DUAL.at hK hG) C_saturation C_hermite C_cleared_by C_gcd_of
  have C_dual_of := ok_dual_of (P := l.prog) (w := w) S (F.d_dual_of.at hK hG) (F.c_DUAL.at hK hG) C_annihilator C_pivot_of C_project C_class_count C_whole C_restrict C_dual_from
  have C_basis_of_dual := ok_basis_of_dual (P := l.prog) (w := w) S (F.d_basis_of_dual.at hK hG) C_whole C_restrict
  have C_represented := ok_represented (P := l.prog) (w := w) S (F.d_represented.at hK hG) (F.c_PRIMAL.at hK hG) (F.c_DUAL.at hK hG) C_frozen C_dual_of
  have C_basis_of := ok_basis_of (P := l.prog) (w := w) S (F.d_basis_of.at hK hG) (F.c_PRIMAL.at hK hG) (F.c_DUAL.at hK hG) C_frozen C_basis_of_dual
  have C_law_draw := ok_law_draw (P := l.prog) (w := w) S (F.d_law_draw.at hK hG) 
  have C_law_common := ok_law_common (P := l.prog) (w := w) S (F.d_law_common.at hK hG) 
  have C_law_plus := ok_law_plus (P := l.prog) (w := w) S (F.d_law_plus.at hK hG) 
  have C_law_cleared := ok_law_cleared (P := l.prog) (w := w) S (F.d_law_cleared.at hK hG) 
  have C_law_integer := ok_law_integer (P := l.prog) (w := w) S (F.d_law_integer.at hK hG) 
  have C_law_value := ok_law_value (P := l.prog) (w := w) S (F.d_law_value.at hK hG) 
  have C_law_listed := ok_law_listed (P := l.prog) (w := w) S (F.d_law_listed.at hK hG) C_law_draw 8
  have C_law_basis := ok_law_basis (P := l.prog) (w := w) S (F.d_law_basis.at hK hG) C_law_draw C_law_plus
  have C_law_parts_good := ok_law_parts_good (P := l.prog) (w := w) S (F.d_law_parts_good.at hK hG) C_is_basis C_law_integer C_saturation C_law_value C_law_common
  obtain ⟨t, ht, hR⟩ := law_body (P := l.prog) (w := w) S C_law_draw C_law_basis C_law_listed C_represented C_law_parts_good C_law_cleared C_contains C_basis_of fa cdv s₁ H (hr.deeper _)
  exact ⟨t, ht, hR ns⟩
end K87
open PySem PySem.W PyProof.Rows
set_option maxRecDepth 100000 in
set_option maxHeartbeats 0 in
theorem PySem.Challenge.cw_hushgrain_k81_whole_duals_there_and_back_holds : PySem.Challenge.rw_hushgrain_k81_whole_duals_there_and_back.Holds := by
  w_on; o_law; k_head; (case hw => w_witness2)
  k_fill
  refine K87.walk (l := PySem.Challenge.rw_hushgrain_k81_whole_duals_there_and_back) rfl rfl rfl ?hi rfl (fun w h Y => PySem.W.kIn_of Y) ?F
  case hi => decide +kernel
  case F =>
    intro w
    refine' K87.Facts.mk ?d0 ?d1 ?d2 ?d3 ?d4 ?d5 ?d6 ?d7 ?d8 ?d9 ?d10 ?d11 ?d12 ?d13 ?d14 ?d15 ?d16 ?d17 ?d18 ?d19 ?d20 ?d21 ?d22 ?d23 ?d24 ?d25 ?d26 ?d27 ?d28 ?d29 ?d30 ?d31 ?d32 ?d33 ?d34 ?d35 ?d36 ?d37 ?d38 ?d39 ?c0 ?c1 ?z0 ?z1 ?z2 ?z3 ?z4 ?z5 ?z6 ?z7 ?z8 ?z9 ?z10 ?z11 ?z12 ?z13 ?z14 ?z15 ?z16 ?z17 ?z18 ?z19 ?z20
    (case d0 => (refine' K87.defK ?a ?l ?c ?k; (case a => k_is); (case l => k_is); (case c => k_is); (case k => k_is)))
    (case d1 => (refine' K87.defK ?a ?l ?c ?k; (case a => k_is); (case l => k_is); (case c => k_is); (case k => k_is)))
    (case d2 => (refine' K87.defK ?a ?l ?c ?k; (case a => k_is); (case l => k_is); (case c => k_is); (case k => k_is)))
    (case d3 => (refine' K87.defK ?a ?l ?c ?k; (case a => k_is); (case l => k_is); (case c => k_is); (case k => k_is)))
    (case d4 => (refine' K87.defK ?a ?l ?c ?k; (case a => k_is); (case l => k_is); (case c => k_is); (case k => k_is)))
    (case d5 => (refine' K87.defK ?a ?l ?c ?k; (case a => k_is); (case l => k_is); (case c => k_is); (case k => k_is)))
    (case d6 => (refine' K87.defK ?a ?l ?c ?k; (case a => k_is); (case l => k_is); (case c => k_is); (case k => k_is)))
    (case d7 => (refine' K87.defK ?a ?l ?c ?k; (case a => k_is); (case l => k_is); (case c => k_is); (case k => k_is)))
    (case d8 => (refine' K87.defK ?a ?l ?c ?k; (case a => k_is); (case l => k_is); (case c => k_is); (case k => k_is)))
    (case d9 => (refine' K87.defK ?a ?l ?c ?k; (case a => k_is); (case l => k_is); (case c => k_is); (case k => k_is)))
    (case d10 => (refine' K87.defK ?a ?l ?c ?k; (case a => k_is); (case l => k_is); (case c => k_is); (case k => k_is)))
    (case d11 => (refine' K87.defK ?a ?l ?c ?k; (case a => k_is); (case l => k_is); (case c => k_is); (case k => k_is)))
    (case d12 => (refine' K87.defK ?a ?l ?c ?k; (case a => k_is); (case l => k_is); (case c => k_is); (case k => k_is)))
    (case d13 => (refine' K87.defK ?a ?l ?c ?k; (case a => k_is); (case l => k_is); (case c => k_is); (case k => k_is)))
    (case d14 => (refine' K87.defK ?a ?l ?c ?k; (case a => k_is); (case l => k_is); (case c => k_is); (case k => k_is)))
    (case d15 => (refine' K87.defK ?a ?l ?c ?k; (case a => k_is); (case l => k_is); (case c => k_is); (case k => k_is)))
    (case d16 => (refine' K87.defK ?a ?l ?c ?k; (case a => k_is); (case l => k_is); (case c => k_is); (case k => k_is)))
    (case d17 => (refine' K87.defK ?a ?l ?c ?k; (case a => k_is); (case l => k_is); (case c => k_is); (case k => k_is)))
    (case d18 => (refine' K87.defK ?a ?l ?c ?k; (case a => k_is); (case l => k_is); (case c => k_is); (case k => k_is)))
    (case d19 => (refine' K87.defK ?a ?l ?c ?k; (case a => k_is); (case l => k_is); (case c => k_is); (case k => k_is)))
    (case d20 => (refine' K87.defK ?a ?l ?c ?k; (case a => k_is); (case l => k_is); (case c => k_is); (case k => k_is)))
    (case d21 => (refine' K87.defK ?a ?l ?c ?k; (case a => k_is); (case l => k_is); (case c => k_is); (case k => k_is)))
    (case d22 => (refine' K87.defK ?a ?l ?c ?k; (case a => k_is); (case l => k_is); (case c => k_is); (case k => k_is)))
    (case d23 => (refine' K87.defK ?a ?l ?c ?k; (case a => k_is); (case l => k_is); (case c => k_is); (case k => k_is)))
    (case d24 => (refine' K87.defK ?a ?l ?c ?k; (case a => k_is); (case l => k_is); (case c => k_is); (case k => k_is)))
    (case d25 => (refine' K87.defK ?a ?l ?c ?k; (case a => k_is); (case l => k_is); (case c => k_is); (case k => k_is)))
    (case d26 => (refine' K87.defK ?a ?l ?c ?k; (case a => k_is); (case l => k_is); (case c => k_is); (case k => k_is)))
    (case d27 => (refine' K87.defK ?a ?l ?c ?k; (case a => k_is); (case l => k_is); (case c => k_is); (case k => k_is)))
    (case d28 => (refine' K87.defK ?a ?l ?c ?k; (case a => k_is); (case l => k_is); (case c => k_is); (case k => k_is)))
    (case d29 => (refine' K87.defK ?a ?l ?c ?k; (case a => k_is); (case l => k_is); (case c => k_is); (case k => k_is)))
    (case d30 => (refine' K87.defK ?a ?l ?c ?k; (case a => k_is); (case l => k_is); (case c => k_is); (case k => k_is)))
    (case d31 => (refine' K87.defK ?a ?l ?c ?k; (case a => k_is); (case l => k_is); (case c => k_is); (case k => k_is)))
    (case d32 => (refine' K87.defK ?a ?l ?c ?k; (case a => k_is); (case l => k_is); (case c => k_is); (case k => k_is)))
    (case d33 => (refine' K87.defK ?a ?l ?c ?k; (case a => k_is); (case l => k_is); (case c => k_is); (case k => k_is)))
    (case d34 => (refine' K87.defK ?a ?l ?c ?k; (case a => k_is); (case l => k_is); (case c => k_is); (case k => k_is)))
    (case d35 => (refine' K87.defK ?a ?l ?c ?k; (case a => k_is); (case l => k_is); (case c => k_is); (case k => k_is)))
    (case d36 => (refine' K87.defK ?a ?l ?c ?k; (case a => k_is); (case l => k_is); (case c => k_is); (case k => k_is)))
    (case d37 => (refine' K87.defK ?a ?l ?c ?k; (case a => k_is); (case l => k_is); (case c => k_is); (case k => k_is)))
    (case d38 => (refine' K87.defK ?a ?l ?c ?k; (case a => k_is); (case l => k_is); (case c => k_is); (case k => k_is)))
    (case d39 => (refine' K87.defK ?a ?l ?c ?k; (case a => k_is); (case l => k_is); (case c => k_is); (case k => k_is)))
    (case c0 => (refine' K87.conS ?a; (case a => k_is)))
    (case c1 => (refine' K87.conS ?a; (case a => k_is)))
    (case z0 => k_is)
    (case z1 => k_is)
    (case z2 => k_is)
    (case z3 => k_is)
    (case z4 => k_is)
    (case z5 => k_is)
    (case z6 => k_is)
    (case z7 => k_is)
    (case z8 => k_is)
    (case z9 => k_is)
    (case z10 => k_is)
    (case z11 => k_is)
    (case z12 => k_is)
    (case z13 => k_is)
    (case z14 => k_is)
    (case z15 => k_is)
    (case z16 => k_is)
    (case z17 => k_is)
    (case z18 => k_is)
    (case z19 => k_is)
    (case z20 => k_is)

