import PyProof.Rows.All
import Wide.All
import OpenK.AllK
import Wide.FinOn
import PySem.Challenge.RW_templates_k37_whole_equations
import HandS.ForMost
import HandS.ForExc
import HandS.Evl
import HandS.Walk
import HandS.IsInst
import HandS.TupSets
import HandS.TupAny
import HandS.TupLe
import HandS.TupMul
import HandS.TupLen
import HandS.Zip
import HandS.Deep
import HandS.Style
import HandS.Star
import HandS.Conv
import HandS.DictComp
import HandS.List
import KE.GoesEnum
import KE.GoesMore
import KE.GoesZip
import KE.KDictZip
import KE.KStar
import HandS.Remove
import HandS.SetFor
import HandS.ExcOwn
import HandS.Small
import KE.DataFind
import KE.DataMinMax
import KE.KDictSum
set_option Elab.async false
set_option linter.all false
set_option maxRecDepth 100000
set_option maxHeartbeats 4000000
/-! Own layer over HandS: what an expression gives (by a relation), comprehensions over any walk. -/
namespace G651
open PySem PySem.Spec PyProof.Rows L2 Evl

/-! ### heaps -/
theorem Ex.same {H H' : Hp} (e : Ex H H') : L2.Same H H' := e
theorem new_ne {H : Hp} {p q : Addr} {o : HO} (h : H q = some o) (n : H p = none) : q ≠ p := ne_of_none h n

/-! ### lists beside lists -/
theorem prd_get {α β : Type} {F : α → β → Prop} : ∀ {as : List α} {zs : List β}, Paired F as zs → ∀ {i : Nat} {z : β}, zs[i]? = some z → ∃ a, as[i]? = some a ∧ F a z
  | _, _, .nil, i, z, h => by simp at h
  | _, _, .cons r t, 0, z, h => by
    simp at h
    subst h
    exact ⟨_, rfl, r⟩
  | _, _, .cons r t, i + 1, z, h => by
    obtain ⟨a, h1, h2⟩ := prd_get t (i := i) (z := z) (by simpa using h)
    exact ⟨a, by simpa using h1, h2⟩
theorem prd_mono {α β : Type} {F G : α → β → Prop} : ∀ {as : List α} {zs : List β}, Paired F as zs → (∀ a z, z ∈ zs → F a z → G a z) → Paired G as zs
  | _, _, .nil, _ => .nil
  | _, _, .cons r t, h => .cons (h _ _ List.mem_cons_self r) (prd_mono t fun a z m => h a z (List.mem_cons_of_mem _ m))
theorem prd_snoc {α β : Type} {F : α → β → Prop} {as : List α} {zs : List β} {a : α} {z : β} (h : Paired F as zs) (r : F a z) : Paired F (as ++ [a]) (zs ++ [z]) := Paired.snoc h r
/-- values that a function tells -/
theorem prd_map {α β : Type} {f : β → α} : ∀ {as : List α} {zs : List β}, Paired (fun a z => a = f z) as zs → as = zs.map f
  | _, _, .nil => rfl
  | _, _, .cons r t => by rw [List.map_cons, ← r, prd_map t]
/-- references: the addresses -/
theorem prd_refs {β : Type} {F : Addr → β → Prop} : ∀ {ys : List V} {zs : List β}, Paired (fun y z => ∃ a, y = V.ref a ∧ F a z) ys zs → ∃ as : List Addr, ys = as.map V.ref ∧ Paired F as zs
  | _, _, .nil => ⟨[], rfl, .nil⟩
  | _, _, .cons ⟨a, e, r⟩ t => by
    obtain ⟨as, e2, r2⟩ := prd_refs t
    exact ⟨a :: as, by rw [e, e2]; rfl, .cons r r2⟩
/-- addresses beside data, as pairs -/
theorem prd_zip {β γ : Type} {F : Addr → β → Prop} (f : β → γ) : ∀ {as : List Addr} {zs : List β}, Paired F as zs → ∃ ps : List (Addr × γ), as = ps.map (·.1) ∧ zs.map f = ps.map (·.2) ∧ ∀ p ∈ ps, ∃ z ∈ zs, p.2 = f z ∧ F p.1 z
  | _, _, .nil => ⟨[], rfl, rfl, fun _ h => nomatch h⟩
  | _, _, .cons (a := a) (b := z) r t => by
    obtain ⟨ps, e1, e2, h⟩ := prd_zip f t
    refine ⟨(a, f z) :: ps, by rw [e1]; rfl, by rw [List.map_cons, e2]; rfl, fun p hp => ?_⟩
    rcases List.mem_cons.mp hp with e | hp
    · subst e
      exact ⟨z, List.mem_cons_self, rfl, r⟩
    · obtain ⟨z', hz, q⟩ := h p hp
      exact ⟨z', List.mem_cons_of_mem _ hz, q⟩

/-! ### what an expression gives -/
/-- behind te, from any heap that extends H: some v of which R holds -/
def EvR (te : TE) (σ : L2.St) (H : Hp) (R : V → Hp → Prop) : Prop := ∀ H1, Ex H H1 → ∀ Q : VK, (∀ v H2, Ex H1 H2 → R v H2 → Q v H2) → te σ H1 Q
section
variable {σ : L2.St} {H H' : Hp} {te ta tb : TE} {R : V → Hp → Prop}
theorem EvR.mono (h : EvR te σ H R) (e : Ex H H') : EvR te σ H' R := fun H1 e1 Q q => h H1 (e.trans e1) Q q
theorem EvR.imp {R' : V → Hp → Prop} (h : EvR te σ H R) (k : ∀ v H1, Ex H H1 → R v H1 → R' v H1) : EvR te σ H R' := fun H1 e1 Q q => h H1 e1 Q fun v H2 e2 r => q v H2 e2 (k v H2 (e1.trans e2) r)
theorem Ev.r {v : V} (h : Ev te σ H v) (k : ∀ H1, Ex H H1 → R v H1) : EvR te σ H R := fun H1 e1 Q q => h H1 e1 Q fun H2 e2 => q v H2 e2 (k H2 (e1.trans e2))
theorem EvR.v {v : V} (h : EvR te σ H fun u _ => u = v) : Ev te σ H v := fun H1 e1 Q q => h H1 e1 Q fun u H2 e2 r => by
  subst r
  exact q H2 e2
theorem EvL.r {xs : List V} (h : EvL te σ H xs) (k : ∀ p H1, H p = none → Ex H H1 → H1 p = some (.lst xs) → R (.ref p) H1) : EvR te σ H R := fun H1 e1 Q q =>
  h H1 e1 Q fun p H2 hp e2 h2 => q _ H2 e2 (k p H2 (fresh_back e1 hp) (e1.trans e2) h2)
theorem EvU.r {xs : List V} (h : EvU te σ H xs) (k : ∀ p H1, H p = none → Ex H H1 → H1 p = some (.tup xs) → R (.ref p) H1) : EvR te σ H R := fun H1 e1 Q q =>
  h H1 e1 Q fun p H2 hp e2 h2 => q _ H2 e2 (k p H2 (fresh_back e1 hp) (e1.trans e2) h2)
/-- an operation on what two expressions give -/
theorem er_op {r : R2} {R1 R2' : V → Hp → Prop} (ha : EvR ta σ H R1) (hb : ∀ x H1, Ex H H1 → R1 x H1 → EvR tb σ H1 R2')
    (hr : ∀ x y H1 H2, Ex H H1 → R1 x H1 → Ex H1 H2 → R2' y H2 → ∀ Q : VK, (∀ v H3, Ex H2 H3 → R v H3 → Q v H3) → r x y H2 Q) : EvR (tOp r ta tb) σ H R := fun H1 e Q q =>
  ha H1 e _ fun x H2 e2 rx => hb x H2 (e.trans e2) rx H2 (Ex.refl _) _ fun y H3 e3 ry => hr x y H2 H3 (e.trans e2) rx e3 ry Q fun v H4 e4 rv => q v H4 ((e2.trans e3).trans e4) rv
end
def SpR (sp : Sp) (vs : List V) (H : Hp) (R : V → Hp → Prop) : Prop := ∀ H1, Ex H H1 → ∀ Q : VK, (∀ v H2, Ex H1 H2 → R v H2 → Q v H2) → ∀ E : XK, sp vs H1 Q E
theorem er_call {σ : L2.St} {H : Hp} {sp : Sp} {dvs vs : List V} {E : XK} {ta : TA} {R : V → Hp → Prop} (h : EvA ta σ H vs) (hs : SpR sp (vs ++ dvs) H R) : EvR (tCall sp dvs E ta) σ H R := fun H1 e Q q =>
  h H1 e _ fun H2 e2 => hs H2 (e.trans e2) Q (fun v H3 e3 => q v H3 (e2.trans e3)) E

/-! ### comprehensions -/
/-- what is walked: zs, each item told by Xr -/
def Src {α : Type} (wi : TI) (σ : L2.St) (H : Hp) (zs : List α) (Xr : α → V → Hp → Prop) : Prop := ∀ H1, Ex H H1 → ∀ R : It → Hp → Prop,
  (∀ (J : It) (H2 : Hp) (G : Hp → Prop) (Y : Nat → Hp → V → Hp → Prop), Ex H1 H2 → Walk J zs.length G Y → (∀ H3, Ex H2 H3 → G H3) →
    (∀ (i : Nat) z H3 x H4, zs[i]? = some z → Ex H2 H3 → Y i H3 x H4 → Ex H3 H4 ∧ Xr z x H4) → R J H2) → wi σ H1 R
/-- a target: behind it Y holds of the slots -/
def Tgt {α : Type} (g : TG) (σ0 : L2.St) (Xr : α → V → Hp → Prop) (Y : α → L2.St → Hp → Prop) : Prop := ∀ z x H (Q : L2.St → Hp → Prop), Xr z x H → (∀ σ', Y z σ' H → Q σ' H) → g x σ0 H Q
theorem tgt_name {α : Type} {j : Nat} {σ0 : L2.St} {Xr : α → V → Hp → Prop} : Tgt (gName j) σ0 Xr (fun z σ' H => ∃ x, σ' = σ0.set j (some x) ∧ Xr z x H) := fun z x H Q hx q => q _ ⟨x, rfl, hx⟩
/-- a pair (a tuple that was given out) to two names -/
def IsPr (x1 x2 : V) (v : V) (H : Hp) : Prop := ∃ T, v = .ref T ∧ H T = some (.tup [x1, x2])
theorem tgt_pair {α : Type} {K : PySem.W.Frag} {j k : Nat} {σ0 : L2.St} {f1 f2 : α → V} :
    Tgt (gTup K 2 (gCons (gName j) (gCons (gName k) gNil))) σ0 (fun z v H => IsPr (f1 z) (f2 z) v H) (fun z σ' _ => σ' = (σ0.set j (some (f1 z))).set k (some (f2 z))) := fun z v H Q hx q => by
  obtain ⟨T, rfl, hT⟩ := hx
  exact ⟨T, [f1 z, f2 z], rfl, .inl (.inl hT), rfl, _, _, rfl, _, _, rfl, rfl, q _ rfl⟩

theorem take_more {α : Type} : ∀ {l : List α} {i : Nat} {x : α}, l[i]? = some x → l.take (i + 1) = l.take i ++ [x]
  | [], i, x, h => by simp at h
  | a :: l, 0, x, h => by
    have e : a = x := Option.some.inj h
    subst e
    rfl
  | a :: l, i + 1, x, h => by
    have ih := take_more (l := l) (i := i) (x := x) h
    show a :: l.take (i + 1) = a :: l.take i ++ [x]
    rw [ih]
    rfl

section
variable {α : Type} {wi : TI} {g : TG} {tt : TT} {te : TE} {vs : List Nat} {σ : L2.St} {H : Hp} {zs : List α} {Xr : α → V → Hp → Prop} {Y : α → L2.St → Hp → Prop}
/-- the invariant of the new list at D: S tells each item, whatever happens to D -/
theorem er_lcG (S : Src wi σ H zs Xr) (hz : zs.length ≤ 40000) (T : Tgt g (wipe σ vs) Xr Y) (p : α → Bool) (S1 : α → V → Addr → Hp → Prop)
    (hS : ∀ z y D Ha Hb, (∀ a o, a ≠ D → Ha a = some o → Hb a = some o) → (∀ a us, Ha a = some (.tup us) → Hb a = some (.tup us)) → S1 z y D Ha → S1 z y D Hb)
    (hw : ∀ z σ' H2, Y z σ' H2 → wipe σ' vs = wipe σ vs)
    (ht : ∀ z σ' H2, z ∈ zs → Ex H H2 → Y z σ' H2 → EvT tt σ' H2 (p z))
    (he : ∀ z σ' H2, z ∈ zs → Ex H H2 → Y z σ' H2 → p z = true → ∀ H3 D acc, Ex H2 H3 → H D = none → H3 D = some (.lst acc) → ∀ Q : VK, (∀ y H4, Ex H3 H4 → S1 z y D H4 → Q y H4) → te σ' H3 Q)
    {R : V → Hp → Prop} (hR : ∀ D ys H2, H D = none → Ex H H2 → H2 D = some (.lst ys) → Paired (fun y z => S1 z y D H2) ys (zs.filter p) → R (.ref D) H2) :
    EvR (tLc wi g tt te vs) σ H R := by
  intro H1 e1 Q q
  refine S H1 e1 _ fun J H2 G Yi e2 w hG hY D hD => ?_
  have hDH : H D = none := fresh_back (e1.trans e2) hD
  refine lc_it w (Qd := fun H => Q (.ref D) H) (fun i H' => Ex H2 H' ∧ ∃ ys, H' D = some (.lst ys) ∧ Paired (fun y z => S1 z y D H') ys ((zs.take i).filter p)) ⟨Ex.new hD, [], upd_same, by simp; exact .nil⟩ (fun i H' _ h => hG H' h.1) (fun i x H3 H4 hi h y => ?_) (fun H' h => ?_)
  · obtain ⟨e3, ys, hys, pr⟩ := h
    have gz : zs[i]? = some zs[i] := List.getElem?_eq_getElem hi
    generalize zs[i] = z at gz
    have mz : z ∈ zs := List.mem_of_getElem? gz
    obtain ⟨e4, xr⟩ := hY i z H3 x H4 gz e3 y
    have E4 : Ex H H4 := ((e1.trans e2).trans e3).trans e4
    refine T z x H4 _ xr fun σ' hy => ⟨hw z σ' H4 hy, ?_⟩
    refine ht z σ' H4 mz E4 hy H4 (Ex.refl _) _ fun H5 e5 => ?_
    have lenY : ys.length ≤ i := by
      rw [Paired.length pr]
      exact Nat.le_trans (List.length_filter_le _ _) (by rw [List.length_take]; exact Nat.min_le_left _ _)
    cases hp : p z with
    | true =>
      refine iteT ?_
      have h5 : H5 D = some (.lst ys) := e5 D _ (e4 D _ hys)
      refine he z σ' H4 mz E4 hy hp H5 D ys e5 hDH h5 _ fun v H6 e6 hs6 => ⟨ys, e6 D _ h5, sz_lt (by omega), Ex.mut (((e3.trans e4).trans e5).trans e6) hD, ys ++ [v], upd_same, ?_⟩
      have up : ∀ a o, a ≠ D → H6 a = some o → upd H6 D (.lst (ys ++ [v])) a = some o := fun a o n ha => by
        rw [upd_ne n]
        exact ha
      have tp : ∀ a us, H6 a = some (.tup us) → upd H6 D (.lst (ys ++ [v])) a = some (.tup us) := fun a us ha => by
        have n : a ≠ D := ne_of ha (e6 D _ h5) (fun z => by cases z)
        exact up a _ n ha
      rw [take_more gz, List.filter_append, List.filter_cons, if_pos hp]
      refine prd_snoc (prd_mono pr fun a b _ s => ?_) (hS _ _ _ _ _ up tp hs6)
      have e36 : Ex H3 H6 := (e4.trans e5).trans e6
      exact hS _ _ _ _ _ (fun a o n ha => up a o n (e36 a o ha)) (fun a us ha => tp a us (e36 a _ ha)) s
    | false =>
      refine iteF ?_
      refine ⟨(e3.trans e4).trans e5, ys, e5 D _ (e4 D _ hys), ?_⟩
      rw [take_more gz, List.filter_append, List.filter_cons, if_neg (by rw [hp]; decide)]
      show Paired _ _ (_ ++ [])
      rw [List.append_nil]
      have e35 : Ex H3 H5 := e4.trans e5
      exact prd_mono pr fun a b _ s => hS _ _ _ _ _ (fun a o _ ha => e35 a o ha) (fun a us ha => e35 a _ ha) s
  · obtain ⟨e3, ys, hys, pr⟩ := h
    rw [List.take_length] at pr
    exact q _ H' (e2.trans e3) (hR D ys H' hDH ((e1.trans e2).trans e3) hys pr)

/-- items whose telling leans on tuples alone -/
theorem er_lcT (S : Src wi σ H zs Xr) (hz : zs.length ≤ 40000) (T : Tgt g (wipe σ vs) Xr Y) (p : α → Bool) (R1 : α → V → Hp → Prop)
    (hS : ∀ z y Ha Hb, (∀ a us, Ha a = some (.tup us) → Hb a = some (.tup us)) → R1 z y Ha → R1 z y Hb)
    (hw : ∀ z σ' H2, Y z σ' H2 → wipe σ' vs = wipe σ vs)
    (ht : ∀ z σ' H2, z ∈ zs → Ex H H2 → Y z σ' H2 → EvT tt σ' H2 (p z))
    (he : ∀ z σ' H2, z ∈ zs → Ex H H2 → Y z σ' H2 → p z = true → EvR te σ' H2 (R1 z))
    {R : V → Hp → Prop} (hR : ∀ D ys H2, H D = none → Ex H H2 → H2 D = some (.lst ys) → Paired (fun y z => R1 z y H2) ys (zs.filter p) → R (.ref D) H2) :
    EvR (tLc wi g tt te vs) σ H R :=
  er_lcG S hz T p (fun z y _ H => R1 z y H) (fun z y _ Ha Hb _ tp r => hS z y Ha Hb tp r) hw ht (fun z σ' H2 m e y hp H3 D acc e3 _ _ Q q => he z σ' H2 m e y hp H3 e3 Q q) hR
/-- items that are values known ahead -/
theorem el_lc (S : Src wi σ H zs Xr) (hz : zs.length ≤ 40000) (T : Tgt g (wipe σ vs) Xr Y) (p : α → Bool) (f : α → V)
    (hw : ∀ z σ' H2, Y z σ' H2 → wipe σ' vs = wipe σ vs)
    (ht : ∀ z σ' H2, z ∈ zs → Ex H H2 → Y z σ' H2 → EvT tt σ' H2 (p z))
    (he : ∀ z σ' H2, z ∈ zs → Ex H H2 → Y z σ' H2 → p z = true → Ev te σ' H2 (f z)) : EvL (tLc wi g tt te vs) σ H ((zs.filter p).map f) := by
  intro H1 e1 Q q
  refine er_lcT (H := H1) (R1 := fun z y _ => y = f z) (fun H2 e2 => S H2 (e1.trans e2)) hz T p (fun _ _ _ _ _ r => r) hw (fun z σ' H2 m e => ht z σ' H2 m (e1.trans e)) (fun z σ' H2 m e y hp => Ev.r (he z σ' H2 m (e1.trans e) y hp) fun _ _ => rfl)
    (R := fun v H2 => ∃ D, v = .ref D ∧ H1 D = none ∧ H2 D = some (.lst ((zs.filter p).map f))) (fun D ys H2 hD e2 h2 pr => ⟨D, rfl, hD, by rw [h2, prd_map pr]⟩) H1 (Ex.refl _) _ fun v H2 e2 h => ?_
  obtain ⟨D, rfl, hD, h2⟩ := h
  exact q D H2 hD e2 h2
/-- items that are new lists, their contents known ahead -/
theorem er_lcL (S : Src wi σ H zs Xr) (hz : zs.length ≤ 40000) (T : Tgt g (wipe σ vs) Xr Y) (p : α → Bool) (f : α → List V)
    (hw : ∀ z σ' H2, Y z σ' H2 → wipe σ' vs = wipe σ vs)
    (ht : ∀ z σ' H2, z ∈ zs → Ex H H2 → Y z σ' H2 → EvT tt σ' H2 (p z))
    (he : ∀ z σ' H2, z ∈ zs → Ex H H2 → Y z σ' H2 → p z = true → EvL te σ' H2 (f z))
    {R : V → Hp → Prop} (hR : ∀ D as H2, H D = none → Ex H H2 → H2 D = some (.lst (as.map V.ref)) → Paired (fun a z => a ≠ D ∧ H a = none ∧ H2 a = some (.lst (f z))) as (zs.filter p) → R (.ref D) H2) :
    EvR (tLc wi g tt te vs) σ H R := by
  refine er_lcG S hz T p (fun z y D H' => ∃ a, y = V.ref a ∧ a ≠ D ∧ H a = none ∧ H' a = some (.lst (f z))) (fun z y D Ha Hb up _ ⟨a, e, n, n2, h⟩ => ⟨a, e, n, n2, up a _ n h⟩) hw ht
    (fun z σ' H2 m e y hp H3 D acc e3 hD h3 Q q => he z σ' H2 m e y hp H3 e3 _ fun a H4 ha e4 h4 => q _ H4 e4 ⟨a, rfl, fun z => ?_, fresh_back (e.trans e3) ha, h4⟩) (fun D ys H2 hD e2 h2 pr => ?_)
  · rw [z, h3] at ha
    cases ha
  · obtain ⟨as, rfl, pr2⟩ := prd_refs pr
    exact hR D as H2 hD e2 h2 pr2
end

/-! .. without a test, the target a name or a pair -/
section
variable {α : Type} {wi : TI} {te : TE} {vs : List Nat} {σ : L2.St} {H : Hp} {zs : List α} {Xr : α → V → Hp → Prop}
theorem all_yes {zs : List α} : zs.filter (fun _ => true) = zs := List.filter_eq_self.mpr fun _ _ => rfl
theorem et_yes : EvT tYes σ H true := fun H1 _ Q q => q H1 (Ex.refl H1)
theorem el_lcY {j : Nat} (S : Src wi σ H zs Xr) (hz : zs.length ≤ 40000) (f : α → V) (hw : ∀ x, wipe ((wipe σ vs).set j (some x)) vs = wipe σ vs)
    (he : ∀ z x H2, z ∈ zs → Ex H H2 → Xr z x H2 → Ev te ((wipe σ vs).set j (some x)) H2 (f z)) : EvL (tLc wi (gName j) tYes te vs) σ H (zs.map f) := by
  have h := el_lc (te := te) S hz (tgt_name (j := j) (σ0 := wipe σ vs)) (fun _ => true) f (fun z σ' H2 ⟨x, e, _⟩ => by rw [e]; exact hw x) (fun _ _ _ _ _ _ => et_yes) (fun z σ' H2 m e ⟨x, e2, hx⟩ _ => by rw [e2]; exact he z x H2 m e hx)
  rw [all_yes] at h
  exact h
/-- with a test -/
theorem el_lcN {j : Nat} {tt : TT} (S : Src wi σ H zs Xr) (hz : zs.length ≤ 40000) (p : α → Bool) (f : α → V) (hw : ∀ x, wipe ((wipe σ vs).set j (some x)) vs = wipe σ vs)
    (ht : ∀ z x H2, z ∈ zs → Ex H H2 → Xr z x H2 → EvT tt ((wipe σ vs).set j (some x)) H2 (p z))
    (he : ∀ z x H2, z ∈ zs → Ex H H2 → Xr z x H2 → p z = true → Ev te ((wipe σ vs).set j (some x)) H2 (f z)) : EvL (tLc wi (gName j) tt te vs) σ H ((zs.filter p).map f) :=
  el_lc S hz (tgt_name (j := j) (σ0 := wipe σ vs)) p f (fun z σ' H2 ⟨x, e, _⟩ => by rw [e]; exact hw x) (fun z σ' H2 m e ⟨x, e2, hx⟩ => by rw [e2]; exact ht z x H2 m e hx) (fun z σ' H2 m e ⟨x, e2, hx⟩ hp => by rw [e2]; exact he z x H2 m e hx hp)
theorem el_lcP {K : PySem.W.Frag} {j k : Nat} {f1 f2 : α → V} (S : Src wi σ H zs (fun z v H => IsPr (f1 z) (f2 z) v H)) (hz : zs.length ≤ 40000) (f : α → V) (hw : ∀ x y, wipe (((wipe σ vs).set j (some x)).set k (some y)) vs = wipe σ vs)
    (he : ∀ z H2, z ∈ zs → Ex H H2 → Ev te (((wipe σ vs).set j (some (f1 z))).set k (some (f2 z))) H2 (f z)) : EvL (tLc wi (gTup K 2 (gCons (gName j) (gCons (gName k) gNil))) tYes te vs) σ H (zs.map f) := by
  have h := el_lc (te := te) S hz (tgt_pair (K := K) (j := j) (k := k) (σ0 := wipe σ vs) (f1 := f1) (f2 := f2)) (fun _ => true) f (fun z σ' H2 e => by rw [e]; exact hw _ _) (fun _ _ _ _ _ _ => et_yes) (fun z σ' H2 m e e2 _ => by rw [e2]; exact he z H2 m e)
  rw [all_yes] at h
  exact h
theorem el_lcPN {K : PySem.W.Frag} {j k : Nat} {tt : TT} {f1 f2 : α → V} (S : Src wi σ H zs (fun z v H => IsPr (f1 z) (f2 z) v H)) (hz : zs.length ≤ 40000) (p : α → Bool) (f : α → V) (hw : ∀ x y, wipe (((wipe σ vs).set j (some x)).set k (some y)) vs = wipe σ vs)
    (ht : ∀ z H2, z ∈ zs → Ex H H2 → EvT tt (((wipe σ vs).set j (some (f1 z))).set k (some (f2 z))) H2 (p z))
    (he : ∀ z H2, z ∈ zs → Ex H H2 → p z = true → Ev te (((wipe σ vs).set j (some (f1 z))).set k (some (f2 z))) H2 (f z)) : EvL (tLc wi (gTup K 2 (gCons (gName j) (gCons (gName k) gNil))) tt te vs) σ H ((zs.filter p).map f) :=
  el_lc S hz (tgt_pair (K := K) (j := j) (k := k) (σ0 := wipe σ vs) (f1 := f1) (f2 := f2)) p f (fun z σ' H2 e => by rw [e]; exact hw _ _) (fun z σ' H2 m e e2 => by rw [e2]; exact ht z H2 m e) (fun z σ' H2 m e e2 hp => by rw [e2]; exact he z H2 m e hp)
/-- items that are new tuples, told by tuples alone -/
theorem er_lcTY {j : Nat} (S : Src wi σ H zs Xr) (hz : zs.length ≤ 40000) (f : α → List V) (hw : ∀ x, wipe ((wipe σ vs).set j (some x)) vs = wipe σ vs)
    (he : ∀ z x H2, z ∈ zs → Ex H H2 → Xr z x H2 → EvR te ((wipe σ vs).set j (some x)) H2 (fun v H' => ∃ a, v = .ref a ∧ H' a = some (.tup (f z))))
    {R : V → Hp → Prop} (hR : ∀ D as H2, H D = none → Ex H H2 → H2 D = some (.lst (as.map V.ref)) → Paired (fun a z => H2 a = some (.tup (f z))) as zs → R (.ref D) H2) : EvR (tLc wi (gName j) tYes te vs) σ H R :=
  er_lcT S hz (tgt_name (j := j) (σ0 := wipe σ vs)) (fun _ => true) (fun z y H' => ∃ a, y = V.ref a ∧ H' a = some (.tup (f z))) (fun z y Ha Hb tp ⟨a, e, h⟩ => ⟨a, e, tp a _ h⟩) (fun z σ' H2 ⟨x, e, _⟩ => by rw [e]; exact hw x) (fun _ _ _ _ _ _ => et_yes)
    (fun z σ' H2 m e ⟨x, e2, hx⟩ _ => by rw [e2]; exact he z x H2 m e hx) (fun D ys H2 hD e h pr => by
      rw [all_yes] at pr
      obtain ⟨as, rfl, pr2⟩ := prd_refs pr
      exact hR D as H2 hD e h pr2)
/-- items that are new lists -/
theorem er_lcLY {j : Nat} (S : Src wi σ H zs Xr) (hz : zs.length ≤ 40000) (f : α → List V) (hw : ∀ x, wipe ((wipe σ vs).set j (some x)) vs = wipe σ vs)
    (he : ∀ z x H2, z ∈ zs → Ex H H2 → Xr z x H2 → EvL te ((wipe σ vs).set j (some x)) H2 (f z))
    {R : V → Hp → Prop} (hR : ∀ D as H2, H D = none → Ex H H2 → H2 D = some (.lst (as.map V.ref)) → Paired (fun a z => a ≠ D ∧ H a = none ∧ H2 a = some (.lst (f z))) as zs → R (.ref D) H2) : EvR (tLc wi (gName j) tYes te vs) σ H R :=
  er_lcL S hz (tgt_name (j := j) (σ0 := wipe σ vs)) (fun _ => true) f (fun z σ' H2 ⟨x, e, _⟩ => by rw [e]; exact hw x) (fun _ _ _ _ _ _ => et_yes)
    (fun z σ' H2 m e ⟨x, e2, hx⟩ _ => by rw [e2]; exact he z x H2 m e hx) (fun D as H2 hD e h pr => by
      rw [all_yes] at pr
      exact hR D as H2 hD e h pr)
end
/-! values of calls on new lists -/
section
variable {K : PySem.W.Frag} {σ : L2.St} {H : Hp} {te : TE}
theorem ev_ixT {ta tb : TE} {p : Addr} {xs : List V} {i : Int} {v : V} (ha : Ev ta σ H (.ref p)) (hb : Ev tb σ H (.int i)) (h : SqT K H p xs) (hi : atI xs i = some v) : Ev (tOp (rIxT K) ta tb) σ H v := ev_op ha hb (rv_ixT h hi)
theorem ev_ixL {ta tb : TE} {p : Addr} {xs : List V} {i : Int} {v : V} (ha : Ev ta σ H (.ref p)) (hb : Ev tb σ H (.int i)) (h : SqL K H p xs) (hi : atI xs i = some v) : Ev (tOp (rIxL K) ta tb) σ H v := ev_op ha hb (rv_ixL h hi)
theorem ev_add {ta tb : TE} {i j : Int} (ha : Ev ta σ H (.int i)) (hb : Ev tb σ H (.int j)) : Ev (tOp (rI0 fun i j => .int (i + j)) ta tb) σ H (.int (i + j)) := ev_op ha hb rv_I0
theorem ev_sub {ta tb : TE} {i j : Int} (ha : Ev ta σ H (.int i)) (hb : Ev tb σ H (.int j)) : Ev (tOp (rI0 fun i j => .int (i - j)) ta tb) σ H (.int (i - j)) := ev_op ha hb rv_I0
theorem ev_mul {ta tb : TE} {i j : Int} (ha : Ev ta σ H (.int i)) (hb : Ev tb σ H (.int j)) (hc : CMul i j) : Ev (tOp (rI CMul fun i j => .int (i * j)) ta tb) σ H (.int (i * j)) := ev_op ha hb (rv_I hc)
theorem ev_mod {ta tb : TE} {i j : Int} (ha : Ev ta σ H (.int i)) (hb : Ev tb σ H (.int j)) (hc : 0 < j) : Ev (tOp (rI (fun _ j => 0 < j) fun i j => .int (i % j)) ta tb) σ H (.int (i % j)) := ev_op ha hb (rv_I (C := fun _ j => 0 < j) hc)
theorem ev_ltT {ta tb : TE} {a b : Addr} {ns ms : List Int} (ha : Ev ta σ H (.ref a)) (hb : Ev tb σ H (.ref b)) (h1 : SqT K H a (ns.map V.int)) (h2 : SqT K H b (ms.map V.int)) : Ev (tOp (rLtT K) ta tb) σ H (.bl (HT.lexLt ns ms)) :=
  ev_op ha hb fun H1 e _ q => ⟨a, b, ns, ms, rfl, rfl, ex_t e h1, ex_t e h2, q H1 (Ex.refl _)⟩
theorem ev_eqI {ta tb : TE} {i j : Int} (ha : Ev ta σ H (.int i)) (hb : Ev tb σ H (.int j)) : Ev (tOp rEq ta tb) σ H (.bl (decide (i = j))) := by
  refine ev_is (ev_op ha hb (rv_eq rfl)) ?_
  by_cases h : i = j
  · rw [h, decide_eq_true rfl, decide_eq_true rfl]
  · rw [decide_eq_false h, decide_eq_false (fun z => h (V.int.inj z))]
theorem ev_neI {ta tb : TE} {i j : Int} (ha : Ev ta σ H (.int i)) (hb : Ev tb σ H (.int j)) : Ev (tOp rNe ta tb) σ H (.bl (!decide (i = j))) := by
  refine ev_is (ev_op ha hb (rv_ne rfl)) ?_
  by_cases h : i = j
  · rw [h, decide_eq_true rfl, decide_eq_true rfl]
  · rw [decide_eq_false h, decide_eq_false (fun z => h (V.int.inj z))]
theorem ev_all {bs : List Bool} (h : EvL te σ H (bs.map V.bl)) : Ev (tCB (rAll K) (tCons te tNil)) σ H (.bl (bs.all id)) := fun H1 e Q q =>
  h H1 e _ fun p H2 _ e2 h2 => ⟨p, bs, rfl, sq_of h2, q H2 e2⟩
theorem ev_sum {ns : List Int} (h : EvL te σ H (ns.map V.int)) : Ev (tCB (rSum K) (tCons te tNil)) σ H (.int ns.sum) := fun H1 e Q q =>
  h H1 e _ fun p H2 _ e2 h2 => ⟨p, ns, rfl, sq_of h2, q H2 e2⟩
def rLenS2 (K : PySem.W.Frag) : List V → Hp → VK → Prop := fun xs H Q => ∃ p ys, xs = [.ref p] ∧ (SqL K H p ys ∨ SqT K H p ys) ∧ Q (.int ys.length) H
theorem ev_lenT {p : Addr} {xs : List V} (ha : Ev te σ H (.ref p)) (h : SqT K H p xs) : Ev (tCB (rLenS2 K) (tCons te tNil)) σ H (.int (xs.length : Int)) := fun H1 e Q q =>
  ha H1 e _ fun H2 e2 => ⟨p, xs, rfl, Or.inr (ex_t (e.trans e2) h), q H2 e2⟩
theorem ev_lenL {p : Addr} {xs : List V} (ha : Ev te σ H (.ref p)) (h : SqL K H p xs) : Ev (tCB (rLenS2 K) (tCons te tNil)) σ H (.int (xs.length : Int)) := fun H1 e Q q =>
  ha H1 e _ fun H2 e2 => ⟨p, xs, rfl, Or.inl (ex_l (e.trans e2) h), q H2 e2⟩
theorem ev_lenLn {xs : List V} (ha : EvL te σ H xs) : Ev (tCB (rLenS2 K) (tCons te tNil)) σ H (.int (xs.length : Int)) := fun H1 e Q q =>
  ha H1 e _ fun p H2 _ e2 h2 => ⟨p, xs, rfl, Or.inl (sq_of h2), q H2 e2⟩
/-- tuple(a new list) -/
def rTupS (K : PySem.W.Frag) : List V → Hp → VK → Prop := fun xs H Q => ∃ p ys, xs = [.ref p] ∧ ((SqL K H p ys ∧ ∀ l, H l = none → Q (.ref l) (upd H l (.tup ys))) ∨ (SqT K H p ys ∧ Q (.ref p) H))
theorem eu_tupN {xs : List V} (h : EvL te σ H xs) : EvU (tCB (rTupS K) (tCons te tNil)) σ H xs := fun H1 e Q q =>
  h H1 e _ fun p H2 _ e2 h2 => ⟨p, xs, rfl, .inl ⟨sq_of h2, fun l hl => q l _ (fresh_back e2 hl) (e2.trans (Ex.new hl)) upd_same⟩⟩
theorem er_tupN {R R1 : V → Hp → Prop} (h : EvR te σ H R1) (hR : ∀ v H1, Ex H H1 → R1 v H1 → ∃ p ys, v = .ref p ∧ SqL K H1 p ys ∧ ∀ l, H1 l = none → R (.ref l) (upd H1 l (.tup ys))) : EvR (tCB (rTupS K) (tCons te tNil)) σ H R := fun H1 e Q q =>
  h H1 e _ fun v H2 e2 r => by
    obtain ⟨p, ys, rfl, hp, k⟩ := hR v H2 (e.trans e2) r
    exact ⟨p, ys, rfl, .inl ⟨hp, fun l hl => q _ _ (e2.trans (Ex.new hl)) (k l hl)⟩⟩
end

/-! ### what is walked -/
section
variable {K : PySem.W.Frag} {σ : L2.St} {H : Hp} {tl : TE} {α : Type}
theorem src_list {zs : List α} {f : α → V} {R1 : V → Hp → Prop} (h : EvR tl σ H R1) (hr : ∀ v H1, Ex H H1 → R1 v H1 → ∃ a, v = .ref a ∧ SqL K H1 a (zs.map f)) : Src (iList K tl) σ H zs (fun z x _ => x = f z) := fun H1 e1 R q =>
  h H1 e1 _ fun v H2 e2 r => by
    obtain ⟨a, rfl, hx⟩ := hr v H2 (e1.trans e2) r
    have w : Walk (Itl K a) (zs.map f).length (fun H => SqL K H a (zs.map f)) (YAt (zs.map f)) := walk_list
    rw [List.length_map] at w
    refine ⟨a, rfl, ⟨_, hx⟩, q _ H2 _ _ e2 w (fun H3 e3 => ex_l e3 hx) fun i z H3 x H4 hz _ y => ?_⟩
    obtain ⟨e, y⟩ := y
    subst e
    rw [List.getElem?_map, hz] at y
    exact ⟨Ex.refl _, (Option.some.inj y).symm⟩
theorem src_tup {zs : List α} {f : α → V} {R1 : V → Hp → Prop} (h : EvR tl σ H R1) (hr : ∀ v H1, Ex H H1 → R1 v H1 → ∃ a, v = .ref a ∧ SqT K H1 a (zs.map f)) : Src (iTup K tl) σ H zs (fun z x _ => x = f z) := fun H1 e1 R q =>
  h H1 e1 _ fun v H2 e2 r => by
    obtain ⟨a, rfl, hx⟩ := hr v H2 (e1.trans e2) r
    have w : Walk (Itt K a) (zs.map f).length (fun H => SqT K H a (zs.map f)) (YAt (zs.map f)) := walk_tup
    rw [List.length_map] at w
    refine ⟨a, rfl, ⟨_, hx⟩, q _ H2 _ _ e2 w (fun H3 e3 => ex_t e3 hx) fun i z H3 x H4 hz _ y => ?_⟩
    obtain ⟨e, y⟩ := y
    subst e
    rw [List.getElem?_map, hz] at y
    exact ⟨Ex.refl _, (Option.some.inj y).symm⟩
theorem src_range1 {ta : TA} {n : Nat} (h : EvA ta σ H [.int (n : Int)]) (hn : n ≤ 40000) : Src (iRng1 ta) σ H (List.range n) (fun z x _ => x = .int ((z : Nat) : Int)) := fun H1 e1 R q =>
  h H1 e1 _ fun H2 e2 => by
    have w : Walk (Itr 0 n) n (fun _ => True) (YFn fun i => .int (0 + i)) := walk_range
    refine ⟨(n : Int), rfl, by omega, by omega, ?_⟩
    rw [Int.toNat_natCast]
    refine q _ H2 _ _ e2 (by rw [List.length_range]; exact w) (fun _ _ => trivial) fun i z H3 x H4 hz _ y => ?_
    obtain ⟨e, y⟩ := y
    subst e
    have hl := (List.getElem?_eq_some_iff.mp hz).1
    rw [List.length_range] at hl
    rw [List.getElem?_range hl] at hz
    cases hz
    refine ⟨Ex.refl _, ?_⟩
    rw [y]
    show V.int (0 + (i : Int)) = V.int (i : Int)
    rw [Int.zero_add]
theorem src_range2 {ta : TA} {lo hi : Int} (h : EvA ta σ H [.int lo, .int hi]) (h1 : 0 ≤ lo ∧ lo ≤ 40000) (h2 : -40000 ≤ hi ∧ hi ≤ 40000) : Src (iRng2 ta) σ H (List.range (hi - lo).toNat) (fun z x _ => x = .int (lo + ((z : Nat) : Int))) := fun H1 e1 R q =>
  h H1 e1 _ fun H2 e2 => by
    have w : Walk (Itr lo (hi - lo).toNat) (hi - lo).toNat (fun _ => True) (YFn fun i => .int (lo + i)) := walk_range
    refine ⟨lo, hi, rfl, ⟨by omega, by omega, by omega, by omega⟩, ?_⟩
    refine q _ H2 _ _ e2 (by rw [List.length_range]; exact w) (fun _ _ => trivial) fun i z H3 x H4 hz _ y => ?_
    obtain ⟨e, y⟩ := y
    subst e
    have hl := (List.getElem?_eq_some_iff.mp hz).1
    rw [List.length_range] at hl
    rw [List.getElem?_range hl] at hz
    cases hz
    exact ⟨Ex.refl _, y⟩
/-- pairs of a walk that gives new pairs -/
theorem pr_of {xs ys : Nat → Option V} {i : Nat} {H3 : Hp} {x : V} {H4 : Hp} {u v : V} (hx : xs i = some u) (hy : ys i = some v) (y : YPair xs ys i H3 x H4) : Ex H3 H4 ∧ IsPr u v x H4 := by
  obtain ⟨T, a, b, rfl, hT, rfl, h1, h2⟩ := y
  rw [hx] at h1
  rw [hy] at h2
  cases h1
  cases h2
  exact ⟨Ex.new hT, T, rfl, upd_same⟩
/-- zip of two lists of one length -/
theorem src_zipL {ta : TA} {zs : List α} {f1 f2 : α → V} {R1 : List V → Hp → Prop} (h : ∀ H1, Ex H H1 → ∀ Q : List V → Hp → Prop, (∀ vs H2, Ex H1 H2 → R1 vs H2 → Q vs H2) → ta σ H1 Q)
    (hr : ∀ vs H1, Ex H H1 → R1 vs H1 → ∃ a b, vs = [.ref a, .ref b] ∧ SqL K H1 a (zs.map f1) ∧ SqL K H1 b (zs.map f2)) : Src (iZip K ta) σ H zs (fun z x H => IsPr (f1 z) (f2 z) x H) := fun H1 e1 R q =>
  h H1 e1 _ fun vs H2 e2 r => by
    obtain ⟨a, b, rfl, ha, hb⟩ := hr vs H2 (e1.trans e2) r
    have w := walk_zip (K := K) (a := a) (b := b) (xs := zs.map f1) (ys := zs.map f2) (n := zs.length) (by rw [List.length_map, List.length_map, Nat.min_self])
    refine ⟨a, b, _, _, rfl, ha, hb, q _ H2 _ _ e2 w (fun H3 e3 => ⟨ex_l e3 ha, ex_l e3 hb⟩) fun i z H3 x H4 hz _ y => ?_⟩
    exact pr_of (by rw [List.getElem?_map, hz]; rfl) (by rw [List.getElem?_map, hz]; rfl) y
theorem src_enum {ta : TA} {xs : List V} {R1 : List V → Hp → Prop} (h : ∀ H1, Ex H H1 → ∀ Q : List V → Hp → Prop, (∀ vs H2, Ex H1 H2 → R1 vs H2 → Q vs H2) → ta σ H1 Q)
    (hr : ∀ vs H1, Ex H H1 → R1 vs H1 → ∃ a, vs = [.ref a] ∧ SqL K H1 a xs) : Src (iEnum K ta) σ H (xs.zipIdx) (fun z x H => IsPr (.int ((z.2 : Nat) : Int)) z.1 x H) := fun H1 e1 R q =>
  h H1 e1 _ fun vs H2 e2 r => by
    obtain ⟨a, rfl, ha⟩ := hr vs H2 (e1.trans e2) r
    have w := walk_enum (K := K) (a := a) (xs := xs)
    rw [← List.length_zipIdx (i := 0)] at w
    refine ⟨a, _, rfl, ha, q _ H2 _ _ e2 w (fun H3 e3 => ex_l e3 ha) fun i z H3 x H4 hz _ y => ?_⟩
    rw [List.getElem?_zipIdx] at hz
    cases hx : xs[i]? with
    | none =>
      rw [hx] at hz
      cases hz
    | some u =>
      rw [hx] at hz
      have e : (u, 0 + i) = z := Option.some.inj hz
      subst e
      refine pr_of (u := .int (((0 + i : Nat)) : Int)) ?_ hx y
      rw [Nat.zero_add]
end
end G651
/-! The mirror: what the defs compute, over lists of whole numbers; the law's checks. -/
namespace G651

/-- all lists of k of the things, in order -/
def tups {α : Type} (xs : List α) : Nat → List (List α)
  | 0 => [[]]
  | k + 1 => (tups xs k).flatMap fun t => xs.map fun x => t ++ [x]
def vals (n : Nat) : List Int := (List.range n).map fun (i : Nat) => (i : Int)
def rows (n k : Nat) : List (List Int) := tups (vals n) k
def plc (n : Int) (as : List Int) : Int := as.foldl (fun f a => f * n + a) 0
def mn (n x y z : Int) : Int := (x - y + z) % n
def dtab (n : Nat) : List Int := (rows n 3).map fun r => mn n (r.getD 0 0) (r.getD 1 0) (r.getD 2 0)
def img (n : Int) : List Int → List Int → List Int → List Int
  | a :: as, b :: bs, c :: cs => mn n a b c :: img n as bs cs
  | _, _, _ => []
def imgT (n : Int) (t : List (List Int)) : List Int := img n (t.getD 0 []) (t.getD 1 []) (t.getD 2 [])
/-- x - y + z keeps the rows -/
def aff (n : Int) (R : List (List Int)) : Bool := (tups R 3).all fun t => R.contains (imgT n t)

/-! ### elimination -/
def lowr (n : Int) (row head : List Int) (c : Nat) : List Int := List.zipWith (fun v o => (v - row.getD c 0 * o) % n) row head
def nzAt (c : Nat) (r : List Int) : Bool := r.getD c 0 != 0
def redStep (n : Int) (st : List (List Int) × List (List Int)) (c : Nat) : List (List Int) × List (List Int) :=
  match st.1.filter (nzAt c) with
  | [] => st
  | h :: _ =>
    let hd := h.map fun v => v * h.getD c 0 % n
    ((st.1.erase h).map fun r => lowr n r hd c, (st.2.map fun r => lowr n r hd c) ++ [hd])
def red (n : Int) (rs : List (List Int)) (w : Nat) : List (List Int) := ((List.range w).foldl (redStep n) (rs, [])).2

def steps (n : Int) (R : List (List Int)) : List (List Int) := R.map fun row => List.zipWith (fun v o => (v - o) % n) row (R.headD [])
def basis (n : Int) (ar : Nat) (R : List (List Int)) : List (List Int) := red n (steps n R) ar
/-- the places of a row that are not 0 -/
def nzs (r : List Int) : List Nat := ((List.range r.length).filter fun i => nzAt i r)
def heads (n : Int) (ar : Nat) (R : List (List Int)) : List Nat := (basis n ar R).map fun r => (nzs r).headD 0
def toldOf (n : Int) (ar : Nat) (B : List (List Int)) (hs : List Nat) (p : Nat) : List Int :=
  (B.zip hs).foldl (fun t bh => t.set bh.2 (-(bh.1.getD p 0) % n)) ((List.replicate ar 0).set p 1)
def eqn (n : Int) (first t : List Int) : List Int := t ++ [(List.zipWith (fun a b => a * b) t first).sum % n]
def found (n : Int) (ar : Nat) (R : List (List Int)) : List (List Int) :=
  ((List.range ar).filter fun p => !((heads n ar R).contains p)).map fun p => eqn n (R.headD []) (toldOf n ar (basis n ar R) (heads n ar R) p)
def eqs (n : Int) (ar : Nat) (R : List (List Int)) : List (List Int) := red n (found n ar R) (if found n ar R = [] then 0 else ar + 1)

/-! ### the law's checks of the equations -/
def okBasis (n : Int) (ar : Nat) (R : List (List Int)) : Bool := (basis n ar R).all fun r => !(nzs r).isEmpty
def sums (n : Int) (e v : List Int) : Bool := ((List.range v.length).map fun i => e.getD i 0 * v.getD i 0).sum % n == e.getD v.length 0
def some1 (ar : Nat) (e : List Int) : List Nat := (List.range ar).filter fun i => nzAt i e
def eHeads (ar : Nat) (E : List (List Int)) : List Nat := E.map fun e => (some1 ar e).headD 0
def incr : List Nat → Bool
  | a :: b :: r => decide (a < b) && incr (b :: r)
  | _ => true
/-- the same over natural numbers, for the kernel -/
def dotN : List Nat → List Nat → Nat → Nat
  | a :: as, b :: bs, s => dotN as bs (Nat.add (Nat.mul a b) s)
  | _, _, s => s
def lastN : List Nat → Nat
  | [] => 0
  | [a] => a
  | _ :: r => lastN r
def sumsN (n : Nat) (e v : List Nat) : Bool := Nat.beq (Nat.mod (dotN e v 0) n) (lastN e)
def rowsN (n k : Nat) : List (List Nat) := tups (List.range n) k
def natL (r : List Int) : List Nat := r.map Int.toNat
def solsN (n : Nat) : List (List Nat) → List (List Nat) → List (List Nat)
  | [], vs => vs
  | e :: es, vs => solsN n es (vs.filter fun v => sumsN n e v)
def okEqs (n : Nat) (ar : Nat) (R E : List (List Int)) : Bool :=
  (E.all fun e => decide (e.length = ar + 1) && (e.all fun v => decide (0 ≤ v) && decide (v ≤ (n : Int) - 1)) && !(some1 ar e).isEmpty && e.getD ((some1 ar e).headD 0) 0 == 1) &&
  incr (eHeads ar E) && ((eHeads ar E).all fun h => (E.filter fun e => nzAt h e).length == 1) && solsN n (E.map natL) (rowsN n ar) == R.map natL
/-- for the kernel: a value in its normal form before it is handed on -/
def frc {β : Type} (a : Int) (k : Int → β) : β := if a = Int.ofNat 0 then k (Int.ofNat 0) else if a = Int.ofNat 1 then k (Int.ofNat 1) else if a = Int.ofNat 2 then k (Int.ofNat 2) else k a
def frcL {β : Type} : List Int → (List Int → β) → β
  | [], k => k []
  | a :: r, k => frc a fun a' => frcL r fun r' => k (a' :: r')
def frcLL {β : Type} : List (List Int) → (List (List Int) → β) → β
  | [], k => k []
  | a :: r, k => frcL a fun a' => frcLL r fun r' => k (a' :: r')
def redC {β : Type} (n : Int) : List Nat → List (List Int) → List (List Int) → (List (List Int) → β) → β
  | [], _, f, k => k f
  | c :: cs, l, f, k => frcLL (redStep n (l, f) c).1 fun l' => frcLL (redStep n (l, f) c).2 fun f' => redC n cs l' f' k
def foundOf (n : Int) (ar : Nat) (first : List Int) (B : List (List Int)) (hs : List Nat) : List (List Int) :=
  ((List.range ar).filter fun p => !(hs.contains p)).map fun p => eqn n first (toldOf n ar B hs p)
def okAll (n : Nat) (ar : Nat) (R : List (List Int)) : Bool :=
  frcLL (steps n R) fun st => redC n (List.range ar) st [] fun B => (B.all fun r => !(nzs r).isEmpty) &&
    frcLL (foundOf n ar (R.headD []) B (B.map fun r => (nzs r).headD 0)) fun F => redC n (List.range (if F = [] then 0 else ar + 1)) F [] fun E => okEqs n ar R E

/-! ### every relation that x - y + z keeps, by a tree of choices -/
def clo (n : Int) (S : List (List Int)) (p : List Int) : List (List Int) :=
  match S with
  | [] => [p]
  | s0 :: r => (s0 :: r) ++ (p :: r.map (fun s => img n s s0 p)) ++ (if n = 2 then [] else (s0 :: r).map (fun s => img n (img n s s0 p) s0 p))
def nodup : List (List Int) → Bool
  | [] => true
  | a :: r => !r.contains a && nodup r
def leaf (n ar : Nat) (S : List (List Int)) : Bool := match S with
  | [] => true
  | _ => okAll n ar ((rows n ar).filter fun x => S.contains x)
def tree (n ar B : Nat) : List (List Int) → List (List Int) → List (List Int) → Bool
  | [], S, _ => leaf n ar S
  | p :: ps, S, out => if S.contains p = true then tree n ar B ps S out else
      tree n ar B ps S (p :: out) && ((decide (B < (clo n S p).length) && nodup (clo n S p)) || (clo n S p).any (fun x => out.contains x) || tree n ar B ps (clo n S p) out)
/-- one row, or three on a line -/
def lines (ar : Nat) : Bool := (rows 3 ar).all fun a => okAll 3 ar [a] && (rows 3 ar).all fun b => !HT.lexLt a b || !HT.lexLt b (img 3 b a b) || okAll 3 ar [a, b, img 3 b a b]

theorem t21 : tree 2 1 9 (rows 2 1) [] [] = true := by decide +kernel
theorem t22 : tree 2 2 9 (rows 2 2) [] [] = true := by decide +kernel
theorem t23 : tree 2 3 8 (rows 2 3) [] [] = true := by decide +kernel
theorem t31 : tree 3 1 9 (rows 3 1) [] [] = true := by decide +kernel
theorem t32 : tree 3 2 9 (rows 3 2) [] [] = true := by decide +kernel
theorem t24 : tree 2 4 8 (rows 2 4) [] [] = true := by decide +kernel
theorem t33 : lines 3 = true := by decide +kernel
theorem t34 : lines 4 = true := by decide +kernel
end G651
/-! The plain law: each relation that x - y + z keeps passes the law's checks. -/
namespace G651
open HT

/-! ### all lists of k things -/
theorem mem_tups {α : Type} {xs : List α} : ∀ {k : Nat} {t : List α}, t ∈ tups xs k ↔ t.length = k ∧ ∀ x ∈ t, x ∈ xs
  | 0, t => by
    constructor
    · intro h
      have e : t = [] := by simpa [tups] using h
      subst e
      exact ⟨rfl, fun x hx => nomatch hx⟩
    · rintro ⟨h, _⟩
      have e : t = [] := List.length_eq_zero_iff.mp h
      subst e
      simp [tups]
  | k + 1, t => by
    constructor
    · intro h
      unfold tups at h
      obtain ⟨u, hu, ht⟩ := List.mem_flatMap.mp h
      obtain ⟨x, hx, rfl⟩ := List.mem_map.mp ht
      obtain ⟨hl, hm⟩ := mem_tups.mp hu
      refine ⟨by simp [hl], fun y hy => ?_⟩
      rcases List.mem_append.mp hy with hy | hy
      · exact hm y hy
      · have e : y = x := by simpa using hy
        rw [e]
        exact hx
    · rintro ⟨hl, hm⟩
      have hne : t ≠ [] := fun e => by
        subst e
        simp at hl
      have e : t = t.dropLast ++ [t.getLast hne] := (List.dropLast_concat_getLast hne).symm
      unfold tups
      refine List.mem_flatMap.mpr ⟨t.dropLast, mem_tups.mpr ⟨by rw [List.length_dropLast]; omega, fun x hx => hm x ((List.dropLast_sublist t).subset hx)⟩, List.mem_map.mpr ⟨t.getLast hne, hm _ (List.getLast_mem hne), e.symm⟩⟩
theorem mem_vals {n : Nat} {v : Int} : v ∈ vals n ↔ 0 ≤ v ∧ v < n := by
  unfold vals
  rw [List.mem_map]
  constructor
  · rintro ⟨i, hi, rfl⟩
    rw [List.mem_range] at hi
    omega
  · rintro ⟨h1, h2⟩
    exact ⟨v.toNat, by rw [List.mem_range]; omega, by omega⟩
theorem mem_rows {n k : Nat} {r : List Int} : r ∈ rows n k ↔ r.length = k ∧ ∀ v ∈ r, 0 ≤ v ∧ v < n := by
  unfold rows
  rw [mem_tups]
  constructor
  · rintro ⟨h, q⟩
    exact ⟨h, fun v hv => mem_vals.mp (q v hv)⟩
  · rintro ⟨h, q⟩
    exact ⟨h, fun v hv => mem_vals.mpr (q v hv)⟩
theorem tups_len {α : Type} (xs : List α) : ∀ k, (tups xs k).length = xs.length ^ k
  | 0 => rfl
  | k + 1 => by
    unfold tups
    rw [List.length_flatMap]
    have : (tups xs k).map (fun t => (xs.map fun x => t ++ [x]).length) = (tups xs k).map fun _ => xs.length := by
      apply List.map_congr_left
      intro t _
      rw [List.length_map]
    rw [this, List.map_const', List.sum_replicate_nat, tups_len xs k, Nat.pow_succ]

/-! ### the order of rows -/
theorem lx_irr : ∀ a : List Int, lexLt a a = false
  | [] => rfl
  | x :: a => by
    rw [lexLt_cons, if_pos rfl]
    exact lx_irr a
theorem lx_asym : ∀ {a b : List Int}, lexLt a b = true → lexLt b a = false
  | [], [], h => rfl
  | [], _ :: _, _ => rfl
  | _ :: _, [], h => by
    rw [lexLt_cons_nil] at h
    cases h
  | x :: a, y :: b, h => by
    rw [lexLt_cons] at h ⊢
    by_cases e : x = y
    · rw [if_pos e] at h
      rw [if_pos e.symm]
      exact lx_asym h
    · rw [if_neg e] at h
      rw [if_neg (fun z => e z.symm)]
      have h' : x < y := of_decide_eq_true h
      exact decide_eq_false (by omega)
theorem lx_tot : ∀ {a b : List Int}, a.length = b.length → lexLt a b = false → lexLt b a = false → a = b
  | [], [], _, _, _ => rfl
  | [], _ :: _, hl, _, _ => by simp at hl
  | _ :: _, [], hl, _, _ => by simp at hl
  | x :: a, y :: b, hl, h1, h2 => by
    rw [lexLt_cons] at h1 h2
    by_cases e : x = y
    · rw [if_pos e] at h1
      rw [if_pos e.symm] at h2
      rw [e, lx_tot (by simpa using hl) h1 h2]
    · rw [if_neg e] at h1
      rw [if_neg (fun z => e z.symm)] at h2
      have h1' := of_decide_eq_false h1
      have h2' := of_decide_eq_false h2
      omega
def Asc (R : List (List Int)) : Prop := R.Pairwise fun a b => lexLt a b = true
theorem Asc.nodup {R : List (List Int)} (h : Asc R) : R.Nodup := List.Pairwise.imp (fun {a b} q e => by
  rw [e, lx_irr] at q
  cases q) h
theorem asc_eq : ∀ {A B : List (List Int)}, Asc A → Asc B → (∀ x, x ∈ A ↔ x ∈ B) → A = B
  | [], [], _, _, _ => rfl
  | [], b :: B, _, _, h => nomatch (h b).mpr List.mem_cons_self
  | a :: A, [], _, _, h => nomatch (h a).mp List.mem_cons_self
  | a :: A, b :: B, ha, hb, h => by
    have pa := List.pairwise_cons.mp ha
    have pb := List.pairwise_cons.mp hb
    have e : a = b := by
      rcases List.mem_cons.mp ((h a).mp List.mem_cons_self) with e | m1
      · exact e
      · rcases List.mem_cons.mp ((h b).mpr List.mem_cons_self) with e | m2
        · exact e.symm
        · have q := lx_asym (pb.1 a m1)
          rw [pa.1 b m2] at q
          cases q
    subst e
    have : A = B := asc_eq pa.2 pb.2 fun x => by
      constructor
      · intro hx
        rcases List.mem_cons.mp ((h x).mp (List.mem_cons_of_mem _ hx)) with e | m
        · subst e
          have q := pa.1 x hx
          rw [lx_irr] at q
          cases q
        · exact m
      · intro hx
        rcases List.mem_cons.mp ((h x).mpr (List.mem_cons_of_mem _ hx)) with e | m
        · subst e
          have q := pb.1 x hx
          rw [lx_irr] at q
          cases q
        · exact m
    rw [this]
def ascB (R : List (List Int)) : Bool := match R with
  | [] => true
  | a :: r => r.all (fun b => lexLt a b) && ascB r
theorem asc_of : ∀ {R : List (List Int)}, ascB R = true → Asc R
  | [], _ => List.Pairwise.nil
  | a :: r, h => by
    unfold ascB at h
    rw [Bool.and_eq_true] at h
    exact List.Pairwise.cons (fun b hb => List.all_eq_true.mp h.1 b hb) (asc_of h.2)
theorem asc_rows {n k : Nat} (hn : n = 2 ∨ n = 3) (h1 : 1 ≤ k) (h4 : k ≤ 4) : Asc (rows n k) := by
  apply asc_of
  rcases hn with rfl | rfl
  · obtain rfl | rfl | rfl | rfl : k = 1 ∨ k = 2 ∨ k = 3 ∨ k = 4 := by omega
    all_goals decide +kernel
  · obtain rfl | rfl | rfl | rfl : k = 1 ∨ k = 2 ∨ k = 3 ∨ k = 4 := by omega
    all_goals decide +kernel
theorem rows_pick {n k : Nat} (hn : n = 2 ∨ n = 3) (h1 : 1 ≤ k) (h4 : k ≤ 4) {R S : List (List Int)} (hv : ∀ r ∈ R, r ∈ rows n k) (hs : Asc R) (e : ∀ x, x ∈ S ↔ x ∈ R) : ((rows n k).filter fun x => S.contains x) = R :=
  asc_eq (List.Pairwise.filter _ (asc_rows hn h1 h4)) hs fun x => by
    rw [List.mem_filter, List.contains_iff_mem, e]
    exact ⟨fun h => h.2, fun h => ⟨hv x h, h⟩⟩
theorem nodup_le : ∀ {L R : List (List Int)}, L.Nodup → (∀ x ∈ L, x ∈ R) → L.length ≤ R.length
  | [], R, _, _ => Nat.zero_le _
  | a :: L, R, hn, h => by
    have p := List.nodup_cons.mp hn
    have ha : a ∈ R := h a List.mem_cons_self
    have ih := nodup_le (L := L) (R := R.erase a) p.2 fun x hx => (List.mem_erase_of_ne (fun e => p.1 (by rw [← e]; exact hx))).mpr (h x (List.mem_cons_of_mem _ hx))
    rw [List.length_erase_of_mem ha] at ih
    have hp : 0 < R.length := List.length_pos_of_mem ha
    rw [List.length_cons]
    omega
theorem nodup_of : ∀ {L : List (List Int)}, nodup L = true → L.Nodup
  | [], _ => List.nodup_nil
  | a :: r, h => by
    unfold nodup at h
    rw [Bool.and_eq_true, Bool.not_eq_true'] at h
    refine List.nodup_cons.mpr ⟨fun m => ?_, nodup_of h.2⟩
    have q := List.contains_iff_mem.mpr m
    rw [h.1] at q
    cases q

/-! ### forcing is nothing -/
theorem frc_eq {β : Type} (a : Int) (k : Int → β) : frc a k = k a := by
  unfold frc
  split
  · rename_i h
    rw [h]
  · split
    · rename_i h
      rw [h]
    · split
      · rename_i h
        rw [h]
      · rfl
theorem frcL_eq {β : Type} : ∀ (l : List Int) (k : List Int → β), frcL l k = k l
  | [], k => rfl
  | a :: r, k => by
    unfold frcL
    rw [frc_eq, frcL_eq r]
theorem frcLL_eq {β : Type} : ∀ (l : List (List Int)) (k : List (List Int) → β), frcLL l k = k l
  | [], k => rfl
  | a :: r, k => by
    unfold frcLL
    rw [frcL_eq, frcLL_eq r]
theorem redC_eq {β : Type} (n : Int) : ∀ (cs : List Nat) (l f : List (List Int)) (k : List (List Int) → β), redC n cs l f k = k (cs.foldl (redStep n) (l, f)).2
  | [], l, f, k => rfl
  | c :: cs, l, f, k => by
    unfold redC
    rw [frcLL_eq, frcLL_eq, redC_eq n cs, List.foldl_cons]
theorem okAll_eq (n ar : Nat) (R : List (List Int)) : okAll n ar R = (okBasis n ar R && okEqs n ar R (eqs n ar R)) := by
  unfold okAll
  rw [frcLL_eq, redC_eq]
  rw [frcLL_eq, redC_eq]
  rfl

/-! ### the tree finds each closed set -/
theorem img_mem_clo {n : Int} {R S : List (List Int)} {p : List Int} (hc : ∀ x y z, x ∈ R → y ∈ R → z ∈ R → img n x y z ∈ R) (hS : ∀ s ∈ S, s ∈ R) (hp : p ∈ R) : ∀ x ∈ clo n S p, x ∈ R := by
  intro x hx
  cases S with
  | nil =>
    have e : x = p := by simpa [clo] using hx
    rw [e]
    exact hp
  | cons s0 r =>
    have h0 := hS s0 List.mem_cons_self
    unfold clo at hx
    simp only at hx
    rcases List.mem_append.mp hx with hx | hx
    · rcases List.mem_append.mp hx with hx | hx
      · exact hS x hx
      · rcases List.mem_cons.mp hx with e | hx
        · rw [e]
          exact hp
        · obtain ⟨s, hs, rfl⟩ := List.mem_map.mp hx
          exact hc _ _ _ (hS s (List.mem_cons_of_mem _ hs)) h0 hp
    · split at hx
      · cases hx
      · obtain ⟨s, hs, rfl⟩ := List.mem_map.mp hx
        exact hc _ _ _ (hc _ _ _ (hS s hs) h0 hp) h0 hp
theorem clo_has {n : Int} {S : List (List Int)} {p x : List Int} (h : x ∈ S ∨ x = p) : x ∈ clo n S p := by
  cases S with
  | nil =>
    rcases h with h | h
    · cases h
    · simp [clo, h]
  | cons s0 r =>
    unfold clo
    simp only
    refine List.mem_append_left _ (List.mem_append.mpr ?_)
    rcases h with h | h
    · exact .inl h
    · exact .inr (by rw [h]; exact List.mem_cons_self)
theorem tree_sound {n ar B : Nat} {R : List (List Int)} (hc : ∀ x y z, x ∈ R → y ∈ R → z ∈ R → img n x y z ∈ R) (hB : R.length ≤ B) :
    ∀ (todo S out : List (List Int)), tree n ar B todo S out = true → (∀ s ∈ S, s ∈ R) → (∀ o ∈ out, o ∉ R) → (∀ x ∈ R, x ∈ S ∨ x ∈ todo) → ∃ S', (∀ x, x ∈ S' ↔ x ∈ R) ∧ leaf n ar S' = true
  | [], S, out, h, hS, _, hR => ⟨S, fun x => ⟨hS x, fun hx => (hR x hx).elim id fun z => nomatch z⟩, h⟩
  | p :: ps, S, out, h, hS, hO, hR => by
    unfold tree at h
    by_cases hp : S.contains p = true
    · rw [if_pos hp] at h
      refine tree_sound hc hB ps S out h hS hO fun x hx => ?_
      rcases hR x hx with q | q
      · exact .inl q
      · rcases List.mem_cons.mp q with e | q
        · rw [e]
          exact .inl (List.contains_iff_mem.mp hp)
        · exact .inr q
    · rw [if_neg hp, Bool.and_eq_true] at h
      by_cases hpR : p ∈ R
      · have hcl := img_mem_clo hc hS hpR
        have h2 := h.2
        rw [Bool.or_eq_true, Bool.or_eq_true, Bool.and_eq_true] at h2
        rcases h2 with (⟨h2, h3⟩ | h2) | h2
        · exfalso
          have a := nodup_le (nodup_of h3) hcl
          have b := of_decide_eq_true h2
          omega
        · exfalso
          obtain ⟨x, hx, ho⟩ := List.any_eq_true.mp h2
          exact hO x (List.contains_iff_mem.mp ho) (hcl x hx)
        · refine tree_sound hc hB ps _ out h2 hcl hO fun x hx => ?_
          rcases hR x hx with q | q
          · exact .inl (clo_has (.inl q))
          · rcases List.mem_cons.mp q with e | q
            · exact .inl (clo_has (.inr e))
            · exact .inr q
      · refine tree_sound hc hB ps S (p :: out) h.1 hS (fun o ho => ?_) fun x hx => ?_
        · rcases List.mem_cons.mp ho with e | ho
          · rw [e]
            exact hpR
          · exact hO o ho
        · rcases hR x hx with q | q
          · exact .inl q
          · rcases List.mem_cons.mp q with e | q
            · rw [e] at hx
              exact absurd hx hpR
            · exact .inr q
theorem aff_closed {n : Int} {R : List (List Int)} (h : aff n R = true) : ∀ x y z, x ∈ R → y ∈ R → z ∈ R → img n x y z ∈ R := fun x y z hx hy hz => by
  have q := List.all_eq_true.mp h [x, y, z] (mem_tups.mpr ⟨rfl, fun t ht => by
    rcases List.mem_cons.mp ht with e | ht
    · rw [e]
      exact hx
    rcases List.mem_cons.mp ht with e | ht
    · rw [e]
      exact hy
    · have e : t = z := by simpa using ht
      rw [e]
      exact hz⟩)
  exact List.contains_iff_mem.mp q
theorem ok_tree {n ar B : Nat} (hn : n = 2 ∨ n = 3) (h1 : 1 ≤ ar) (h4 : ar ≤ 4) (t : tree n ar B (rows n ar) [] [] = true) {R : List (List Int)} (hv : ∀ r ∈ R, r ∈ rows n ar) (hs : Asc R) (ha : aff n R = true) (h0 : R ≠ []) (hB : R.length ≤ B) : okAll n ar R = true := by
  obtain ⟨S, hS, hl⟩ := tree_sound (aff_closed ha) hB _ _ _ t (fun _ h => nomatch h) (fun _ h => nomatch h) (fun x hx => .inr (hv x hx))
  cases S with
  | nil =>
    exfalso
    cases R with
    | nil => exact h0 rfl
    | cons a r => exact nomatch (hS a).mpr List.mem_cons_self
  | cons s r =>
    have q : okAll n ar ((rows n ar).filter fun x => (s :: r).contains x) = true := hl
    rw [rows_pick hn h1 h4 hv hs hS] at q
    exact q

/-! ### modulo 3: at most eight rows are one, or three on a line -/
/-- x + i (y - x) + j (z - x) -/
def lin3 (i j x y z : Int) : Int := (x + i * (y - x) + j * (z - x)) % 3
def linL (i j : Int) : List Int → List Int → List Int → List Int
  | x :: xs, y :: ys, z :: zs => lin3 i j x y z :: linL i j xs ys zs
  | _, _, _ => []
def In3 (l : List Int) : Prop := ∀ v ∈ l, v = 0 ∨ v = 1 ∨ v = 2
theorem In3.tl {a : Int} {l : List Int} (h : In3 (a :: l)) : In3 l := fun v hv => h v (List.mem_cons_of_mem _ hv)
theorem In3.hd {a : Int} {l : List Int} (h : In3 (a :: l)) : a = 0 ∨ a = 1 ∨ a = 2 := h a List.mem_cons_self
/-- a fact at each place is a fact of the lists -/
theorem lin_lift {i j i' j' k m : Int} (pt : ∀ x y z, (x = 0 ∨ x = 1 ∨ x = 2) → (y = 0 ∨ y = 1 ∨ y = 2) → (z = 0 ∨ z = 1 ∨ z = 2) → lin3 i j x y z = lin3 i' j' x y z → z = lin3 k m x y z) :
    ∀ {a b p : List Int}, a.length = b.length → a.length = p.length → In3 a → In3 b → In3 p → linL i j a b p = linL i' j' a b p → p = linL k m a b p
  | [], [], [], _, _, _, _, _, _ => rfl
  | [], _ :: _, _, h, _, _, _, _, _ => by simp at h
  | _ :: _, [], _, h, _, _, _, _, _ => by simp at h
  | [], [], _ :: _, _, h, _, _, _, _ => by simp at h
  | _ :: _, _ :: _, [], _, h, _, _, _, _ => by simp at h
  | x :: a, y :: b, z :: p, h1, h2, ia, ib, ip, e => by
    have e1 : lin3 i j x y z = lin3 i' j' x y z := by injection e
    have e2 : linL i j a b p = linL i' j' a b p := by injection e
    show z :: p = lin3 k m x y z :: linL k m a b p
    rw [← pt x y z ia.hd ib.hd ip.hd e1, ← lin_lift pt (by simpa using h1) (by simpa using h2) ia.tl ib.tl ip.tl e2]
theorem lin_lift2 {i j i' j' : Int} (pt : ∀ x y z, (x = 0 ∨ x = 1 ∨ x = 2) → (y = 0 ∨ y = 1 ∨ y = 2) → (z = 0 ∨ z = 1 ∨ z = 2) → lin3 i j x y z = lin3 i' j' x y z → x = y) :
    ∀ {a b p : List Int}, a.length = b.length → a.length = p.length → In3 a → In3 b → In3 p → linL i j a b p = linL i' j' a b p → a = b
  | [], [], [], _, _, _, _, _, _ => rfl
  | [], _ :: _, _, h, _, _, _, _, _ => by simp at h
  | _ :: _, [], _, h, _, _, _, _, _ => by simp at h
  | [], [], _ :: _, _, h, _, _, _, _ => by simp at h
  | _ :: _, _ :: _, [], _, h, _, _, _, _ => by simp at h
  | x :: a, y :: b, z :: p, h1, h2, ia, ib, ip, e => by
    have e1 : lin3 i j x y z = lin3 i' j' x y z := by injection e
    have e2 : linL i j a b p = linL i' j' a b p := by injection e
    rw [pt x y z ia.hd ib.hd ip.hd e1, lin_lift2 pt (by simpa using h1) (by simpa using h2) ia.tl ib.tl ip.tl e2]
def v3 : List Int := [0, 1, 2]
/-- two of the nine agree: then z is on the line, or x is y -/
def agree (i j i' j' : Int) : Bool :=
  (decide (i = i') && decide (j = j')) ||
  (v3.any fun k => v3.all fun x => v3.all fun y => v3.all fun z => !decide (lin3 i j x y z = lin3 i' j' x y z) || decide (z = lin3 k 0 x y z)) ||
  (v3.all fun x => v3.all fun y => v3.all fun z => !decide (lin3 i j x y z = lin3 i' j' x y z) || decide (x = y))
theorem agree_all : (v3.all fun i => v3.all fun j => v3.all fun i' => v3.all fun j' => agree i j i' j') = true := by decide +kernel
theorem mem_v3 {x : Int} : x ∈ v3 ↔ x = 0 ∨ x = 1 ∨ x = 2 := by simp [v3]
theorem all3 {f : Int → Int → Int → Bool} (h : (v3.all fun x => v3.all fun y => v3.all fun z => f x y z) = true) : ∀ x y z, (x = 0 ∨ x = 1 ∨ x = 2) → (y = 0 ∨ y = 1 ∨ y = 2) → (z = 0 ∨ z = 1 ∨ z = 2) → f x y z = true := fun x y z hx hy hz =>
  List.all_eq_true.mp (List.all_eq_true.mp (List.all_eq_true.mp h x (mem_v3.mpr hx)) y (mem_v3.mpr hy)) z (mem_v3.mpr hz)
theorem lin_ne {i j i' j' : Int} (hi : i ∈ v3) (hj : j ∈ v3) (hi' : i' ∈ v3) (hj' : j' ∈ v3) {a b p : List Int} (h1 : a.length = b.length) (h2 : a.length = p.length) (ia : In3 a) (ib : In3 b) (ip : In3 p)
    (hab : a ≠ b) (hp : ∀ k ∈ v3, p ≠ linL k 0 a b p) (e : linL i j a b p = linL i' j' a b p) : i = i' ∧ j = j' := by
  have q := List.all_eq_true.mp (List.all_eq_true.mp (List.all_eq_true.mp (List.all_eq_true.mp agree_all i hi) j hj) i' hi') j' hj'
  unfold agree at q
  rw [Bool.or_eq_true, Bool.or_eq_true, Bool.and_eq_true] at q
  rcases q with (q | q) | q
  · exact ⟨of_decide_eq_true q.1, of_decide_eq_true q.2⟩
  · exfalso
    obtain ⟨k, hk, q⟩ := List.any_eq_true.mp q
    refine hp k hk (lin_lift (fun x y z hx hy hz e => ?_) h1 h2 ia ib ip e)
    have r := all3 q x y z hx hy hz
    rw [decide_eq_true e] at r
    exact of_decide_eq_true (by simpa using r)
  · exfalso
    refine hab (lin_lift2 (fun x y z hx hy hz e => ?_) h1 h2 ia ib ip e)
    have r := all3 q x y z hx hy hz
    rw [decide_eq_true e] at r
    exact of_decide_eq_true (by simpa using r)
theorem lin_00 : ∀ {a b p : List Int}, a.length = b.length → a.length = p.length → In3 a → linL 0 0 a b p = a
  | [], [], [], _, _, _ => rfl
  | [], _ :: _, _, h, _, _ => by simp at h
  | _ :: _, [], _, h, _, _ => by simp at h
  | [], [], _ :: _, _, h, _ => by simp at h
  | _ :: _, _ :: _, [], _, h, _ => by simp at h
  | x :: a, y :: b, z :: p, h1, h2, ia => by
    show lin3 0 0 x y z :: linL 0 0 a b p = x :: a
    rw [lin_00 (by simpa using h1) (by simpa using h2) ia.tl]
    have : lin3 0 0 x y z = x := by
      unfold lin3
      rcases ia.hd with e | e | e <;> subst e <;> omega
    rw [this]
theorem lin_10 : ∀ {a b p : List Int}, a.length = b.length → a.length = p.length → In3 b → linL 1 0 a b p = b
  | [], [], [], _, _, _ => rfl
  | [], _ :: _, _, h, _, _ => by simp at h
  | _ :: _, [], _, h, _, _ => by simp at h
  | [], [], _ :: _, _, h, _ => by simp at h
  | _ :: _, _ :: _, [], _, h, _ => by simp at h
  | x :: a, y :: b, z :: p, h1, h2, ib => by
    show lin3 1 0 x y z :: linL 1 0 a b p = y :: b
    rw [lin_10 (by simpa using h1) (by simpa using h2) ib.tl]
    have : lin3 1 0 x y z = y := by
      unfold lin3
      rcases ib.hd with e | e | e <;> subst e <;> omega
    rw [this]
theorem lin_20 : ∀ {a b p : List Int}, a.length = b.length → a.length = p.length → linL 2 0 a b p = img 3 b a b
  | [], [], [], _, _ => rfl
  | [], _ :: _, _, h, _ => by simp at h
  | _ :: _, [], _, h, _ => by simp at h
  | [], [], _ :: _, _, h => by simp at h
  | _ :: _, _ :: _, [], _, h => by simp at h
  | x :: a, y :: b, z :: p, h1, h2 => by
    show lin3 2 0 x y z :: linL 2 0 a b p = mn 3 y x y :: img 3 b a b
    rw [lin_20 (by simpa using h1) (by simpa using h2)]
    have : lin3 2 0 x y z = mn 3 y x y := by
      unfold lin3 mn
      congr 1
      omega
    rw [this]
/-- one more of p: from (i, j) to (i, j + 1) -/
theorem lin_up (i j : Int) : ∀ {a b p : List Int}, a.length = b.length → a.length = p.length → img 3 (linL i j a b p) a p = linL i (j + 1) a b p
  | [], [], [], _, _ => rfl
  | [], _ :: _, _, h, _ => by simp at h
  | _ :: _, [], _, h, _ => by simp at h
  | [], [], _ :: _, _, h => by simp at h
  | _ :: _, _ :: _, [], _, h => by simp at h
  | x :: a, y :: b, z :: p, h1, h2 => by
    show mn 3 (lin3 i j x y z) x z :: img 3 (linL i j a b p) a p = lin3 i (j + 1) x y z :: linL i (j + 1) a b p
    rw [lin_up i j (by simpa using h1) (by simpa using h2)]
    have : mn 3 (lin3 i j x y z) x z = lin3 i (j + 1) x y z := by
      unfold mn lin3
      have e : (j + 1) * (z - x) = j * (z - x) + (z - x) := by rw [Int.add_mul, Int.one_mul]
      rw [e]
      generalize i * (y - x) = u
      generalize j * (z - x) = v
      omega
    rw [this]
theorem in3_of {ar : Nat} {r : List Int} (h : r ∈ rows 3 ar) : In3 r := fun v hv => by
  have q := (mem_rows.mp h).2 v hv
  omega
theorem on_line {ar : Nat} {R : List (List Int)} (hv : ∀ r ∈ R, r ∈ rows 3 ar) (hc : ∀ x y z, x ∈ R → y ∈ R → z ∈ R → img 3 x y z ∈ R) (hl : R.length ≤ 8) {a b : List Int} (ha : a ∈ R) (hb : b ∈ R) (hab : a ≠ b) :
    ∀ p ∈ R, p = a ∨ p = b ∨ p = img 3 b a b := by
  intro p hp
  refine Classical.byContradiction fun hno => ?_
  have la := (mem_rows.mp (hv a ha)).1
  have lb := (mem_rows.mp (hv b hb)).1
  have lp := (mem_rows.mp (hv p hp)).1
  have h1 : a.length = b.length := by omega
  have h2 : a.length = p.length := by omega
  have ia := in3_of (hv a ha)
  have ib := in3_of (hv b hb)
  have ip := in3_of (hv p hp)
  have hp0 : ∀ k ∈ v3, p ≠ linL k 0 a b p := fun k hk e => by
    rcases mem_v3.mp hk with rfl | rfl | rfl
    · rw [lin_00 h1 h2 ia] at e
      exact hno (.inl e)
    · rw [lin_10 h1 h2 ib] at e
      exact hno (.inr (.inl e))
    · rw [lin_20 h1 h2] at e
      exact hno (.inr (.inr e))
  have m0 : ∀ k ∈ v3, linL k 0 a b p ∈ R := fun k hk => by
    rcases mem_v3.mp hk with rfl | rfl | rfl
    · rw [lin_00 h1 h2 ia]
      exact ha
    · rw [lin_10 h1 h2 ib]
      exact hb
    · rw [lin_20 h1 h2]
      exact hc _ _ _ hb ha hb
  have m1 : ∀ k ∈ v3, linL k 1 a b p ∈ R := fun k hk => by
    have e := lin_up k 0 h1 h2
    rw [Int.zero_add] at e
    rw [← e]
    exact hc _ _ _ (m0 k hk) ha hp
  have m2 : ∀ k ∈ v3, linL k 2 a b p ∈ R := fun k hk => by
    have e := lin_up k 1 h1 h2
    rw [show (1 : Int) + 1 = 2 from rfl] at e
    rw [← e]
    exact hc _ _ _ (m1 k hk) ha hp
  let ij : List (Int × Int) := [(0, 0), (1, 0), (2, 0), (0, 1), (1, 1), (2, 1), (0, 2), (1, 2), (2, 2)]
  have mij : ∀ q ∈ ij, q.1 ∈ v3 ∧ q.2 ∈ v3 := by decide
  have nd : (ij.map fun q => linL q.1 q.2 a b p).Nodup := by
    have ndij : ij.Nodup := by decide
    refine List.pairwise_map.mpr (List.Pairwise.imp_of_mem (fun {x y} hx hy ne e => ne ?_) ndij)
    have q := lin_ne (mij x hx).1 (mij x hx).2 (mij y hy).1 (mij y hy).2 h1 h2 ia ib ip hab hp0 e
    exact Prod.ext q.1 q.2
  have le := nodup_le (R := R) nd fun x hx => by
    obtain ⟨q, hq, rfl⟩ := List.mem_map.mp hx
    have m := mij q hq
    rcases mem_v3.mp m.2 with e | e | e <;> rw [e]
    · exact m0 _ m.1
    · exact m1 _ m.1
    · exact m2 _ m.1
  have e9 : (ij.map fun q => linL q.1 q.2 a b p).length = 9 := by simp [ij]
  omega
theorem ok_lines {ar : Nat} (t : lines ar = true) {R : List (List Int)} (hv : ∀ r ∈ R, r ∈ rows 3 ar) (hs : Asc R) (ha : aff 3 R = true) (h0 : R ≠ []) (hl : R.length ≤ 8) : okAll 3 ar R = true := by
  have hc := aff_closed ha
  match R, h0 with
  | [a], _ =>
    have q := List.all_eq_true.mp t a (hv a List.mem_cons_self)
    rw [Bool.and_eq_true] at q
    exact q.1
  | a :: b :: r, _ =>
    have ma : a ∈ a :: b :: r := List.mem_cons_self
    have mb : b ∈ a :: b :: r := List.mem_cons_of_mem _ List.mem_cons_self
    have p1 := List.pairwise_cons.mp hs
    have p2 := List.pairwise_cons.mp p1.2
    have lab : lexLt a b = true := p1.1 b List.mem_cons_self
    have nab : a ≠ b := fun e => by
      rw [e, lx_irr] at lab
      cases lab
    have line := on_line hv hc hl ma mb nab
    have mc : img 3 b a b ∈ a :: b :: r := hc _ _ _ mb ma mb
    have only : ∀ x ∈ r, x = img 3 b a b := fun x hx => by
      rcases line x (List.mem_cons_of_mem _ (List.mem_cons_of_mem _ hx)) with e | e | e
      · have q := p1.1 x (List.mem_cons_of_mem _ hx)
        rw [e, lx_irr] at q
        cases q
      · have q := p2.1 x hx
        rw [e, lx_irr] at q
        cases q
      · exact e
    have la := (mem_rows.mp (hv a ma)).1
    have lb := (mem_rows.mp (hv b mb)).1
    have ia := in3_of (hv a ma)
    have ib := in3_of (hv b mb)
    have ne : ∀ k ∈ v3, k ≠ 2 → linL 2 0 a b a ≠ linL k 0 a b a := fun k hk hk2 e => by
      rcases mem_v3.mp hk with rfl | rfl | rfl
      · exact nab (lin_lift2 (fun x y z hx hy hz e => by unfold lin3 at e; rcases hx with rfl | rfl | rfl <;> rcases hy with rfl | rfl | rfl <;> rcases hz with rfl | rfl | rfl <;> revert e <;> decide) (by omega) rfl ia ib ia e)
      · exact nab (lin_lift2 (fun x y z hx hy hz e => by unfold lin3 at e; rcases hx with rfl | rfl | rfl <;> rcases hy with rfl | rfl | rfl <;> rcases hz with rfl | rfl | rfl <;> revert e <;> decide) (by omega) rfl ia ib ia e)
      · exact hk2 rfl
    have nca : img 3 b a b ≠ a := fun e => by
      have q := ne 0 (by decide) (by decide)
      rw [lin_20 (by omega) rfl, lin_00 (by omega) rfl ia] at q
      exact q e
    have ncb : img 3 b a b ≠ b := fun e => by
      have q := ne 1 (by decide) (by decide)
      rw [lin_20 (by omega) rfl, lin_10 (by omega) rfl ib] at q
      exact q e
    have mr : img 3 b a b ∈ r := by
      rcases List.mem_cons.mp mc with e | m
      · exact absurd e nca
      · rcases List.mem_cons.mp m with e | m
        · exact absurd e ncb
        · exact m
    have er : r = [img 3 b a b] := by
      match r, mr, only, p2 with
      | [], mr, _, _ => cases mr
      | [x], _, only, _ => rw [only x List.mem_cons_self]
      | x :: y :: r', _, only, p2 =>
        exfalso
        have q := (List.pairwise_cons.mp p2.2).1 y List.mem_cons_self
        rw [only x List.mem_cons_self, only y (List.mem_cons_of_mem _ List.mem_cons_self), lx_irr] at q
        cases q
    have lbc := p2.1 _ mr
    rw [er]
    have q := List.all_eq_true.mp t a (hv a ma)
    rw [Bool.and_eq_true] at q
    have q2 := List.all_eq_true.mp q.2 b (hv b mb)
    rw [lab, lbc] at q2
    simpa using q2
/-- THE LAW, in plain Lean -/
theorem ok_all {n ar : Nat} (hn : n = 2 ∨ n = 3) (h1 : 1 ≤ ar) (h4 : ar ≤ 4) {R : List (List Int)} (hv : ∀ r ∈ R, r ∈ rows n ar) (hs : Asc R) (ha : aff n R = true) (h0 : R ≠ []) (hl : R.length ≤ 8 ∨ ar < 3) : okAll n ar R = true := by
  have hN : R.length ≤ (rows n ar).length := nodup_le hs.nodup hv
  rcases hn with rfl | rfl
  · obtain rfl | rfl | rfl | rfl : ar = 1 ∨ ar = 2 ∨ ar = 3 ∨ ar = 4 := by omega
    · exact ok_tree (.inl rfl) h1 h4 t21 hv hs ha h0 (Nat.le_trans hN (by decide +kernel))
    · exact ok_tree (.inl rfl) h1 h4 t22 hv hs ha h0 (Nat.le_trans hN (by decide +kernel))
    · exact ok_tree (.inl rfl) h1 h4 t23 hv hs ha h0 (by omega)
    · exact ok_tree (.inl rfl) h1 h4 t24 hv hs ha h0 (by omega)
  · obtain rfl | rfl | rfl | rfl : ar = 1 ∨ ar = 2 ∨ ar = 3 ∨ ar = 4 := by omega
    · exact ok_tree (.inr rfl) h1 h4 t31 hv hs ha h0 (Nat.le_trans hN (by decide +kernel))
    · exact ok_tree (.inr rfl) h1 h4 t32 hv hs ha h0 (Nat.le_trans hN (by decide +kernel))
    · exact ok_lines t33 hv hs ha h0 (by omega)
    · exact ok_lines t34 hv hs ha h0 (by omega)
end G651
/-! zip(*rows) of three tuples, its tuples to one name: what it gave out may still be there. -/
namespace G651
open PySem PySem.Spec PyProof.Rows L2 Evl
/-- a zip's object -/
abbrev ZO (h : Heap) (z TI TO : Addr) (d : Value) (f : Bool) : Prop :=
  h.get? z = some { cls := .type "zip", dict := none, data := .fields #[d, .bool f, .bool false, .ref TI, .ref TO], slots := #[] }
section
variable {prog : Program} {w : World} {A : Around} {E : Value → Shared → Prop} {s : Shared} {z TI TO i1 i2 i3 : Addr} {fp1 fp2 fp3 : List Addr} {n1 n2 n3 i : Nat} {P1 P2 P3 : Nat → Value → Prop} {St1 St2 St3 : Nat → Heap → Prop} {a1 a2 a3 d : Value} {f : Bool}
/-- the tuple given out has gone -/
theorem zo_dead {T : Addr} {Q : Bool → Shared → Prop} {E : Value → Shared → Prop} (hz : ZO s.heap z TI TO (rawInt T) f) (hT : s.heap.get? T = none) (h : Q true s) : wpAny (model prog w) A (Builtin.SmallTypes.ownedTupleIsFree (.ref z)) Q E s := by
  unfold Builtin.SmallTypes.ownedTupleIsFree
  refine wpAny_bind (wpAny_field hz rfl (x := rawInt T) rfl ?_)
  show wpAny _ _ (loadIfAlive ((T : Int).toNat) >>= _) _ _ _
  rw [Int.toNat_natCast]
  have h' : (fun o : Option Obj => wpAny (model prog w) A (if o.isNone = true then pure true else do
      if (← field (.ref z) 1) != .bool true then setField (.ref z) 1 (.bool true)
      return false) Q E s) (s.heap.get? T) := by
    rw [hT]
    exact wpAny_pure h
  refine wpAny_bind (fun p q r => ?_)
  exact h'
theorem zo_none {Q : Bool → Shared → Prop} {E : Value → Shared → Prop} (hz : ZO s.heap z TI TO .none f) (h : Q true s) : wpAny (model prog w) A (Builtin.SmallTypes.ownedTupleIsFree (.ref z)) Q E s := by
  unfold Builtin.SmallTypes.ownedTupleIsFree
  exact wpAny_bind (wpAny_field hz rfl (x := .none) rfl (wpAny_pure h))

theorem zs_item_free {Q : Value → Shared → Prop} (S : ZipSep3 z TI TO i1 i2 i3 fp1 fp2 fp3) (D1 : Draws prog w A i1 fp1 n1 P1 St1) (D2 : Draws prog w A i2 fp2 n2 P2 St2) (D3 : Draws prog w A i3 fp3 n3 P3 St3)
    (hz : ZO s.heap z TI TO d f) (hfr : ∀ (Q : Bool → Shared → Prop) (E : Value → Shared → Prop), Q true s → wpAny (model prog w) A (Builtin.SmallTypes.ownedTupleIsFree (.ref z)) Q E s)
    (hTI : IsTupOf3 s.heap TI (.ref i1) (.ref i2) (.ref i3)) (hTO : IsTupOf3 s.heap TO a1 a2 a3) (st1 : St1 i s.heap) (st2 : St2 i s.heap) (st3 : St3 i s.heap) (hlt1 : i < n1) (hlt2 : i < n2) (hlt3 : i < n3)
    (hQ : ∀ x1 x2 x3 h' tk, P1 i x1 → P2 i x2 → P3 i x3 → ZO h' z TI TO (rawInt s.heap.objs.size) false → IsTupOf3 h' TO x1 x2 x3 → St1 (i + 1) h' → St2 (i + 1) h' → St3 (i + 1) h' → IsTupOf3 h' s.heap.objs.size x1 x2 x3 → h'.objs.size = s.heap.objs.size + 1 →
      (∀ c o, c ≠ z → c ≠ TO → c ≠ i1 → c ≠ i2 → c ≠ i3 → s.heap.get? c = some o → h'.get? c = some o) → Q (.ref s.heap.objs.size) { s with heap := h', toks := tk }) :
    wpAny (model prog w) A (Builtin.«zip.__next__» ⟨[.ref z], []⟩) (fun fin s' => ∃ v, fin = .done (.ret v) ∧ Q v s') E s := by
  obtain ⟨hp, g, dd, tk0, os⟩ := s
  show wpAny _ _ (field (.ref z) 2 >>= _) _ _ _
  refine wpAny_bind (wpAny_field hz rfl (x := .bool false) rfl ?_)
  show wpAny _ _ (field (.ref z) 3 >>= _) _ _ _
  refine wpAny_bind (wpAny_field hz rfl (x := .ref TI) rfl ?_)
  refine wpAny_bind (wpAny_seqItems hTI rfl ?_)
  show wpAny _ _ (Builtin.SmallTypes.ownedTupleIsFree (.ref z) >>= _) _ _ _
  refine wpAny_bind (hfr _ _ ?_)
  simp only [if_true]
  refine wpAny_bind (wpAny_rule ?_)
  refine wpAny_bind (wpAny_field hz rfl (x := .ref TO) rfl ?_)
  refine wpAny_bind (wpAny_setField_rec hz (by simp) fun g0 hz0 hs0 => ?_)
  replace hz0 : ZO g0 z TI TO .ellipsis f := hz0
  replace hs0 : Heap.SameBut z hp g0 := hs0
  refine wpAny_bind ?_
  simp only [List.zipIdx_cons, List.zipIdx_nil, List.forIn_cons, List.forIn_nil]
  refine wpAny_bind (wpAny_bind (wpAny_onRaise ?_))
  show wpAny _ _ (Builtin.SmallTypes.nextOf (.ref i1) >>= _) _ _ ⟨g0, g, dd, tk0, os⟩
  refine wpAny_bind (D1.item i _ _ _ hlt1 (D1.over st1 hs0 S.zf1) fun x1 p1 tk1 hx1 sn1 hp1 => wpAny_pure ?_)
  replace hp1 : Heap.SameBut i1 g0 p1 := hp1
  have hU1 : IsTupOf3 p1 TO a1 a2 a3 := hp1.extBut _ _ S.Ti1 (hs0.extBut _ _ S.TOz hTO)
  refine wpAny_bind (wpAny_seqItems (s := ⟨p1, g, dd, tk1, os⟩) hU1 rfl ?_)
  refine wpAny_bind (updateSeq_IsTupOf3 (s := ⟨p1, g, dd, tk1, os⟩) hU1 fun g1 hT1 hs1 => ?_)
  replace hT1 : IsTupOf3 g1 TO x1 a2 a3 := hT1
  replace hs1 : Heap.SameBut TO p1 g1 := hs1
  refine wpAny_bind (wpAny_letGo (wpAny_pure ?_))
  refine wpAny_bind (wpAny_bind (wpAny_onRaise ?_))
  show wpAny _ _ (Builtin.SmallTypes.nextOf (.ref i2) >>= _) _ _ ⟨g1, g, dd, tk1, os⟩
  refine wpAny_bind (D2.item i _ _ _ hlt2 (D2.over (D2.over (D2.over st2 hs0 S.zf2) hp1 S.sep1_2) hs1 S.Tf2) fun x2 p2 tk2 hx2 sn2 hp2 => wpAny_pure ?_)
  replace hp2 : Heap.SameBut i2 g1 p2 := hp2
  have hU2 : IsTupOf3 p2 TO x1 a2 a3 := hp2.extBut _ _ S.Ti2 hT1
  refine wpAny_bind (wpAny_seqItems (s := ⟨p2, g, dd, tk2, os⟩) hU2 rfl ?_)
  refine wpAny_bind (updateSeq_IsTupOf3 (s := ⟨p2, g, dd, tk2, os⟩) hU2 fun g2 hT2 hs2 => ?_)
  replace hT2 : IsTupOf3 g2 TO x1 x2 a3 := hT2
  replace hs2 : Heap.SameBut TO p2 g2 := hs2
  refine wpAny_bind (wpAny_letGo (wpAny_pure ?_))
  refine wpAny_bind (wpAny_bind (wpAny_onRaise ?_))
  show wpAny _ _ (Builtin.SmallTypes.nextOf (.ref i3) >>= _) _ _ ⟨g2, g, dd, tk2, os⟩
  refine wpAny_bind (D3.item i _ _ _ hlt3 (D3.over (D3.over (D3.over (D3.over (D3.over st3 hs0 S.zf3) hp1 S.sep1_3) hs1 S.Tf3) hp2 S.sep2_3) hs2 S.Tf3) fun x3 p3 tk3 hx3 sn3 hp3 => wpAny_pure ?_)
  replace hp3 : Heap.SameBut i3 g2 p3 := hp3
  have hU3 : IsTupOf3 p3 TO x1 x2 a3 := hp3.extBut _ _ S.Ti3 hT2
  refine wpAny_bind (wpAny_seqItems (s := ⟨p3, g, dd, tk3, os⟩) hU3 rfl ?_)
  refine wpAny_bind (updateSeq_IsTupOf3 (s := ⟨p3, g, dd, tk3, os⟩) hU3 fun g3 hT3 hs3 => ?_)
  replace hT3 : IsTupOf3 g3 TO x1 x2 x3 := hT3
  replace hs3 : Heap.SameBut TO p3 g3 := hs3
  refine wpAny_bind (wpAny_letGo (wpAny_pure (wpAny_pure ?_)))
  refine wpAny_bind (wpAny_seqItems (s := ⟨g3, g, dd, tk3, os⟩) hT3 rfl ?_)
  refine wpAny_bind (wpAny_newTuple ?_)
  have hsz : g3.objs.size = hp.objs.size := by rw [hs3.1, hp3.1, hs2.1, hp2.1, hs1.1, hp1.1, hs0.1]
  have hzz : ZO g3 z TI TO .ellipsis f := (hs3.extBut _ _ S.TOz.symm (hp3.extBut _ _ S.zi3 (hs2.extBut _ _ S.TOz.symm (hp2.extBut _ _ S.zi2 (hs1.extBut _ _ S.TOz.symm (hp1.extBut _ _ S.zi1 hz0))))))
  have hkk : ∀ c o, c ≠ z → c ≠ TO → c ≠ i1 → c ≠ i2 → c ≠ i3 → hp.get? c = some o → g3.get? c = some o := fun c o cz cT c1 c2 c3 e =>
    (hs3.extBut _ _ cT (hp3.extBut _ _ c3 (hs2.extBut _ _ cT (hp2.extBut _ _ c2 (hs1.extBut _ _ cT (hp1.extBut _ _ c1 (hs0.extBut _ _ cz e)))))))
  have hj1 : St1 (i + 1) g3 := (D1.over (D1.over (D1.over (D1.over (D1.over sn1 hs1 S.Tf1) hp2 S.sep2_1) hs2 S.Tf1) hp3 S.sep3_1) hs3 S.Tf1)
  have hj2 : St2 (i + 1) g3 := (D2.over (D2.over (D2.over sn2 hs2 S.Tf2) hp3 S.sep3_2) hs3 S.Tf2)
  have hj3 : St3 (i + 1) g3 := (D3.over sn3 hs3 S.Tf3)
  have hzlt : z < g3.objs.size := Heap.lt_size hzz
  show wpAny _ _ (Builtin.SmallTypes.ownedTupleHandOut (.ref z) (.ref g3.objs.size) >>= _) _ _ ⟨g3.push { cls := .type "tuple", data := .seq #[x1, x2, x3] }, g, dd, tk3, os⟩
  refine wpAny_bind ?_
  unfold Builtin.SmallTypes.ownedTupleHandOut
  have hz₆ : ZO (g3.push { cls := .type "tuple", data := .seq #[x1, x2, x3] }) z TI TO .ellipsis f := Heap.get?_push_of_some _ hzz
  refine wpAny_bind (wpAny_setField_rec hz₆ (by simp) fun h₇ hz₇ hs₇ => ?_)
  replace hz₇ : ZO h₇ z TI TO (rawInt g3.objs.size) f := hz₇
  refine wpAny_setField_rec hz₇ (by simp) fun h₈ hz₈ hs₈ => ?_
  replace hz₈ : ZO h₈ z TI TO (rawInt g3.objs.size) false := hz₈
  replace hs₇ : Heap.SameBut z (g3.push { cls := .type "tuple", data := .seq #[x1, x2, x3] }) h₇ := hs₇
  replace hs₈ : Heap.SameBut z h₇ h₈ := hs₈
  have up : ∀ c o, c ≠ z → g3.get? c = some o → h₈.get? c = some o := fun c o c1 e => hs₈.extBut _ _ c1 (hs₇.extBut _ _ c1 (Heap.get?_push_of_some _ e))
  have hT₈ : IsTupOf3 h₈ g3.objs.size x1 x2 x3 := hs₈.extBut _ _ (Nat.ne_of_gt hzlt) (hs₇.extBut _ _ (Nat.ne_of_gt hzlt) (Heap.get?_push_size _ rfl))
  have hz8 : h₈.objs.size = g3.objs.size + 1 := by rw [hs₈.1, hs₇.1, Heap.size_push]
  rw [hsz] at hz₈ hT₈ hz8
  refine wpAny_pure ⟨_, rfl, ?_⟩
  show Q (.ref g3.objs.size) ⟨h₈, g, dd, tk3, os⟩
  rw [hsz]
  exact hQ x1 x2 x3 h₈ tk3 hx1 hx2 hx3 hz₈ (up _ _ S.TOz hT3) (D1.frame _ _ _ hj1 fun b hb o e => up b o (fun q => S.zf1 (q ▸ hb)) e) (D2.frame _ _ _ hj2 fun b hb o e => up b o (fun q => S.zf2 (q ▸ hb)) e) (D3.frame _ _ _ hj3 fun b hb o e => up b o (fun q => S.zf3 (q ▸ hb)) e) hT₈ hz8 fun c o cz cT c1 c2 c3 e => up c o cz (hkk c o cz cT c1 c2 c3 e)
theorem zs_end_free {Q : Fin → Shared → Prop} (S : ZipSep3 z TI TO i1 i2 i3 fp1 fp2 fp3) (D1 : Draws prog w A i1 fp1 n1 P1 St1)
    (hz : ZO s.heap z TI TO d f) (hfr : ∀ (Q : Bool → Shared → Prop) (E : Value → Shared → Prop), Q true s → wpAny (model prog w) A (Builtin.SmallTypes.ownedTupleIsFree (.ref z)) Q E s)
    (hTI : IsTupOf3 s.heap TI (.ref i1) (.ref i2) (.ref i3)) (st1 : St1 n1 s.heap)
    (hE : ∀ h' tk e, (∀ c o, c ≠ z → c ≠ TO → c ≠ i1 → c ≠ i2 → c ≠ i3 → s.heap.get? c = some o → h'.get? c = some o) → (∃ o, h'.get? e = some o ∧ o.cls = .type "StopIteration") → E (.ref e) { s with heap := h', toks := tk }) :
    wpAny (model prog w) A (Builtin.«zip.__next__» ⟨[.ref z], []⟩) Q E s := by
  obtain ⟨hp, g, dd, tk0, os⟩ := s
  show wpAny _ _ (field (.ref z) 2 >>= _) _ _ _
  refine wpAny_bind (wpAny_field hz rfl (x := .bool false) rfl ?_)
  show wpAny _ _ (field (.ref z) 3 >>= _) _ _ _
  refine wpAny_bind (wpAny_field hz rfl (x := .ref TI) rfl ?_)
  refine wpAny_bind (wpAny_seqItems hTI rfl ?_)
  show wpAny _ _ (Builtin.SmallTypes.ownedTupleIsFree (.ref z) >>= _) _ _ _
  refine wpAny_bind (hfr _ _ ?_)
  simp only [if_true]
  refine wpAny_bind (wpAny_rule ?_)
  refine wpAny_bind (wpAny_field hz rfl (x := .ref TO) rfl ?_)
  refine wpAny_bind (wpAny_setField_rec hz (by simp) fun g0 hz0 hs0 => ?_)
  replace hz0 : ZO g0 z TI TO .ellipsis f := hz0
  replace hs0 : Heap.SameBut z hp g0 := hs0
  refine wpAny_bind ?_
  simp only [List.zipIdx_cons, List.zipIdx_nil, List.forIn_cons, List.forIn_nil]
  refine wpAny_bind (wpAny_bind (wpAny_onRaise ?_))
  show wpAny _ _ (Builtin.SmallTypes.nextOf (.ref i1) >>= _) _ _ ⟨g0, g, dd, tk0, os⟩
  refine wpAny_bind (D1.done ⟨g0, g, dd, tk0, os⟩ _ _ (D1.over st1 hs0 S.zf1) fun q e hq he => ?_)
  replace hq : Heap.ExtBut i1 g0 q := hq
  obtain ⟨oe, hoe, hce⟩ := he
  replace hoe : q.get? e = some oe := hoe
  have hzq : ZO q z TI TO .ellipsis f := hq _ _ S.zi1 hz0
  have hez : e ≠ z := fun x => by subst x; rw [hzq] at hoe; cases hoe; simp at hce
  refine wpAny_setField_rec (s := ⟨q, g, dd, tk0, os⟩) hzq (by simp) fun q' _ hq' => ?_
  replace hq' : Heap.SameBut z q q' := hq'
  exact hE q' tk0 e (fun c o cz cT c1 c2 c3 x => hq'.extBut _ _ cz (hq _ _ c1 (hs0.extBut _ _ cz x))) ⟨oe, hq'.extBut _ _ hez hoe, hce⟩
theorem zs_item_held {T : Addr} {oT : Obj} {Q : Value → Shared → Prop} (S : ZipSep3 z TI TO i1 i2 i3 fp1 fp2 fp3) (D1 : Draws prog w A i1 fp1 n1 P1 St1) (D2 : Draws prog w A i2 fp2 n2 P2 St2) (D3 : Draws prog w A i3 fp3 n3 P3 St3)
    (hz : IsZipHeld s.heap z TI TO T f) (hT : s.heap.get? T = some oT)
    (hTI : IsTupOf3 s.heap TI (.ref i1) (.ref i2) (.ref i3)) (st1 : St1 i s.heap) (st2 : St2 i s.heap) (st3 : St3 i s.heap) (hlt1 : i < n1) (hlt2 : i < n2) (hlt3 : i < n3)
    (hQ : ∀ x1 x2 x3 h' tk, P1 i x1 → P2 i x2 → P3 i x3 → IsZipHeld h' z TI TO T true → St1 (i + 1) h' → St2 (i + 1) h' → St3 (i + 1) h' → IsTupOf3 h' s.heap.objs.size x1 x2 x3 → h'.objs.size = s.heap.objs.size + 1 →
      (∀ c o, c ≠ z → c ≠ i1 → c ≠ i2 → c ≠ i3 → s.heap.get? c = some o → h'.get? c = some o) → Q (.ref s.heap.objs.size) { s with heap := h', toks := tk }) :
    wpAny (model prog w) A (Builtin.«zip.__next__» ⟨[.ref z], []⟩) (fun fin s' => ∃ v, fin = .done (.ret v) ∧ Q v s') E s := by
  obtain ⟨hp, g, dd, tk0, os⟩ := s
  show wpAny _ _ (field (.ref z) 2 >>= _) _ _ _
  refine wpAny_bind (wpAny_field hz rfl (x := .bool false) rfl ?_)
  show wpAny _ _ (field (.ref z) 3 >>= _) _ _ _
  refine wpAny_bind (wpAny_field hz rfl (x := .ref TI) rfl ?_)
  refine wpAny_bind (wpAny_seqItems hTI rfl ?_)
  show wpAny _ _ (Builtin.SmallTypes.ownedTupleIsFree (.ref z) >>= _) _ _ _
  refine wpAny_bind (wpAny_tupleHeld_zip hz hT fun g0 hz0 hs0 => ?_)
  replace hs0 : Heap.SameBut z hp g0 := hs0
  simp only [Bool.false_eq_true, if_false]
  refine wpAny_bind ?_
  rw [← Array.forIn_toList]
  simp only [List.forIn_cons, List.forIn_nil]
  refine wpAny_bind (wpAny_bind (wpAny_holding ?_))
  show wpAny _ _ (Builtin.SmallTypes.nextOf (.ref i1) >>= _) _ _ ⟨g0, g, dd, tk0, os⟩
  refine wpAny_bind (D1.item i _ _ _ hlt1 (D1.over st1 hs0 S.zf1) fun x1 p1 tk1 hx1 sn1 hp1 => wpAny_pure ?_)
  replace hp1 : Heap.SameBut i1 g0 p1 := hp1
  refine wpAny_pure ?_
  refine wpAny_bind (wpAny_bind (wpAny_holding ?_))
  show wpAny _ _ (Builtin.SmallTypes.nextOf (.ref i2) >>= _) _ _ ⟨p1, g, dd, tk1, os⟩
  refine wpAny_bind (D2.item i _ _ _ hlt2 (D2.over (D2.over st2 hs0 S.zf2) hp1 S.sep1_2) fun x2 p2 tk2 hx2 sn2 hp2 => wpAny_pure ?_)
  replace hp2 : Heap.SameBut i2 p1 p2 := hp2
  refine wpAny_pure ?_
  refine wpAny_bind (wpAny_bind (wpAny_holding ?_))
  show wpAny _ _ (Builtin.SmallTypes.nextOf (.ref i3) >>= _) _ _ ⟨p2, g, dd, tk2, os⟩
  refine wpAny_bind (D3.item i _ _ _ hlt3 (D3.over (D3.over (D3.over st3 hs0 S.zf3) hp1 S.sep1_3) hp2 S.sep2_3) fun x3 p3 tk3 hx3 sn3 hp3 => wpAny_pure ?_)
  replace hp3 : Heap.SameBut i3 p2 p3 := hp3
  refine wpAny_pure (wpAny_pure ?_)
  show wpAny _ _ (newTuple [x1, x2, x3] >>= _) _ _ ⟨p3, g, dd, tk3, os⟩
  refine wpAny_bind (wpAny_newTuple ?_)
  have hsz : p3.objs.size = hp.objs.size := by rw [hp3.1, hp2.1, hp1.1, hs0.1]
  have hzz : IsZipHeld p3 z TI TO T true := hp3.extBut _ _ S.zi3 (hp2.extBut _ _ S.zi2 (hp1.extBut _ _ S.zi1 hz0))
  have hkk : ∀ c o, c ≠ z → c ≠ i1 → c ≠ i2 → c ≠ i3 → hp.get? c = some o → p3.get? c = some o := fun c o cz c1 c2 c3 e =>
    hp3.extBut _ _ c3 (hp2.extBut _ _ c2 (hp1.extBut _ _ c1 (hs0.extBut _ _ cz e)))
  have hj1 : St1 (i + 1) p3 := D1.over (D1.over sn1 hp2 S.sep2_1) hp3 S.sep3_1
  have hj2 : St2 (i + 1) p3 := D2.over sn2 hp3 S.sep3_2
  refine wpAny_pure ⟨_, rfl, ?_⟩
  show Q (.ref p3.objs.size) ⟨p3.push { cls := .type "tuple", data := .seq #[x1, x2, x3] }, g, dd, tk3, os⟩
  have hpT : IsTupOf3 (p3.push { cls := .type "tuple", data := .seq #[x1, x2, x3] }) p3.objs.size x1 x2 x3 := Heap.get?_push_size _ rfl
  have hz4 : (p3.push { cls := .type "tuple", data := .seq #[x1, x2, x3] }).objs.size = p3.objs.size + 1 := Heap.size_push ..
  rw [hsz] at hpT hz4 ⊢
  exact hQ x1 x2 x3 _ tk3 hx1 hx2 hx3 (Heap.get?_push_of_some _ hzz) (D1.frame _ _ _ hj1 fun b _ o e => Heap.get?_push_of_some _ e) (D2.frame _ _ _ hj2 fun b _ o e => Heap.get?_push_of_some _ e) (D3.frame _ _ _ sn3 fun b _ o e => Heap.get?_push_of_some _ e) hpT hz4 fun c o cz c1 c2 c3 e => Heap.get?_push_of_some _ (hkk c o cz c1 c2 c3 e)
theorem zs_end_held {T : Addr} {oT : Obj} {Q : Fin → Shared → Prop} (S : ZipSep3 z TI TO i1 i2 i3 fp1 fp2 fp3) (D1 : Draws prog w A i1 fp1 n1 P1 St1)
    (hz : IsZipHeld s.heap z TI TO T f) (hT : s.heap.get? T = some oT) (hTI : IsTupOf3 s.heap TI (.ref i1) (.ref i2) (.ref i3)) (st1 : St1 n1 s.heap)
    (hE : ∀ h' tk e, (∀ c o, c ≠ z → c ≠ TO → c ≠ i1 → c ≠ i2 → c ≠ i3 → s.heap.get? c = some o → h'.get? c = some o) → (∃ o, h'.get? e = some o ∧ o.cls = .type "StopIteration") → E (.ref e) { s with heap := h', toks := tk }) :
    wpAny (model prog w) A (Builtin.«zip.__next__» ⟨[.ref z], []⟩) Q E s := by
  obtain ⟨hp, g, dd, tk0, os⟩ := s
  show wpAny _ _ (field (.ref z) 2 >>= _) _ _ _
  refine wpAny_bind (wpAny_field hz rfl (x := .bool false) rfl ?_)
  show wpAny _ _ (field (.ref z) 3 >>= _) _ _ _
  refine wpAny_bind (wpAny_field hz rfl (x := .ref TI) rfl ?_)
  refine wpAny_bind (wpAny_seqItems hTI rfl ?_)
  show wpAny _ _ (Builtin.SmallTypes.ownedTupleIsFree (.ref z) >>= _) _ _ _
  refine wpAny_bind (wpAny_tupleHeld_zip hz hT fun g0 hz0 hs0 => ?_)
  replace hs0 : Heap.SameBut z hp g0 := hs0
  simp only [Bool.false_eq_true, if_false]
  refine wpAny_bind ?_
  rw [← Array.forIn_toList]
  simp only [List.forIn_cons, List.forIn_nil]
  refine wpAny_bind (wpAny_bind (wpAny_holding ?_))
  show wpAny _ _ (Builtin.SmallTypes.nextOf (.ref i1) >>= _) _ _ ⟨g0, g, dd, tk0, os⟩
  refine wpAny_bind (D1.done ⟨g0, g, dd, tk0, os⟩ _ _ (D1.over st1 hs0 S.zf1) fun q e hq he => ?_)
  replace hq : Heap.ExtBut i1 g0 q := hq
  exact hE q tk0 e (fun c o cz cT c1 c2 c3 x => hq _ _ c1 (hs0.extBut _ _ cz x)) he
/-- the state between two turns: nothing is out, or a tuple is (it may have gone) -/
def ZSt (z TI TO i1 i2 i3 a b c : Addr) (i : Nat) (h : Heap) : Prop :=
  (∃ d f, ZO h z TI TO d f ∧ (d = .none ∨ ∃ T : Addr, d = rawInt T)) ∧ IsTupOf3 h TI (.ref i1) (.ref i2) (.ref i3) ∧ (∃ a1 a2 a3, IsTupOf3 h TO a1 a2 a3) ∧ h.IsTupleIter i1 a i ∧ h.IsTupleIter i2 b i ∧ h.IsTupleIter i3 c i
end

/-- the tuples at a, b, c as they stand at each turn, the items in new tuples -/
def ItzS (K : PySem.W.Frag) (a b c : Addr) : It :=
  ⟨fun i H => ∃ (xs ys us : List V) (x y u : V), SqT K H a xs ∧ SqT K H b ys ∧ SqT K H c us ∧ xs[i]? = some x ∧ ys[i]? = some y ∧ us[i]? = some u,
    fun i H v H' => ∃ T x y u, v = .ref T ∧ H T = none ∧ H' = upd H T (.tup [x, y, u]) ∧ (∀ xs, SqT K H a xs → xs[i]? = some x) ∧ (∀ ys, SqT K H b ys → ys[i]? = some y) ∧ ∀ us, SqT K H c us → us[i]? = some u,
    fun i H => ∃ xs : List V, SqT K H a xs ∧ xs.length = i⟩
theorem sep_of {z TI TO i1 i2 i3 a b c : Addr} (S : ZipSep3 z TI TO i1 i2 i3 [i1, a] [i2, b] [i3, c]) : True := trivial
section
variable {P : Program} {w : World} {K : PySem.W.Frag} {x : Str} {tpos : Pos} {a b c z TI TO i1 i2 i3 : Addr}
theorem tt_at {A : Around} {hh : A.handled = none} {it t : Addr} (hne : t ≠ it) {its : List Value} : Draws P w A it [it, t] its.length (fun i v => its[i]? = some v) (fun i h => h.IsTupleIter it t i ∧ h.IsTuple t its.toArray) := by
  have D := Draws.tuple (prog := P) (w := w) (A := A) hh it t hne its.toArray
  simpa using D
theorem turn_zipS (S : ZipSep3 z TI TO i1 i2 i3 [i1, a] [i2, b] [i3, c]) (na : a ≠ i1) (nb : b ≠ i2) (nc : c ≠ i3) :
    Turn P w K (.Name x tpos) (ItzS K a b c) [z, TI, TO, i1, i2, i3] z (ZSt z TI TO i1 i2 i3 a b c) where
  mem := by simp
  obj := fun i h st q hq => by
    obtain ⟨⟨d, f, hz, _⟩, hTI, ⟨x, y, u, hTO⟩, ⟨o1, e1, _, d1⟩, ⟨o2, e2, _, d2⟩, ⟨o3, e3, _, d3⟩⟩ := st
    have e' : q = z ∨ q = TI ∨ q = TO ∨ q = i1 ∨ q = i2 ∨ q = i3 := by simpa using hq
    rcases e' with q | q | q | q | q | q
    · rw [q]; exact ⟨_, hz, fun v q => nomatch q⟩
    · rw [q]; exact ⟨_, hTI, fun v q => nomatch q⟩
    · rw [q]; exact ⟨_, hTO, fun v q => nomatch q⟩
    · rw [q]; exact ⟨o1, e1, fun v q => by rw [d1] at q; cases q⟩
    · rw [q]; exact ⟨o2, e2, fun v q => by rw [d2] at q; cases q⟩
    · rw [q]; exact ⟨o3, e3, fun v q => by rw [d3] at q; cases q⟩
  keep := fun i h h' st k => by
    obtain ⟨⟨d, f, hz, hd⟩, hTI, ⟨x, y, u, hTO⟩, h1, h2, h3⟩ := st
    exact ⟨⟨d, f, k z (by simp) _ hz, hd⟩, k TI (by simp) _ hTI, ⟨x, y, u, k TO (by simp) _ hTO⟩, h1.at fun o q => k i1 (by simp) o q, h2.at fun o q => k i2 (by simp) o q, h3.at fun o q => k i3 (by simp) o q⟩
  item := by
    intro X hP hw hK hc i pins s σ H E I hf st hg
    subst hP hw hK
    obtain ⟨⟨d, f, hz, hd⟩, hTI, ⟨x0, y0, u0, hTO⟩, h1, h2, h3⟩ := st
    obtain ⟨xs, ys, us, x, y, u, hqx, hqy, hqu, hx, hy, hu⟩ := hg
    obtain ⟨its1, rv1, p1, _⟩ := I.tuple hqx
    obtain ⟨its2, rv2, p2, _⟩ := I.tuple hqy
    obtain ⟨its3, rv3, p3, _⟩ := I.tuple hqu
    obtain ⟨w1, hw1, r1⟩ := rv1.get hx
    obtain ⟨w2, hw2, r2⟩ := rv2.get hy
    obtain ⟨w3, hw3, r3⟩ := rv3.get hu
    have l1 := (List.getElem?_eq_some_iff.mp hw1).1
    have l2 := (List.getElem?_eq_some_iff.mp hw2).1
    have l3 := (List.getElem?_eq_some_iff.mp hw3).1
    have hzl : z < s.heap.objs.size := Heap.lt_size hz
    have D1 := tt_at (P := X.prog) (w := X.w) (A := X.A.in1) (hh := I.ok.hd hc) na (its := its1)
    have D2 := tt_at (P := X.prog) (w := X.w) (A := X.A.in1) (hh := I.ok.hd hc) nb (its := its2)
    have D3 := tt_at (P := X.prog) (w := X.w) (A := X.A.in1) (hh := I.ok.hd hc) nc (its := its3)
    have hTy : s.TypeIs (.ref z) "zip" := ⟨_, hz, rfl⟩
    have fin : ∀ (h' : Heap) (tk : Tok) (v1 v2 v3 : Value), its1[i]? = some v1 → its2[i]? = some v2 → its3[i]? = some v3 → ZSt z TI TO i1 i2 i3 a b c (i + 1) h' → IsTupOf3 h' s.heap.objs.size v1 v2 v3 →
        (∀ c o, c ≠ z → c ≠ TO → c ≠ i1 → c ≠ i2 → c ≠ i3 → s.heap.get? c = some o → h'.get? c = some o) →
        ∃ v, (some (.ref s.heap.objs.size) : Option Value) = some v ∧ wpAny (model X.prog X.w) X.A (letOwnedTupleGo (.Name ‹Str› tpos) (.ref z) v) (fun _ s2 => ∃ x H', Inv X pins σ H' s2 ∧ RelV x v ∧ (ItzS X.K a b c).yld i H x H' ∧ ZSt z TI TO i1 i2 i3 a b c (i + 1) s2.heap ∧ ∀ q ∈ [z, TI, TO, i1, i2, i3], H' q = none) E { s with heap := h', toks := tk } := by
      intro h' tk v1 v2 v3 g1 g2 g3 st' hT hk
      rw [hw1] at g1
      rw [hw2] at g2
      rw [hw3] at g3
      cases g1
      cases g2
      cases g3
      refine ⟨_, rfl, wpAny_pure ?_⟩
      have new : ObjOk X.prog X.w (upd H s.heap.objs.size (.tup [x, y, u])) h' s.heap.objs.size (.tup [x, y, u]) :=
        ⟨by show 3 ≤ sizeLine; decide, [w1, w2, w3], .cons r1 (.cons r2 (.cons r3 .nil)), ⟨_, hT, rfl, _, rfl⟩⟩
      have I1 : Inv X pins σ (upd H s.heap.objs.size (.tup [x, y, u])) { s with heap := h', toks := tk } :=
        I.turnedNew (t' := tk) (ch := [z, TI, TO, i1, i2, i3]) (fun c o hb q => hk c o (fun q' => hb (by simp [q'])) (fun q' => hb (by simp [q'])) (fun q' => hb (by simp [q'])) (fun q' => hb (by simp [q'])) (fun q' => hb (by simp [q'])) q) hf (Nat.le_refl _) new
      refine ⟨.ref s.heap.objs.size, _, I1, rfl, ⟨_, x, y, u, rfl, I.hok.fresh (Nat.le_refl _), rfl, fun l hl => by rw [I.tuple_inj hl hqx]; exact hx, fun l hl => by rw [I.tuple_inj hl hqy]; exact hy, fun l hl => by rw [I.tuple_inj hl hqu]; exact hu⟩, st', fun q hqm => ?_⟩
      have hlt : q < s.heap.objs.size := by
        have e' : q = z ∨ q = TI ∨ q = TO ∨ q = i1 ∨ q = i2 ∨ q = i3 := by simpa using hqm
        rcases e' with q | q | q | q | q | q
        · rw [q]; exact hzl
        · rw [q]; exact Heap.lt_size hTI
        · rw [q]; exact Heap.lt_size hTO
        · rw [q]; obtain ⟨_, e1, _⟩ := h1; exact Heap.lt_size e1
        · rw [q]; obtain ⟨_, e2, _⟩ := h2; exact Heap.lt_size e2
        · rw [q]; obtain ⟨_, e3, _⟩ := h3; exact Heap.lt_size e3
      rw [upd_ne (Nat.ne_of_lt hlt)]
      exact (hf q hqm).1
    have free : ∀ (hfr : ∀ (A : Around) (Q : Bool → Shared → Prop) (E : Value → Shared → Prop), Q true s → wpAny (model X.prog X.w) A (Builtin.SmallTypes.ownedTupleIsFree (.ref z)) Q E s),
        wpAny (model X.prog X.w) X.A (pyNext (.ref z)) (fun r s1 => ∃ u, r = some u ∧ wpAny (model X.prog X.w) X.A (letOwnedTupleGo (.Name ‹Str› tpos) (.ref z) u) (fun _ s2 => ∃ x H', Inv X pins σ H' s2 ∧ RelV x u ∧ (ItzS X.K a b c).yld i H x H' ∧ ZSt z TI TO i1 i2 i3 a b c (i + 1) s2.heap ∧ ∀ q ∈ [z, TI, TO, i1, i2, i3], H' q = none) E s1) E s := fun hfr => by
      unfold pyNext
      refine wpAny_bind (wpAny_attempt (wpAny_callSpecial?_slot (name := Str.ofString "__next__") hTy F.slot_zip_next
        (wpAny_call_entry F.slot_zip_next hTy F.entry_zip_next
          (zs_item_free (f := f) S D1 D2 D3 hz (fun Q E => hfr _ Q E) hTI hTO ⟨h1, p1⟩ ⟨h2, p2⟩ ⟨h3, p3⟩ l1 l2 l3 fun v1 v2 v3 h' tk g1 g2 g3 z' TO' a1' a2' a3' hT hsz hk => wpAny_pure (fin h' tk v1 v2 v3 g1 g2 g3 ⟨⟨_, _, z', .inr ⟨_, rfl⟩⟩, ?_, ⟨_, _, _, TO'⟩, a1'.1, a2'.1, a3'.1⟩ hT hk)) (F.args_zip_next_1 _))))
      exact hk _ _ S.TIz S.TITO S.TIi1 S.TIi2 S.TIi3 hTI
    rcases hd with rfl | ⟨T, rfl⟩
    · exact free fun A Q E q => zo_none hz q
    · cases hT : s.heap.get? T with
      | none => exact free fun A Q E q => zo_dead hz hT q
      | some oT =>
        unfold pyNext
        refine wpAny_bind (wpAny_attempt (wpAny_callSpecial?_slot (name := Str.ofString "__next__") hTy F.slot_zip_next
          (wpAny_call_entry F.slot_zip_next hTy F.entry_zip_next
            (zs_item_held (f := f) S D1 D2 D3 hz hT hTI ⟨h1, p1⟩ ⟨h2, p2⟩ ⟨h3, p3⟩ l1 l2 l3 fun v1 v2 v3 h' tk g1 g2 g3 z' a1' a2' a3' hT' hsz hk => wpAny_pure (fin h' tk v1 v2 v3 g1 g2 g3 ⟨⟨_, _, z', .inr ⟨_, rfl⟩⟩, hk _ _ S.TIz S.TIi1 S.TIi2 S.TIi3 hTI, ⟨_, _, _, hk _ _ S.TOz S.Ti1 S.Ti2 S.Ti3 hTO⟩, a1'.1, a2'.1, a3'.1⟩ hT' fun c o c1 _ c3 c4 c5 e => hk c o c1 c3 c4 c5 e)) (F.args_zip_next_1 _))))
  done := by
    intro X hP hw hK hc i pins s σ H E I hf st hg
    subst hP hw hK
    obtain ⟨⟨d, f, hz, hd⟩, hTI, ⟨x0, y0, u0, hTO⟩, h1, h2, h3⟩ := st
    obtain ⟨xs, hqx, hend⟩ := hg
    obtain ⟨its1, rv1, p1, _⟩ := I.tuple hqx
    have e1 : i = its1.length := by rw [← rv1.length, hend]
    have D1 := tt_at (P := X.prog) (w := X.w) (A := X.A.in1) (hh := I.ok.hd hc) na (its := its1)
    have hTy : s.TypeIs (.ref z) "zip" := ⟨_, hz, rfl⟩
    have fin : ∀ (h' : Heap) (tk : Tok), (∀ c o, c ≠ z → c ≠ TO → c ≠ i1 → c ≠ i2 → c ≠ i3 → s.heap.get? c = some o → h'.get? c = some o) → Inv X pins σ H { s with heap := h', toks := tk } := fun h' tk hk =>
      I.turnedL (t' := tk) (ch := [z, TI, TO, i1, i2, i3]) (fun c o hb q => hk c o (fun q' => hb (by simp [q'])) (fun q' => hb (by simp [q'])) (fun q' => hb (by simp [q'])) (fun q' => hb (by simp [q'])) (fun q' => hb (by simp [q'])) q) hf
    have st1 : s.heap.IsTupleIter i1 a its1.length ∧ s.heap.IsTuple a its1.toArray := ⟨by rw [← e1]; exact h1, p1⟩
    have stp : ∀ (h' : Heap) (tk : Tok) (e : Addr), (∀ c o, c ≠ z → c ≠ TO → c ≠ i1 → c ≠ i2 → c ≠ i3 → s.heap.get? c = some o → h'.get? c = some o) → (∃ o, h'.get? e = some o ∧ o.cls = .type "StopIteration") →
        wpAny (model X.prog X.w) X.A (isInstance (.ref e) (.type "StopIteration")) (fun b s1 => b = true ∧ s1 = { s with heap := h', toks := tk }) E { s with heap := h', toks := tk } := fun h' tk e hk ⟨o, ho, hc⟩ =>
      wpAny_isInstance (T := "StopIteration") (b := true) ⟨o, ho, hc⟩ isSubtype_stop ⟨rfl, rfl⟩
    have free : ∀ (hfr : ∀ (A : Around) (Q : Bool → Shared → Prop) (E : Value → Shared → Prop), Q true s → wpAny (model X.prog X.w) A (Builtin.SmallTypes.ownedTupleIsFree (.ref z)) Q E s),
        wpAny (model X.prog X.w) X.A (pyNext (.ref z)) (fun r s1 => r = none ∧ Inv X pins σ H s1) E s := fun hfr => by
      unfold pyNext
      refine wpAny_bind (wpAny_attempt (wpAny_callSpecial?_slot (name := Str.ofString "__next__") hTy F.slot_zip_next
        (wpAny_call_entry F.slot_zip_next hTy F.entry_zip_next (zs_end_free (f := f) S D1 hz (fun Q E => hfr _ Q E) hTI st1 fun h' tk e hk he => ?_) (F.args_zip_next_1 _))))
      obtain ⟨o, ho, hc⟩ := he
      refine wpAny_bind (wpAny_isInstance (T := "StopIteration") (b := true) ⟨o, ho, hc⟩ isSubtype_stop ?_)
      exact wpAny_pure ⟨rfl, fin h' tk hk⟩
    rcases hd with rfl | ⟨T, rfl⟩
    · exact free fun A Q E q => zo_none hz q
    · cases hT : s.heap.get? T with
      | none => exact free fun A Q E q => zo_dead hz hT q
      | some oT =>
        unfold pyNext
        refine wpAny_bind (wpAny_attempt (wpAny_callSpecial?_slot (name := Str.ofString "__next__") hTy F.slot_zip_next
          (wpAny_call_entry F.slot_zip_next hTy F.entry_zip_next (zs_end_held (f := f) S D1 hz hT hTI st1 fun h' tk e hk he => ?_) (F.args_zip_next_1 _))))
        obtain ⟨o, ho, hc⟩ := he
        refine wpAny_bind (wpAny_isInstance (T := "StopIteration") (b := true) ⟨o, ho, hc⟩ isSubtype_stop ?_)
        exact wpAny_pure ⟨rfl, fin h' tk hk⟩
  self := fun A i s Q E st h => by
    obtain ⟨⟨d, f, hz, _⟩, _⟩ := st
    have hTy : s.TypeIs (.ref z) "zip" := ⟨_, hz, rfl⟩
    refine wpAny_pyIter_slot hTy PySem.F.slot_zip_iter (wpAny_call_entry PySem.F.slot_zip_iter hTy PySem.F.entry_zip_iter ?_ (PySem.F.args_zip_iter_1 _))
    show wpAny _ _ (ret (.ref z)) _ _ s
    exact wpAny_pure ⟨_, rfl, "zip", _, hTy, PySem.F.slot_zip_next.lookup, h⟩

end
section
/-- zip(*e): e a tuple of three tuples -/
def iZipS (K : PySem.W.Frag) (te : TE) : TI := fun σ H R => te σ H fun v H1 => ∃ t a b c xs ys us, v = .ref t ∧ SqT K H1 t [.ref a, .ref b, .ref c] ∧ SqT K H1 a xs ∧ SqT K H1 b ys ∧ SqT K H1 c us ∧ R (ItzS K a b c) H1
theorem pi_zipS {X : Cx} {e : Expr} {te : TE} {p pos sp tpos : Pos} {x : Str} (hg : Gl X "zip") (hm : X.mg "zip" = none) (he : PE X e te)
    (hs : starEach [.Starred e sp] X.env = [(true, eval e X.env)] := by rfl) : PI X (.Name x tpos) (.Call (.Name "zip" p) [.Starred e sp] [] pos) (iZipS X.K te) := by
  refine ⟨fun pins s σ H R I h => ?_⟩
  refine Call_ (ld_blt I hg hm PyProof.Rows.boot_zip ?_)
  rw [hs]
  refine PySem.W.ks_call (P := fun _ => True) rfl (fun h _ => ⟨.machine, .inr (.inl rfl), PySem.W.Looks.of_pure rfl⟩) (PySem.W.ks_lone (thn (he.run pins s σ H _ I h) fun v s1 ⟨y, H1, I1, ry, q⟩ => ?_))
  obtain ⟨t, a, b, c, xs, ys, us, rfl, ht, ha, hb, hc, q⟩ := q
  obtain rfl : v = Value.ref t := ry
  refine StX.star_any I1 (.inl ht) fun vs s2 I2 rv => ⟨trivial, ?_⟩
  cases rv with
  | cons r1 rr =>
  cases rr with
  | cons r2 rr =>
  cases rr with
  | cons r3 rr =>
  cases rr
  cases r1
  cases r2
  cases r3
  obtain ⟨its1, rv1, p1, _⟩ := I2.tuple ha
  obtain ⟨its2, rv2, p2, _⟩ := I2.tuple hb
  obtain ⟨its3, rv3, p3, _⟩ := I2.tuple hc
  obtain ⟨o1, ho1, _⟩ := id p1
  obtain ⟨o2, ho2, _⟩ := id p2
  obtain ⟨o3, ho3, _⟩ := id p3
  have la := Heap.lt_size ho1
  have lb := Heap.lt_size ho2
  have lc := Heap.lt_size ho3
  show wpAny _ _ (call (.type "zip") [.ref a, .ref b, .ref c]) _ _ _
  refine zip_begins3 (begins_tuple a its1.toArray) (begins_tuple b its2.toArray) (begins_tuple c its3.toArray) p1 p2 p3 fun h' hz hTI hTO g1 g2 g3 hsz hk => ?_
  have T := turn_zipS (P := X.prog) (w := X.w) (K := X.K) (x := x) (tpos := tpos) (zip_sep3 (N := s2.heap.objs.size) (fp1 := [a]) (fp2 := [b]) (fp3 := [c]) (by simpa using la) (by simpa using lb) (by simpa using lc))
    (Nat.ne_of_lt la) (Nat.ne_of_lt (Nat.lt_succ_of_lt lb)) (Nat.ne_of_lt (Nat.lt_succ_of_lt (Nat.lt_succ_of_lt lc)))
  have I3 : Inv X pins σ H1 { s2 with heap := h' } := I2.kept (t' := s2.toks) hk
  have st : ZSt (s2.heap.objs.size + 5) (s2.heap.objs.size + 3) (s2.heap.objs.size + 4) s2.heap.objs.size (s2.heap.objs.size + 1) (s2.heap.objs.size + 2) a b c 0 h' :=
    ⟨⟨_, _, hz, .inl rfl⟩, hTI, ⟨_, _, _, hTO⟩, ⟨_, g1, rfl, rfl⟩, ⟨_, g2, rfl, rfl⟩, ⟨_, g3, rfl, rfl⟩⟩
  refine T.self X.A 0 _ _ _ st ?_
  refine ⟨_, _, _, _, H1, rfl, I3, T, st, fun q hq => ?_, q⟩
  have e' : q = s2.heap.objs.size + 5 ∨ q = s2.heap.objs.size + 3 ∨ q = s2.heap.objs.size + 4 ∨ q = s2.heap.objs.size ∨ q = s2.heap.objs.size + 1 ∨ q = s2.heap.objs.size + 2 := by simpa using hq
  have hle : s2.heap.objs.size ≤ q := by
    rcases e' with z | z | z | z | z | z
    · rw [z]; exact Nat.le_add_right _ _
    · rw [z]; exact Nat.le_add_right _ _
    · rw [z]; exact Nat.le_add_right _ _
    · rw [z]; exact Nat.le_refl _
    · rw [z]; exact Nat.le_add_right _ _
    · rw [z]; exact Nat.le_add_right _ _
  exact I2.fpOk hle (I2.hok.fresh hle)
end
section
/-- the list at a and the tuple at b as they stand at each turn, the items in new pairs -/
def ItzM (K : PySem.W.Frag) (a b : Addr) : It :=
  ⟨fun i H => ∃ (xs ys : List V) (x y : V), SqL K H a xs ∧ SqT K H b ys ∧ xs[i]? = some x ∧ ys[i]? = some y,
    fun i H v H' => ∃ T x y, v = .ref T ∧ H T = none ∧ H' = upd H T (.tup [x, y]) ∧ (∀ xs, SqL K H a xs → xs[i]? = some x) ∧ ∀ ys, SqT K H b ys → ys[i]? = some y,
    fun i H => ∃ xs ys : List V, SqL K H a xs ∧ SqT K H b ys ∧ xs.length = i ∧ ys.length = i⟩
theorem ll_at {P : Program} {w : World} {A : Around} {hh : A.handled = none} {it t : Addr} (hne : t ≠ it) {its : List Value} : Draws P w A it [it, t] its.length (fun i v => its[i]? = some v) (fun i h => h.IsListIter it t i ∧ h.IsList t its.toArray) := by
  have D := Draws.list (prog := P) (w := w) (A := A) hh it t hne its.toArray
  simpa using D
theorem turn_zipM {P : Program} {w : World} {K : PySem.W.Frag} {elts : List Expr} {kk : Nat} {tpos : Pos} {a b z TI TO i1 i2 : Addr} (S : ZipSep2 z TI TO i1 i2 [i1, a] [i2, b]) (na : a ≠ i1) (nb : b ≠ i2) :
    Turn P w K (.Tuple elts kk tpos) (ItzM K a b) [z, TI, TO, i1, i2] z (fun i h => IsZip h z TI TO .none ∧ IsTupOf2 h TI (.ref i1) (.ref i2) ∧ (∃ x y, IsTupOf2 h TO x y) ∧ h.IsListIter i1 a i ∧ h.IsTupleIter i2 b i) where
  mem := by simp
  obj := fun i h st c hc => by
    obtain ⟨hz, hTI, ⟨x, y, hTO⟩, ⟨o1, e1, _, d1⟩, ⟨o2, e2, _, d2⟩⟩ := st
    have e' : c = z ∨ c = TI ∨ c = TO ∨ c = i1 ∨ c = i2 := by simpa using hc
    rcases e' with q | q | q | q | q
    · rw [q]; exact ⟨_, hz, fun v q => nomatch q⟩
    · rw [q]; exact ⟨_, hTI, fun v q => nomatch q⟩
    · rw [q]; exact ⟨_, hTO, fun v q => nomatch q⟩
    · rw [q]; exact ⟨o1, e1, fun v q => by rw [d1] at q; cases q⟩
    · rw [q]; exact ⟨o2, e2, fun v q => by rw [d2] at q; cases q⟩
  keep := fun i h h' st k => by
    obtain ⟨hz, hTI, ⟨x, y, hTO⟩, h1, h2⟩ := st
    exact ⟨k z (by simp) _ hz, k TI (by simp) _ hTI, ⟨x, y, k TO (by simp) _ hTO⟩, h1.at fun o q => k i1 (by simp) o q, h2.at fun o q => k i2 (by simp) o q⟩
  item := by
    intro X hP hw hK hc i pins s σ H E I hf st hg
    subst hP hw hK
    obtain ⟨hz, hTI, ⟨x0, y0, hTO⟩, h1, h2⟩ := st
    obtain ⟨xs, ys, x, y, hqx, hqy, hx, hy⟩ := hg
    obtain ⟨its, rv, p, _⟩ := I.list hqx
    obtain ⟨its2, rv2, p2, _⟩ := I.tuple hqy
    obtain ⟨u, hu, ru⟩ := rv.get hx
    obtain ⟨u2, hu2, ru2⟩ := rv2.get hy
    have l1 := (List.getElem?_eq_some_iff.mp hu).1
    have l2 := (List.getElem?_eq_some_iff.mp hu2).1
    have D1 := ll_at (P := X.prog) (w := X.w) (A := X.A.in1) (hh := I.ok.hd hc) na (its := its)
    have D2 := tt_at (P := X.prog) (w := X.w) (A := X.A.in1) (hh := I.ok.hd hc) nb (its := its2)
    have hzl : z < s.heap.objs.size := Heap.lt_size hz
    refine wpAny_pyNext_zipD2_item S D1 D2 hz hTI hTO ⟨h1, p.isList⟩ ⟨h2, p2⟩ l1 l2 fun v1 v2 h' tk g1 g2 z' TO' h1' h2' hT hsz hk => ?_
    rw [hu] at g1
    rw [hu2] at g2
    cases g1
    cases g2
    refine ⟨_, rfl, wpAny_letOwnedTupleGo_zip (s := { s with heap := h', toks := tk }) z' fun h'' z'' sb => ?_⟩
    have hT2 : h''.get? s.heap.objs.size = some { cls := .type "tuple", data := .seq #[u, u2] } := (sb.2 _ (Nat.ne_of_gt hzl)).trans hT
    have new : ObjOk X.prog X.w (upd H s.heap.objs.size (.tup [x, y])) h'' s.heap.objs.size (.tup [x, y]) :=
      ⟨by show 2 ≤ sizeLine; decide, [u, u2], .cons ru (.cons ru2 .nil), ⟨_, hT2, rfl, _, rfl⟩⟩
    have I1 : Inv X pins σ (upd H s.heap.objs.size (.tup [x, y])) { s with heap := h'', toks := tk } :=
      I.turnedNew (t' := tk) (ch := [z, TI, TO, i1, i2]) (fun c o hb q => (sb.2 c (fun q' => hb (by simp [q']))).trans (hk c o (fun q' => hb (by simp [q'])) (fun q' => hb (by simp [q'])) (fun q' => hb (by simp [q'])) (fun q' => hb (by simp [q'])) q)) hf (Nat.le_refl _) new
    refine ⟨.ref s.heap.objs.size, _, I1, rfl, ⟨_, x, y, rfl, I.hok.fresh (Nat.le_refl _), rfl, fun l hl => by rw [I.list_inj hl hqx]; exact hx, fun l hl => by rw [I.tuple_inj hl hqy]; exact hy⟩, ⟨z'', ?_, ⟨u, u2, ?_⟩, ?_, ?_⟩, fun c hcm => ?_⟩
    · exact (sb.2 _ S.TIz).trans (hk _ _ S.TIz S.TITO S.TIi1 S.TIi2 hTI)
    · exact (sb.2 _ S.TOz).trans TO'
    · exact h1'.1.at fun o q => (sb.2 _ S.zi1.symm).trans q
    · exact h2'.1.at fun o q => (sb.2 _ S.zi2.symm).trans q
    · have hlt : c < s.heap.objs.size := by
        have e' : c = z ∨ c = TI ∨ c = TO ∨ c = i1 ∨ c = i2 := by simpa using hcm
        rcases e' with q | q | q | q | q
        · rw [q]; exact hzl
        · rw [q]; exact Heap.lt_size hTI
        · rw [q]; exact Heap.lt_size hTO
        · rw [q]; obtain ⟨_, e1, _⟩ := h1; exact Heap.lt_size e1
        · rw [q]; obtain ⟨_, e2, _⟩ := h2; exact Heap.lt_size e2
      rw [upd_ne (Nat.ne_of_lt hlt)]
      exact (hf c hcm).1
  done := by
    intro X hP hw hK hc i pins s σ H E I hf st hg
    subst hP hw hK
    obtain ⟨hz, hTI, ⟨x0, y0, hTO⟩, h1, h2⟩ := st
    obtain ⟨xs, ys, hqx, hqy, e1, e2⟩ := hg
    obtain ⟨its, rv, p, _⟩ := I.list hqx
    obtain ⟨its2, rv2, p2, _⟩ := I.tuple hqy
    have l1 := rv.length
    have l2 := rv2.length
    have D1 := ll_at (P := X.prog) (w := X.w) (A := X.A.in1) (hh := I.ok.hd hc) na (its := its)
    have D2 := tt_at (P := X.prog) (w := X.w) (A := X.A.in1) (hh := I.ok.hd hc) nb (its := its2)
    exact wpAny_pyNext_zipD2_end (i := i) S D1 D2 hz hTI hTO ⟨h1, p.isList⟩ ⟨h2, p2⟩ (by omega) (by omega) (by omega) fun h' tk hk => ⟨rfl, I.turnedL (t' := tk) (ch := [z, TI, TO, i1, i2]) (fun c o hb q =>
      hk c o (fun q' => hb (by simp [q'])) (fun q' => hb (by simp [q'])) (fun q' => hb (by simp [q'])) (fun q' => hb (by simp [q'])) q) hf⟩
  self := fun A i s Q E st h => wpAny_pyIter_zip st.1 h
/-- zip(a list, a tuple) -/
def iZipLT (K : PySem.W.Frag) (ta : TA) : TI := fun σ H R => ta σ H fun vs H1 => ∃ a b xs ys, vs = [.ref a, .ref b] ∧ SqL K H1 a xs ∧ SqT K H1 b ys ∧ R (ItzM K a b) H1
theorem pi_zipLT {X : Cx} {e e2 : Expr} {ta : TA} {p pos tpos : Pos} {elts : List Expr} {kk : Nat} (hg : Gl X "zip") (hm : X.mg "zip" = none) (ha : PA X [e, e2] ta)
    (hs : starEach [e, e2] X.env = (false, eval e X.env) :: starEach [e2] X.env := by rfl) (hpl : (backTo pos (starEach [e2] X.env)).any (·.1) = false := by rfl) :
    PI X (.Tuple elts kk tpos) (.Call (.Name "zip" p) [e, e2] [] pos) (iZipLT X.K ta) := by
  refine ⟨fun pins s σ H R I h => ?_⟩
  refine Call_ (ld_blt I hg hm PyProof.Rows.boot_zip (PyProof.Rows.callWith_type1 (thn (ha.run pos pins s σ H _ I h) fun us s1 ⟨vs, H1, I1, r1, q1⟩ => ?_) hs hpl))
  obtain ⟨a, b, xs, ys, ex, hqx, hqy, q⟩ := q1
  subst ex
  cases r1 with
  | cons r rr =>
    cases rr with
    | cons r' rr =>
      cases rr
      cases r
      cases r'
      obtain ⟨its, rv, p1, _⟩ := I1.list hqx
      obtain ⟨its2, rv2, p2, _⟩ := I1.tuple hqy
      obtain ⟨o2, ho2, _⟩ := id p2
      have la : a < s1.heap.objs.size := p1.lt
      have lb := Heap.lt_size ho2
      refine zip_begins2 (begins_list a its.toArray) (begins_tuple b its2.toArray) p1.isList p2 fun h' hz hTI hTO h1 h2 hsz hk => wpAny_pyIter_zip hz ?_
      have I2 : Inv X pins σ H1 { s1 with heap := h' } := I1.kept (t' := s1.toks) hk
      refine ⟨s1.heap.objs.size + 4, [s1.heap.objs.size + 4, s1.heap.objs.size + 2, s1.heap.objs.size + 3, s1.heap.objs.size, s1.heap.objs.size + 1], _, _, H1, rfl, I2,
        turn_zipM (zip_sep2 (N := s1.heap.objs.size) (fp1 := [a]) (fp2 := [b]) (by simpa using la) (by simpa using lb)) (Nat.ne_of_lt la) (Nat.ne_of_lt (Nat.lt_succ_of_lt lb)), ⟨hz, hTI, ⟨_, _, hTO⟩, ⟨_, h1, rfl, rfl⟩, ⟨_, h2, rfl, rfl⟩⟩, fun c hcm => ?_, q⟩
      have e' : c = s1.heap.objs.size + 4 ∨ c = s1.heap.objs.size + 2 ∨ c = s1.heap.objs.size + 3 ∨ c = s1.heap.objs.size ∨ c = s1.heap.objs.size + 1 := by simpa using hcm
      have hle : s1.heap.objs.size ≤ c := by
        rcases e' with z | z | z | z | z
        · rw [z]; exact Nat.le_add_right _ _
        · rw [z]; exact Nat.le_add_right _ _
        · rw [z]; exact Nat.le_add_right _ _
        · rw [z]; exact Nat.le_refl _
        · rw [z]; exact Nat.le_add_right _ _
      exact I1.fpOk hle (I1.hok.fresh hle)
end

/-! ### the same as what is walked -/
section
variable {K : PySem.W.Frag} {σ : L2.St} {H : Hp} {α : Type}
theorem src_zipM {ta : TA} {zs : List α} {f1 f2 : α → V} (h : ∀ H1, Ex H H1 → ∀ Q : List V → Hp → Prop, (∀ H2 a b, Ex H1 H2 → SqL K H2 a (zs.map f1) → SqT K H2 b (zs.map f2) → Q [.ref a, .ref b] H2) → ta σ H1 Q) :
    Src (iZipLT K ta) σ H zs (fun z x H => IsPr (f1 z) (f2 z) x H) := fun H1 e1 R q =>
  h H1 e1 _ fun H2 a b e2 ha hb => by
    have w : Walk (ItzM K a b) zs.length (fun H => SqL K H a (zs.map f1) ∧ SqT K H b (zs.map f2)) (YPair (fun i => (zs.map f1)[i]?) (fun i => (zs.map f2)[i]?)) := by
      refine ⟨fun i H hi q => ?_, fun H q => ⟨_, _, q.1, q.2, by rw [List.length_map], by rw [List.length_map]⟩, fun i H v H' _ q y => ?_⟩
      · exact ⟨_, _, f1 zs[i], f2 zs[i], q.1, q.2, by simp [hi], by simp [hi]⟩
      · obtain ⟨T, x, z, h1, h2, h3, h4, h5⟩ := y
        exact ⟨T, x, z, h1, h2, h3, h4 _ q.1, h5 _ q.2⟩
    refine ⟨a, b, _, _, rfl, ha, hb, q _ H2 _ _ e2 w (fun H3 e3 => ⟨ex_l e3 ha, ex_t e3 hb⟩) fun i z H3 x H4 hz _ y => ?_⟩
    exact pr_of (by rw [List.getElem?_map, hz]; rfl) (by rw [List.getElem?_map, hz]; rfl) y
/-- zip of two tuples of one length -/
theorem src_zipT {ta : TA} {zs : List α} {f1 f2 : α → V} (h : ∀ H1, Ex H H1 → ∀ Q : List V → Hp → Prop, (∀ H2 a b, Ex H1 H2 → SqT K H2 a (zs.map f1) → SqT K H2 b (zs.map f2) → Q [.ref a, .ref b] H2) → ta σ H1 Q) :
    Src (RZ.iZipA K ta) σ H zs (fun z x H => IsPr (f1 z) (f2 z) x H) := fun H1 e1 R q =>
  h H1 e1 _ fun H2 a b e2 ha hb => by
    have w : Walk (RZ.ItzT K a b) zs.length (fun H => SqT K H a (zs.map f1) ∧ SqT K H b (zs.map f2)) (YPair (fun i => (zs.map f1)[i]?) (fun i => (zs.map f2)[i]?)) := by
      refine ⟨fun i H hi q => ?_, fun H q => ⟨_, _, q.1, q.2, .inl (by rw [List.length_map]; exact Nat.le_refl _)⟩, fun i H v H' _ q y => ?_⟩
      · exact ⟨_, _, f1 zs[i], f2 zs[i], q.1, q.2, by simp [hi], by simp [hi]⟩
      · obtain ⟨T, x, z, h1, h2, h3, h4, h5⟩ := y
        exact ⟨T, x, z, h1, h2, h3, h4 _ q.1, h5 _ q.2⟩
    refine ⟨a, b, _, _, rfl, .inr ⟨ha, hb, q _ H2 _ _ e2 w (fun H3 e3 => ⟨ex_t e3 ha, ex_t e3 hb⟩) fun i z H3 x H4 hz _ y => ?_⟩⟩
    exact pr_of (by rw [List.getElem?_map, hz]; rfl) (by rw [List.getElem?_map, hz]; rfl) y
/-- the columns of three tuples of one length -/
theorem src_zipS {te : TE} {zs : List α} {f1 f2 f3 : α → V} {t a b c : Addr} (h : Ev te σ H (.ref t)) (ht : SqT K H t [.ref a, .ref b, .ref c]) (ha : SqT K H a (zs.map f1)) (hb : SqT K H b (zs.map f2)) (hc : SqT K H c (zs.map f3)) :
    Src (iZipS K te) σ H zs (fun z x H => ∃ T, x = .ref T ∧ H T = some (.tup [f1 z, f2 z, f3 z])) := fun H1 e1 R q =>
  h H1 e1 _ fun H2 e2 => by
    have E := e1.trans e2
    have w : Walk (ItzS K a b c) zs.length (fun H => SqT K H a (zs.map f1) ∧ SqT K H b (zs.map f2) ∧ SqT K H c (zs.map f3))
        (fun i H v H' => ∃ T x y u, v = .ref T ∧ H T = none ∧ H' = upd H T (.tup [x, y, u]) ∧ (zs.map f1)[i]? = some x ∧ (zs.map f2)[i]? = some y ∧ (zs.map f3)[i]? = some u) := by
      refine ⟨fun i H hi q => ?_, fun H q => ⟨_, q.1, by rw [List.length_map]⟩, fun i H v H' _ q y => ?_⟩
      · exact ⟨_, _, _, f1 zs[i], f2 zs[i], f3 zs[i], q.1, q.2.1, q.2.2, by simp [hi], by simp [hi], by simp [hi]⟩
      · obtain ⟨T, x, z, u, h1, h2, h3, h4, h5, h6⟩ := y
        exact ⟨T, x, z, u, h1, h2, h3, h4 _ q.1, h5 _ q.2.1, h6 _ q.2.2⟩
    refine ⟨t, a, b, c, _, _, _, rfl, ex_t E ht, ex_t E ha, ex_t E hb, ex_t E hc, q _ H2 _ _ e2 w (fun H3 e3 => ⟨ex_t (E.trans e3) ha, ex_t (E.trans e3) hb, ex_t (E.trans e3) hc⟩) fun i z H3 x H4 hz _ y => ?_⟩
    obtain ⟨T, x1, x2, x3, rfl, hT, rfl, g1, g2, g3⟩ := y
    rw [List.getElem?_map, hz] at g1 g2 g3
    cases g1
    cases g2
    cases g3
    exact ⟨Ex.new hT, T, rfl, upd_same⟩
end
end G651
/-! Own rules: raise X(); l.remove(x) of data; min, max, sorted of a tuple of ints; dict comprehensions with tuples as keys; sorted of such a dict. -/
namespace G651
open PySem PySem.Spec PyProof.Rows L2 Evl
theorem hu_of65 {A : Around} {k : Nat} (hr : Room k A) : A.units + 65 < cLine := by have := hr.un; omega
/-! ### X() of an own exception -/
section
variable {X : Cx} {C : Addr} {bmB : List Value} {B newId initId : String} {x : Str} {p pos : Pos}
theorem pmk_ownN (F : ExcBaseFacts B newId initId bmB) (q : PySem.W.excIn X.K C bmB newId = true) (gC : X.mg x = some (.ref C))
    (kC : PySem.W.keepIn X.K (.ref C) = true) (r : Raises X (.ref C)) (hg : Gl X x) (hdb : (x == ("__debug__" : Str)) = false := by decide) :
    PMk X (.Call (.Name x p) [] [] pos) (fun _ H Q => Q (.ref C) none H) := by
  intro pins s σ H Q I h
  refine wpAny_Call_Name_kw (ld_glob I hg gC ?_ hdb)
  refine PySem.W.callWith_K0 I.kIn kC ?_
  show wpAny _ _ (call (.ref C) []) _ _ _
  obtain ⟨bm, N, nm, qn, bs, hdct, sn, sub, ab, col, dd, k0, k1, k2, k3, k5, mN, hC, hN, hni, T⟩ := exc_obj I.kIn q
  refine wpAny_call_exc_subT F T hC hN hni (fun h' e hm => ?_) (Nat.zero_le _)
  exact mk_of I hm r h (I.hok.gone hm.new)
end
/-! ### l.remove(x) -/
theorem erase_map {α β : Type} (f : α → β) : ∀ (l : List α) (j : Nat), (l.map f).eraseIdx j = (l.eraseIdx j).map f
  | [], j => by simp
  | a :: r, 0 => by simp
  | a :: r, j + 1 => by
    have ih := erase_map f r j
    simp [ih]
section
variable {X : Cx}
def rRemD (K : PySem.W.Frag) : V → List V → Hp → VK → Prop := fun x xs H Q => ∃ (l : Addr) (y : V) (vs : List V) (d : PyData) (ds : List PyData) (j : Nat), x = .ref l ∧ xs = [y] ∧ H l = some (.lst vs) ∧ DpAll K H vs ds ∧ Dp K H y d ∧
  PyData.plainAll ds = true ∧ d.plain = true ∧ d.depth ≤ 2 ∧ SeqAt.dataPlace ds d = some j ∧ Q .non (upd H l (.lst (vs.eraseIdx j)))
theorem mt_removeD (hu : X.A.units + 65 < cLine) : MtM X "list.remove" (rRemD X.K) := by
  intro pins s σ H x xs v us Q I rx rxs h
  obtain ⟨l, y, vs, d, ds, j, rfl, rfl, hH, hds, hd, p1, p2, hdp, hj, q⟩ := h
  cases rx
  obtain ⟨u, rfl, ru⟩ := rxs.one
  obtain ⟨z, its, n, r, hl, e⟩ := I.lstM hH
  obtain ⟨as, r1⟩ := Dp.readsAll I ds vs its hds r
  obtain ⟨bs, r2⟩ := Dp.reads I d y u hd ru
  have hm : min (PyData.depthAll ds) d.depth ≤ d.depth := Nat.min_le_right _ _
  refine SeqAt.remove_list_data (vs := its.toArray) ⟨_, e, rfl, _, rfl⟩ (by simpa using r1) r2 p1 p2 (by omega) hj (by rw [List.size_toArray]; omega) ?_
  refine ⟨.non, _, I.lset (its' := its.eraseIdx j) (t' := s.toks) hH e ?_ (r.eraseIdx j) ?_, rfl, q⟩
  · show its.toArray.eraseIdxIfInBounds j = (its.eraseIdx j).toArray
    rw [List.eraseIdxIfInBounds_toArray]
  · have z2 : (vs.eraseIdx j).length ≤ vs.length := List.length_eraseIdx_le _ _
    omega
/-! ### min, max, sorted of a tuple of ints -/
def rMinT (K : PySem.W.Frag) : List V → Hp → VK → Prop := fun vs H Q => ∃ (a : Addr) (n : Int) (ns : List Int), vs = [V.ref a] ∧ SqT K H a ((n :: ns).map V.int) ∧ ∀ m : Int, Q (.int m) H
theorem dp_ints {K : PySem.W.Frag} {H : Hp} : ∀ ns : List Int, DpAll K H (ns.map V.int) (ns.map PyData.int)
  | [] => .nil
  | n :: r => .cons (.int n) (dp_ints r)
theorem depth_ints : ∀ ns : List Int, PyData.depthAll (ns.map PyData.int) = 0
  | [] => rfl
  | n :: r => by
    show max 0 (PyData.depthAll (r.map PyData.int)) = 0
    rw [depth_ints r]
    rfl
theorem alike_ints (ns : List Int) : PySem.W.AlikeAll (ns.map PyData.int) := by
  refine ⟨fun x hx y hy => ?_, fun x hx e => ?_⟩
  · obtain ⟨i, _, rfl⟩ := List.mem_map.mp hx
    obtain ⟨j, _, rfl⟩ := List.mem_map.mp hy
    rfl
  · obtain ⟨i, _, rfl⟩ := List.mem_map.mp hx
    cases e
theorem cr_minT (hc : X.calm = true) (hu : X.A.units + 64 < cLine) : CallR X (.builtin "min") (rMinT X.K) := by
  intro pins s σ H xs us Q I r h
  obtain ⟨a, n, ns, rfl, hs, q⟩ := h
  obtain ⟨its, rv, hl, hz⟩ := I.tuple hs
  rw [Vals.ref1 r]
  obtain ⟨as, r1⟩ := Dp.readsAll I ((n :: ns).map PyData.int) _ its (dp_ints (n :: ns)) rv
  refine PySem.W.min_tuple_data (vs := its.toArray) (x := .int n) (xs := ns.map PyData.int) (I.ok.hd hc) hl (by simpa using r1) (alike_ints (n :: ns)) ?_ fun i v h' tk bs _ rd hk => ?_
  · have e := depth_ints (n :: ns)
    rw [List.map_cons] at e
    rw [e]
    omega
  · rw [PySem.W.minD_ints] at rd
    cases rd
    exact ⟨.int _, H, I.kept hk, ⟨_, rfl⟩, q _⟩
theorem cr_maxT (hc : X.calm = true) (hu : X.A.units + 64 < cLine) : CallR X (.builtin "max") (rMinT X.K) := by
  intro pins s σ H xs us Q I r h
  obtain ⟨a, n, ns, rfl, hs, q⟩ := h
  obtain ⟨its, rv, hl, hz⟩ := I.tuple hs
  rw [Vals.ref1 r]
  obtain ⟨as, r1⟩ := Dp.readsAll I ((n :: ns).map PyData.int) _ its (dp_ints (n :: ns)) rv
  refine PySem.W.max_tuple_data (vs := its.toArray) (x := .int n) (xs := ns.map PyData.int) (I.ok.hd hc) hl (by simpa using r1) (alike_ints (n :: ns)) ?_ fun i v h' tk bs _ rd hk => ?_
  · have e := depth_ints (n :: ns)
    rw [List.map_cons] at e
    rw [e]
    omega
  · rw [PySem.W.maxD_ints] at rd
    cases rd
    exact ⟨.int _, H, I.kept hk, ⟨_, rfl⟩, q _⟩
def rSorted3 (K : PySem.W.Frag) : List V → Hp → VK → Prop := fun vs H Q => ∃ (a : Addr) (ns : List Int), vs = [V.ref a] ∧ SqT K H a (ns.map V.int) ∧ ns.length < 64 ∧
  ∀ (ys : List Int) (p : Addr), ys.length = ns.length → H p = none → Q (.ref p) (upd H p (.lst (ys.map V.int)))
theorem cr_sorted3 : CallR X (.builtin "sorted") (rSorted3 X.K) := by
  intro pins s σ H xs us Q I r h
  obtain ⟨a, ks, rfl, hs, h64, q⟩ := h
  obtain ⟨its, rv, ⟨o, ho, hcl, nn, hd⟩, hz⟩ := I.tuple hs
  rw [Vals.ref1 r]
  have hS : IntsAre its ks := ints_of_vals rv
  have hl : its.length = ks.length := by rw [← rv.length, List.length_map]
  have h24 := sizeLine_eq
  refine Calls.call_function_entry PyProof.Rows.kind_sorted PyProof.Rows.plain_sorted PyProof.Rows.entry_sorted (PyProof.Rows.args_sorted1 _) ?_
  unfold Builtin.«sorted»
  refine wpAny_bind (m := checkCount "sorted" 1 1 _) (wpAny_pure ?_)
  refine wpAny_bind (wpAny_collect_seq a (.inr rfl) ho hcl hd (fun h' hk => ?_) (by rw [List.size_toArray]; omega))
  have I1 : Inv X pins σ H { s with heap := h' } := I.kept (t' := s.toks) hk
  show wpAny _ _ (newList its >>= _) _ _ { s with heap := h' }
  refine wpAny_bind (wpAny_newList ?_ (by omega))
  have hoL : (h'.push (seqObj "list" its.toArray 0)).get? h'.objs.size = some (seqObj "list" its.toArray 0) := Heap.get?_push_size _ rfl
  show wpAny _ _ _ _ _ { s with heap := h'.push (seqObj "list" its.toArray 0) }
  refine wpAny_bind (wpAny_holding (wpAny_call_entry PyProof.Rows.slot_list_sort ⟨_, hoL, rfl⟩ PyProof.Rows.entry_list_sort
    (PyProof.Rows.list_sort_tree (s := { s with heap := h'.push (seqObj "list" its.toArray 0) }) hoL hS (by omega) fun out ys g1 g2 g3 => ⟨_, rfl, ?_⟩) (PyProof.Rows.args_list_sort _)))
  obtain ⟨e', he'⟩ := PyProof.Rows.sortedHeap_at (vs := its) (out := out) hoL
  have hlen : (ys.map V.int).length ≤ sizeLine := by
    rw [List.length_map, g2.length_eq]
    omega
  refine wpAny_pure ⟨_, rfl, .ref h'.objs.size, upd H h'.objs.size (.lst (ys.map V.int)), I1.laid (t' := s.toks) (fun b u e => ?_) (Nat.le_refl _)
    (show ObjOk X.prog X.w _ _ _ (.lst (ys.map V.int)) from ⟨hlen, out.toList, e', vals_of_ints g1, by rw [Array.toArray_toList]; exact he'⟩), rfl, q ys _ g2.length_eq (I1.hok.fresh (Nat.le_refl _))⟩
  have hb : b < h'.objs.size := Heap.lt_size e
  rw [PyProof.Rows.sortedHeap_old (Nat.ne_of_lt hb) (by rw [size_push']; exact Nat.lt_succ_of_lt hb)]
  exact Heap.get?_push_of_some _ e
end

/-! ### {k: v for ..}, the keys tuples -/
/-- d[k] = v by a comprehension -/
theorem d_dictSetT {X : Cx} {A : Around} {pins : List (Addr × Obj)} {σ : L2.St} {H : Hp} {s : Shared} {E : Value → Shared → Prop} {D b : Addr} {kvs : List (List Key × V)} {k : List Key} {v : V} {r : Value} {Q : Unit → Shared → Prop} (hu : A.units + 1 < cLine) (I : Inv X pins σ H s) (hD : H D = some (.dT kvs)) (hb : H b = some (.tup (k.map kV)))
    (hz : kvs.length < sizeLine) (rv : RelV v r) (h : ∀ s', Inv X pins σ (upd H D (.dT (putK kvs k v))) s' → Q () s') : wpAny (model X.prog X.w) A (dictSet D (.ref b) r) Q E s := by
  obtain ⟨z, hd, xs, rel, dd⟩ := dt_of I.hok hD
  have hzx : xs.length ≤ sizeLine := by rw [← Paired.length rel]; exact z
  have hl : (putK kvs k v).length ≤ sizeLine := by have := length_putK kvs k v; omega
  refine wpAny_dictSet_heap (hsz := hzx) (knd := tupleKind (mixKind X.prog X.w)) (show A.units < cLine by omega) (key_of I.hok hb) dd fun h' dd' hs => h _ ?_
  obtain ⟨q, es, ep, hq, h2, h3, h4, _, h5⟩ := dd'
  refine d_write I (by rw [hD]; exact True.intro) hs ⟨q, hq⟩ ⟨hl, hd, _, (rel.put k hb rv).keeps fun c ys ec => ?_, q, es, ep, hq, h2, h3, h4, h5⟩
  rw [upd_ne (ne_of ec hD (fun z => nomatch z))]
  exact ec
section
variable {X : Cx}
/-- {k: v for target in iter if ..}, keys tuples that were given out: D the new dict -/
def tDcT (wi : TI) (g : TG) (tt : TT) (tk tv : TE) (vs : List Nat) : TE := fun σ H Q => wi σ H fun J H1 => ∀ D, H1 D = none → ∃ W : Nat → Nat → Hp → Prop, (∃ m, W 0 m (upd H1 D (.dT []))) ∧ ∀ i m H, W i m H →
  (J.stop i H ∧ Q (.ref D) H) ∨ (J.go i H ∧ ∃ Nx : Hp → Prop, (∀ H', Nx H' → ∃ m', m' < m ∧ W (i + 1) m' H') ∧ ∀ x H', J.yld i H x H' → g x (wipe σ vs) H' fun σ2 H2 => wipe σ2 vs = wipe σ vs ∧ tt σ2 H2 fun b H3 =>
    if b = true then tk σ2 H3 fun y H4 => tv σ2 H4 fun z H5 => ∃ kvs k a, y = .ref a ∧ H5 a = some (.tup (k.map kV)) ∧ H5 D = some (.dT kvs) ∧ kvs.length < sizeLine ∧ Nx (upd H5 D (.dT (putK kvs k z))) else Nx H3)
theorem dc_coreT {pins : List (Addr × Obj)} {s : Shared} {σ : L2.St} {H : Hp} {Q : VK} {kx vx tg iter : Expr} {ifs : List Expr} {scope : Scope} {own : List (Str × Nat)} {pos pos' : Pos} {wi : TI} {g : TG} {tt : TT} {tk tv : TE} {use : Option (Value → Sem Unit)} {Qf : Value → Shared → Prop}
    (hu : X.A.units + 5 < cLine) (hc : X.calm = true) (hN : X.N.Nodup) (I : Inv X pins σ H s) (hi : PI X tg iter wi) (ok : BlkOk X.N X.env.scope scope own)
    (hg : ∀ (s : Shared) (H : Hp) (C : Addr) (cl : List (Str × Addr)) (fp : List Addr), PG (X.blk s H scope (compEnvC scope cl C X.env) fp) tg g) (ht : ∀ (s : Shared) (H : Hp) (C : Addr) (cl : List (Str × Addr)) (fp : List Addr), PTs (X.blk s H scope (compEnvC scope cl C X.env) fp) ifs tt)
    (hk : ∀ (s : Shared) (H : Hp) (C : Addr) (cl : List (Str × Addr)) (fp : List Addr), PE (X.blk s H scope (compEnvC scope cl C X.env) fp) kx tk)
    (he : ∀ (s : Shared) (H : Hp) (C : Addr) (cl : List (Str × Addr)) (fp : List Addr), PE (X.blk s H scope (compEnvC scope cl C X.env) fp) vx tv) (hs : ∀ x, foldedSetIterable iter X.env x = pure x)
    (h : tDcT wi g tt tk tv (own.map (·.2)) σ H Q)
    (hRR : ∀ D C s' m H', Inv X pins σ H' s' → Q (.ref D) H' → s'.heap.Ns C m → FpOk X pins H' C → compPost (model X.prog X.w) X.A X.xe use Qf (.ref D) C (.ok .next) s') :
    wpAny (model X.prog X.w) X.A (comprehension (.DictComp kx vx [⟨tg, iter, ifs, 0⟩] scope pos) scope X.env pos' newDict false (eval iter X.env) use) Qf X.xe s := by
  have hfree : ∀ y ∈ scope.names, y.2 = .free → ∃ c, X.env.cells.lookup y.1 = some c := fun y hy e => by
    rcases ok.free y hy e with k | k
    · exact I.ok.has _ (.inl k)
    · exact I.ok.has _ (.inr k)
  refine wpAny_comprehension_free (use := use) rfl hs (closure_ok hfree) ok.kind (fun y hy e => by rw [ok.uniq y hy, e])
    (thn (hi.run pins s σ H _ I h) fun xv s1 hx => thn hx fun itv s2 h2 => ?_)
  obtain ⟨it, fp, tn, J, H2, e, I2, T, st2, f2, q⟩ := h2
  subst e
  refine wpAny_newObj_type (newEnv_comp ?_)
  generalize hD : s2.heap.objs.size = D
  have hDn : H2 D = none := I2.hok.fresh (Nat.le_of_eq hD)
  obtain ⟨W, ⟨m0, w0⟩, turn⟩ := q D hDn
  generalize hs3 : ({ s2 with heap := s2.heap.push { cls := .type "dict", data := .dict #[] } } : Shared) = s3
  have I3 : Inv X pins σ (upd H2 D (.dT [])) s3 := by
    rw [← hs3]
    refine I2.laid (t' := s2.toks) (fun b o e => Heap.get?_push_of_some _ e) (Nat.le_of_eq hD) ?_
    rw [← hD]
    exact dt_empty s2.heap I2.big
  have h3 : s3.heap = s2.heap.push { cls := .type "dict", data := .dict #[] } := by rw [← hs3]
  have sz : ∀ b ∈ fp, b < s2.heap.objs.size := fun b hb => by
    obtain ⟨o, e, _⟩ := T.obj _ _ st2 b hb
    exact Heap.lt_size e
  have f3 : ∀ b ∈ fp, FpOk X pins (upd H2 D (.dT [])) b ∧ b < s3.heap.objs.size := fun b hb => by
    have hlt := sz b hb
    refine ⟨⟨?_, (f2 b hb).2⟩, by rw [h3, Heap.size_push]; exact Nat.lt_succ_of_lt hlt⟩
    rw [upd_ne (by rw [← hD]; exact Nat.ne_of_lt hlt)]
    exact (f2 b hb).1
  have st3 : tn 0 s3.heap := T.keep _ _ _ st2 fun b _ o e => by rw [h3]; exact Heap.get?_push_of_some _ e
  have I4 := block_start I3 ok hN f3
  have pg := hg s3 (upd H2 D (.dT [])) s3.heap.objs.size (cellsFrom (s3.heap.objs.size + 1) scope.names (cloFrom X.env.cells scope.names [])) fp
  have pt := ht s3 (upd H2 D (.dT [])) s3.heap.objs.size (cellsFrom (s3.heap.objs.size + 1) scope.names (cloFrom X.env.cells scope.names [])) fp
  have pk := hk s3 (upd H2 D (.dT [])) s3.heap.objs.size (cellsFrom (s3.heap.objs.size + 1) scope.names (cloFrom X.env.cells scope.names [])) fp
  have pe := he s3 (upd H2 D (.dT [])) s3.heap.objs.size (cellsFrom (s3.heap.objs.size + 1) scope.names (cloFrom X.env.cells scope.names [])) fp
  show codeAny _ _ (.compStart (.DictComp kx vx [⟨tg, iter, ifs, 0⟩] scope pos) 0 (.ref it) (.ref D) (compEnvC scope (cellsFrom (s3.heap.objs.size + 1) scope.names (cloFrom X.env.cells scope.names [])) s3.heap.objs.size X.env)) (compPost (model X.prog X.w) X.A X.xe use Qf (.ref D) s3.heap.objs.size) { s3 with heap := pushCells (s3.heap.push { cls := .type "dict", data := .dict #[] }) scope.names }
  have nfp : ∀ b ∈ fp, (upd H2 D (.dT [])) b = none := fun b hb => (f3 b hb).1.1
  generalize hce : compEnvC scope (cellsFrom (s3.heap.objs.size + 1) scope.names (cloFrom X.env.cells scope.names [])) s3.heap.objs.size X.env = ce at I4 pg pt pk pe ⊢
  have cL : ce.locals = s3.heap.objs.size := by subst hce; rfl
  generalize hH3 : upd H2 D (.dT []) = H3 at I3 I4 pg pt pk pe w0 nfp f3
  generalize hs4 : ({ s3 with heap := pushCells (s3.heap.push { cls := .type "dict", data := .dict #[] }) scope.names } : Shared) = s4 at I4 ⊢
  have st4 : tn 0 s4.heap := T.keep _ _ _ st3 fun b _ o e => by rw [← hs4]; exact pushCells_keeps _ _ _ _ (Heap.get?_push_of_some _ e)
  have stat : ∀ {σ' : L2.St} {H' : Hp} {s' : Shared}, Inv (X.blk s3 H3 scope ce fp) [] σ' H' s' → (∀ b ∈ fp, H' b = none) → ∀ b ∈ fp, FpOk (X.blk s3 H3 scope ce fp) [] H' b := fun {σ' H' s'} I' hn b hb =>
    ⟨hn b hb, (I'.ok.exf b hb).1, I'.ok.exfs b hb, .inl hb, fun x c e => (I'.ok.exf b hb).2 x c e, fun p hp => absurd (show p ∈ ([] : List (Addr × Obj)) ++ [] from hp) (by simp)⟩
  have loop : codeAny (model X.prog X.w) X.A (.compLoop (.DictComp kx vx [⟨tg, iter, ifs, 0⟩] scope pos) 0 (.ref it) (.ref D) ce) (compPost (model X.prog X.w) X.A X.xe use Qf (.ref D) s3.heap.objs.size) s4 := by
    refine compLoop_anyD (fun n s' => ∃ i H', Inv (X.blk s3 H3 scope ce fp) [] (wipe σ (own.map (·.2))) H' s' ∧ tn i s'.heap ∧ (∀ b ∈ fp, H' b = none) ∧ W i n H') ?_ m0 ⟨0, H3, I4, st4, nfp, w0⟩
    rintro n s5 ⟨i, H5, I5, st5, n5, w5⟩
    rcases turn i n H5 w5 with ⟨stop, qq⟩ | ⟨go, Nx, hNx, step⟩
    · have td := T.done (X.blk s3 H3 scope ce fp) rfl rfl rfl hc i [] s5 _ H5 (fun _ _ => False) I5 (stat I5 n5) st5 stop
      refine thnF td fun r s6 ⟨hr, I6⟩ => ?_
      subst hr
      have I7 : Inv X pins σ H5 s6 := I3.call' (ch := fp) I6.os I6.base I6.hok I6.bare fun b hb => ⟨(f3 b hb).1.2.2.2.1, (f3 b hb).1.2.1, (f3 b hb).1.2.2.2.2.1, (f3 b hb).1.2.2.2.2.2⟩
      have nC : H5 s3.heap.objs.size = none := by
        have z : H5 ce.locals = none := I6.free
        rw [cL] at z
        exact z
      obtain ⟨m, hn, _⟩ := I6.loc
      have hn : s6.heap.Ns ce.locals m := hn
      rw [cL] at hn
      exact hRR D s3.heap.objs.size s6 m H5 I7 qq hn (I3.fpOk (Nat.le_refl _) nC)
    · have ti := T.item (X.blk s3 H3 scope ce fp) rfl rfl rfl hc i [] s5 _ H5 (fun _ _ => False) I5 (stat I5 n5) st5 go
      refine thnF ti fun r s6 ⟨u, hr, h6⟩ => ?_
      subst hr
      refine thnF h6 fun _ s7 ⟨x, H7, I7, r7, y7, st7, n7⟩ => ?_
      have I7' := I7.pinned (stat I7 n7) (T.obj _ _ st7)
      refine thnF (pg.run _ s7 _ H7 x u _ I7' r7 (step x H7 y7)) fun _ s8 ⟨σ8, H8, I8, hw8, q8⟩ => ?_
      refine thnF (pt.run _ s8 σ8 H8 _ I8 q8) fun b s9 ⟨H9, I9, q9⟩ => ?_
      have fin : ∀ {s' : Shared} {H' : Hp}, Inv (X.blk s3 H3 scope ce fp) ([] ++ pinsAt fp s7.heap) σ8 H' s' → Nx H' → ∃ m, m < n ∧ ∃ i H', Inv (X.blk s3 H3 scope ce fp) [] (wipe σ (own.map (·.2))) H' s' ∧ tn i s'.heap ∧ (∀ b ∈ fp, H' b = none) ∧ W i m H' := fun {s' H'} I' nx => by
        obtain ⟨m', hm, w'⟩ := hNx H' nx
        have pin' : ∀ b ∈ fp, ∀ o, s7.heap.get? b = some o → s'.heap.get? b = some o ∧ H' b = none := fun b hb o e =>
          let z := I'.pin (b, o) (List.mem_append_right _ (List.mem_append_right _ (mem_pinsAt hb e)))
          ⟨z.1, z.2.1⟩
        have hl : (wipe σ (own.map (·.2))).length = σ8.length := by rw [← hw8, wipe_length]
        refine ⟨m', hm, i + 1, H', (I'.unpinned (pins := [])).weak hl (fun j v e => ?_), T.keep _ _ _ st7 fun b hb o e => (pin' b hb o e).1, fun b hb => ?_, w'⟩
        · rw [← hw8] at e
          exact (wipe_some e).1
        · obtain ⟨o, e, _⟩ := T.obj _ _ st7 b hb
          exact (pin' b hb o e).2
      cases b with
      | false =>
        simp only [Bool.false_eq_true, if_false] at q9 ⊢
        exact fin I9 q9
      | true =>
        simp only [if_true] at q9 ⊢
        refine thnF (pk.run _ s9 σ8 H9 _ I9 q9) fun z s10 ⟨yk, H10, I10, r10, q10⟩ => ?_
        refine thnF (pe.run _ s10 σ8 H10 _ I10 q10) fun z2 s11 ⟨yv, H11, I11, r11, kvs, k, a, ek, ha11, hD11, hz11, nx⟩ => ?_
        subst ek
        cases (show z = Value.ref a from r10)
        exact d_dictSetT (X := X.blk s3 H3 scope ce fp) (by first | (show X.A.units + 1 < cLine; omega) | omega) I11 hD11 ha11 hz11 r11 fun s12 I12 => fin I12 nx
  exact codeAny_compStart_dict loop (T.self X.A 0 _ _ _ st4 loop)
/-- as a value -/
theorem pe_dcT {kx vx tg iter : Expr} {ifs : List Expr} {scope : Scope} {own : List (Str × Nat)} {pos : Pos} {wi : TI} {g : TG} {tt : TT} {tk tv : TE} (hu : X.A.units + 5 < cLine) (hc : X.calm = true) (hN : X.N.Nodup) (hi : PI X tg iter wi) (ok : BlkOk X.N X.env.scope scope own)
    (hg : ∀ (s : Shared) (H : Hp) (C : Addr) (cl : List (Str × Addr)) (fp : List Addr), PG (X.blk s H scope (compEnvC scope cl C X.env) fp) tg g) (ht : ∀ (s : Shared) (H : Hp) (C : Addr) (cl : List (Str × Addr)) (fp : List Addr), PTs (X.blk s H scope (compEnvC scope cl C X.env) fp) ifs tt)
    (hk : ∀ (s : Shared) (H : Hp) (C : Addr) (cl : List (Str × Addr)) (fp : List Addr), PE (X.blk s H scope (compEnvC scope cl C X.env) fp) kx tk)
    (he : ∀ (s : Shared) (H : Hp) (C : Addr) (cl : List (Str × Addr)) (fp : List Addr), PE (X.blk s H scope (compEnvC scope cl C X.env) fp) vx tv) (hs : ∀ x, foldedSetIterable iter X.env x = pure x := by intro _; rfl) :
    PE X (.DictComp kx vx [⟨tg, iter, ifs, 0⟩] scope pos) (tDcT wi g tt tk tv (own.map (·.2))) := by
  refine ⟨fun pins s σ H Q I h => ?_⟩
  rw [arm_eval_DictComp]
  refine dc_coreT hu hc hN I hi ok hg ht hk he hs h fun D C s' m H' I' q hn f => ⟨m, hn, fun h'' sb => ?_⟩
  obtain ⟨f0, f1, f2, f3, f4, f5⟩ := f
  exact ⟨.ref D, H', I'.turned (t' := s'.toks) (fun b o hb e => (sb.2 b hb).trans e) f0 f1 f3 f4 f5, rfl, q⟩
/-- name = {..} on one line, the name a local -/
theorem ps_setDcT {i : Nat} {y : Str} {py : Pos} {kx vx tg iter : Expr} {ifs : List Expr} {scope : Scope} {own : List (Str × Nat)} {pos spos : Pos} {wi : TI} {g : TG} {tt : TT} {tk tv : TE} (hu : X.A.units + 5 < cLine) (hc : X.calm = true) (hN : X.N.Nodup) (hy : X.N[i]? = some y) (hyl : X.env.scope.names.lookup y = some .local)
    (hsw : swapsWith (.DictComp kx vx [⟨tg, iter, ifs, 0⟩] scope pos) (some (.Name y py)) spos.line X.env = pure true) (hi : PI X tg iter wi) (ok : BlkOk X.N X.env.scope scope own)
    (hg : ∀ (s : Shared) (H : Hp) (C : Addr) (cl : List (Str × Addr)) (fp : List Addr), PG (X.blk s H scope (compEnvC scope cl C X.env) fp) tg g) (ht : ∀ (s : Shared) (H : Hp) (C : Addr) (cl : List (Str × Addr)) (fp : List Addr), PTs (X.blk s H scope (compEnvC scope cl C X.env) fp) ifs tt)
    (hk : ∀ (s : Shared) (H : Hp) (C : Addr) (cl : List (Str × Addr)) (fp : List Addr), PE (X.blk s H scope (compEnvC scope cl C X.env) fp) kx tk)
    (he : ∀ (s : Shared) (H : Hp) (C : Addr) (cl : List (Str × Addr)) (fp : List Addr), PE (X.blk s H scope (compEnvC scope cl C X.env) fp) vx tv) (hs : ∀ x, foldedSetIterable iter X.env x = pure x := by intro _; rfl) :
    PS X (.Assign [.Name y py] (.DictComp kx vx [⟨tg, iter, ifs, 0⟩] scope pos) spos) (tAsg (tDcT wi g tt tk tv (own.map (·.2))) (gName i)) := by
  refine ⟨fun pins s σ H D I h => ?_⟩
  rw [exec_Assign_Name_used _ _ _ _ hsw]
  refine wpAny_bind (wpAny_standAt (wpAny_bind ?_))
  show wpAny _ X.A (do let _ ← comprehension (.DictComp kx vx [⟨tg, iter, ifs, 0⟩] scope pos) scope X.env (firstIterPos [⟨tg, iter, ifs, 0⟩] pos) newDict false (eval iter X.env) (some (assign (.Name y py) X.env))) _ _ s
  have h : tDcT wi g tt tk tv (own.map (·.2)) σ H (fun x H1 => gName i x σ H1 D.nx) := h
  refine wpAny_bind (thn (dc_coreT (Qf := fun _ s' => SP X pins D .next s') hu hc hN I hi ok hg ht hk he hs h fun L C s' m H' I' q hn f => ?_) fun _ s' hq => wpAny_pure (wpAny_pure hq))
  show wpAny _ _ (assign (.Name y py) X.env (.ref L)) _ _ _
  refine wpAny_assign_Name (store_ok2 (v := V.ref L) I' hN hy (.inl hyl) rfl (fun s2 I2 ⟨a, sb, ha⟩ => ?_) (.inr hyl))
  obtain ⟨f0, f1, f2, f3, f4, f5⟩ := f
  have haC : C ≠ a := by
    rcases ha with z | z
    · rw [z]; exact f1
    · exact fun e => f4 y a z e.symm
  refine ⟨m, hn.sameBut sb haC, fun h3 sb3 => ?_⟩
  exact ⟨_, H', I2.turned (t' := s2.toks) (fun b o hb e => (sb3.2 b hb).trans e) f0 f1 f3 f4 f5, q⟩
theorem sw_dc {kx vx : Expr} {gs : List Comprehension} {scope : Scope} {pos py : Pos} {y : Str} {l : Nat} {env : Env} (hk : env.scope.kind = .function) (hy : env.scope.names.lookup y = some .local) (hl : (py.line == pos.line) = true)
    (ha : (scope.names.any fun (n, k) => n == y && (k == .local || k == .cell)) = false) : swapsWith (.DictComp kx vx gs scope pos) (some (.Name y py)) l env = pure true := by
  have ky : env.kindOf y = some .local := hy
  have hb : env.blockKind = .function := by unfold Env.blockKind; rw [hk]; rfl
  unfold swapsWith
  simp only [hb, ky, ha, Expr.pos, hl]
  rfl
end
/-! ### sorted of a dict, its keys tuples of ints -/
/-- a permutation of a mapped list is a mapped permutation -/
theorem perm_map {α β : Type} {f : α → β} {l : List α} : ∀ {vs : List β}, vs.Perm (l.map f) → ∃ L : List α, vs = L.map f ∧ L.Perm l := by
  intro vs h
  generalize hm : l.map f = m at h
  induction h generalizing l with
  | nil =>
    have e : l = [] := by simpa using hm
    exact ⟨[], rfl, by rw [e]⟩
  | cons x p ih =>
    cases l with
    | nil => simp at hm
    | cons a r =>
      rw [List.map_cons] at hm
      injection hm with e1 e2
      obtain ⟨L, h1, h2⟩ := ih e2
      exact ⟨a :: L, by rw [List.map_cons, e1, h1], h2.cons a⟩
  | swap x y t =>
    match l, hm with
    | a :: b :: r, hm =>
      rw [List.map_cons, List.map_cons] at hm
      injection hm with e1 e2
      injection e2 with e2 e3
      exact ⟨b :: a :: r, by rw [List.map_cons, List.map_cons, e1, e2, e3], List.Perm.swap a b r⟩
  | trans p q ih1 ih2 =>
    obtain ⟨L2, h1, h2⟩ := ih2 hm
    obtain ⟨L1, h3, h4⟩ := ih1 h1.symm
    exact ⟨L1, h3, h4.trans h2⟩
section
variable {X : Cx}
/-- a key of ints -/
def kInts (r : List Int) : List Key := r.map Sum.inl
theorem kInts_V (r : List Int) : (kInts r).map kV = r.map V.int := by
  unfold kInts
  rw [List.map_map]
  rfl
def rSortedDT : List V → Hp → VK → Prop := fun vs H Q => ∃ (a : Addr) (kvs : List (List Key × V)) (ks : List (List Int)) (d : Nat) (B : Int), vs = [.ref a] ∧ H a = some (.dT kvs) ∧ kvs.map (·.1) = ks.map kInts ∧ ks.length < 64 ∧ 1 ≤ d ∧ (∀ r ∈ ks, r.length = d ∧ TS.Bd B r) ∧
  ∀ (ps : List (Addr × List Int)) (p : Addr), (ps.map (·.2)).Perm ks → (∀ q ∈ ps, H q.1 = some (.tup (q.2.map V.int))) → ps.Pairwise (fun q r => TS.code B q.2 ≤ TS.code B r.2) → H p = none → Q (.ref p) (upd H p (.lst (ps.map fun q => V.ref q.1)))
theorem keys_pair {H : Hp} : ∀ {kvs : List (List Key × V)} {xs : List (List Key × Addr × Value)} {ks : List (List Int)}, KT H kvs xs → kvs.map (·.1) = ks.map kInts →
    ∃ ps : List (Addr × List Int), ps.map (·.2) = ks ∧ xs.map (fun x => x.2.1) = ps.map (·.1) ∧ ∀ q ∈ ps, H q.1 = some (.tup (q.2.map V.int))
  | _, _, [], .nil, _ => ⟨[], rfl, rfl, fun _ h => nomatch h⟩
  | _, _, _ :: _, .nil, h => by simp at h
  | _, _, [], .cons _ _, h => by simp at h
  | _, _, r :: ks, .cons (a := p) (b := q) h t, e => by
    rw [List.map_cons, List.map_cons] at e
    injection e with e1 e2
    obtain ⟨ps, a1, a2, a3⟩ := keys_pair t e2
    refine ⟨(q.2.1, r) :: ps, by rw [List.map_cons, a1], by rw [List.map_cons, List.map_cons, a2], fun z hz => ?_⟩
    rcases List.mem_cons.mp hz with e | hz
    · subst e
      show H q.2.1 = some (.tup (r.map V.int))
      rw [← kInts_V, ← e1]
      exact h.2.1
    · exact a3 z hz
theorem cr_sortedDT (hcalm : X.calm = true) : CallR X (.builtin "sorted") rSortedDT := by
  intro pins s σ H vs us Q I r h
  obtain ⟨a, kvs, ks, d, B, rfl, hd, hk, h64, hd1, hB, q⟩ := h
  rw [Vals.ref1 r]
  obtain ⟨z, lo, xs, rel, o, es, ep, ho, hx, hdt, he, his, hn⟩ := dt_of I.hok hd
  obtain ⟨ps, e1, e2, e3⟩ := keys_pair rel hk
  have l1 : es.size = xs.length := size_of_entries he
  have l2 : kvs.length = xs.length := Paired.length rel
  have l3 : kvs.length = ks.length := by
    have e := congrArg List.length hk
    rw [List.length_map, List.length_map] at e
    exact e
  have l4 : ps.length = ks.length := by rw [← e1, List.length_map]
  have h24 := sizeLine_eq
  refine Calls.call_function_entry PyProof.Rows.kind_sorted PyProof.Rows.plain_sorted PyProof.Rows.entry_sorted (PyProof.Rows.args_sorted1 _) ?_
  unfold Builtin.«sorted»
  refine wpAny_bind (m := checkCount "sorted" 1 1 _) (wpAny_pure ?_)
  refine wpAny_bind (PySem.W.kdu_collect (A := X.A.in1) (kdl_raw lo hx hdt) (I.ok.hd hcalm) ho (by omega) fun h' tk acc hkp it => ?_)
  have I1 : Inv X pins σ H { s with heap := h', toks := tk } := I.kept hkp
  have ea : acc.toList = xs.map fun x => Value.ref x.2.1 := by
    have hl : acc.toList.length = xs.length := by rw [Array.length_toList, it.1]; exact l1
    apply List.ext_getElem?
    intro j
    rw [List.getElem?_map]
    cases hj : acc.toList[j]? with
    | none =>
      have h1 := List.getElem?_eq_none_iff.mp hj
      rw [List.getElem?_eq_none (by omega)]
      all_goals rfl
    | some v =>
      obtain ⟨en, hen, hv⟩ := it.2 j v (by rw [← Array.getElem?_toList]; exact hj)
      have qe := entry_at he j
      rw [hen] at qe
      cases hb : xs[j]? with
      | none =>
        rw [hb] at qe
        exact nomatch (show some en = none from qe)
      | some b =>
        rw [hb] at qe
        have e2 : en = entryOfKey (tupleKind (mixKind X.prog X.w)) b := Option.some.inj qe
        rw [hv, e2]
        all_goals rfl
  have eb : acc.toList = ps.map fun q => Value.ref q.1 := by
    rw [ea]
    have e4 : (xs.map fun x => x.2.1).map Value.ref = (ps.map (·.1)).map Value.ref := by rw [e2]
    rw [List.map_map, List.map_map] at e4
    exact e4
  have al : acc.toList.length = ks.length := by rw [eb, List.length_map, l4]
  refine wpAny_bind (wpAny_newList ?_ (by omega))
  have hoL : (h'.push (seqObj "list" acc.toList.toArray 0)).get? h'.objs.size = some (seqObj "list" acc.toList.toArray 0) := Heap.get?_push_size _ rfl
  have tk1 : ∀ q ∈ ps, TS.TupInts (h'.push (seqObj "list" acc.toList.toArray 0)) (.ref q.1) q.2 := fun q hq => by
    have t := tupI_raw (X := X) (s := { s with heap := h', toks := tk }) I1 (t := q.1) (ns := q.2) (.inl (.inl (e3 q hq)))
    exact t.keeps fun b u e _ => Heap.get?_push_of_some _ e
  have x : TS.TupsOk (h'.push (seqObj "list" acc.toList.toArray 0)) d B acc.toList := fun v hv => by
    rw [eb] at hv
    obtain ⟨q, hq, e⟩ := List.mem_map.mp hv
    rw [← e]
    have m : q.2 ∈ ks := by rw [← e1]; exact List.mem_map.mpr ⟨q, hq, rfl⟩
    exact ⟨q.2, tk1 q hq, (hB _ m).1, (hB _ m).2⟩
  show wpAny _ _ _ _ _ { s with heap := h'.push (seqObj "list" acc.toList.toArray 0), toks := tk }
  refine wpAny_bind (wpAny_holding (TS.call_sort_tups (s := { s with heap := h'.push (seqObj "list" acc.toList.toArray 0), toks := tk }) hoL (by omega) hd1 x fun out g1 g2 => ?_))
  obtain ⟨e', he'⟩ := PyProof.Rows.sortedHeap_at (vs := acc.toList) (out := out) hoL
  -- the sorted addresses, beside their rows
  have ord : ∀ vs : List Value, vs.Perm (ps.map fun q => Value.ref q.1) → ∃ L : List (Addr × List Int), vs = L.map (fun q => Value.ref q.1) ∧ L.Perm ps := by
    intro vs pm
    obtain ⟨L, e, p2⟩ := perm_map pm
    exact ⟨L, e, p2⟩
  obtain ⟨L, eL, pL⟩ := ord out.toList (by rw [← eb]; exact g1)
  have hL : ∀ q ∈ L, q ∈ ps := fun q hq => pL.mem_iff.mp hq
  have pw : L.Pairwise (fun q r => TS.code B q.2 ≤ TS.code B r.2) := by
    rw [eL] at g2
    refine List.Pairwise.imp_of_mem (fun {q r} hq hr hle => ?_) (List.pairwise_map.mp g2)
    have f1 : TS.intsOf (h'.push (seqObj "list" acc.toList.toArray 0)) (.ref q.1) = q.2 := (tk1 q (hL q hq)).ints
    have f2 : TS.intsOf (h'.push (seqObj "list" acc.toList.toArray 0)) (.ref r.1) = r.2 := (tk1 r (hL r hr)).ints
    rw [← f1, ← f2]
    exact hle
  have hlen : (L.map fun q => V.ref q.1).length ≤ sizeLine := by
    rw [List.length_map, pL.length_eq]
    omega
  have hv : Vals (L.map fun q => V.ref q.1) out.toList := by rw [eL]; exact vals_of_refs L
  refine wpAny_pure ⟨_, rfl, .ref h'.objs.size, upd H h'.objs.size (.lst (L.map fun q => V.ref q.1)), I1.laid (t' := tk) (fun b u e => ?_) (Nat.le_refl _)
    (show ObjOk X.prog X.w _ _ _ (.lst (L.map fun q => V.ref q.1)) from ⟨hlen, out.toList, e', hv, by rw [Array.toArray_toList]; exact he'⟩), rfl, q L _ (by rw [← e1]; exact pL.map _) (fun z hz => e3 z (hL z hz)) pw (I1.hok.fresh (Nat.le_refl _))⟩
  have hb : b < h'.objs.size := Heap.lt_size e
  rw [PyProof.Rows.sortedHeap_old (Nat.ne_of_lt hb) (by rw [size_push']; exact Nat.lt_succ_of_lt hb)]
  exact Heap.get?_push_of_some _ e
end
end G651
/-! More of the own layer: two-for comprehensions; statements over what an expression gives. -/
namespace G651
open PySem PySem.Spec PyProof.Rows L2 Evl
/-! ### statements -/
section
variable {K : PySem.W.Frag} {σ : L2.St} {H H' : Hp} {ta tb te tx : TE} {D : Ends} {tu tz : TS} {R : V → Hp → Prop}
theorem s_asgR {i : Nat} (h : EvR te σ H R) (k : ∀ v H1, Ex H H1 → R v H1 → D.nx (σ.set i (some v)) H1) : tAsg te (gName i) D σ H := h H (Ex.refl H) _ fun v H1 e r => k v H1 e r
theorem q_asgR {i : Nat} (h : EvR te σ H R) (k : ∀ v H1, Ex H H1 → R v H1 → tz D (σ.set i (some v)) H1) : tSeq (tAsg te (gName i)) tz D σ H := s_asgR (D := { D with nx := tz D }) h k
theorem s_retR (h : EvR te σ H R) (k : ∀ v H1, Ex H H1 → R v H1 → D.rt v H1) : tRet te D σ H := h H (Ex.refl H) _ fun v H1 e r => k v H1 e r
/-- arguments, the last one given by a relation -/
theorem er_ret1 {r : List V → Hp → VK → Prop} {R1 : V → Hp → Prop} (h : EvR te σ H R1) (hr : ∀ v H1, Ex H H1 → R1 v H1 → ∀ Q : VK, (∀ u H2, Ex H1 H2 → R u H2 → Q u H2) → r [v] H1 Q) : EvR (tCB r (tCons te tNil)) σ H R := fun H1 e Q q =>
  h H1 e _ fun v H2 e2 rv => hr v H2 (e.trans e2) rv Q fun u H3 e3 ru => q u H3 (e2.trans e3) ru
/-- one argument ahead that a relation tells -/
def EvAR (ta : TA) (σ : L2.St) (H : Hp) (R : List V → Hp → Prop) : Prop := ∀ H1, Ex H H1 → ∀ Q : List V → Hp → Prop, (∀ vs H2, Ex H1 H2 → R vs H2 → Q vs H2) → ta σ H1 Q
theorem ar_nil : EvAR tNil σ H (fun vs _ => vs = []) := fun H1 _ Q q => q _ H1 (Ex.refl _) rfl
theorem ar_cons {tr : TA} {R1 : V → Hp → Prop} {R3 : List V → Hp → Prop} (h : EvR te σ H R1) (hr : ∀ v H1, Ex H H1 → R1 v H1 → EvAR tr σ H1 (fun vs H2 => R3 (v :: vs) H2)) : EvAR (tCons te tr) σ H R3 := fun H1 e Q q =>
  h H1 e _ fun v H2 e2 r => hr v H2 (e.trans e2) r H2 (Ex.refl _) _ fun vs H3 e3 r3 => q _ H3 (e2.trans e3) r3
theorem ar_of {ta : TA} {vs : List V} (h : EvA ta σ H vs) : EvAR ta σ H (fun us _ => us = vs) := fun H1 e Q q => h H1 e _ fun H2 e2 => q _ H2 e2 rfl
theorem er_callR {sp : Sp} {dvs : List V} {E : XK} {ta : TA} {R1 : List V → Hp → Prop} (h : EvAR ta σ H R1) (hs : ∀ vs H1, Ex H H1 → R1 vs H1 → SpR sp (vs ++ dvs) H1 R) : EvR (tCall sp dvs E ta) σ H R := fun H1 e Q q =>
  h H1 e _ fun vs H2 e2 r => hs vs H2 (e.trans e2) r H2 (Ex.refl _) Q (fun v H3 e3 => q v H3 (e2.trans e3)) E
end
/-! ### two-for comprehensions -/
/-- a walk whose items are told ahead, and that stands on what H holds -/
def SrcB {α : Type} (wi : TI) (σ : L2.St) (H : Hp) (zs : List α) (f : α → V) : Prop := ∀ H1, Ex H H1 → ∀ R : It → Hp → Prop,
  (∀ (J : It) (H2 : Hp) (G : Hp → Prop), Ex H1 H2 → Walk J zs.length G (YAt (zs.map f)) → (∀ H3, Ex H H3 → G H3) → R J H2) → wi σ H1 R
section
variable {K : PySem.W.Frag} {σ : L2.St} {H : Hp} {α : Type}
theorem srcB_list {tl : TE} {a : Addr} {zs : List α} {f : α → V} (h : Ev tl σ H (.ref a)) (hx : SqL K H a (zs.map f)) : SrcB (iList K tl) σ H zs f := fun H1 e R q =>
  h H1 e _ fun H2 e2 => by
    have w : Walk (Itl K a) (zs.map f).length (fun H => SqL K H a (zs.map f)) (YAt (zs.map f)) := walk_list
    rw [List.length_map] at w
    exact ⟨a, rfl, ⟨_, ex_l (e.trans e2) hx⟩, q _ H2 _ e2 w fun H3 e3 => ex_l e3 hx⟩
theorem srcB_tup {tl : TE} {a : Addr} {zs : List α} {f : α → V} (h : Ev tl σ H (.ref a)) (hx : SqT K H a (zs.map f)) : SrcB (iTup K tl) σ H zs f := fun H1 e R q =>
  h H1 e _ fun H2 e2 => by
    have w : Walk (Itt K a) (zs.map f).length (fun H => SqT K H a (zs.map f)) (YAt (zs.map f)) := walk_tup
    rw [List.length_map] at w
    exact ⟨a, rfl, ⟨_, ex_t (e.trans e2) hx⟩, q _ H2 _ e2 w fun H3 e3 => ex_t e3 hx⟩
theorem srcB_range {ta : TA} {n : Nat} (h : EvA ta σ H [.int (n : Int)]) (hn : n ≤ 40000) : SrcB (iRng1 ta) σ H (List.range n) (fun z => .int ((z : Nat) : Int)) := fun H1 e1 R q =>
  h H1 e1 _ fun H2 e2 => by
    have w : Walk (Itr 0 n) n (fun _ => True) (YFn fun i => .int (0 + i)) := walk_range
    refine ⟨(n : Int), rfl, by omega, by omega, ?_⟩
    rw [Int.toNat_natCast]
    have w2 : Walk (Itr 0 n) n (fun _ => True) (YAt ((List.range n).map fun z => .int ((z : Nat) : Int))) := w.mono (fun _ h => h) fun i H x H' hi _ y => by
      refine ⟨y.1, ?_⟩
      rw [List.getElem?_map, List.getElem?_range hi, y.2]
      show some (V.int (i : Int)) = some (V.int (0 + (i : Int)))
      rw [Int.zero_add]
    exact q _ H2 _ e2 (by rw [List.length_range]; exact w2) (fun _ _ => trivial)
theorem yes_go {Q : Bool → Hp → Prop} (h : Q true H) : tYes σ H Q := h
theorem er_lc2 {β : Type} {wi wi1 : TI} {te : TE} {vs vs1 : List Nat} {j0 j1 : Nat} {zs : List α} {us : List β} {f : α → V} {g : β → V} (S : SrcB wi σ H zs f) (S1 : ∀ z ∈ zs, SrcB wi1 ((wipe σ vs).set j0 (some (f z))) H us g)
    (hz : zs.length * us.length ≤ 40000) (R1 : α × β → V → Hp → Prop) (hS : ∀ z y Ha Hb, (∀ a us, Ha a = some (.tup us) → Hb a = some (.tup us)) → R1 z y Ha → R1 z y Hb)
    (hw : ∀ x, wipe ((wipe σ vs).set j0 (some x)) vs = wipe σ vs)
    (hw1 : ∀ x y, wipe ((wipe ((wipe σ vs).set j0 (some x)) vs1).set j1 (some y)) vs1 = wipe ((wipe σ vs).set j0 (some x)) vs1)
    (he : ∀ z u H2, z ∈ zs → u ∈ us → Ex H H2 → EvR te ((wipe ((wipe σ vs).set j0 (some (f z))) vs1).set j1 (some (g u))) H2 (R1 (z, u)))
    {R : V → Hp → Prop} (hR : ∀ D ys H2, H D = none → Ex H H2 → H2 D = some (.lst ys) → Paired (fun y zu => R1 zu y H2) ys (zs.flatMap fun z => us.map fun u => (z, u)) → R (.ref D) H2) :
    EvR (tLc2 wi (gName j0) tYes wi1 (gName j1) tYes te vs vs1) σ H R := by
  intro H1 e1 Q q
  refine S H1 e1 _ fun J H2 G e2 w hG D hD => ?_
  have E2 := e1.trans e2
  have hDH : H D = none := fresh_back E2 hD
  -- what stands behind i turns of the first loop and j of the second
  let P : List (α × β) → Hp → Prop := fun l H' => Ex H2 H' ∧ ∃ ys, H' D = some (.lst ys) ∧ Paired (fun y zu => R1 zu y H') ys l
  have grow : ∀ {l : List (α × β)} {Ha Hb : Hp}, P l Ha → Ex Ha Hb → P l Hb := fun {l Ha Hb} ⟨a, ys, b, c⟩ e => ⟨a.trans e, ys, e D _ b, prd_mono c fun y z _ r => hS _ _ _ _ (fun a us h => e a _ h) r⟩
  refine ⟨fun i m H' => m = zs.length - i ∧ i ≤ zs.length ∧ P ((zs.take i).flatMap fun z => us.map fun u => (z, u)) H', ⟨zs.length, by simp, Nat.zero_le _, Ex.new hD, [], upd_same, .nil⟩, ?_⟩
  rintro i m H3 ⟨rfl, hi, p⟩
  by_cases hlt : i < zs.length
  · refine .inr ⟨w.goes i H3 hlt (hG H3 (E2.trans p.1)), P ((zs.take (i + 1)).flatMap fun z => us.map fun u => (z, u)), fun H' p' => ⟨zs.length - (i + 1), by omega, rfl, hlt, p'⟩, fun x H4 y => ?_⟩
    obtain ⟨eH, y2⟩ := w.yields i H3 x H4 hlt (hG H3 (E2.trans p.1)) y
    clear y
    subst eH
    have gz : zs[i]? = some zs[i] := List.getElem?_eq_getElem hlt
    rw [List.getElem?_map, gz] at y2
    have ex : x = f zs[i] := (Option.some.inj y2).symm
    subst ex
    have mz : zs[i] ∈ zs := List.mem_of_getElem? gz
    refine ⟨hw _, ?_⟩
    refine yes_go ?_
    refine iteT ?_
    refine S1 zs[i] mz H4 (E2.trans p.1) _ fun J1 H5 G1 e5 w1 hG1 => ?_
    have p5 := grow p e5
    refine ⟨fun j k H' => k = us.length - j ∧ j ≤ us.length ∧ P (((zs.take i).flatMap fun z => us.map fun u => (z, u)) ++ (us.take j).map fun u => (zs[i], u)) H', ⟨us.length, by simp, Nat.zero_le _, by simpa using p5⟩, ?_⟩
    rintro j k H6 ⟨rfl, hj, p6⟩
    by_cases hlu : j < us.length
    · refine .inr ⟨w1.goes j H6 hlu (hG1 H6 (E2.trans p6.1)), P (((zs.take i).flatMap fun z => us.map fun u => (z, u)) ++ (us.take (j + 1)).map fun u => (zs[i], u)), fun H' p' => ⟨us.length - (j + 1), by omega, rfl, hlu, p'⟩, fun x H7 y => ?_⟩
      obtain ⟨eH, y2⟩ := w1.yields j H6 x H7 hlu (hG1 H6 (E2.trans p6.1)) y
      clear y
      subst eH
      have gu : us[j]? = some us[j] := List.getElem?_eq_getElem hlu
      rw [List.getElem?_map, gu] at y2
      have ex : x = g us[j] := (Option.some.inj y2).symm
      subst ex
      have mu : us[j] ∈ us := List.mem_of_getElem? gu
      refine ⟨hw1 _ _, ?_⟩
      refine yes_go ?_
      refine iteT ?_
      refine he zs[i] us[j] H7 mz mu (E2.trans p6.1) H7 (Ex.refl _) _ fun v H8 e8 r8 => ?_
      obtain ⟨q1, ys, q2, q3⟩ := grow p6 e8
      have lenY : ys.length ≤ 40000 := by
        have l1 := Paired.length q3
        have l2 : ((zs.take i).flatMap fun z => us.map fun u => (z, u)).length = i * us.length := by
          rw [List.length_flatMap]
          have e : ((zs.take i).map fun z => (us.map fun u => (z, u)).length) = List.replicate i us.length := by
            rw [List.eq_replicate_iff]
            refine ⟨by rw [List.length_map, List.length_take]; omega, fun b hb => ?_⟩
            obtain ⟨z, _, rfl⟩ := List.mem_map.mp hb
            rw [List.length_map]
          rw [e, List.sum_replicate_nat]
        rw [List.length_append, l2, List.length_map, List.length_take] at l1
        have l3 : (i + 1) * us.length ≤ zs.length * us.length := Nat.mul_le_mul_right _ hlt
        rw [Nat.succ_mul] at l3
        omega
      refine ⟨ys, q2, sz_lt (by omega), Ex.mut q1 hD, ys ++ [v], upd_same, ?_⟩
      have tp : ∀ a us, H8 a = some (.tup us) → upd H8 D (.lst (ys ++ [v])) a = some (.tup us) := fun a us ha => by
        rw [upd_ne (ne_of ha q2 (fun z => by cases z))]
        exact ha
      rw [take_more gu, List.map_append, ← List.append_assoc]
      exact prd_snoc (prd_mono q3 fun y z _ r => hS _ _ _ _ tp r) (hS _ _ _ _ tp r8)
    · have e : j = us.length := by omega
      subst e
      refine .inl ⟨w1.stops H6 (hG1 H6 (E2.trans p6.1)), ?_⟩
      rw [take_more gz, List.flatMap_append]
      rw [List.take_length] at p6
      simpa using p6
  · have e : i = zs.length := by omega
    subst e
    refine .inl ⟨w.stops H3 (hG H3 (E2.trans p.1)), ?_⟩
    obtain ⟨p1, ys, p2, p3⟩ := p
    rw [List.take_length] at p3
    exact q _ H3 (e2.trans p1) (hR D ys H3 hDH (E2.trans p1) p2 p3)
end
end G651
/-! Dicts whose keys are rows; loops over what a relation tells. -/
namespace G651
open PySem PySem.Spec PyProof.Rows L2 Evl
theorem hu_of5 {A : Around} {k : Nat} (hr : Room k A) : A.units + 5 < cLine := by have := hr.un; omega
/-! ### keys -/
def addK (ks : List (List Int)) (r : List Int) : List (List Int) := if ks.contains r then ks else ks ++ [r]
def Ks (kvs : List (List Key × V)) (ks : List (List Int)) : Prop := kvs.map (·.1) = ks.map kInts
theorem kInts_inj {a b : List Int} (h : kInts a = kInts b) : a = b := by
  unfold kInts at h
  exact List.map_inj_right (fun x y e => Sum.inl.inj e) |>.mp h
theorem any_keys (r : List Int) : ∀ {kvs : List (List Key × V)} {ks : List (List Int)}, Ks kvs ks → (kvs.any fun kv => decide (kv.1 = kInts r)) = ks.contains r
  | [], [], _ => rfl
  | [], _ :: _, h => by simp [Ks] at h
  | _ :: _, [], h => by simp [Ks] at h
  | p :: kvs, k :: ks, h => by
    unfold Ks at h
    rw [List.map_cons, List.map_cons] at h
    injection h with h1 h2
    rw [List.any_cons, List.contains_cons, any_keys r (kvs := kvs) (ks := ks) h2, h1]
    congr 1
    by_cases e : k = r
    · rw [e]
      simp
    · rw [decide_eq_false (fun z => e (kInts_inj z))]
      exact (beq_eq_false_iff_ne.mpr (fun z => e z.symm)).symm
theorem Ks.get {kvs : List (List Key × V)} {ks : List (List Int)} (h : Ks kvs ks) (r : List Int) : (valV kvs (kInts r)).isSome = ks.contains r := by
  rw [← valV_any]
  exact any_keys r h
theorem Ks.put {kvs : List (List Key × V)} {ks : List (List Int)} (h : Ks kvs ks) (r : List Int) (v : V) : Ks (putK kvs (kInts r) v) (addK ks r) := by
  unfold putK addK
  rw [any_keys r h]
  cases e : ks.contains r with
  | true =>
    simp only [if_true]
    unfold Ks at h ⊢
    rw [List.map_map, ← h]
    apply List.map_congr_left
    intro p _
    show (if p.1 = kInts r then (p.1, v) else p).1 = p.1
    split <;> rfl
  | false =>
    simp only [Bool.false_eq_true, if_false]
    unfold Ks at h ⊢
    rw [List.map_append, List.map_append, h]
    rfl
theorem mem_addK {ks : List (List Int)} {r x : List Int} : x ∈ addK ks r ↔ x ∈ ks ∨ x = r := by
  unfold addK
  cases e : ks.contains r with
  | true =>
    simp only [if_true]
    have m : r ∈ ks := List.contains_iff_mem.mp e
    exact ⟨.inl, fun h => h.elim id fun z => z ▸ m⟩
  | false => simp
theorem nodup_addK {ks : List (List Int)} {r : List Int} (h : ks.Nodup) : (addK ks r).Nodup := by
  unfold addK
  cases e : ks.contains r with
  | true => simpa using h
  | false =>
    have n : r ∉ ks := fun m => by
      rw [List.contains_iff_mem.mpr m] at e
      cases e
    simp only [Bool.false_eq_true, if_false]
    refine List.nodup_append.mpr ⟨h, by simp, fun a ha b hb z => ?_⟩
    have e2 : b = r := by simpa using hb
    rw [z, e2] at ha
    exact n ha
theorem len_addK (ks : List (List Int)) (r : List Int) : (addK ks r).length ≤ ks.length + 1 := by
  unfold addK
  split
  · omega
  · rw [List.length_append]
    exact Nat.le_refl _
def addsK (ks : List (List Int)) (l : List (List Int)) : List (List Int) := l.foldl addK ks
theorem addsK_snoc (ks l : List (List Int)) (r : List Int) : addsK ks (l ++ [r]) = addK (addsK ks l) r := by
  unfold addsK
  rw [List.foldl_append]
  rfl
theorem mem_addsK {x : List Int} : ∀ {l ks : List (List Int)}, x ∈ addsK ks l ↔ x ∈ ks ∨ x ∈ l
  | [], ks => by simp [addsK]
  | r :: l, ks => by
    show x ∈ addsK (addK ks r) l ↔ _
    rw [mem_addsK (l := l), mem_addK, List.mem_cons, or_assoc]
theorem nodup_addsK : ∀ {l ks : List (List Int)}, ks.Nodup → (addsK ks l).Nodup
  | [], _, h => h
  | r :: l, ks, h => nodup_addsK (l := l) (ks := addK ks r) (nodup_addK h)
theorem len_addsK : ∀ (l ks : List (List Int)), (addsK ks l).length ≤ ks.length + l.length
  | [], _ => Nat.le_refl _
  | r :: l, ks => by
    have h := len_addsK l (addK ks r)
    have h2 := len_addK ks r
    show (addsK (addK ks r) l).length ≤ _
    rw [List.length_cons]
    omega
theorem Ks.len {kvs : List (List Key × V)} {ks : List (List Int)} (h : Ks kvs ks) : kvs.length = ks.length := by
  have e := congrArg List.length h
  rwa [List.length_map, List.length_map] at e
theorem has_addsK {l : List (List Int)} {r : List Int} : (addsK [] l).contains r = l.contains r := by
  rw [Bool.eq_iff_iff, List.contains_iff_mem, List.contains_iff_mem, mem_addsK]
  simp
/-- a tuple of ints, as a key -/
theorem get_row {H : Hp} {D a : Addr} {kvs : List (List Key × V)} {ks : List (List Int)} {r : List Int} (h : H D = some (.dT kvs)) (hk : Ks kvs ks) (ha : H a = some (.tup (r.map V.int))) : ∃ o, DGet H D (.ref a) o ∧ o.isSome = ks.contains r :=
  ⟨_, DGet.t (k := kInts r) h (by rw [kInts_V]; exact ha), hk.get r⟩
/-! ### {row: True for row in rows} -/
section
variable {K : PySem.W.Frag} {σ : L2.St} {H : Hp} {te ty : TE} {tl : TE}
theorem er_dc {zs : List (Addr × List Int)} {j : Nat} {vs : List Nat} {t : Addr} (h : Ev tl σ H (.ref t)) (ht : H t = some (.tup (zs.map fun z => V.ref z.1))) (hz : ∀ z ∈ zs, H z.1 = some (.tup (z.2.map V.int))) (hl : zs.length ≤ 40000)
    (hw : ∀ x, wipe ((wipe σ vs).set j (some x)) vs = wipe σ vs) (hj : ∀ x, ((wipe σ vs).set j (some x))[j]? = some (some x)) :
    EvR (tDcT (iTup K tl) (gName j) tYes (tVar j) (tC (.bl true)) vs) σ H (fun v H2 => ∃ D kvs, v = .ref D ∧ H D = none ∧ H2 D = some (.dT kvs) ∧ Ks kvs (addsK [] (zs.map (·.2)))) := by
  intro H1 e1 Q q
  refine h H1 e1 _ fun H2 e2 => ⟨t, rfl, ⟨_, ex_t (e1.trans e2) (st_of ht)⟩, fun D hD => ?_⟩
  have E2 := e1.trans e2
  have w : Walk (Itt K t) (zs.map fun z => V.ref z.1).length (fun H => SqT K H t (zs.map fun z => V.ref z.1)) (YAt (zs.map fun z => V.ref z.1)) := walk_tup
  rw [List.length_map] at w
  refine ⟨fun i m H' => m = zs.length - i ∧ i ≤ zs.length ∧ Ex H2 H' ∧ ∃ kvs, H' D = some (.dT kvs) ∧ Ks kvs (addsK [] ((zs.take i).map (·.2))), ⟨zs.length, by simp, Nat.zero_le _, Ex.new hD, [], upd_same, rfl⟩, ?_⟩
  rintro i m H3 ⟨rfl, hi, e3, kvs, h3, hk⟩
  have st : SqT K H3 t (zs.map fun z => V.ref z.1) := ex_t (E2.trans e3) (st_of ht)
  by_cases hlt : i < zs.length
  · refine .inr ⟨w.goes i H3 hlt st, fun H' => Ex H2 H' ∧ ∃ kvs, H' D = some (.dT kvs) ∧ Ks kvs (addsK [] ((zs.take (i + 1)).map (·.2))), fun H' p' => ⟨zs.length - (i + 1), by omega, rfl, hlt, p'⟩, fun x H4 y => ?_⟩
    obtain ⟨eH, y2⟩ := w.yields i H3 x H4 hlt st y
    clear y
    subst eH
    have gz : zs[i]? = some zs[i] := List.getElem?_eq_getElem hlt
    rw [List.getElem?_map, gz] at y2
    have ex : x = V.ref zs[i].1 := (Option.some.inj y2).symm
    subst ex
    refine ⟨hw _, ?_⟩
    refine yes_go ?_
    refine iteT ?_
    refine ⟨_, hj _, ?_⟩
    have ha := E2.trans e3 _ _ (hz _ (List.mem_of_getElem? gz))
    have lk : kvs.length ≤ i := by
      rw [hk.len]
      have l := len_addsK ((zs.take i).map (·.2)) []
      rw [List.length_map, List.length_take] at l
      have l0 : ([] : List (List Int)).length = 0 := rfl
      omega
    refine ⟨kvs, kInts zs[i].2, zs[i].1, rfl, by rw [kInts_V]; exact ha, h3, sz_lt (by omega), Ex.mut e3 hD, _, upd_same, ?_⟩
    rw [take_more gz, List.map_append, List.map_cons, List.map_nil, addsK_snoc]
    exact hk.put _ _
  · have e : i = zs.length := by omega
    subst e
    rw [List.take_length] at hk
    exact .inl ⟨w.stops H3 st, q _ H3 (e2.trans e3) ⟨D, kvs, rfl, fresh_back E2 hD, h3, hk⟩⟩
/-- a new tuple of ints, not in a dict of rows -/
theorem et_dnotin {D : Addr} {kvs : List (List Key × V)} {ks : List (List Int)} {r : List Int} (hy : EvU ty σ H (r.map V.int)) (hd : Ev te σ H (.ref D)) (h : H D = some (.dT kvs)) (hk : Ks kvs ks) : EvT (tB (tDNotIn ty te)) σ H (!ks.contains r) := fun H1 e Q q =>
  hy H1 e _ fun p H2 hp e2 h2 => hd H2 (e.trans e2) _ fun H3 e3 => by
    obtain ⟨o, g, eo⟩ := get_row (((e.trans e2).trans e3) _ _ h) hk (e3 _ _ h2)
    refine ⟨D, o, rfl, g, !ks.contains r, by rw [eo], q H3 (e2.trans e3)⟩
/-- loops over a list that a relation tells -/
theorem q_forLR {R1 : V → Hp → Prop} {g : TG} {tu tz : TS} {D : Ends} (h : EvR tl σ H R1)
    (k : ∀ v H1, Ex H H1 → R1 v H1 → ∃ (a : Addr) (xs : List V) (Pv : Nat → L2.St → Hp → Prop), v = .ref a ∧ SqL K H1 a xs ∧ Pv 0 σ H1 ∧ (∀ i σ' H', i ≤ xs.length → Pv i σ' H' → SqL K H' a xs) ∧
      (∀ i x σ' H', xs[i]? = some x → Pv i σ' H' → g x σ' H' fun σ2 H2 => tu { D with nx := Pv (i + 1), ct := Pv (i + 1), bk := tz D } σ2 H2) ∧ ∀ σ' H', Pv xs.length σ' H' → tz D σ' H') : tSeq (tFor (iList K tl) g tu) tz D σ H :=
  h H (Ex.refl H) _ fun v H1 e r => by
    obtain ⟨a, xs, Pv, rfl, hx, h0, hl, hs, hd⟩ := k v H1 e r
    exact ⟨a, rfl, ⟨xs, hx⟩, for_list (D := { D with nx := tz D }) Pv h0 hl hs hd⟩
theorem s_forLR {R1 : V → Hp → Prop} {g : TG} {tu : TS} {D : Ends} (h : EvR tl σ H R1)
    (k : ∀ v H1, Ex H H1 → R1 v H1 → ∃ (a : Addr) (xs : List V) (Pv : Nat → L2.St → Hp → Prop), v = .ref a ∧ SqL K H1 a xs ∧ Pv 0 σ H1 ∧ (∀ i σ' H', i ≤ xs.length → Pv i σ' H' → SqL K H' a xs) ∧
      (∀ i x σ' H', xs[i]? = some x → Pv i σ' H' → g x σ' H' fun σ2 H2 => tu { D with nx := Pv (i + 1), ct := Pv (i + 1), bk := D.nx } σ2 H2) ∧ ∀ σ' H', Pv xs.length σ' H' → D.nx σ' H') : tFor (iList K tl) g tu D σ H :=
  h H (Ex.refl H) _ fun v H1 e r => by
    obtain ⟨a, xs, Pv, rfl, hx, h0, hl, hs, hd⟩ := k v H1 e r
    exact ⟨a, rfl, ⟨xs, hx⟩, for_list Pv h0 hl hs hd⟩
end
end G651
/-! Lists of lists of ints; removal; elimination's invariants. -/
namespace G651
open PySem PySem.Spec PyProof.Rows L2 Evl
abbrev refs' {β : Type} (ps : List (Addr × β)) : List V := ps.map fun p => V.ref p.1
abbrev rowsL (ps : List (Addr × List Int)) : List (List Int) := ps.map (·.2)
/-- lists of whole numbers -/
def ILs (H : Hp) (ps : List (Addr × List Int)) : Prop := ∀ p ∈ ps, H p.1 = some (.lst (p.2.map V.int))
theorem ILs.ex {H H' : Hp} {ps : List (Addr × List Int)} (h : ILs H ps) (e : Ex H H') : ILs H' ps := fun p hp => e _ _ (h p hp)
/-- a list of references is none of lists of ints -/
theorem ils_ne {H : Hp} {ps : List (Addr × List Int)} (h : ILs H ps) (h0 : ∀ p ∈ ps, p.2 ≠ []) {L : Addr} {xs : List V} (hL : H L = some (.lst xs)) (hx : ∀ x ∈ xs, ∃ a, x = V.ref a) : ∀ p ∈ ps, p.1 ≠ L := fun p hp e => by
  have hp1 := h p hp
  rw [e, hL] at hp1
  have e2 : xs = p.2.map V.int := by
    injection hp1 with z
    injection z
  match h2 : p.2 with
  | [] => exact h0 p hp h2
  | a :: r =>
    rw [h2] at e2
    obtain ⟨b, hb⟩ := hx (V.int a) (by rw [e2]; simp)
    cases hb
theorem ILs.upd {H : Hp} {ps : List (Addr × List Int)} (h : ILs H ps) {L : Addr} {o : HO} (n : ∀ p ∈ ps, p.1 ≠ L) : ILs (upd H L o) ps := fun p hp => by
  rw [upd_ne (n p hp)]
  exact h p hp
theorem refs_ref {β : Type} {ps : List (Addr × β)} : ∀ x ∈ ps.map (fun p => V.ref p.1), ∃ a, x = V.ref a := fun x hx => by
  obtain ⟨p, _, rfl⟩ := List.mem_map.mp hx
  exact ⟨_, rfl⟩
/-! ### as data -/
def dL (r : List Int) : PyData := .list (r.map PyData.int)
section
variable {K : PySem.W.Frag} {H : Hp}
theorem dp_L {a : Addr} {r : List Int} (h : H a = some (.lst (r.map V.int))) : Dp K H (.ref a) (dL r) := .lst (sq_of h) (dp_ints r)
theorem dp_Ls : ∀ {ps : List (Addr × List Int)}, ILs H ps → DpAll K H (ps.map fun p => V.ref p.1) (ps.map fun p => dL p.2)
  | [], _ => .nil
  | p :: ps, h => .cons (dp_L (h p List.mem_cons_self)) (dp_Ls fun q hq => h q (List.mem_cons_of_mem _ hq))
theorem canLay_ints : ∀ r : List Int, PyData.canLayAll0 (r.map PyData.int) = true
  | [] => rfl
  | a :: r => by
    show (PyData.canLay0 (.int a) && PyData.canLayAll0 (r.map PyData.int)) = true
    rw [canLay_ints r]
    rfl
theorem canLay_L (r : List Int) : (dL r).canLay0 = true := canLay_ints r
theorem canLay_Ls : ∀ rs : List (List Int), PyData.canLayAll0 (rs.map dL) = true
  | [] => rfl
  | a :: r => by
    show (PyData.canLay0 (dL a) && PyData.canLayAll0 (r.map dL)) = true
    rw [canLay_Ls r, canLay_L a]
    rfl
theorem depth_L (r : List Int) : (dL r).depth = 1 := by
  show PyData.depthAll (r.map PyData.int) + 1 = 1
  rw [depth_ints]
theorem depth_Ls : ∀ rs : List (List Int), PyData.depthAll (rs.map dL) ≤ 1
  | [] => Nat.zero_le _
  | a :: r => by
    show max (dL a).depth (PyData.depthAll (r.map dL)) ≤ 1
    rw [depth_L]
    exact Nat.max_le.mpr ⟨Nat.le_refl _, depth_Ls r⟩
theorem shaped_Ls (rs : List (List Int)) : SeqAt.shaped (.list (rs.map dL)) = true := by
  unfold SeqAt.shaped
  rw [Bool.and_eq_true]
  refine ⟨canLay_Ls rs, decide_eq_true ?_⟩
  show PyData.depthAll (rs.map dL) + 1 ≤ 64
  have := depth_Ls rs
  omega
theorem eqv_ints : ∀ a b : List Int, PyData.eqvAll (a.map PyData.int) (b.map PyData.int) = (a == b)
  | [], [] => rfl
  | [], _ :: _ => rfl
  | _ :: _, [] => rfl
  | x :: a, y :: b => by
    show ((x == y) && PyData.eqvAll (a.map PyData.int) (b.map PyData.int)) = _
    rw [eqv_ints a b]
    rfl
theorem eqv_L (a b : List Int) : PyData.eqv (dL a) (dL b) = (a == b) := eqv_ints a b
/-- ps != [] -/
theorem eqv_nil : ∀ rs : List (List Int), PyData.eqv (.list (rs.map dL)) (.list []) = rs.isEmpty
  | [] => rfl
  | _ :: _ => rfl
variable {σ : L2.St} {ta tb : TE}
theorem ev_neNil {ps : List (Addr × List Int)} {L : Addr} (ha : Ev ta σ H (.ref L)) (hL : H L = some (.lst (refs' ps))) (hs : ILs H ps) : Ev (tOp (rNeD K) ta (tLst tNil)) σ H (.bl (!(rowsL ps).isEmpty)) :=
  ev_opL (xs := []) ha (el_lst ea_nil (by decide)) fun p H1 h1 e H2 e2 Q q => by
    refine ⟨.list ((rowsL ps).map dL), .list [], .lst (sq_of (e2 _ _ (e _ _ hL))) ?_, .lst (sq_of (e2 _ _ h1)) .nil, shaped_Ls _, rfl, ?_⟩
    · have d := dp_Ls (K := K) ((hs.ex e).ex e2)
      have e3 : (rowsL ps).map dL = ps.map fun p => dL p.2 := by unfold rowsL; rw [List.map_map]; rfl
      rw [e3]
      exact d
    · rw [eqv_nil]
      exact q H2 (Ex.refl _)
end

/-! ### l.remove(x) -/
theorem place_of_rows (rs : List (List Int)) (h : List Int) : SeqAt.dataPlace (rs.map dL) (dL h) = rs.findIdx? (· == h) := by
  unfold SeqAt.dataPlace
  rw [List.findIdx?_map]
  congr 1
  funext r
  exact eqv_L r h
theorem erase_at : ∀ {rs : List (List Int)} {h : List Int}, h ∈ rs → ∃ j, rs.findIdx? (· == h) = some j ∧ rs.eraseIdx j = rs.erase h
  | [], _, m => nomatch m
  | a :: r, h, m => by
    rw [List.findIdx?_cons]
    by_cases e : a = h
    · subst e
      exact ⟨0, by simp, by simp⟩
    · have m2 : h ∈ r := by
        rcases List.mem_cons.mp m with z | z
        · exact absurd z.symm e
        · exact z
      obtain ⟨j, e1, e2⟩ := erase_at m2
      refine ⟨j + 1, ?_, ?_⟩
      · rw [if_neg (by simpa using e), e1]
        rfl
      · rw [List.eraseIdx_cons_succ, e2, List.erase_cons_tail (by simpa using e)]
section
variable {K : PySem.W.Frag} {σ : L2.St} {H : Hp} {ta tb : TE} {D : Ends} {tz : TS}
/-- left.remove(head): the first equal row goes -/
theorem q_remove {ps : List (Addr × List Int)} {L b : Addr} {h : List Int} (ha : Ev ta σ H (.ref L)) (hb : Ev tb σ H (.ref b)) (hL : H L = some (.lst (refs' ps))) (hs : ILs H ps) (h0 : H b = some (.lst (h.map V.int))) (hm : h ∈ rowsL ps)
    (k : ∀ H1 qs, Ex H H1 → rowsL qs = (rowsL ps).erase h → (∀ q ∈ qs, q ∈ ps) → tz D σ (upd H1 L (.lst (refs' qs)))) : tSeq (tDrop (tBM K "list" (rRemD K) ta (tCons tb tNil))) tz D σ H := by
  refine ha H (Ex.refl _) _ fun H1 e1 => ⟨Or.inl ⟨rfl, _, sq_of (e1 _ _ hL)⟩, hb H1 e1 _ fun H2 e2 => ?_⟩
  have E := e1.trans e2
  obtain ⟨j, j1, j2⟩ := erase_at hm
  refine ⟨L, .ref b, refs' ps, dL h, (rowsL ps).map dL, j, rfl, rfl, E _ _ hL, ?_, dp_L (E _ _ h0), PyData.plainAll_of_canLay0 _ (canLay_Ls _), PyData.plain_of_canLay0 _ (canLay_L _), by rw [depth_L]; decide, ?_, ?_⟩
  · have d := dp_Ls (K := K) (hs.ex E)
    have e3 : (rowsL ps).map dL = ps.map fun p => dL p.2 := by unfold rowsL; rw [List.map_map]; rfl
    rw [e3]
    exact d
  · rw [place_of_rows]
    exact j1
  · have k2 := k H2 (ps.eraseIdx j) E (by unfold rowsL; rw [← erase_map]; exact j2) fun q hq => List.mem_of_mem_eraseIdx hq
    rw [show refs' (ps.eraseIdx j) = (refs' ps).eraseIdx j from (erase_map _ ps j).symm] at k2
    exact k2
end
/-! ### elimination keeps lengths and entries -/
def GoodR (n w : Nat) (r : List Int) : Prop := r.length = w ∧ ∀ v ∈ r, 0 ≤ v ∧ v < n
def GoodS (n w : Nat) (st : List (List Int) × List (List Int)) : Prop := (∀ r ∈ st.1, GoodR n w r) ∧ ∀ r ∈ st.2, GoodR n w r
theorem mod_in {n : Nat} (hn : 0 < n) (z : Int) : 0 ≤ z % (n : Int) ∧ z % (n : Int) < n := ⟨Int.emod_nonneg _ (by omega), Int.emod_lt_of_pos _ (by omega)⟩
theorem good_lowr {n w : Nat} (hn : 0 < n) {r h : List Int} (hr : r.length = w) (hh : h.length = w) (c : Nat) : GoodR n w (lowr n r h c) := by
  unfold lowr
  refine ⟨by rw [List.length_zipWith, hr, hh, Nat.min_self], fun v hv => ?_⟩
  obtain ⟨i, hi⟩ := List.mem_iff_getElem?.mp hv
  rw [List.getElem?_zipWith] at hi
  split at hi
  · cases hi
    exact mod_in hn _
  · cases hi
theorem good_head {n w : Nat} (hn : 0 < n) {h : List Int} (hh : h.length = w) (c : Nat) : GoodR n w (h.map fun v => v * h.getD c 0 % n) :=
  ⟨by rw [List.length_map, hh], fun v hv => by
    obtain ⟨z, _, rfl⟩ := List.mem_map.mp hv
    exact mod_in hn _⟩
theorem good_step {n w : Nat} (hn : 0 < n) {st : List (List Int) × List (List Int)} (h : GoodS n w st) (c : Nat) : GoodS n w (redStep n st c) := by
  unfold redStep
  split
  · exact h
  · rename_i hd tl e
    have m : hd ∈ st.1 := (List.mem_filter.mp (by rw [e]; exact List.mem_cons_self)).1
    have lh := (h.1 hd m).1
    have lhd : (hd.map fun v => v * hd.getD c 0 % (n : Int)).length = w := by rw [List.length_map, lh]
    refine ⟨fun r hr => ?_, fun r hr => ?_⟩
    · obtain ⟨z, hz, rfl⟩ := List.mem_map.mp hr
      exact good_lowr hn (h.1 z (List.mem_of_mem_erase hz)).1 lhd c
    · rcases List.mem_append.mp hr with hr | hr
      · obtain ⟨z, hz, rfl⟩ := List.mem_map.mp hr
        exact good_lowr hn (h.2 z hz).1 lhd c
      · have e : r = hd.map fun v => v * hd.getD c 0 % (n : Int) := by simpa using hr
        rw [e]
        exact good_head hn lh c
theorem good_fold {n w : Nat} (hn : 0 < n) : ∀ (cs : List Nat) {st : List (List Int) × List (List Int)}, GoodS n w st → GoodS n w (cs.foldl (redStep n) st)
  | [], _, h => h
  | c :: cs, _, h => good_fold hn cs (good_step hn h c)
theorem good_red {n w : Nat} (hn : 0 < n) {rs : List (List Int)} (h : ∀ r ∈ rs, GoodR n w r) (m : Nat) : ∀ r ∈ red n rs m, GoodR n w r := (good_fold hn (List.range m) (st := (rs, [])) ⟨h, fun _ z => nomatch z⟩).2
/-- the counts: nothing grows but what is found -/
theorem len_step (n : Int) (st : List (List Int) × List (List Int)) (c : Nat) : (redStep n st c).1.length ≤ st.1.length ∧ (redStep n st c).2.length ≤ st.2.length + 1 := by
  unfold redStep
  split
  · exact ⟨Nat.le_refl _, Nat.le_succ _⟩
  · refine ⟨by rw [List.length_map]; exact List.length_erase_le, by rw [List.length_append, List.length_map]; exact Nat.le_refl _⟩
theorem red_snoc (n : Int) (rs : List (List Int)) (i : Nat) : (List.range (i + 1)).foldl (redStep n) (rs, []) = redStep n ((List.range i).foldl (redStep n) (rs, [])) i := by
  rw [List.range_succ, List.foldl_append]
  rfl
theorem len_fold (n : Int) (rs : List (List Int)) : ∀ i, ((List.range i).foldl (redStep n) (rs, [])).1.length ≤ rs.length ∧ ((List.range i).foldl (redStep n) (rs, [])).2.length ≤ i
  | 0 => ⟨Nat.le_refl _, Nat.le_refl _⟩
  | i + 1 => by
    rw [red_snoc]
    have h := len_fold n rs i
    have h2 := len_step n ((List.range i).foldl (redStep n) (rs, [])) i
    omega
theorem zip_map1 {as bs : List Int} (h : as.length = bs.length) : (as.zip bs).map (fun p => V.int p.1) = as.map V.int ∧ (as.zip bs).map (fun p => V.int p.2) = bs.map V.int := by
  constructor
  · have e := List.map_fst_zip (l₁ := as) (l₂ := bs) (by omega)
    rw [← e, List.map_map]
    rw [e]
    rfl
  · have e := List.map_snd_zip (l₁ := as) (l₂ := bs) (by omega)
    rw [← e, List.map_map]
    rw [e]
    rfl
theorem zipWith_zip (f : Int → Int → Int) : ∀ (as bs : List Int), List.zipWith f as bs = (as.zip bs).map fun p => f p.1 p.2
  | [], _ => by simp
  | _ :: _, [] => by simp
  | a :: as, b :: bs => by
    rw [List.zipWith_cons_cons, List.zip_cons_cons, List.map_cons, zipWith_zip f as bs]
end G651
/-! The text by places; calls of the text's own defs; the first defs. -/
namespace G651
open PySem PySem.Spec PyProof.Rows L2 Evl
def topS (i : Nat) : Stmt := PySem.Challenge.pw_templates_k37_whole_equations.main.body.getD i (.Pass ⟨0, 0, 0, 0⟩)

/-- the built-in names that the text uses are the built-ins -/
structure Bl (mg : Str → Option Value) : Prop where
  isi : mg "isinstance" = none
  int : mg "int" = none
  bool : mg "bool" = none
  tuple : mg "tuple" = none
  list : mg "list" = none
  str : mg "str" = none
  len : mg "len" = none
  all : mg "all" = none
  range : mg "range" = none
  zip : mg "zip" = none
  sum : mg "sum" = none
  enum : mg "enumerate" = none
  sorted : mg "sorted" = none
  min : mg "min" = none
  max : mg "max" = none

/-- a def of the text, called by its name -/
structure Cal (P : Program) (w : World) (K : PySem.W.Frag) (mg : Str → Option Value) (base : Heap) (k : Nat) (x : Str) (ps : List Str) (sp : Sp) : Prop where
  ex : ∃ (f : Addr) (fd : FuncData), FnOk P w K mg base CX0 k f fd ps sp ∧ mg x = some (.ref f) ∧ PySem.W.keepIn K (.ref f) = true ∧ Binds K fd ps []
section
variable {X : Cx} {k j : Nat} {x : Str} {ps : List Str} {sp : Sp} {e : Expr} {es : List Expr} {t : TA} {p pos : Pos}
theorem pe_cal (c : Cal X.prog X.w X.K X.mg X.base k x ps sp) (hr : Room j X.A) (hk : k ≤ j) (ha : PA X (e :: es) t) (hg : Gl X x := by rfl)
    (hdb : (x == ("__debug__" : Str)) = false := by decide) (he : starEach (e :: es) X.env = (false, eval e X.env) :: starEach es X.env := by rfl) (hpl : (backTo pos (starEach es X.env)).any (·.1) = false := by rfl) :
    PE X (.Call (.Name x p) (e :: es) [] pos) (tCall sp [] E0 t) := by
  obtain ⟨f, fd, F, hm, kp, b⟩ := c.ex
  exact pe_call F (hr.mono hk) hg hm kp b .nil pass0 ha hdb he hpl
end
/-- a def of the text, where it stands -/
structure At (K : PySem.W.Frag) (mg : Str → Option Value) (x : Str) (st : Stmt) (ps : List Str) : Prop where
  ex : ∃ (f : Addr) (fd : FuncData), Fun K x x st f fd ∧ mg x = some (.ref f) ∧ Binds K fd ps []
theorem At.cal {P : Program} {w : World} {K : PySem.W.Frag} {mg : Str → Option Value} {base : Heap} {k : Nat} {x : Str} {st : Stmt} {ps : List Str} {sp : Sp} (a : At K mg x st ps)
    (h : ∀ f fd, Fun K x x st f fd → FnOk P w K mg base CX0 k f fd ps sp) : Cal P w K mg base k x ps sp := by
  obtain ⟨f, fd, F, hm, b⟩ := a.ex
  exact ⟨f, fd, h f fd F, hm, F.kp, b⟩

/-! ### what the heap holds -/
/-- rows: tuples of whole numbers -/
def Rows (H : Hp) (ps : List (Addr × List Int)) : Prop := ∀ p ∈ ps, H p.1 = some (.tup (p.2.map V.int))
theorem Rows.ex {H H' : Hp} {ps : List (Addr × List Int)} (r : Rows H ps) (e : Ex H H') : Rows H' ps := fun p hp => e _ _ (r p hp)
def refs {β : Type} (ps : List (Addr × β)) : List V := ps.map fun p => V.ref p.1
/-- a relation: its pair, its tuple of rows -/
def RelAt (H : Hp) (r t : Addr) (ar : Nat) (ps : List (Addr × List Int)) : Prop := H r = some (.tup [.int (ar : Int), .ref t]) ∧ H t = some (.tup (refs ps)) ∧ Rows H ps
theorem RelAt.ex {H H' : Hp} {r t : Addr} {ar : Nat} {ps : List (Addr × List Int)} (h : RelAt H r t ar ps) (e : Ex H H') : RelAt H' r t ar ps := ⟨e _ _ h.1, e _ _ h.2.1, h.2.2.ex e⟩
/-- what a relation of a size is -/
structure Val (n ar : Nat) (R : List (List Int)) : Prop where
  hn : n = 2 ∨ n = 3
  h1 : 1 ≤ ar
  h4 : ar ≤ 4
  mem : ∀ r ∈ R, r ∈ rows n ar
  asc : Asc R
theorem Val.len {n ar : Nat} {R : List (List Int)} (v : Val n ar R) : R.length ≤ 81 := by
  have h := nodup_le v.asc.nodup v.mem
  refine Nat.le_trans h ?_
  rcases v.hn with rfl | rfl
  · obtain rfl | rfl | rfl | rfl : ar = 1 ∨ ar = 2 ∨ ar = 3 ∨ ar = 4 := by have := v.h1; have := v.h4; omega
    all_goals decide +kernel
  · obtain rfl | rfl | rfl | rfl : ar = 1 ∨ ar = 2 ∨ ar = 3 ∨ ar = 4 := by have := v.h1; have := v.h4; omega
    all_goals decide +kernel
abbrev rowsOf (ps : List (Addr × List Int)) : List (List Int) := ps.map (·.2)

/-! ### isinstance -/
section
variable {K : PySem.W.Frag} {σ : L2.St} {H : Hp} {ta : TE} {x : V}
theorem ev_isi {T U : String} {b : Bool} (ha : Ev ta σ H x) (ht : ∀ H1, Ex H H1 → TyX K H1 x (.type T)) (hb : kitB T U = some b) : Ev (tCB (rIsi K) (tCons ta (tCons (tC (.ty U)) tNil))) σ H (.bl b) := fun H1 e Q q =>
  ha H1 e _ fun H2 e2 => ⟨x, .ty U, .type T, .type U, b, rfl, .ty U, ht H2 (e.trans e2), kit_ty hb, q H2 e2⟩
end

section
variable {P : Program} {w : World} {K : PySem.W.Frag} {mg : Str → Option Value} {base : Heap} {f : Addr} {fd : FuncData}
/-! ### is_int -/
abbrev s_is_int : Stmt := topS 7
theorem sc_is_int : FnScope ["value"] ["value"] (defScope s_is_int) := ⟨rfl, rfl, rfl, by decide +kernel, rfl, by decide +kernel, by decide +kernel⟩
def sp_is_int : Sp := fun vs H Q _ => ∃ i : Int, vs = [.int i] ∧ RetV (.bl true) H Q
theorem ok_is_int (B : Bl mg) (F : Fun K "is_int" "is_int" s_is_int f fd) : FnOk P w K mg base CX0 1 f fd ["value"] sp_is_int := by
  refine F.ok sc_is_int (fun vs H Q E h => ?_) (fun cdv A outer s H vs Q E hr h => ?_)
  · obtain ⟨i, rfl, _⟩ := h
    rfl
  · obtain ⟨i, rfl, q⟩ := h
    refine ⟨_, pss_one (ps_ret (pe_and (pe_callB call_isi (by rfl) B.isi PyProof.Rows.boot_isinstance (pa_cons (pv 0) (pa_cons (pe_bltn (v := .ty "int") (by rfl) B.int PyProof.Rows.boot_int rfl) pa_nil)))
      (pe_one (pe_not (pe_callB call_isi (by rfl) B.isi PyProof.Rows.boot_isinstance (pa_cons (pv 0) (pa_cons (pe_bltn (v := .ty "bool") (by rfl) B.bool PyProof.Rows.boot_bool rfl) pa_nil))))))), ?_⟩
    refine s_ret (ev_andV (a := true) (b := true) (ev_isi (T := "int") (ev_var rfl) (fun _ _ => .base (.int i)) (by decide +kernel)) fun _ => ev_notV (a := false) (ev_isi (T := "int") (ev_var rfl) (fun _ _ => .base (.int i)) (by decide +kernel))) fun H1 e => q H1 e
/-! ### is_in -/
abbrev s_is_in : Stmt := topS 8
theorem sc_is_in : FnScope ["value", "least", "most"] ["value", "least", "most"] (defScope s_is_in) := ⟨rfl, rfl, rfl, by decide +kernel, rfl, by decide +kernel, by decide +kernel⟩
def sp_is_in : Sp := fun vs H Q _ => ∃ i lo hi : Int, vs = [.int i, .int lo, .int hi] ∧ RetV (.bl (decide (lo ≤ i) && decide (i ≤ hi))) H Q
theorem ev_chain_le {σ : L2.St} {H : Hp} {ta tb tc : TE} {i j k : Int} (ha : Ev ta σ H (.int i)) (hb : Ev tb σ H (.int j)) (hc : Ev tc σ H (.int k)) :
    Ev (tChain (rI0 fun i j => .bl (decide (i ≤ j))) (rI0 fun i j => .bl (decide (i ≤ j))) ta tb tc) σ H (.bl (decide (i ≤ j) && decide (j ≤ k))) := fun H1 e Q q =>
  ha H1 e _ fun H2 e2 => hb H2 (e.trans e2) _ fun H3 e3 => ⟨i, j, rfl, rfl, _, rfl, by
    cases h : decide (i ≤ j) with
    | true =>
      refine iteT ?_
      refine hc H3 ((e.trans e2).trans e3) _ fun H4 e4 => ⟨j, k, rfl, rfl, ?_⟩
      have z := q H4 ((e2.trans e3).trans e4)
      rw [h, Bool.true_and] at z
      exact z
    | false =>
      refine iteF ?_
      have z := q H3 (e2.trans e3)
      rw [h, Bool.false_and] at z
      exact z⟩
theorem ok_is_in (C1 : Cal P w K mg base 1 "is_int" ["value"] sp_is_int) (F : Fun K "is_in" "is_in" s_is_in f fd) : FnOk P w K mg base CX0 2 f fd ["value", "least", "most"] sp_is_in := by
  refine F.ok sc_is_in (fun vs H Q E h => ?_) (fun cdv A outer s H vs Q E hr h => ?_)
  · obtain ⟨i, lo, hi, rfl, _⟩ := h
    rfl
  · obtain ⟨i, lo, hi, rfl, q⟩ := h
    refine ⟨_, pss_one (ps_ret (pe_and (pe_cal C1 hr (by decide) (pa_cons (pv 0) pa_nil)) (pe_one (pe_chain op_le op_le (pv 1) (pv 0) (pv 2))))), ?_⟩
    refine s_ret (ev_andV (a := true) (ev_call (vs := [.int i]) (ea_cons (ev_var rfl) ea_nil) fun H1 e Q q E => ⟨i, rfl, q⟩) fun _ => ev_chain_le (ev_var rfl) (ev_var rfl) (ev_var rfl)) fun H1 e => ?_
    rw [Bool.true_and]
    exact q H1 e
end
end G651
/-! Relations are relations. -/
namespace G651
open PySem PySem.Spec PyProof.Rows L2 Evl
section
variable {P : Program} {w : World} {K : PySem.W.Frag} {mg : Str → Option Value} {base : Heap} {f : Addr} {fd : FuncData}
/-! ### is_row -/
abbrev s_is_row : Stmt := topS 9
theorem sc_is_row : FnScope ["size", "arity", "value", "told"] ["size", "arity", "value"] (defScope s_is_row) := ⟨rfl, rfl, rfl, by decide +kernel, rfl, by decide +kernel, by decide +kernel⟩
def sp_is_row : Sp := fun vs H Q _ => ∃ (n ar : Nat) (a : Addr) (r : List Int), vs = [.int (n : Int), .int (ar : Int), .ref a] ∧ H a = some (.tup (r.map V.int)) ∧ r ∈ rows n ar ∧ ar ≤ 4 ∧ RetV (.bl true) H Q
theorem all_true {α : Type} {l : List α} {f : α → Bool} (h : ∀ x ∈ l, f x = true) : (l.map f).all id = true := by
  rw [List.all_map]
  exact List.all_eq_true.mpr h
theorem ok_is_row (B : Bl mg) (C_is_in : Cal P w K mg base 2 "is_in" ["value", "least", "most"] sp_is_in) (F : Fun K "is_row" "is_row" s_is_row f fd) : FnOk P w K mg base CX0 3 f fd ["size", "arity", "value"] sp_is_row := by
  refine F.ok sc_is_row (fun vs H Q E h => ?_) (fun cdv A outer s H vs Q E hr h => ?_)
  · obtain ⟨n, ar, a, r, rfl, _⟩ := h
    rfl
  · obtain ⟨n, ar, a, r, rfl, ha, hm, h4, q⟩ := h
    obtain ⟨hl, hv⟩ := mem_rows.mp hm
    refine ⟨_, pss_one (ps_ret (pe_and (pe_callB call_isi (by rfl) B.isi PyProof.Rows.boot_isinstance (pa_cons (pv 2) (pa_cons (pe_bltn (v := .ty "tuple") (by rfl) B.tuple PyProof.Rows.boot_tuple rfl) pa_nil)))
      (pe_and (pe_cmpR op_eq (pe_callB call_len_seq (by rfl) B.len PySem.boot_len (pa_cons (pv 2) pa_nil)) (pv 1) (nomark _))
      (pe_one (pe_callB (cr_all rfl) (by rfl) B.all PyProof.Rows.boot_all (pa_cons (pe_lc (own := [("told", 3)]) (g := gName 3) (tt := tYes) (by rfl) sc_is_row.nd (pi_tup (pv 2)) (blkOk_by (own := [("told", 3)]) (N := ["size", "arity", "value", "told"]) (sc := defScope s_is_row) (by decide +kernel))
        (fun _ _ _ _ _ => pg_name (i := 3) sc_is_row.nd rfl (Or.inl rfl)) (fun _ _ _ _ _ => pts_nil)
        (fun _ _ _ _ _ => pe_cal C_is_in hr (by decide) (pa_cons (pv 3) (pa_cons pe_int (pa_cons (pe_op op_sub (pv 0) pe_int) pa_nil))))) pa_nil)))))), ?_⟩
    have S : Src (iTup K (tVar 2)) (start ["size", "arity", "value", "told"] [.int (n : Int), .int (ar : Int), .ref a]) H r (fun z x _ => x = V.int z) :=
      src_tup (R1 := fun v _ => v = .ref a) (Ev.r (v := .ref a) (ev_var rfl) fun _ _ => rfl) (fun v H1 e r1 => ⟨a, r1, st_of (e _ _ ha)⟩)
    have L : EvL (tLc (iTup K (tVar 2)) (gName 3) tYes (tCall sp_is_in [] E0 (tCons (tVar 3) (tCons (tC (.int 0)) (tCons (tOp (rI0 fun i j => .int (i - j)) (tVar 0) (tC (.int 1))) tNil)))) [3]) (start ["size", "arity", "value", "told"] [.int (n : Int), .int (ar : Int), .ref a]) H
        (r.map fun z => V.bl (decide (0 ≤ z) && decide (z ≤ (n : Int) - 1))) :=
      el_lcY S (by omega) _ (fun x => rfl) fun z x H2 hz e hx => by
        subst hx
        exact ev_call (vs := [.int z, .int 0, .int ((n : Int) - 1)]) (ea_cons (ev_var rfl) (ea_cons ev_c (ea_cons (ev_op (ev_var rfl) ev_c rv_I0) ea_nil))) fun H1 e Q q E => ⟨z, 0, (n : Int) - 1, rfl, q⟩
    refine s_ret (v := .bl true) (ev_andV (a := true) (b := true) (ev_isi (T := "tuple") (U := "tuple") (b := true) (ev_var rfl) (fun _ e => .base (.tup (e _ _ ha))) (by decide +kernel)) fun _ =>
      ev_andV (a := true) (b := true) (ev_is (ev_op (ev_lenT (K := K) (ev_var rfl) (st_of ha)) (ev_var rfl) (rv_eq rfl)) ?_) fun _ => ev_is (ev_all (bs := r.map fun z => decide (0 ≤ z) && decide (z ≤ (n : Int) - 1)) (by rw [List.map_map]; exact L)) ?_) fun H1 e => q H1 e
    · rw [List.length_map, hl]
      exact congrArg V.bl (decide_eq_true rfl)
    · refine congrArg V.bl (all_true fun z hz => ?_)
      have hzz := hv z hz
      rw [decide_eq_true hzz.1, decide_eq_true (show z ≤ (n : Int) - 1 by omega)]
      rfl
/-! ### is_relation -/
abbrev s_is_relation : Stmt := topS 10
theorem sc_is_relation : FnScope ["size", "value", "row", "at"] ["size", "value"] (defScope s_is_relation) := ⟨rfl, rfl, rfl, by decide +kernel, rfl, by decide +kernel, by decide +kernel⟩
def sp_is_relation : Sp := fun vs H Q _ => ∃ (n ar : Nat) (r t : Addr) (ps : List (Addr × List Int)), vs = [.int (n : Int), .ref r] ∧ RelAt H r t ar ps ∧ Val n ar (rowsOf ps) ∧ RetV (.bl true) H Q
theorem refs_get {β : Type} {ps : List (Addr × β)} {i : Nat} {p : Addr × β} (h : ps[i]? = some p) : (refs ps)[i]? = some (.ref p.1) := by
  unfold refs
  rw [List.getElem?_map, h]
  rfl
theorem ok_is_relation (B : Bl mg) {tk : Tok} (mA : mg "MOST_ARITY" = some (.int 4 tk)) (C_is_in : Cal P w K mg base 2 "is_in" ["value", "least", "most"] sp_is_in) (C_is_row : Cal P w K mg base 3 "is_row" ["size", "arity", "value"] sp_is_row)
    (F : Fun K "is_relation" "is_relation" s_is_relation f fd) : FnOk P w K mg base CX0 4 f fd ["size", "value"] sp_is_relation := by
  refine F.ok sc_is_relation (fun vs H Q E h => ?_) (fun cdv A outer s H vs Q E hr h => ?_)
  · obtain ⟨n, ar, r, t, ps, rfl, _⟩ := h
    rfl
  · obtain ⟨n, ar, r, t, ps, rfl, hrel, hv, q⟩ := h
    refine ⟨_, (pss_cons (ps_if (PW.pt (pw_or (pt_not (pt_val (pe_callB (r := rIsi K) call_isi (by rfl) B.isi PyProof.Rows.boot_isinstance (pa_cons (pv 1) (pa_cons (pe_bltn (v := .ty "tuple") (by rfl) B.tuple PyProof.Rows.boot_tuple rfl) pa_nil))))) (pw_or (pt_cmpR op_ne (pe_callB (r := rLenS2 K) call_len_seq (by rfl) B.len PySem.boot_len (pa_cons (pv 1) pa_nil)) pe_int (nomark _)) (pw_or1 (pt_not (pt_val (pe_cal C_is_in hr (by decide) (pa_cons (pe_ix (r := rIxT K) ix_tup (pv 1) pe_int (fun _ _ => rfl)) (pa_cons pe_int (pa_cons (pe_glob (v := .int 4) (by rfl) mA ⟨_, rfl⟩) pa_nil)))))))))) (pss_one (ps_ret pe_bl)) pss_nil)
      (pss_cons (ps_if (PW.pt (pw_or (pt_not (pt_val (pe_callB (r := rIsi K) call_isi (by rfl) B.isi PyProof.Rows.boot_isinstance (pa_cons (pe_ix (r := rIxT K) ix_tup (pv 1) pe_int (fun _ _ => rfl)) (pa_cons (pe_bltn (v := .ty "tuple") (by rfl) B.tuple PyProof.Rows.boot_tuple rfl) pa_nil))))) (pw_or1 (pt_not (pt_val (pe_callB (r := rAll K) (cr_all rfl) (by rfl) B.all PyProof.Rows.boot_all (pa_cons (pe_lc (own := [("row", 2)]) (g := (gName 2)) (tt := tYes) (by rfl) sc_is_relation.nd (show PI _ _ _ (iTup K _) from pi_tup (pe_ix (r := rIxT K) ix_tup (pv 1) pe_int (fun _ _ => rfl))) (blkOk_by (own := [("row", 2)]) (N := ["size", "value", "row", "at"]) (sc := defScope s_is_relation) (by decide +kernel)) (fun _ _ _ _ _ => (pg_name (i := 2) sc_is_relation.nd rfl (Or.inl rfl))) (fun _ _ _ _ _ => pts_nil) (fun _ _ _ _ _ => (pe_cal C_is_row hr (by decide) (pa_cons (pv 0) (pa_cons (pe_ix (r := rIxT K) ix_tup (pv 1) pe_int (fun _ _ => rfl)) (pa_cons (pv 2) pa_nil)))))) pa_nil))))))) (pss_one (ps_ret pe_bl)) pss_nil)
      (pss_one (ps_ret (pe_callB (r := rAll K) (cr_all rfl) (by rfl) B.all PyProof.Rows.boot_all (pa_cons (pe_lc (own := [("at", 3)]) (g := (gName 3)) (tt := tYes) (by rfl) sc_is_relation.nd (pi_range2 (by rfl) B.range (pa_cons pe_int (pa_cons (pe_callB (r := rLenS2 K) call_len_seq (by rfl) B.len PySem.boot_len (pa_cons (pe_ix (r := rIxT K) ix_tup (pv 1) pe_int (fun _ _ => rfl)) pa_nil)) pa_nil))) (blkOk_by (own := [("at", 3)]) (N := ["size", "value", "row", "at"]) (sc := defScope s_is_relation) (by decide +kernel)) (fun _ _ _ _ _ => (pg_name (i := 3) sc_is_relation.nd rfl (Or.inl rfl))) (fun _ _ _ _ _ => pts_nil) (fun _ _ _ _ _ => (pe_cmpR (r := rLtT K) (op_ltT hr.units0) (pe_ix (r := rIxT K) ix_tup (pe_ix (r := rIxT K) ix_tup (pv 1) pe_int (fun _ _ => rfl)) (pe_op op_sub (pv 3) pe_int) (fun _ _ => rfl)) (pe_ix (r := rIxT K) ix_tup (pe_ix (r := rIxT K) ix_tup (pv 1) pe_int (fun _ _ => rfl)) (pv 3) (fun _ _ => rfl)) (nomark _)))) pa_nil)))))), ?_⟩
    obtain ⟨h1, h2, h3⟩ := hrel
    have lz : ps.length ≤ 81 := by
      have := hv.len
      rw [List.length_map] at this
      exact this
    have at1 : ∀ {σ : L2.St} {H1 : Hp} {ta : TE}, Ex H H1 → Ev ta σ H1 (.ref r) → Ev (tOp (rIxT K) ta (tC (.int 1))) σ H1 (.ref t) := fun e h => ev_ixT h ev_c (st_of (e _ _ h1)) rfl
    have at0 : ∀ {σ : L2.St} {H1 : Hp} {ta : TE}, Ex H H1 → Ev ta σ H1 (.ref r) → Ev (tOp (rIxT K) ta (tC (.int 0))) σ H1 (.int (ar : Int)) := fun e h => ev_ixT h ev_c (st_of (e _ _ h1)) rfl
    refine q_when (b := false) (et_is (et_or (a := false) (b := false) (et_not (a := true) (et_B (ev_isi (T := "tuple") (U := "tuple") (b := true) (ev_var rfl) (fun _ e => .base (.tup (e _ _ h1))) (by decide +kernel)))) fun _ =>
      et_or (a := false) (b := false) (et_is (et_test (ev_neI (ev_lenT (K := K) (ev_var rfl) (st_of h1)) ev_c)) (by rfl)) fun _ => et_is (et_not (a := true) (et_B (ev_is (ev_call (vs := [.int (ar : Int), .int 1, .int 4]) (ea_cons (at0 (Ex.refl _) (ev_var rfl)) (ea_cons ev_c (ea_cons ev_c ea_nil)))
        (fun H1 e Q q E => ⟨(ar : Int), 1, 4, rfl, q⟩)) ?_))) (by rfl)) (by rfl)) (fun hb => nomatch hb) fun _ H1 e1 => ?_
    · have a1 := hv.h1
      have a4 := hv.h4
      rw [decide_eq_true (show (1 : Int) ≤ ar by omega), decide_eq_true (show (ar : Int) ≤ 4 by omega)]
      rfl
    have S : Src (iTup K (tOp (rIxT K) (tVar 1) (tC (.int 1)))) (start ["size", "value", "row", "at"] [.int (n : Int), .ref r]) H1 ps (fun z x _ => x = V.ref z.1) :=
      src_tup (R1 := fun v _ => v = .ref t) (Ev.r (v := .ref t) (at1 e1 (ev_var rfl)) fun _ _ => rfl) (fun v H2 e r1 => ⟨t, r1, st_of (e _ _ (e1 _ _ h2))⟩)
    have L : EvL (tLc (iTup K (tOp (rIxT K) (tVar 1) (tC (.int 1)))) (gName 2) tYes (tCall sp_is_row [] E0 (tCons (tVar 0) (tCons (tOp (rIxT K) (tVar 1) (tC (.int 0))) (tCons (tVar 2) tNil)))) [2]) (start ["size", "value", "row", "at"] [.int (n : Int), .ref r]) H1
        (ps.map fun z => V.bl true) :=
      el_lcY S (by omega) _ (fun x => rfl) fun z x H2 hz e hx => by
        subst hx
        exact ev_call (vs := [.int (n : Int), .int (ar : Int), .ref z.1]) (ea_cons (ev_var rfl) (ea_cons (at0 (e1.trans e) (ev_var rfl)) (ea_cons (ev_var rfl) ea_nil))) fun H3 e3 Q q E =>
          ⟨n, ar, z.1, z.2, rfl, e3 _ _ (e _ _ (e1 _ _ (h3 z hz))), hv.mem _ (List.mem_map.mpr ⟨z, hz, rfl⟩), hv.h4, q⟩
    refine q_when (b := false) (et_is (et_or (a := false) (b := false) (et_not (a := true) (et_B (ev_isi (T := "tuple") (U := "tuple") (b := true) (at1 e1 (ev_var rfl)) (fun _ e => .base (.tup (e _ _ (e1 _ _ h2)))) (by decide +kernel)))) fun _ =>
      et_not (a := true) (et_B (ev_is (ev_all (bs := ps.map fun z => true) (by rw [List.map_map]; exact L)) (congrArg V.bl (all_true fun _ _ => rfl))))) (by rfl)) (fun hb => nomatch hb) fun _ H2 e2 => ?_
    have E2 := e1.trans e2
    have S2 : Src (iRng2 (tCons (tC (.int 1)) (tCons (tCB (rLenS2 K) (tCons (tOp (rIxT K) (tVar 1) (tC (.int 1))) tNil)) tNil))) (start ["size", "value", "row", "at"] [.int (n : Int), .ref r]) H2 (List.range (((refs ps).length : Int) - 1).toNat) (fun z x _ => x = V.int (1 + ((z : Nat) : Int))) :=
      src_range2 (ea_cons ev_c (ea_cons (ev_lenT (at1 E2 (ev_var rfl)) (st_of (E2 _ _ h2))) ea_nil)) (by decide) (by unfold refs; rw [List.length_map]; omega)
    have lr : (refs ps).length = ps.length := by unfold refs; rw [List.length_map]
    rw [lr] at S2
    refine s_ret (v := .bl true) (ev_is (ev_all (bs := (List.range ((ps.length : Int) - 1).toNat).map fun z => HT.lexLt ((rowsOf ps).getD z []) ((rowsOf ps).getD (z + 1) [])) ?_) (congrArg V.bl (all_true fun z hz => ?_))) fun H3 e => q H3 (E2.trans e)
    · rw [List.map_map]
      refine el_lcY S2 (by rw [List.length_range]; omega) _ (fun x => rfl) fun z x H3 hz e hx => ?_
      subst hx
      rw [List.mem_range] at hz
      have z1 : z < ps.length := by omega
      have z2 : z + 1 < ps.length := by omega
      have g1 := List.getElem?_eq_getElem z1
      have g2 := List.getElem?_eq_getElem z2
      have E3 := E2.trans e
      have m1 := E3 _ _ (h3 _ (List.mem_of_getElem? g1))
      have m2 := E3 _ _ (h3 _ (List.mem_of_getElem? g2))
      refine ev_is (ev_ltT (ev_ixT (at1 E3 (ev_var rfl)) (ev_sub (ev_var rfl) ev_c) (st_of (E3 _ _ h2)) (at_of (j := z) (by omega) (refs_get g1))) (ev_ixT (at1 E3 (ev_var rfl)) (ev_var rfl) (st_of (E3 _ _ h2)) (at_of (j := z + 1) (by omega) (refs_get g2))) (st_of m1) (st_of m2)) ?_
      refine congrArg V.bl ?_
      show HT.lexLt ps[z].snd ps[z+1].snd = HT.lexLt ((rowsOf ps).getD z []) ((rowsOf ps).getD (z + 1) [])
      rw [List.getD_eq_getElem?_getD, List.getD_eq_getElem?_getD, List.getElem?_map, List.getElem?_map, g1, g2]
      rfl
    · rw [List.mem_range] at hz
      have z1 : z < (rowsOf ps).length := by rw [List.length_map]; omega
      have z2 : z + 1 < (rowsOf ps).length := by rw [List.length_map]; omega
      rw [List.getD_eq_getElem?_getD, List.getD_eq_getElem?_getD, List.getElem?_eq_getElem z1, List.getElem?_eq_getElem z2]
      exact List.pairwise_iff_getElem.mp hv.asc z (z + 1) z1 z2 (Nat.lt_succ_self z)
/-! ### need_relation -/
abbrev s_need_relation : Stmt := topS 11
theorem sc_need_relation : FnScope ["size", "value"] ["size", "value"] (defScope s_need_relation) := ⟨rfl, rfl, rfl, by decide +kernel, rfl, by decide +kernel, by decide +kernel⟩
def sp_need_relation : Sp := fun vs H Q _ => ∃ (n ar : Nat) (r t : Addr) (ps : List (Addr × List Int)), vs = [.int (n : Int), .ref r] ∧ RelAt H r t ar ps ∧ Val n ar (rowsOf ps) ∧ RetV .non H Q
theorem ok_need_relation (C1 : Cal P w K mg base 4 "is_relation" ["size", "value"] sp_is_relation) (F : Fun K "need_relation" "need_relation" s_need_relation f fd) : FnOk P w K mg base CX0 5 f fd ["size", "value"] sp_need_relation := by
  refine F.ok sc_need_relation (fun vs H Q E h => ?_) (fun cdv A outer s H vs Q E hr h => ?_)
  · obtain ⟨n, ar, r, t, ps, rfl, _⟩ := h
    rfl
  · obtain ⟨n, ar, r, t, ps, rfl, hrel, hv, q⟩ := h
    refine ⟨_, pss_one (ps_if (pt_not (pt_val (pe_cal C1 hr (by decide) (pa_cons (pv 0) (pa_cons (pv 1) pa_nil))))) pss_never pss_nil), ?_⟩
    exact s_when (b := false) (et_not (a := true) (et_B (ev_call (vs := [.int (n : Int), .ref r]) (ea_cons (ev_var rfl) (ea_cons (ev_var rfl) ea_nil)) fun H1 e Q q E => ⟨n, ar, r, t, ps, rfl, hrel.ex e, hv, q⟩))) (fun hb => nomatch hb) fun _ H1 e => q H1 e
/-! ### need_prime -/
abbrev s_need_prime : Stmt := topS 20
theorem sc_need_prime : FnScope ["size"] ["size"] (defScope s_need_prime) := ⟨rfl, rfl, rfl, by decide +kernel, rfl, by decide +kernel, by decide +kernel⟩
def sp_need_prime : Sp := fun vs H Q _ => ∃ n : Nat, vs = [.int (n : Int)] ∧ (n = 2 ∨ n = 3) ∧ RetV .non H Q
theorem ok_need_prime (C_is_in : Cal P w K mg base 2 "is_in" ["value", "least", "most"] sp_is_in) (F : Fun K "need_prime" "need_prime" s_need_prime f fd) : FnOk P w K mg base CX0 3 f fd ["size"] sp_need_prime := by
  refine F.ok sc_need_prime (fun vs H Q E h => ?_) (fun cdv A outer s H vs Q E hr h => ?_)
  · obtain ⟨n, rfl, _⟩ := h
    rfl
  · obtain ⟨n, rfl, hn, q⟩ := h
    refine ⟨_, pss_one (ps_if (pt_not (pt_val (pe_cal C_is_in hr (by decide) (pa_cons (pv 0) (pa_cons pe_int (pa_cons pe_int pa_nil)))))) pss_never pss_nil), ?_⟩
    refine s_when (b := false) (et_not (a := true) (et_B (ev_is (ev_call (vs := [.int (n : Int), .int 2, .int 3]) (ea_cons (ev_var rfl) (ea_cons ev_c (ea_cons ev_c ea_nil))) fun H1 e Q q E => ⟨(n : Int), 2, 3, rfl, q⟩) ?_))) (fun hb => nomatch hb) fun _ H1 e => q H1 e
    rw [decide_eq_true (show (2 : Int) ≤ n by omega), decide_eq_true (show (n : Int) ≤ 3 by omega)]
    rfl
end
end G651
/-! The rows of a size; tuples of things; the value of an operation; images. -/
namespace G651
open PySem PySem.Spec PyProof.Rows L2 Evl
open StX (tStar pa_star)
/-- new tuples -/
abbrev Tups (H : Hp) (as : List Addr) (ts : List (List V)) : Prop := Paired (fun a t => H a = some (.tup t)) as ts
theorem prd_mapr {α β γ : Type} {F : α → γ → Prop} (f : β → γ) : ∀ {as : List α} {zs : List β}, Paired (fun a z => F a (f z)) as zs → Paired F as (zs.map f)
  | _, _, .nil => .nil
  | _, _, .cons r t => .cons r (prd_mapr f t)
theorem tups_map {α β : Type} (f : α → β) (xs : List α) : ∀ k, (tups xs k).map (List.map f) = tups (xs.map f) k
  | 0 => rfl
  | k + 1 => by
    show ((tups xs k).flatMap fun t => xs.map fun x => t ++ [x]).map (List.map f) = (tups (xs.map f) k).flatMap fun t => (xs.map f).map fun x => t ++ [x]
    rw [← tups_map f xs k, List.map_flatMap, List.flatMap_map]
    congr 1
    funext t
    simp
theorem tups_pow {α : Type} (xs : List α) : ∀ k, (tups xs k).length = xs.length ^ k
  | 0 => rfl
  | k + 1 => by
    show ((tups xs k).flatMap fun t => xs.map fun x => t ++ [x]).length = _
    rw [List.length_flatMap]
    have e : ((tups xs k).map fun t => (xs.map fun x => t ++ [x]).length) = List.replicate (xs.length ^ k) xs.length := by
      rw [List.eq_replicate_iff]
      refine ⟨by rw [List.length_map, tups_pow xs k], fun b hb => ?_⟩
      obtain ⟨z, _, rfl⟩ := List.mem_map.mp hb
      rw [List.length_map]
    rw [e, List.sum_replicate_nat, Nat.pow_succ]
theorem step_tups {β : Type} (ps : List (Addr × List V)) (us : List β) (g : β → V) :
    ((ps.flatMap fun p => us.map fun u => (p, u)).map fun pu => pu.1.2 ++ [g pu.2]) = (ps.map (·.2)).flatMap fun t => (us.map g).map fun x => t ++ [x] := by
  rw [List.map_flatMap, List.flatMap_map]
  congr 1
  funext t
  simp
theorem vals_V (n : Nat) : (vals n).map V.int = (List.range n).map fun z => V.int ((z : Nat) : Int) := by
  unfold vals
  rw [List.map_map]
  rfl
section
variable {K : PySem.W.Frag} {σ : L2.St} {H : Hp} {te : TE} {tr : TA}
theorem ea_star {p : Addr} {xs ys : List V} (h : Ev te σ H (.ref p)) (hx : SqT K H p xs) (hr : EvA tr σ H ys) : EvA (tStar K te tr) σ H (xs ++ ys) := fun H1 e Q q =>
  h H1 e _ fun H2 e2 => ⟨p, xs, rfl, .inl (ex_t (e.trans e2) hx), hr H2 (e.trans e2) _ fun H3 e3 => q H3 (e2.trans e3)⟩
/-- the body of the loop of all_rows, tuples_of: one more of us -/
theorem er_more {β : Type} {wi1 : TI} {vs vs1 : List Nat} {j0 j1 : Nat} {us : List β} {g : β → V} {as : List Addr} {ts : List (List V)} {tl : TE} {a0 : Addr} (hT : Tups H as ts) (hl : Ev tl σ H (.ref a0)) (h0 : SqL K H a0 (as.map V.ref))
    (S1 : ∀ x, SrcB wi1 ((wipe σ vs).set j0 (some x)) H us g) (hz : ts.length * us.length ≤ 40000) (h40 : ∀ t ∈ ts, t.length ≤ 1000)
    (hw : ∀ x, wipe ((wipe σ vs).set j0 (some x)) vs = wipe σ vs)
    (hw1 : ∀ x y, wipe ((wipe ((wipe σ vs).set j0 (some x)) vs1).set j1 (some y)) vs1 = wipe ((wipe σ vs).set j0 (some x)) vs1)
    (r0 : ∀ x y, ((wipe ((wipe σ vs).set j0 (some x)) vs1).set j1 (some y))[j0]? = some (some x)) (r1 : ∀ x y, ((wipe ((wipe σ vs).set j0 (some x)) vs1).set j1 (some y))[j1]? = some (some y)) :
    EvR (tLc2 (iList K tl) (gName j0) tYes wi1 (gName j1) tYes (tTup (tStar K (tVar j0) (tCons (tVar j1) tNil))) vs vs1) σ H
      (fun v H2 => ∃ D as', v = .ref D ∧ H D = none ∧ H2 D = some (.lst (as'.map V.ref)) ∧ Tups H2 as' (ts.flatMap fun t => (us.map g).map fun x => t ++ [x])) := by
  obtain ⟨ps, ea, et, hp⟩ := prd_zip (fun t : List V => t) hT
  rw [List.map_id'] at et
  refine er_lc2 (zs := ps) (us := us) (f := fun p => V.ref p.1) (g := g) (srcB_list hl (by rw [ea, List.map_map] at h0; exact h0)) (fun z _ => S1 _) ?_ (fun pu y H' => ∃ a, y = .ref a ∧ H' a = some (.tup (pu.1.2 ++ [g pu.2])))
    (fun z y Ha Hb tp ⟨a, e, h⟩ => ⟨a, e, tp a _ h⟩) hw hw1 (fun z u H2 mz _ e => ?_) fun D ys H2 hD e h2 pr => ?_
  · have l : ps.length = ts.length := by rw [et, List.length_map]
    rw [l]
    exact hz
  · obtain ⟨t, mt, e2, ht⟩ := hp z mz
    have ht' : SqT K H2 z.1 z.2 := st_of (by rw [e2]; exact e _ _ ht)
    exact EvU.r (xs := z.2 ++ [g u]) (eu_tup (ea_star (K := K) (ev_var (r0 _ _)) ht' (ea_cons (ev_var (r1 _ _)) ea_nil)) (by rw [List.length_append, e2]; have := h40 t mt; show t.length + 1 ≤ 100000; omega)) fun p H1 _ _ h => ⟨p, rfl, h⟩
  · obtain ⟨as', e1, pr2⟩ := prd_refs pr
    refine ⟨D, as', rfl, hD, by rw [h2, e1], ?_⟩
    have pr3 := prd_mapr (F := fun a t => H2 a = some (.tup t)) (fun pu : (Addr × List V) × β => pu.1.2 ++ [g pu.2]) pr2
    rw [step_tups, ← et] at pr3
    exact pr3
end
/-- [()] -/
theorem er_one {σ : L2.St} {H : Hp} : EvR (tLst (tCons (tTup tNil) tNil)) σ H (fun v H2 => ∃ D as, v = .ref D ∧ H D = none ∧ H2 D = some (.lst (as.map V.ref)) ∧ Tups H2 as [[]]) := fun H1 e1 Q1 q1 => by
  show tTup tNil σ H1 fun x H2 => ([x] : List V).length ≤ sizeLine ∧ ∀ p, H2 p = none → Q1 (.ref p) (upd H2 p (.lst [x]))
  refine (eu_tup (σ := σ) (H := H1) (vs := []) ea_nil (by decide)) H1 (Ex.refl _) _ fun p H2 hp e2 h2 => ⟨by show 1 ≤ sizeLine; decide, fun D hD => ?_⟩
  exact q1 _ _ (e2.trans (Ex.new hD)) ⟨D, [p], rfl, fresh_back (e1.trans e2) hD, upd_same, .cons (by rw [upd_ne (ne_of_none h2 hD)]; exact h2) .nil⟩
section
variable {P : Program} {w : World} {K : PySem.W.Frag} {mg : Str → Option Value} {base : Heap} {f : Addr} {fd : FuncData}
/-! ### all_rows -/
abbrev s_all_rows : Stmt := topS 12
theorem sc_all_rows : FnScope ["size", "arity", "found", "turn", "row", "value"] ["size", "arity"] (defScope s_all_rows) := ⟨rfl, rfl, rfl, by decide +kernel, rfl, by decide +kernel, by decide +kernel⟩
/-- a new list of new tuples -/
def RetT (H : Hp) (Q : VK) (ts : List (List V)) : Prop := ∀ D as H2, H D = none → Ex H H2 → H2 D = some (.lst (as.map V.ref)) → Tups H2 as ts → Q (.ref D) H2
def sp_all_rows : Sp := fun vs H Q _ => ∃ (n ar : Nat), vs = [.int (n : Int), .int (ar : Int)] ∧ n ≤ 3 ∧ ar ≤ 4 ∧ RetT H Q (tups ((vals n).map V.int) ar)
theorem pow_le34 {n k : Nat} (hn : n ≤ 3) (hk : k ≤ 4) : n ^ k ≤ 81 := Nat.le_trans (Nat.pow_le_pow_left hn k) (Nat.le_trans (Nat.pow_le_pow_right (by decide) hk) (by decide))
theorem mem_tups_len {α : Type} {xs : List α} : ∀ {k : Nat} {t : List α}, t ∈ tups xs k → t.length = k
  | 0, t, h => by
    have e : t = [] := by simpa [tups] using h
    rw [e]
    rfl
  | k + 1, t, h => by
    obtain ⟨s, hs, h2⟩ := List.mem_flatMap.mp h
    obtain ⟨x, _, e⟩ := List.mem_map.mp h2
    rw [← e, List.length_append, mem_tups_len hs]
    rfl
theorem ok_all_rows (B : Bl mg) (F : Fun K "all_rows" "all_rows" s_all_rows f fd) : FnOk P w K mg base CX0 1 f fd ["size", "arity"] sp_all_rows := by
  refine F.ok sc_all_rows (fun vs H Q E h => ?_) (fun cdv A outer s H vs Q E hr h => ?_)
  · obtain ⟨n, ar, rfl, _⟩ := h
    rfl
  · obtain ⟨n, ar, rfl, hn, har, q⟩ := h
    refine ⟨_, (pss_cons (ps_set (i := 2) sc_all_rows.nd rfl (Or.inl rfl) (pe_lst (pa_cons (pe_tup pa_nil) pa_nil)))
      (pss_cons (ps_for PassesOwn.never rfl (pi_range1 (by rfl) B.range (pa_cons (pv 1) pa_nil)) (pg_name (i := 3) sc_all_rows.nd rfl (Or.inl rfl)) (pss_one (ps_setLc2 (i := 2) (own := [("row", 4), ("value", 5)]) (vs1 := [5]) (g := (gName 4)) (g1 := (gName 5)) (tt := tYes) (tt1 := tYes) (by rfl) sc_all_rows.nd rfl rfl (sw_true rfl rfl rfl (by decide +kernel)) (show PI _ _ _ (iList K _) from pi_list (pv 2)) (blkOk_by (own := [("row", 4), ("value", 5)]) (N := ["size", "arity", "found", "turn", "row", "value"]) (sc := defScope s_all_rows) (by decide +kernel)) (by decide) (fun _ _ _ _ _ => (pg_name (i := 4) sc_all_rows.nd rfl (Or.inl rfl))) (fun _ _ _ _ _ => pts_nil) (fun _ _ _ _ _ => (pi_range1 (by rfl) B.range (pa_cons (pv 0) pa_nil))) (fun _ _ _ _ _ => (pg_name (i := 5) sc_all_rows.nd rfl (Or.inl rfl))) (fun _ _ _ _ _ => pts_nil) (fun _ _ _ _ _ => (pe_tup (show PA _ _ (tStar K _ _) from pa_star (pv 4) (pa_cons (pv 5) pa_nil)))))))
      (pss_one (ps_ret (pv 2))))), ?_⟩
    -- [()]
    refine q_asgR (R := fun v H2 => ∃ D as, v = .ref D ∧ H D = none ∧ H2 D = some (.lst (as.map V.ref)) ∧ Tups H2 as [[]]) (fun H1 e1 Q1 q1 => ?_) fun v H1 e1 r1 => ?_
    · exact er_one H1 e1 Q1 q1
    obtain ⟨D0, as0, rfl, hD0, h0, t0⟩ := r1
    refine q_forR1 (n := (ar : Int)) (ea_cons (ev_var rfl) ea_nil) ⟨by omega, by omega⟩ (fun i σ' H' => Ex H H' ∧ ∃ x D as, σ' = [some (.int (n : Int)), some (.int (ar : Int)), some (.ref D), x, none, none] ∧ H D = none ∧ H' D = some (.lst (as.map V.ref)) ∧ Tups H' as (tups ((vals n).map V.int) i)) (fun H2 e2 => ?_) (fun i σ' H' hi p => ?_) (fun σ' H' p => ?_)
    · exact ⟨e1.trans e2, none, D0, as0, rfl, hD0, e2 _ _ h0, prd_mono t0 fun a t _ h => e2 _ _ h⟩
    · obtain ⟨e', x, D, as, rfl, hD, hl, ht⟩ := p
      refine s_asgR (er_more (K := K) (a0 := D) (g := fun z : Nat => V.int ((z : Nat) : Int)) (us := List.range n) ht (ev_var rfl) (sq_of hl) (fun x => srcB_range (n := n) (ea_cons (ev_var rfl) ea_nil) (by omega)) ?_ (fun t mt => ?_) (fun x => rfl) (fun x y => rfl) (fun x y => rfl) (fun x y => rfl)) fun v H2 e2 r2 => ?_
      · have h1 := pow_le34 (n := n) (k := i) hn (by omega)
        rw [tups_pow, List.length_map, List.length_range]
        have l : (vals n).length = n := by unfold vals; rw [List.length_map, List.length_range]
        rw [l]
        have h2 : n ^ i * n ≤ 81 * 3 := Nat.mul_le_mul h1 hn
        omega
      · rw [mem_tups_len mt]
        omega
      · obtain ⟨D', as', rfl, hD', h', t'⟩ := r2
        rw [← vals_V] at t'
        exact ⟨e'.trans e2, _, D', as', rfl, fresh_back e' hD', h', t'⟩
    · obtain ⟨e', x, D, as, rfl, hD, hl, ht⟩ := p
      rw [Int.toNat_natCast] at ht
      exact s_ret (ev_var rfl) fun H2 e2 => q D as H2 hD (e'.trans e2) (e2 _ _ hl) (prd_mono ht fun a t _ h => e2 _ _ h)
end
end G651
/-! Tuples of things; the value of an operation; images. -/
namespace G651
open PySem PySem.Spec PyProof.Rows L2 Evl
open StX (tStar pa_star)
section
variable {P : Program} {w : World} {K : PySem.W.Frag} {mg : Str → Option Value} {base : Heap} {f : Addr} {fd : FuncData}
/-! ### tuples_of -/
abbrev s_tuples_of : Stmt := topS 17
theorem sc_tuples_of : FnScope ["things", "many", "found", "turn", "told", "thing"] ["things", "many"] (defScope s_tuples_of) := ⟨rfl, rfl, rfl, by decide +kernel, rfl, by decide +kernel, by decide +kernel⟩
def sp_tuples_of : Sp := fun vs H Q _ => ∃ (t : Addr) (xs : List V) (m : Nat), vs = [.ref t, .int (m : Int)] ∧ H t = some (.tup xs) ∧ xs.length ≤ 9 ∧ m ≤ 3 ∧ RetT H Q (tups xs m)
theorem pow_le93 {n k : Nat} (hn : n ≤ 9) (hk : k ≤ 3) : n ^ k ≤ 729 := Nat.le_trans (Nat.pow_le_pow_left hn k) (Nat.le_trans (Nat.pow_le_pow_right (by decide) hk) (by decide))
theorem ok_tuples_of (B : Bl mg) (F : Fun K "tuples_of" "tuples_of" s_tuples_of f fd) : FnOk P w K mg base CX0 1 f fd ["things", "many"] sp_tuples_of := by
  refine F.ok sc_tuples_of (fun vs H Q E h => ?_) (fun cdv A outer s H vs Q E hr h => ?_)
  · obtain ⟨t, xs, m, rfl, _⟩ := h
    rfl
  · obtain ⟨t, xs, m, rfl, ht, hx, hm, q⟩ := h
    refine ⟨_, (pss_cons (ps_set (i := 2) sc_tuples_of.nd rfl (Or.inl rfl) (pe_lst (pa_cons (pe_tup pa_nil) pa_nil)))
      (pss_cons (ps_for PassesOwn.never rfl (pi_range1 (by rfl) B.range (pa_cons (pv 1) pa_nil)) (pg_name (i := 3) sc_tuples_of.nd rfl (Or.inl rfl)) (pss_one (ps_setLc2 (i := 2) (own := [("told", 4), ("thing", 5)]) (vs1 := [5]) (g := (gName 4)) (g1 := (gName 5)) (tt := tYes) (tt1 := tYes) (by rfl) sc_tuples_of.nd rfl rfl (sw_true rfl rfl rfl (by decide +kernel)) (show PI _ _ _ (iList K _) from pi_list (pv 2)) (blkOk_by (own := [("told", 4), ("thing", 5)]) (N := ["things", "many", "found", "turn", "told", "thing"]) (sc := defScope s_tuples_of) (by decide +kernel)) (by decide) (fun _ _ _ _ _ => (pg_name (i := 4) sc_tuples_of.nd rfl (Or.inl rfl))) (fun _ _ _ _ _ => pts_nil) (fun _ _ _ _ _ => (show PI _ _ _ (iTup K _) from pi_tup (pv 0))) (fun _ _ _ _ _ => (pg_name (i := 5) sc_tuples_of.nd rfl (Or.inl rfl))) (fun _ _ _ _ _ => pts_nil) (fun _ _ _ _ _ => (pe_tup (show PA _ _ (tStar K _ _) from pa_star (pv 4) (pa_cons (pv 5) pa_nil)))))))
      (pss_one (ps_ret (pv 2))))), ?_⟩
    refine q_asgR (R := fun v H2 => ∃ D as, v = .ref D ∧ H D = none ∧ H2 D = some (.lst (as.map V.ref)) ∧ Tups H2 as [[]]) (fun H1 e1 Q1 q1 => ?_) fun v H1 e1 r1 => ?_
    · exact er_one H1 e1 Q1 q1
    obtain ⟨D0, as0, rfl, hD0, h0, t0⟩ := r1
    refine q_forR1 (n := (m : Int)) (ea_cons (ev_var rfl) ea_nil) ⟨by omega, by omega⟩ (fun i σ' H' => Ex H H' ∧ ∃ x D as, σ' = [some (.ref t), some (.int (m : Int)), some (.ref D), x, none, none] ∧ H D = none ∧ H' D = some (.lst (as.map V.ref)) ∧ Tups H' as (tups xs i)) (fun H2 e2 => ?_) (fun i σ' H' hi p => ?_) (fun σ' H' p => ?_)
    · exact ⟨e1.trans e2, none, D0, as0, rfl, hD0, e2 _ _ h0, prd_mono t0 fun a t _ h => e2 _ _ h⟩
    · obtain ⟨e', x, D, as, rfl, hD, hl, hT⟩ := p
      refine s_asgR (er_more (K := K) (a0 := D) (g := fun z : V => z) (us := xs) hT (ev_var rfl) (sq_of hl) (fun x => srcB_tup (a := t) (zs := xs) (ev_var rfl) (by rw [List.map_id']; exact st_of (e' _ _ ht))) ?_ (fun t mt => ?_) (fun x => rfl) (fun x y => rfl) (fun x y => rfl) (fun x y => rfl)) fun v H2 e2 r2 => ?_
      · have h1 := pow_le93 (n := xs.length) (k := i) hx (by omega)
        rw [tups_pow]
        have h2 : xs.length ^ i * xs.length ≤ 729 * 9 := Nat.mul_le_mul h1 hx
        omega
      · rw [mem_tups_len mt]
        omega
      · obtain ⟨D', as', rfl, hD', h', t'⟩ := r2
        rw [List.map_id'] at t'
        exact ⟨e'.trans e2, _, D', as', rfl, fresh_back e' hD', h', t'⟩
    · obtain ⟨e', x, D, as, rfl, hD, hl, hT⟩ := p
      rw [Int.toNat_natCast] at hT
      exact s_ret (ev_var rfl) fun H2 e2 => q D as H2 hD (e'.trans e2) (e2 _ _ hl) (prd_mono hT fun a t _ h => e2 _ _ h)
/-! ### place_of -/
abbrev s_place_of : Stmt := topS 14
theorem sc_place_of : FnScope ["size", "arguments", "found", "argument"] ["size", "arguments"] (defScope s_place_of) := ⟨rfl, rfl, rfl, by decide +kernel, rfl, by decide +kernel, by decide +kernel⟩
/-- a place below 3 -/
def In (n : Nat) (x : Int) : Prop := 0 ≤ x ∧ x < n
def sp_place_of : Sp := fun vs H Q _ => ∃ (n : Nat) (a : Addr) (x y z : Int), vs = [.int (n : Int), .ref a] ∧ (n = 2 ∨ n = 3) ∧ H a = some (.tup [.int x, .int y, .int z]) ∧ In n x ∧ In n y ∧ In n z ∧ RetV (.int (plc n [x, y, z])) H Q
theorem plc_le {n : Nat} (hn : n = 2 ∨ n = 3) {x y z : Int} (hx : In n x) (hy : In n y) (hz : In n z) : ∀ i, 0 ≤ plc n ([x, y, z].take i) ∧ plc n ([x, y, z].take i) ≤ 30 := by
  intro i
  unfold In at hx hy hz
  match i with
  | 0 =>
    show (0 : Int) ≤ 0 ∧ (0 : Int) ≤ 30
    decide
  | 1 =>
    show 0 ≤ 0 * (n : Int) + x ∧ 0 * (n : Int) + x ≤ 30
    rcases hn with rfl | rfl <;> omega
  | 2 =>
    show 0 ≤ (0 * (n : Int) + x) * n + y ∧ (0 * (n : Int) + x) * n + y ≤ 30
    rcases hn with rfl | rfl <;> omega
  | i + 3 =>
    have e : [x, y, z].take (i + 3) = [x, y, z] := by simp
    rw [e]
    show 0 ≤ ((0 * (n : Int) + x) * n + y) * n + z ∧ ((0 * (n : Int) + x) * n + y) * n + z ≤ 30
    rcases hn with rfl | rfl <;> omega
theorem plc_snoc (n : Int) (as : List Int) (x : Int) : plc n (as ++ [x]) = plc n as * n + x := by
  unfold plc
  rw [List.foldl_append]
  rfl
theorem ok_place_of (B : Bl mg) (F : Fun K "place_of" "place_of" s_place_of f fd) : FnOk P w K mg base CX0 1 f fd ["size", "arguments"] sp_place_of := by
  refine F.ok sc_place_of (fun vs H Q E h => ?_) (fun cdv A outer s H vs Q E hr h => ?_)
  · obtain ⟨n, a, x, y, z, rfl, _⟩ := h
    rfl
  · obtain ⟨n, a, x, y, z, rfl, hn, ha, hx, hy, hz, q⟩ := h
    refine ⟨_, (pss_cons (ps_set (i := 2) sc_place_of.nd rfl (Or.inl rfl) pe_int)
      (pss_cons (ps_for PassesOwn.never rfl (show PI _ _ _ (iTup K _) from pi_tup (pv 1)) (pg_name (i := 3) sc_place_of.nd rfl (Or.inl rfl)) (pss_one (ps_set (i := 2) sc_place_of.nd rfl (Or.inl rfl) (pe_op op_add (pe_op op_mul (pv 2) (pv 0)) (pv 3)))))
      (pss_one (ps_ret (pv 2))))), ?_⟩
    refine q_asg ev_c fun H1 e1 => ?_
    refine q_forT (a := a) (ev_var rfl) (st_of (e1 _ _ ha)) (fun i σ' H' => Ex H H' ∧ ∃ u, σ' = [some (.int (n : Int)), some (.ref a), some (.int (plc n ([x, y, z].take i))), u]) (fun H2 e2 => ⟨e1.trans e2, none, rfl⟩) (fun i σ' H' _ p => st_of (p.1 _ _ ha)) (fun i v σ' H' hi p => ?_) (fun σ' H' p => ?_)
    · obtain ⟨e', u, rfl⟩ := p
      have hv : ([x, y, z].map V.int)[i]? = some v := hi
      rw [List.getElem?_map] at hv
      cases g : [x, y, z][i]? with
      | none =>
        rw [g] at hv
        cases hv
      | some t =>
        rw [g] at hv
        have ev : V.int t = v := Option.some.inj hv
        subst ev
        have b := plc_le hn hx hy hz i
        refine s_asg (v := .int (plc n ([x, y, z].take (i + 1)))) (ev_is (ev_add (ev_mul (ev_var rfl) (ev_var rfl) ?_) (ev_var rfl)) ?_) fun H2 e2 => ⟨e'.trans e2, _, rfl⟩
        · exact .inr ⟨by rcases hn with rfl | rfl <;> decide, by rcases hn with rfl | rfl <;> decide⟩
        · rw [take_more g, plc_snoc]
    · obtain ⟨e', u, rfl⟩ := p
      exact s_ret (ev_var rfl) fun H2 e2 => q H2 (e'.trans e2)
/-! ### value_of -/
abbrev s_value_of : Stmt := topS 15
theorem sc_value_of : FnScope ["size", "operation", "arguments"] ["size", "operation", "arguments"] (defScope s_value_of) := ⟨rfl, rfl, rfl, by decide +kernel, rfl, by decide +kernel, by decide +kernel⟩
/-- the operation x - y + z: its pair, its tuple -/
def OpAt (H : Hp) (n : Nat) (o : Addr) : Prop := ∃ tb, H o = some (.tup [.int 3, .ref tb]) ∧ H tb = some (.tup ((dtab n).map V.int))
theorem OpAt.ex {H H' : Hp} {n : Nat} {o : Addr} (h : OpAt H n o) (e : Ex H H') : OpAt H' n o := by
  obtain ⟨tb, h1, h2⟩ := h
  exact ⟨tb, e _ _ h1, e _ _ h2⟩
theorem in_of {n : Nat} (hn : n = 2 ∨ n = 3) {x : Int} (h : In n x) : x ∈ vals n := mem_vals.mpr h
theorem dtab_all : ([2, 3].all fun n => (vals n).all fun x => (vals n).all fun y => (vals n).all fun z => (dtab n)[(plc n [x, y, z]).toNat]? == some (mn n x y z)) = true := by decide +kernel
theorem dtab_at {n : Nat} (hn : n = 2 ∨ n = 3) {x y z : Int} (hx : In n x) (hy : In n y) (hz : In n z) : (dtab n)[(plc n [x, y, z]).toNat]? = some (mn n x y z) := by
  have h := List.all_eq_true.mp dtab_all n (by rcases hn with rfl | rfl <;> simp)
  have h2 := List.all_eq_true.mp (List.all_eq_true.mp (List.all_eq_true.mp h x (in_of hn hx)) y (in_of hn hy)) z (in_of hn hz)
  exact eq_of_beq h2
def sp_value_of : Sp := fun vs H Q _ => ∃ (n : Nat) (o a : Addr) (x y z : Int), vs = [.int (n : Int), .ref o, .ref a] ∧ (n = 2 ∨ n = 3) ∧ OpAt H n o ∧ H a = some (.tup [.int x, .int y, .int z]) ∧ In n x ∧ In n y ∧ In n z ∧ RetV (.int (mn n x y z)) H Q
theorem ok_value_of (C_place_of : Cal P w K mg base 1 "place_of" ["size", "arguments"] sp_place_of) (F : Fun K "value_of" "value_of" s_value_of f fd) : FnOk P w K mg base CX0 2 f fd ["size", "operation", "arguments"] sp_value_of := by
  refine F.ok sc_value_of (fun vs H Q E h => ?_) (fun cdv A outer s H vs Q E hr h => ?_)
  · obtain ⟨n, o, a, x, y, z, rfl, _⟩ := h
    rfl
  · obtain ⟨n, o, a, x, y, z, rfl, hn, ho, ha, hx, hy, hz, q⟩ := h
    refine ⟨_, (pss_one (ps_ret (pe_ix (r := rIxT K) ix_tup (pe_ix (r := rIxT K) ix_tup (pv 1) pe_int (fun _ _ => rfl)) (pe_cal C_place_of hr (by decide) (pa_cons (pv 0) (pa_cons (pv 2) pa_nil))) (fun _ _ => rfl)))), ?_⟩
    obtain ⟨tb, h1, h2⟩ := ho
    have b := plc_le hn hx hy hz 3
    rw [show [x, y, z].take 3 = [x, y, z] from rfl] at b
    refine s_ret (v := .int (mn n x y z)) (ev_ixT (ev_ixT (ev_var rfl) ev_c (st_of h1) rfl) (ev_call (vs := [.int (n : Int), .ref a]) (ea_cons (ev_var rfl) (ea_cons (ev_var rfl) ea_nil)) fun H1 e Q q E => ⟨n, a, x, y, z, rfl, hn, e _ _ ha, hx, hy, hz, q⟩) (st_of h2) (at_of (j := (plc n [x, y, z]).toNat) (by omega) ?_)) fun H1 e => q H1 e
    rw [List.getElem?_map, dtab_at hn hx hy hz]
    rfl
/-! ### image_of -/
abbrev s_image_of : Stmt := topS 16
theorem sc_image_of : FnScope ["size", "operation", "rows", "column"] ["size", "operation", "rows"] (defScope s_image_of) := ⟨rfl, rfl, rfl, by decide +kernel, rfl, by decide +kernel, by decide +kernel⟩
/-- a new tuple -/
def RetU (xs : List V) (H : Hp) (Q : VK) : Prop := ∀ p H2, H p = none → Ex H H2 → H2 p = some (.tup xs) → Q (.ref p) H2
def cols (as bs cs : List Int) : List (Int × Int × Int) := as.zip (bs.zip cs)
theorem cols1 : ∀ {as bs cs : List Int}, as.length = bs.length → as.length = cs.length → (cols as bs cs).map (·.1) = as ∧ (cols as bs cs).map (·.2.1) = bs ∧ (cols as bs cs).map (·.2.2) = cs
  | [], [], [], _, _ => ⟨rfl, rfl, rfl⟩
  | a :: as, b :: bs, c :: cs, h1, h2 => by
    obtain ⟨e1, e2, e3⟩ := cols1 (as := as) (bs := bs) (cs := cs) (by simpa using h1) (by simpa using h2)
    unfold cols at e1 e2 e3 ⊢
    simp only [List.zip_cons_cons, List.map_cons]
    exact ⟨by rw [e1], by rw [e2], by rw [e3]⟩
  | [], _ :: _, _, h, _ => by simp at h
  | _ :: _, [], _, h, _ => by simp at h
  | [], [], _ :: _, _, h => by simp at h
  | _ :: _, _ :: _, [], _, h => by simp at h
theorem cols_img (n : Int) : ∀ (as bs cs : List Int), (cols as bs cs).map (fun c => mn n c.1 c.2.1 c.2.2) = img n as bs cs
  | a :: as, b :: bs, c :: cs => by
    have ih := cols_img n as bs cs
    unfold cols at ih ⊢
    simp only [List.zip_cons_cons, List.map_cons]
    rw [ih]
    rfl
  | [], _, _ => rfl
  | _ :: _, [], _ => rfl
  | _ :: _, _ :: _, [] => rfl
theorem mem_cols {as bs cs : List Int} {c : Int × Int × Int} (h : c ∈ cols as bs cs) : c.1 ∈ as ∧ c.2.1 ∈ bs ∧ c.2.2 ∈ cs := by
  have m1 := List.of_mem_zip (a := c.1) (b := c.2) h
  have m2 := List.of_mem_zip (a := c.2.1) (b := c.2.2) m1.2
  exact ⟨m1.1, m2.1, m2.2⟩
def sp_image_of : Sp := fun vs H Q _ => ∃ (n ar : Nat) (o t : Addr) (a b c : Addr) (ra rb rc : List Int), vs = [.int (n : Int), .ref o, .ref t] ∧ (n = 2 ∨ n = 3) ∧ ar ≤ 4 ∧ OpAt H n o ∧ H t = some (.tup [.ref a, .ref b, .ref c]) ∧ H a = some (.tup (ra.map V.int)) ∧ H b = some (.tup (rb.map V.int)) ∧ H c = some (.tup (rc.map V.int)) ∧
  ra ∈ rows n ar ∧ rb ∈ rows n ar ∧ rc ∈ rows n ar ∧ RetU ((img n ra rb rc).map V.int) H Q
theorem ok_image_of (B : Bl mg) (C_value_of : Cal P w K mg base 2 "value_of" ["size", "operation", "arguments"] sp_value_of) (F : Fun K "image_of" "image_of" s_image_of f fd) : FnOk P w K mg base CX0 3 f fd ["size", "operation", "rows"] sp_image_of := by
  refine F.ok sc_image_of (fun vs H Q E h => ?_) (fun cdv A outer s H vs Q E hr h => ?_)
  · obtain ⟨n, ar, o, t, a, b, c, ra, rb, rc, rfl, _⟩ := h
    rfl
  · obtain ⟨n, ar, o, t, a, b, c, ra, rb, rc, rfl, hn, h4, ho, ht, ha, hb, hc, ma, mb, mc, q⟩ := h
    refine ⟨_, (pss_one (ps_ret (pe_callTy (r := rTupS K) call_tuple_of (by rfl) B.tuple PyProof.Rows.boot_tuple (pa_cons (pe_lc (own := [("column", 3)]) (g := (gName 3)) (tt := tYes) (by rfl) sc_image_of.nd (show PI _ _ _ (iZipS K _) from pi_zipS (by rfl) B.zip (pv 2)) (blkOk_by (own := [("column", 3)]) (N := ["size", "operation", "rows", "column"]) (sc := defScope s_image_of) (by decide +kernel)) (fun _ _ _ _ _ => (pg_name (i := 3) sc_image_of.nd rfl (Or.inl rfl))) (fun _ _ _ _ _ => pts_nil) (fun _ _ _ _ _ => (pe_cal C_value_of hr (by decide) (pa_cons (pv 0) (pa_cons (pv 1) (pa_cons (pv 3) pa_nil)))))) pa_nil)))), ?_⟩
    obtain ⟨la, va⟩ := mem_rows.mp ma
    obtain ⟨lb, vb⟩ := mem_rows.mp mb
    obtain ⟨lc, vc⟩ := mem_rows.mp mc
    obtain ⟨e1, e2, e3⟩ := cols1 (as := ra) (bs := rb) (cs := rc) (by omega) (by omega)
    have S : Src (iZipS K (tVar 2)) (start ["size", "operation", "rows", "column"] [.int (n : Int), .ref o, .ref t]) H (cols ra rb rc) (fun z x H => ∃ T, x = .ref T ∧ H T = some (.tup [.int z.1, .int z.2.1, .int z.2.2])) :=
      src_zipS (f1 := fun z : Int × Int × Int => V.int z.1) (f2 := fun z : Int × Int × Int => V.int z.2.1) (f3 := fun z : Int × Int × Int => V.int z.2.2) (ev_var rfl) (st_of ht) (by rw [show ((cols ra rb rc).map fun z => V.int z.1) = ((cols ra rb rc).map (·.1)).map V.int by rw [List.map_map]; rfl, e1]; exact st_of ha)
        (by rw [show ((cols ra rb rc).map fun z => V.int z.2.1) = ((cols ra rb rc).map (·.2.1)).map V.int by rw [List.map_map]; rfl, e2]; exact st_of hb)
        (by rw [show ((cols ra rb rc).map fun z => V.int z.2.2) = ((cols ra rb rc).map (·.2.2)).map V.int by rw [List.map_map]; rfl, e3]; exact st_of hc)
    have lz : (cols ra rb rc).length ≤ 4 := by
      have e := congrArg List.length e1
      rw [List.length_map] at e
      omega
    refine s_retU (eu_tupN (xs := (img n ra rb rc).map V.int) ?_) fun p H1 hp e h1 => q p H1 hp e h1
    rw [← cols_img, List.map_map]
    refine el_lcY S (by omega) _ (fun x => rfl) fun z x H2 hz e hx => ?_
    obtain ⟨T, rfl, hT⟩ := hx
    obtain ⟨m1, m2, m3⟩ := mem_cols hz
    exact ev_call (vs := [.int (n : Int), .ref o, .ref T]) (ea_cons (ev_var rfl) (ea_cons (ev_var rfl) (ea_cons (ev_var rfl) ea_nil))) fun H1 e1 Q q E => ⟨n, o, T, z.1, z.2.1, z.2.2, rfl, hn, (ho.ex e).ex e1, e1 _ _ hT, va _ m1, vb _ m2, vc _ m3, q⟩
end
end G651
/-! Is a relation kept? -/
namespace G651
open PySem PySem.Spec PyProof.Rows L2 Evl
open StX (tStar pa_star)
/-- what a search for a broken triple gives -/
def RetF (ok : Bool) (H : Hp) (Q : VK) : Prop := (ok = true → ∀ H2, Ex H H2 → Q .non H2) ∧ (ok = false → ∀ p H2, Ex H H2 → Q (.ref p) H2)
/-- a triple of rows -/
theorem triple_of {ps : List (Addr × List Int)} {t : List (Addr × List Int)} (h : t ∈ tups ps 3) : ∃ a b c, t = [a, b, c] ∧ a ∈ ps ∧ b ∈ ps ∧ c ∈ ps := by
  obtain ⟨hl, hm⟩ := mem_tups.mp h
  match t, hl with
  | [a, b, c], _ => exact ⟨a, b, c, rfl, hm a (by simp), hm b (by simp), hm c (by simp)⟩
theorem tups_refs (ps : List (Addr × List Int)) (k : Nat) : tups (refs ps) k = (tups ps k).map (List.map fun p => V.ref p.1) := (tups_map (fun p : Addr × List Int => V.ref p.1) ps k).symm
theorem tups_rows (ps : List (Addr × List Int)) (k : Nat) : tups (rowsOf ps) k = (tups ps k).map (List.map (·.2)) := (tups_map (fun p : Addr × List Int => p.2) ps k).symm
/-- does the triple stay within? -/
def inT (n : Nat) (R : List (List Int)) (t : List (Addr × List Int)) : Bool := R.contains (imgT n (t.map (·.2)))
theorem aff_inT {n : Nat} {ps : List (Addr × List Int)} : aff n (rowsOf ps) = (tups ps 3).all (inT n (rowsOf ps)) := by
  unfold aff
  rw [tups_rows, List.all_map]
  rfl
section
variable {P : Program} {w : World} {K : PySem.W.Frag} {mg : Str → Option Value} {base : Heap} {f : Addr} {fd : FuncData}
/-! ### first_broken -/
abbrev s_first_broken : Stmt := topS 18
theorem sc_first_broken : FnScope ["size", "operation", "relation", "known", "rows", "row"] ["size", "operation", "relation"] (defScope s_first_broken) := ⟨rfl, rfl, rfl, by decide +kernel, rfl, by decide +kernel, by decide +kernel⟩
def sp_first_broken : Sp := fun vs H Q _ => ∃ (n ar : Nat) (o r t : Addr) (ps : List (Addr × List Int)), vs = [.int (n : Int), .ref o, .ref r] ∧ OpAt H n o ∧ RelAt H r t ar ps ∧ Val n ar (rowsOf ps) ∧ ps.length ≤ 9 ∧ RetF (aff n (rowsOf ps)) H Q
theorem ok_first_broken (C_tuples_of : Cal P w K mg base 1 "tuples_of" ["things", "many"] sp_tuples_of) (C_image_of : Cal P w K mg base 3 "image_of" ["size", "operation", "rows"] sp_image_of)
    (F : Fun K "first_broken" "first_broken" s_first_broken f fd) : FnOk P w K mg base CX0 4 f fd ["size", "operation", "relation"] sp_first_broken := by
  refine F.ok sc_first_broken (fun vs H Q E h => ?_) (fun cdv A outer s H vs Q E hr h => ?_)
  · obtain ⟨n, ar, o, r, t, ps, rfl, _⟩ := h
    rfl
  · obtain ⟨n, ar, o, r, t, ps, rfl, ho, hrel, hv, h9, q⟩ := h
    refine ⟨_, (pss_cons (ps_setDcT (i := 3) (own := [("row", 5)]) (g := (gName 5)) (tt := tYes) (hu_of5 hr) (by rfl) sc_first_broken.nd rfl rfl (sw_dc rfl rfl rfl (by decide +kernel)) (show PI _ _ _ (iTup K _) from pi_tup (pe_ix (r := rIxT K) ix_tup (pv 2) pe_int (fun _ _ => rfl))) (blkOk_by (own := [("row", 5)]) (N := ["size", "operation", "relation", "known", "rows", "row"]) (sc := defScope s_first_broken) (by decide +kernel)) (fun _ _ _ _ _ => (pg_name (i := 5) sc_first_broken.nd rfl (Or.inl rfl))) (fun _ _ _ _ _ => pts_nil) (fun _ _ _ _ _ => (pv 5)) (fun _ _ _ _ _ => pe_bl))
      (pss_cons (ps_for PassesOwn.never rfl (show PI _ _ _ (iList K _) from pi_list (pe_cal C_tuples_of hr (by decide) (pa_cons (pe_ix (r := rIxT K) ix_tup (pv 2) pe_int (fun _ _ => rfl)) (pa_cons (pe_ix (r := rIxT K) ix_tup (pv 1) pe_int (fun _ _ => rfl)) pa_nil)))) (pg_name (i := 4) sc_first_broken.nd rfl (Or.inl rfl)) (pss_one (ps_if (pt_cmp (pc_dnotin (hu_of hr) (pe_cal C_image_of hr (by decide) (pa_cons (pv 0) (pa_cons (pv 1) (pa_cons (pv 4) pa_nil)))) (pv 3)) rfl) (pss_one (ps_ret (pv 4))) pss_nil)))
      (pss_one (ps_ret pe_non)))), ?_⟩
    obtain ⟨h1, h2, h3⟩ := id hrel
    obtain ⟨tb, o1, o2⟩ := id ho
    refine q_asgR (er_dc (K := K) (zs := ps) (t := t) (ev_ixT (ev_var rfl) ev_c (st_of h1) rfl) h2 h3 (by omega) (fun x => rfl) (fun x => rfl)) fun v H1 e1 r1 => ?_
    obtain ⟨D, kvs, rfl, hD, h4, hk⟩ := r1
    refine q_forLR (R1 := fun v H2 => ∃ L as, v = .ref L ∧ H2 L = some (.lst (as.map V.ref)) ∧ Tups H2 as (tups (refs ps) 3))
      (er_call (vs := [.ref t, .int 3]) (ea_cons (ev_ixT (ev_var rfl) ev_c (st_of (e1 _ _ h1)) rfl) (ea_cons (ev_ixT (ev_var rfl) ev_c (st_of (e1 _ _ o1)) rfl) ea_nil)) fun H2 e2 Q q E => ⟨t, refs ps, 3, rfl, (e1.trans e2) _ _ h2, by unfold refs; rw [List.length_map]; exact h9, by decide, fun L as H3 hL e3 hl ht => q _ H3 e3 ⟨L, as, rfl, hl, ht⟩⟩) fun v H2 e2 r2 => ?_
    obtain ⟨L, as, rfl, hL, hT⟩ := r2
    have E2 := e1.trans e2
    rw [tups_refs] at hT
    have lT : as.length = (tups ps 3).length := by rw [Paired.length hT, List.length_map]
    refine ⟨L, as.map V.ref, fun i σ' H' => Ex H2 H' ∧ ∃ x, σ' = [some (.int (n : Int)), some (.ref o), some (.ref r), some (.ref D), x, none] ∧ ((tups ps 3).take i).all (inT n (rowsOf ps)) = true, rfl, sq_of hL, ⟨Ex.refl _, none, rfl, rfl⟩, fun i σ' H' _ p => sq_of (p.1 _ _ hL), fun i x σ' H' hi p => ?_, fun σ' H' p => ?_⟩
    · obtain ⟨e', x0, rfl, ha⟩ := p
      have E' := E2.trans e'
      rw [List.getElem?_map] at hi
      cases ga : as[i]? with
      | none =>
        rw [ga] at hi
        cases hi
      | some T =>
        rw [ga] at hi
        have ex : V.ref T = x := Option.some.inj hi
        subst ex
        have li : i < (tups ps 3).length := by rw [← lT]; exact (List.getElem?_eq_some_iff.mp ga).1
        have gt : (tups ps 3)[i]? = some (tups ps 3)[i] := List.getElem?_eq_getElem li
        generalize (tups ps 3)[i] = tr at gt
        obtain ⟨a', ga', hT'⟩ := prd_get hT (i := i) (z := tr.map fun p => V.ref p.1) (by rw [List.getElem?_map, gt]; rfl)
        rw [ga] at ga'
        cases ga'
        obtain ⟨pa, pb, pc, rfl, ma, mb, mc⟩ := triple_of (List.mem_of_getElem? gt)
        have hT3 : H' T = some (.tup [.ref pa.1, .ref pb.1, .ref pc.1]) := e' _ _ hT'
        have mm : ∀ p ∈ ps, p.2 ∈ rows n ar := fun p hp => hv.mem _ (List.mem_map.mpr ⟨p, hp, rfl⟩)
        have img : EvU (tCall sp_image_of [] E0 (tCons (tVar 0) (tCons (tVar 1) (tCons (tVar 4) tNil)))) ([some (.int (n : Int)), some (.ref o), some (.ref r), some (.ref D), x0, none].set 4 (some (.ref T))) H' ((img n pa.2 pb.2 pc.2).map V.int) := fun H3 e3 Q3 q3 =>
          (er_call (R := fun v H4 => ∃ p, v = .ref p ∧ H3 p = none ∧ H4 p = some (.tup ((img n pa.2 pb.2 pc.2).map V.int))) (H := H3) (vs := [.int (n : Int), .ref o, .ref T]) (ea_cons (ev_var rfl) (ea_cons (ev_var rfl) (ea_cons (ev_var rfl) ea_nil))) fun H4 e4 Q q E =>
            have EE := (E'.trans e3).trans e4
            ⟨n, ar, o, T, pa.1, pb.1, pc.1, pa.2, pb.2, pc.2, rfl, hv.hn, hv.h4, ho.ex EE, (e3.trans e4) _ _ hT3, EE _ _ (h3 _ ma), EE _ _ (h3 _ mb), EE _ _ (h3 _ mc), mm _ ma, mm _ mb, mm _ mc, fun p H5 hp e5 h5 => q _ H5 e5 ⟨p, rfl, fresh_back e4 hp, h5⟩⟩)
          H3 (Ex.refl _) _ fun v H5 e5 ⟨p, e, hp, h5⟩ => by
            subst e
            exact q3 p H5 hp e5 h5
        refine s_when (et_dnotin img (ev_var rfl) ((e2.trans e') _ _ h4) hk) (fun hb H3 e3 => ?_) fun hb H3 e3 => ?_
        · refine s_ret (ev_var rfl) fun H4 e4 => q.2 ?_ T H4 ((E'.trans e3).trans e4)
          rw [aff_inT, List.all_eq_false]
          refine ⟨_, List.mem_of_getElem? gt, ?_⟩
          rw [has_addsK] at hb
          show ¬ ((rowsOf ps).contains (G651.img n pa.2 pb.2 pc.2) = true)
          intro z
          rw [z] at hb
          cases hb
        · refine ⟨e'.trans e3, _, rfl, ?_⟩
          rw [take_more gt, List.all_append, ha]
          rw [has_addsK] at hb
          show (true && ((rowsOf ps).contains (G651.img n pa.2 pb.2 pc.2) && true)) = true
          cases z : (rowsOf ps).contains (G651.img n pa.2 pb.2 pc.2) with
          | true => rfl
          | false =>
            rw [z] at hb
            cases hb
    · obtain ⟨e', x0, rfl, ha⟩ := p
      rw [List.length_map, lT, List.take_length] at ha
      exact s_ret ev_c fun H4 e4 => q.1 (by rw [aff_inT]; exact ha) H4 ((E2.trans e').trans e4)
end
end G651
/-! x - y + z as an operation; is a relation affine? -/
namespace G651
open PySem PySem.Spec PyProof.Rows L2 Evl
open StX (tStar pa_star)
section
variable {K : PySem.W.Frag} {σ : L2.St} {H : Hp} {tl : TE} {α : Type}
/-- a list of tuples that a relation tells -/
def LTup (ts : List (List V)) : V → Hp → Prop := fun v H => ∃ L as, v = .ref L ∧ H L = some (.lst (as.map V.ref)) ∧ Tups H as ts
theorem src_listT {zs : List α} {f : α → List V} (h : EvR tl σ H (LTup (zs.map f))) : Src (iList K tl) σ H zs (fun z x H => ∃ a, x = .ref a ∧ H a = some (.tup (f z))) := fun H1 e1 R q =>
  h H1 e1 _ fun v H2 e2 r => by
    obtain ⟨L, as, rfl, hL, hT⟩ := r
    have w : Walk (Itl K L) (as.map V.ref).length (fun H => SqL K H L (as.map V.ref)) (YAt (as.map V.ref)) := walk_list
    have l : (as.map V.ref).length = zs.length := by rw [List.length_map, Paired.length hT, List.length_map]
    rw [l] at w
    refine ⟨L, rfl, ⟨_, sq_of hL⟩, q _ H2 _ _ e2 w (fun H3 e3 => sq_of (e3 _ _ hL)) fun i z H3 x H4 hz e y => ?_⟩
    obtain ⟨eH, y⟩ := y
    subst eH
    obtain ⟨a, ga, ha⟩ := prd_get hT (i := i) (z := f z) (by rw [List.getElem?_map, hz]; rfl)
    rw [List.getElem?_map, ga] at y
    exact ⟨Ex.refl _, a, (Option.some.inj y).symm, e _ _ ha⟩
theorem er_ltup {sp : Sp} {dvs vs : List V} {E : XK} {ta : TA} {ts : List (List V)} (h : EvA ta σ H vs) (hs : ∀ H1, Ex H H1 → ∀ (Q : VK) (E : XK), RetT H1 Q ts → sp (vs ++ dvs) H1 Q E) : EvR (tCall sp dvs E ta) σ H (LTup ts) :=
  er_call h fun H1 e1 Q q E => hs H1 e1 Q E fun L as H2 _ e2 hl ht => q _ H2 e2 ⟨L, as, rfl, hl, ht⟩
end
theorem row3 {n : Nat} {r : List Int} (h : r ∈ rows n 3) : ∃ x y z, r = [x, y, z] := by
  have hl := (mem_rows.mp h).1
  match r, hl with
  | [x, y, z], _ => exact ⟨x, y, z, rfl⟩
theorem rows_V (n k : Nat) : tups ((vals n).map V.int) k = (rows n k).map (List.map V.int) := (tups_map V.int (vals n) k).symm
theorem rows_le {n k : Nat} (hn : n ≤ 3) (hk : k ≤ 4) : (rows n k).length ≤ 81 := by
  unfold rows
  rw [tups_pow]
  have l : (vals n).length = n := by unfold vals; rw [List.length_map, List.length_range]
  rw [l]
  exact pow_le34 hn hk
section
variable {P : Program} {w : World} {K : PySem.W.Frag} {mg : Str → Option Value} {base : Heap} {f : Addr} {fd : FuncData}
/-! ### difference_of -/
abbrev s_difference_of : Stmt := topS 21
theorem sc_difference_of : FnScope ["size", "row"] ["size"] (defScope s_difference_of) := ⟨rfl, rfl, rfl, by decide +kernel, rfl, by decide +kernel, by decide +kernel⟩
def RetO (n : Nat) (H : Hp) (Q : VK) : Prop := ∀ p H2, H p = none → Ex H H2 → OpAt H2 n p → Q (.ref p) H2
def sp_difference_of : Sp := fun vs H Q _ => ∃ n : Nat, vs = [.int (n : Int)] ∧ (n = 2 ∨ n = 3) ∧ RetO n H Q
theorem ok_difference_of (B : Bl mg) (C_all_rows : Cal P w K mg base 1 "all_rows" ["size", "arity"] sp_all_rows) (F : Fun K "difference_of" "difference_of" s_difference_of f fd) : FnOk P w K mg base CX0 2 f fd ["size"] sp_difference_of := by
  refine F.ok sc_difference_of (fun vs H Q E h => ?_) (fun cdv A outer s H vs Q E hr h => ?_)
  · obtain ⟨n, rfl, _⟩ := h
    rfl
  · obtain ⟨n, rfl, hn, q⟩ := h
    refine ⟨_, (pss_one (ps_ret (pe_tup (pa_cons pe_int (pa_cons (pe_callTy (r := rTupS K) call_tuple_of (by rfl) B.tuple PyProof.Rows.boot_tuple (pa_cons (pe_lc (own := [("row", 1)]) (g := (gName 1)) (tt := tYes) (by rfl) sc_difference_of.nd (show PI _ _ _ (iList K _) from pi_list (pe_cal C_all_rows hr (by decide) (pa_cons (pv 0) (pa_cons pe_int pa_nil)))) (blkOk_by (own := [("row", 1)]) (N := ["size", "row"]) (sc := defScope s_difference_of) (by decide +kernel)) (fun _ _ _ _ _ => (pg_name (i := 1) sc_difference_of.nd rfl (Or.inl rfl))) (fun _ _ _ _ _ => pts_nil) (fun _ _ _ _ _ => (pe_op op_mod (pe_op op_add (pe_op op_sub (pe_ix (r := rIxT K) ix_tup (pv 1) pe_int (fun _ _ => rfl)) (pe_ix (r := rIxT K) ix_tup (pv 1) pe_int (fun _ _ => rfl))) (pe_ix (r := rIxT K) ix_tup (pv 1) pe_int (fun _ _ => rfl))) (pv 0)))) pa_nil)) pa_nil))))), ?_⟩
    have n3 : n ≤ 3 := by omega
    have S := src_listT (K := K) (zs := rows n 3) (f := List.map V.int) (er_ltup (sp := sp_all_rows) (E := E0) (dvs := []) (vs := [.int (n : Int), .int 3]) (σ := start ["size", "row"] [.int (n : Int)]) (H := H) (ta := tCons (tVar 0) (tCons (tC (.int 3)) tNil)) (ea_cons (ev_var rfl) (ea_cons ev_c ea_nil)) fun H1 e1 Q E k => ⟨n, 3, rfl, n3, by decide, by rw [rows_V]; exact k⟩)
    have L := el_lcY (te := tOp (rI (fun _ j => 0 < j) fun i j => .int (i % j)) (tOp (rI0 fun i j => .int (i + j)) (tOp (rI0 fun i j => .int (i - j)) (tOp (rIxT K) (tVar 1) (tC (.int 0))) (tOp (rIxT K) (tVar 1) (tC (.int 1)))) (tOp (rIxT K) (tVar 1) (tC (.int 2)))) (tVar 0)) (vs := [1]) (j := 1) S (by have := rows_le (n := n) (k := 3) n3 (by decide); omega) (fun r => V.int (mn n (r.getD 0 0) (r.getD 1 0) (r.getD 2 0))) (fun x => rfl) fun r x H2 mr e hx => by
      obtain ⟨a, rfl, ha⟩ := hx
      obtain ⟨x, y, z, rfl⟩ := row3 mr
      exact ev_mod (ev_add (ev_sub (ev_ixT (ev_var rfl) ev_c (st_of ha) rfl) (ev_ixT (ev_var rfl) ev_c (st_of ha) rfl)) (ev_ixT (ev_var rfl) ev_c (st_of ha) rfl)) (ev_var rfl) (by omega)
    refine s_retR (R := fun v H2 => ∃ p, v = .ref p ∧ H p = none ∧ OpAt H2 n p) (fun H1 e1 Q1 q1 => ?_) fun v H1 e1 ⟨p, e, hp, ho⟩ => by
      subst e
      exact q p H1 hp e1 ho
    refine (eu_tupN (K := K) L) H1 e1 _ fun p H2 hp e2 h2 => ⟨by show 2 ≤ sizeLine; decide, fun o ho => ?_⟩
    refine q1 _ _ (e2.trans (Ex.new ho)) ⟨o, rfl, fresh_back (e1.trans e2) ho, p, upd_same, ?_⟩
    rw [upd_ne (ne_of_none h2 ho), h2]
    unfold dtab
    rw [List.map_map]
    rfl
/-! ### is_affine -/
abbrev s_is_affine : Stmt := topS 22
theorem sc_is_affine : FnScope ["size", "relation"] ["size", "relation"] (defScope s_is_affine) := ⟨rfl, rfl, rfl, by decide +kernel, rfl, by decide +kernel, by decide +kernel⟩
def sp_is_affine : Sp := fun vs H Q _ => ∃ (n ar : Nat) (r t : Addr) (ps : List (Addr × List Int)), vs = [.int (n : Int), .ref r] ∧ RelAt H r t ar ps ∧ Val n ar (rowsOf ps) ∧ ps.length ≤ 9 ∧ RetV (.bl (aff n (rowsOf ps))) H Q
/-- first_broken(..) of the size's operation -/
theorem er_broken {σ : L2.St} {H : Hp} {i j n ar : Nat} {r t : Addr} {ps : List (Addr × List Int)} (h0 : σ[i]? = some (some (.int (n : Int)))) (h1 : σ[j]? = some (some (.ref r))) (hrel : RelAt H r t ar ps) (hv : Val n ar (rowsOf ps)) (h9 : ps.length ≤ 9) :
    EvR (tCall sp_first_broken [] E0 (tCons (tVar i) (tCons (tCall sp_difference_of [] E0 (tCons (tVar i) tNil)) (tCons (tVar j) tNil)))) σ H (fun v _ => (aff n (rowsOf ps) = true → v = .non) ∧ (aff n (rowsOf ps) = false → ∃ p, v = .ref p)) := by
  refine er_callR (R1 := fun vs H2 => ∃ o, vs = [.int (n : Int), .ref o, .ref r] ∧ OpAt H2 n o) (ar_cons (R1 := fun v _ => v = .int (n : Int)) (Ev.r (ev_var h0) fun _ _ => rfl) fun v H1 e1 r1 => ?_) fun vs H1 e1 ⟨o, e, ho⟩ => ?_
  · subst r1
    refine ar_cons (R1 := fun v H2 => ∃ o, v = .ref o ∧ OpAt H2 n o) (er_call (vs := [.int (n : Int)]) (ea_cons (ev_var h0) ea_nil) fun H2 e2 Q q E => ⟨n, rfl, hv.hn, fun p H3 _ e3 ho => q _ H3 e3 ⟨p, rfl, ho⟩⟩) fun v H2 e2 ⟨o, e, ho⟩ => ?_
    subst e
    exact fun H3 e3 Q q => ⟨.ref r, h1, q _ H3 (Ex.refl _) ⟨o, rfl, ho.ex e3⟩⟩
  · subst e
    exact fun H2 e2 Q q E => ⟨n, ar, o, r, t, ps, rfl, ho.ex e2, hrel.ex (e1.trans e2), hv, h9, ⟨fun ha H3 e3 => q _ H3 e3 ⟨fun _ => rfl, fun hb => (by rw [ha] at hb; cases hb)⟩, fun hb p H3 e3 => q _ H3 e3 ⟨fun ha => (by rw [ha] at hb; cases hb), fun _ => ⟨p, rfl⟩⟩⟩⟩
theorem ok_is_affine (C_need_prime : Cal P w K mg base 3 "need_prime" ["size"] sp_need_prime) (C_need_relation : Cal P w K mg base 5 "need_relation" ["size", "value"] sp_need_relation) (C_first_broken : Cal P w K mg base 4 "first_broken" ["size", "operation", "relation"] sp_first_broken)
    (C_difference_of : Cal P w K mg base 2 "difference_of" ["size"] sp_difference_of) (F : Fun K "is_affine" "is_affine" s_is_affine f fd) : FnOk P w K mg base CX0 6 f fd ["size", "relation"] sp_is_affine := by
  refine F.ok sc_is_affine (fun vs H Q E h => ?_) (fun cdv A outer s H vs Q E hr h => ?_)
  · obtain ⟨n, ar, r, t, ps, rfl, _⟩ := h
    rfl
  · obtain ⟨n, ar, r, t, ps, rfl, hrel, hv, h9, q⟩ := h
    refine ⟨_, (pss_cons (ps_expr (pe_cal C_need_prime hr (by decide) (pa_cons (pv 0) pa_nil)))
      (pss_cons (ps_expr (pe_cal C_need_relation hr (by decide) (pa_cons (pv 0) (pa_cons (pv 1) pa_nil))))
      (pss_one (ps_ret (pe_cmpR op_isN (pe_cal C_first_broken hr (by decide) (pa_cons (pv 0) (pa_cons (pe_cal C_difference_of hr (by decide) (pa_cons (pv 0) pa_nil)) (pa_cons (pv 1) pa_nil)))) pe_non (nomark _)))))), ?_⟩
    refine q_drop (v := .non) (ev_call (vs := [.int (n : Int)]) (ea_cons (ev_var rfl) ea_nil) fun H1 e1 Q q E => ⟨n, rfl, hv.hn, q⟩) fun H1 e1 => ?_
    refine q_drop (v := .non) (ev_call (vs := [.int (n : Int), .ref r]) (ea_cons (ev_var rfl) (ea_cons (ev_var rfl) ea_nil)) fun H2 e2 Q q E => ⟨n, ar, r, t, ps, rfl, hrel.ex (e1.trans e2), hv, q⟩) fun H2 e2 => ?_
    have E2 := e1.trans e2
    refine s_retR (R := fun v _ => v = .bl (aff n (rowsOf ps))) (fun H3 e3 Q3 q3 => ?_) fun v H3 e3 rv => by
      subst rv
      exact q H3 (E2.trans e3)
    refine er_broken (σ := start ["size", "relation"] [.int (n : Int), .ref r]) (H := H3) rfl rfl (hrel.ex (E2.trans e3)) hv h9 H3 (Ex.refl _) _ fun v H4 e4 ⟨k1, k2⟩ => ?_
    cases ha : aff n (rowsOf ps) with
    | true =>
      obtain rfl := k1 ha
      refine ⟨rfl, q3 _ H4 e4 ?_⟩
      show V.bl _ = V.bl (aff n (rowsOf ps))
      rw [ha]
      rfl
    | false =>
      obtain ⟨p, rfl⟩ := k2 ha
      refine ⟨rfl, q3 _ H4 e4 ?_⟩
      show V.bl _ = V.bl (aff n (rowsOf ps))
      rw [ha]
      rfl
end
end G651
/-! Elimination. -/
namespace G651
open PySem PySem.Spec PyProof.Rows L2 Evl
open StX (tStar pa_star)
theorem getD_at {r : List Int} {c : Nat} (h : c < r.length) : (r.map V.int)[c]? = some (V.int (r.getD c 0)) := by
  rw [List.getElem?_map, List.getD_eq_getElem?_getD, List.getElem?_eq_getElem h]
  rfl
theorem getD_mem {r : List Int} {c : Nat} (h : c < r.length) : r.getD c 0 ∈ r := by
  rw [List.getD_eq_getElem?_getD, List.getElem?_eq_getElem h]
  exact List.getElem_mem h
/-- a new list of lists, as a value -/
def NewLL (H : Hp) (rs : List (List Int)) : V → Hp → Prop := fun v H2 => ∃ D ps, v = .ref D ∧ H D = none ∧ H2 D = some (.lst (refs' ps)) ∧ ILs H2 ps ∧ rowsL ps = rs
section
variable {K : PySem.W.Frag} {σ : L2.St} {H : Hp} {tl te : TE}
theorem er_rows {ps : List (Addr × List Int)} {a : Addr} {vs : List Nat} {j : Nat} {g : List Int → List Int} (h : Ev tl σ H (.ref a)) (ha : H a = some (.lst (refs' ps))) (hz : ps.length ≤ 40000) (hw : ∀ x, wipe ((wipe σ vs).set j (some x)) vs = wipe σ vs)
    (he : ∀ p H2, p ∈ ps → Ex H H2 → EvL te ((wipe σ vs).set j (some (.ref p.1))) H2 ((g p.2).map V.int)) : EvR (tLc (iList K tl) (gName j) tYes te vs) σ H (NewLL H ((rowsL ps).map g)) := by
  have S : Src (iList K tl) σ H ps (fun z x _ => x = V.ref z.1) := src_list (f := fun z : Addr × List Int => V.ref z.1) (R1 := fun v _ => v = .ref a) (Ev.r h fun _ _ => rfl) fun v H1 e r => ⟨a, r, sq_of (e _ _ ha)⟩
  refine er_lcLY S hz (fun z => (g z.2).map V.int) hw (fun z x H2 mz e hx => by rw [hx]; exact he z H2 mz e) fun D as H2 hD e h2 pr => ?_
  obtain ⟨qs, ea, er, hq⟩ := prd_zip (fun z : Addr × List Int => g z.2) pr
  refine ⟨D, qs, rfl, hD, by rw [h2, ea, List.map_map]; rfl, fun q mq => ?_, ?_⟩
  · obtain ⟨z, _, e2, _, _, hz2⟩ := hq q mq
    rw [e2]
    exact hz2
  · unfold rowsL
    rw [← er, List.map_map]
    rfl
end
theorem par3_go {i j l : Nat} {t1 t2 t3 : TE} {D : Ends} {σ : L2.St} {H : Hp} {tz : TS} (h : t1 σ H fun x H1 => t2 σ H1 fun y H2 => t3 σ H2 fun z H3 => ∃ u v w, [x, y, z] = [u, v, w] ∧ tz D (((σ.set i (some u)).set j (some v)).set l (some w)) H3) :
    tSeq (tPar3 i j l (tCons t1 (tCons t2 (tCons t3 tNil)))) tz D σ H := h
theorem par_go {i j : Nat} {t1 t2 : TE} {D : Ends} {σ : L2.St} {H : Hp} {tz : TS} (h : t1 σ H fun x H1 => t2 σ H1 fun y H2 => ∃ u v, [x, y] = [u, v] ∧ tz D ((σ.set i (some u)).set j (some v)) H2) :
    tSeq (tPar i j (tCons t1 (tCons t2 tNil))) tz D σ H := h
theorem ne_nil_of {n w : Nat} {r : List Int} (h : GoodR n w r) (hw : 1 ≤ w) : r ≠ [] := fun e => by
  have l := h.1
  rw [e] at l
  simp at l
  omega
theorem filter_rows (p : List Int → Bool) (ls : List (Addr × List Int)) : (rowsL ls).filter p = rowsL (ls.filter fun z => p z.2) := by
  unfold rowsL
  rw [List.filter_map]
  rfl
section
variable {P : Program} {w : World} {K : PySem.W.Frag} {mg : Str → Option Value} {base : Heap} {f : Addr} {fd : FuncData}
/-! ### lowered -/
abbrev s_lowered : Stmt := topS 24
theorem sc_lowered : FnScope ["size", "row", "head", "column", "value", "other"] ["size", "row", "head", "column"] (defScope s_lowered) := ⟨rfl, rfl, rfl, by decide +kernel, rfl, by decide +kernel, by decide +kernel⟩
def sp_lowered : Sp := fun vs H Q _ => ∃ (n : Nat) (a b : Addr) (ra rb : List Int) (c : Nat), vs = [.int (n : Int), .ref a, .ref b, .int (c : Int)] ∧ 0 < n ∧ n ≤ 3 ∧ H a = some (.lst (ra.map V.int)) ∧ H b = some (.lst (rb.map V.int)) ∧ rb.length = ra.length ∧ ra.length ≤ 5 ∧ c < ra.length ∧ (∀ v ∈ ra, 0 ≤ v ∧ v < n) ∧ RetL ((lowr n ra rb c).map V.int) H Q
theorem ok_lowered (B : Bl mg) (F : Fun K "lowered" "lowered" s_lowered f fd) : FnOk P w K mg base CX0 1 f fd ["size", "row", "head", "column"] sp_lowered := by
  refine F.ok sc_lowered (fun vs H Q E h => ?_) (fun cdv A outer s H vs Q E hr h => ?_)
  · obtain ⟨n, a, b, ra, rb, c, rfl, _⟩ := h
    rfl
  · obtain ⟨n, a, b, ra, rb, c, rfl, hn, hn3, ha, hb, hl, h5, hc, hv, q⟩ := h
    refine ⟨_, (pss_one (ps_ret (pe_lc (own := [("value", 4), ("other", 5)]) (g := (gTup K 2 (gCons (gName 4) (gCons (gName 5) gNil)))) (tt := tYes) (by rfl) sc_lowered.nd (show PI _ _ _ (iZip K _) from pi_zip (by rfl) B.zip (pa_cons (pv 1) (pa_cons (pv 2) pa_nil))) (blkOk_by (own := [("value", 4), ("other", 5)]) (N := ["size", "row", "head", "column", "value", "other"]) (sc := defScope s_lowered) (by decide +kernel)) (fun _ _ _ _ _ => (show PG _ _ (gTup K 2 _) from pg_tup rfl (pgs_cons (pg_name (i := 4) sc_lowered.nd rfl (Or.inl rfl)) (pgs_cons (pg_name (i := 5) sc_lowered.nd rfl (Or.inl rfl)) pgs_nil)))) (fun _ _ _ _ _ => pts_nil) (fun _ _ _ _ _ => (pe_op op_mod (pe_op op_sub (pv 4) (pe_op op_mul (pe_ix (r := rIxL K) ix_list (pv 1) (pv 3) (fun _ _ => rfl)) (pv 5))) (pv 0)))))), ?_⟩
    obtain ⟨z1, z2⟩ := zip_map1 hl.symm
    have S : Src (iZip K (tCons (tVar 1) (tCons (tVar 2) tNil))) (start ["size", "row", "head", "column", "value", "other"] [.int (n : Int), .ref a, .ref b, .int (c : Int)]) H (ra.zip rb) (fun z x H => IsPr (.int z.1) (.int z.2) x H) :=
      src_zipL (R1 := fun vs _ => vs = [.ref a, .ref b]) (f1 := fun z : Int × Int => V.int z.1) (f2 := fun z : Int × Int => V.int z.2) (ar_of (ea_cons (ev_var rfl) (ea_cons (ev_var rfl) ea_nil))) fun vs H1 e1 r1 => ⟨a, b, r1, by rw [z1]; exact sq_of (e1 _ _ ha), by rw [z2]; exact sq_of (e1 _ _ hb)⟩
    refine s_retL (xs := (lowr n ra rb c).map V.int) ?_ fun p H1 hp e h1 => q p H1 hp e h1
    unfold lowr
    rw [zipWith_zip, List.map_map]
    refine el_lcP S (by rw [List.length_zip]; omega) _ (fun x y => rfl) fun z H2 mz e => ?_
    have cb := hv _ (getD_mem hc)
    exact ev_mod (ev_sub (ev_var rfl) (ev_mul (ev_ixL (ev_var rfl) (ev_var rfl) (sq_of (e _ _ ha)) (at_of (j := c) rfl (getD_at hc))) (ev_var rfl) (.inl ⟨by omega, by omega⟩))) (ev_var rfl) (by omega)
/-! ### reduced -/
abbrev s_reduced : Stmt := topS 23
theorem sc_reduced : FnScope ["size", "rows", "left", "found", "width", "column", "pivot", "head", "factor", "row", "value"] ["size", "rows"] (defScope s_reduced) := ⟨rfl, rfl, rfl, by decide +kernel, rfl, by decide +kernel, by decide +kernel⟩
/-- a new list of lists -/
def RetLL (rs : List (List Int)) (H : Hp) (Q : VK) : Prop := ∀ D ps H2, H D = none → Ex H H2 → H2 D = some (.lst (refs' ps)) → ILs H2 ps → rowsL ps = rs → Q (.ref D) H2
def sp_reduced : Sp := fun vs H Q _ => ∃ (n : Nat) (a : Addr) (w : Nat) (ps : List (Addr × List Int)), vs = [.int (n : Int), .ref a] ∧ 0 < n ∧ n ≤ 3 ∧ H a = some (.lst (refs' ps)) ∧ ILs H ps ∧ 1 ≤ w ∧ w ≤ 5 ∧ ps.length ≤ 1000 ∧ (∀ r ∈ rowsL ps, GoodR n w r) ∧ RetLL (red n (rowsL ps) (if rowsL ps = [] then 0 else w)) H Q
theorem ok_reduced (B : Bl mg) (C_lowered : Cal P w K mg base 1 "lowered" ["size", "row", "head", "column"] sp_lowered) (F : Fun K "reduced" "reduced" s_reduced f fd) : FnOk P w K mg base CX0 2 f fd ["size", "rows"] sp_reduced := by
  refine F.ok sc_reduced (fun vs H Q E h => ?_) (fun cdv A outer s H vs Q E hr h => ?_)
  · obtain ⟨n, a, w, ps, rfl, _⟩ := h
    rfl
  · obtain ⟨n, a, w, ps, rfl, hn, hn3, ha, hps, hw1, hw5, hlen, hg, q⟩ := h
    refine ⟨_, (pss_cons (ps_par3 (i := 2) (j := 3) (l := 4) (by rfl) sc_reduced.nd rfl rfl rfl (by decide) (by decide) (by decide) rfl rfl rfl (pa_cons (pe_lc (own := [("row", 9)]) (g := (gName 9)) (tt := tYes) (by rfl) sc_reduced.nd (show PI _ _ _ (iList K _) from pi_list (pv 1)) (blkOk_by (own := [("row", 9)]) (N := ["size", "rows", "left", "found", "width", "column", "pivot", "head", "factor", "row", "value"]) (sc := defScope s_reduced) (by decide +kernel)) (fun _ _ _ _ _ => (pg_name (i := 9) sc_reduced.nd rfl (Or.inl rfl))) (fun _ _ _ _ _ => pts_nil) (fun _ _ _ _ _ => (pe_callTy (r := rListS K) call_list_of (by rfl) B.list PyProof.Rows.boot_list (pa_cons (pv 9) pa_nil)))) (pa_cons (pe_lst pa_nil) (pa_cons (pe_ifExp (pt_cmpR (r := rNeD K) (op_neD hr.units) (pv 1) (pe_lst pa_nil) (nomark _)) (pe_callB (r := rLenS2 K) call_len_seq (by rfl) B.len PySem.boot_len (pa_cons (pe_ix (r := rIxL K) ix_list (pv 1) pe_int (fun _ _ => rfl)) pa_nil)) pe_int) pa_nil))) (by rfl))
      (pss_cons (ps_for PassesOwn.never rfl (pi_range1 (by rfl) B.range (pa_cons (pv 4) pa_nil)) (pg_name (i := 5) sc_reduced.nd rfl (Or.inr rfl)) (pss_cons (ps_setLc (i := 6) (own := [("row", 9)]) (g := (gName 9)) (by rfl) sc_reduced.nd rfl rfl (sw_true rfl rfl rfl (by decide +kernel)) (show PI _ _ _ (iList K _) from pi_list (pv 2)) (blkOk_by (own := [("row", 9)]) (N := ["size", "rows", "left", "found", "width", "column", "pivot", "head", "factor", "row", "value"]) (sc := defScope s_reduced) (by decide +kernel)) (fun _ _ _ _ _ => (pg_name (i := 9) sc_reduced.nd rfl (Or.inl rfl))) (fun _ _ _ _ _ => pts_one (pt_cmpR op_ne (pe_ix (r := rIxL K) ix_list (pv 9) (pv 5) (fun _ _ => rfl)) pe_int (nomark _))) (fun _ _ _ _ _ => (pv 9)))
      (pss_one (ps_if (pt_cmpR (r := rNeD K) (op_neD hr.units) (pv 6) (pe_lst pa_nil) (nomark _)) (pss_cons (ps_set (i := 7) sc_reduced.nd rfl (Or.inr rfl) (pe_ix (r := rIxL K) ix_list (pv 6) pe_int (fun _ _ => rfl)))
      (pss_cons (ps_expr (pe_bm PySem.F.plainAttrs_list PySem.F.slot_list_remove PySem.F.type_list_remove (mt_removeD (hu_of65 hr)) (pv 2) (pa_cons (pv 7) pa_nil)))
      (pss_cons (ps_set (i := 8) sc_reduced.nd rfl (Or.inr rfl) (pe_ix (r := rIxL K) ix_list (pv 7) (pv 5) (fun _ _ => rfl)))
      (pss_cons (ps_set (i := 7) sc_reduced.nd rfl (Or.inr rfl) (pe_lc (own := [("value", 10)]) (g := (gName 10)) (tt := tYes) (by rfl) sc_reduced.nd (show PI _ _ _ (iList K _) from pi_list (pv 7)) (blkOk_by (own := [("value", 10)]) (N := ["size", "rows", "left", "found", "width", "column", "pivot", "head", "factor", "row", "value"]) (sc := defScope s_reduced) (by decide +kernel)) (fun _ _ _ _ _ => (pg_name (i := 10) sc_reduced.nd rfl (Or.inl rfl))) (fun _ _ _ _ _ => pts_nil) (fun _ _ _ _ _ => (pe_op op_mod (pe_op op_mul (pv 10) (pv 8)) (pv 0)))))
      (pss_cons (ps_setLc (i := 2) (own := [("row", 9)]) (g := (gName 9)) (tt := tYes) (by rfl) sc_reduced.nd rfl rfl (sw_true rfl rfl rfl (by decide +kernel)) (show PI _ _ _ (iList K _) from pi_list (pv 2)) (blkOk_by (own := [("row", 9)]) (N := ["size", "rows", "left", "found", "width", "column", "pivot", "head", "factor", "row", "value"]) (sc := defScope s_reduced) (by decide +kernel)) (fun _ _ _ _ _ => (pg_name (i := 9) sc_reduced.nd rfl (Or.inl rfl))) (fun _ _ _ _ _ => pts_nil) (fun _ _ _ _ _ => (pe_cal C_lowered hr (by decide) (pa_cons (pv 0) (pa_cons (pv 9) (pa_cons (pv 7) (pa_cons (pv 5) pa_nil)))))))
      (pss_cons (ps_setLc (i := 3) (own := [("row", 9)]) (g := (gName 9)) (tt := tYes) (by rfl) sc_reduced.nd rfl rfl (sw_true rfl rfl rfl (by decide +kernel)) (show PI _ _ _ (iList K _) from pi_list (pv 3)) (blkOk_by (own := [("row", 9)]) (N := ["size", "rows", "left", "found", "width", "column", "pivot", "head", "factor", "row", "value"]) (sc := defScope s_reduced) (by decide +kernel)) (fun _ _ _ _ _ => (pg_name (i := 9) sc_reduced.nd rfl (Or.inl rfl))) (fun _ _ _ _ _ => pts_nil) (fun _ _ _ _ _ => (pe_cal C_lowered hr (by decide) (pa_cons (pv 0) (pa_cons (pv 9) (pa_cons (pv 7) (pa_cons (pv 5) pa_nil)))))))
      (pss_one (ps_expr (pe_bm PySem.F.plainAttrs_list PySem.F.slot_list_append PySem.F.type_list_append mt_append (pv 3) (pa_cons (pv 7) pa_nil)))))))))) pss_nil))))
      (pss_one (ps_ret (pv 3))))), ?_⟩
    have neL : ∀ {qs : List (Addr × List Int)}, (∀ r ∈ rowsL qs, GoodR n w r) → ∀ p ∈ qs, p.2 ≠ [] := fun h p mp => ne_nil_of (h _ (List.mem_map.mpr ⟨p, mp, rfl⟩)) hw1
    -- left, found, width
    have RW : EvR (tLc (iList K (tVar 1)) (gName 9) tYes (tCB (rListS K) (tCons (tVar 9) tNil)) [9]) (start ["size", "rows", "left", "found", "width", "column", "pivot", "head", "factor", "row", "value"] [.int (n : Int), .ref a]) H (NewLL H ((rowsL ps).map fun r => r)) :=
      er_rows (ev_var rfl) ha (by omega) (fun x => rfl) (fun p H2 mp e => el_list (K := K) (ev_var rfl) (sq_of (e _ _ (hps p mp))))
    refine par3_go (RW H (Ex.refl _) _ fun v H1 e1 r1 => ?_)
    obtain ⟨L0, ls0, rfl, hL0, l0, il0, rw0⟩ := r1
    rw [List.map_id'] at rw0
    refine el_lst (vs := []) ea_nil (by decide) H1 (Ex.refl _) _ fun F0 H2 hF0 e2 f0 => ?_
    have E2 := e1.trans e2
    have wv : Ev (tIf (tTest (tOp (rNeD K) (tVar 1) (tLst tNil))) (tCB (rLenS2 K) (tCons (tOp (rIxL K) (tVar 1) (tC (.int 0))) tNil)) (tC (.int 0))) (start ["size", "rows", "left", "found", "width", "column", "pivot", "head", "factor", "row", "value"] [.int (n : Int), .ref a]) H2 (.int (((if rowsL ps = [] then 0 else w) : Nat) : Int)) := by
      refine ev_if (b := !(rowsL ps).isEmpty) (et_test (ev_neNil (ev_var rfl) (E2 _ _ ha) (hps.ex E2))) (fun hb => ?_) (fun hb => ?_)
      · match ps, hb with
        | p :: ps', _ =>
          have lw : p.2.length = w := (hg p.2 (List.mem_map.mpr ⟨p, List.mem_cons_self, rfl⟩)).1
          refine ev_is (ev_lenL (K := K) (ev_ixL (v := .ref p.1) (ev_var rfl) ev_c (sq_of (E2 _ _ ha)) (at_of (j := 0) rfl rfl)) (sq_of (E2 _ _ (hps p List.mem_cons_self)))) ?_
          rw [List.length_map, lw]
          rfl
      · match ps, hb with
        | [], _ => exact ev_c
    refine wv H2 (Ex.refl _) _ fun H3 e3 => ⟨_, _, _, rfl, ?_⟩
    have E3 := E2.trans e3
    -- the columns
    refine q_forR1 (n := (((if rowsL ps = [] then 0 else w) : Nat) : Int)) (ea_cons (ev_var rfl) ea_nil) ⟨by split <;> omega, by split <;> omega⟩
      (fun i σ' H' => Ex H H' ∧ ∃ L F ls fs x5 x6 x7 x8, σ' = [some (.int (n : Int)), some (.ref a), some (.ref L), some (.ref F), some (.int (((if rowsL ps = [] then 0 else w) : Nat) : Int)), x5, x6, x7, x8, none, none] ∧ H L = none ∧ H F = none ∧ L ≠ F ∧
        H' L = some (.lst (refs' ls)) ∧ H' F = some (.lst (refs' fs)) ∧ ILs H' ls ∧ ILs H' fs ∧ (rowsL ls, rowsL fs) = (List.range i).foldl (redStep n) (rowsL ps, [])) (fun H4 e4 => ?_) (fun i σ' H' hi p => ?_) (fun σ' H' p => ?_)
    · exact ⟨E3.trans e4, L0, F0, ls0, [], none, none, none, none, rfl, hL0, fresh_back e1 hF0, (fun e => by rw [e, hF0] at l0; cases l0), (e3.trans e4) _ _ (e2 _ _ l0), (e3.trans e4) _ _ f0, il0.ex (e2.trans (e3.trans e4)), (fun _ h => nomatch h), by rw [rw0]; rfl⟩
    · obtain ⟨E', L, F, ls, fs, x5, x6, x7, x8, rfl, hL, hF, nLF, hl, hf, il, if', hst⟩ := p
      have hiw : i < w := by
        split at hi <;> omega
      have gs : GoodS n w (rowsL ls, rowsL fs) := by
        rw [hst]
        exact good_fold hn _ ⟨hg, fun _ z => nomatch z⟩
      have ln := len_fold n (rowsL ps) i
      rw [← hst] at ln
      have ll : ls.length ≤ 1000 := by
        have h1 := ln.1
        simp only [List.length_map] at h1
        omega
      have lf : fs.length ≤ 5 := by
        have h1 := ln.2
        simp only [List.length_map] at h1
        omega
      have nxt : (List.range (i + 1)).foldl (redStep n) (rowsL ps, []) = redStep n (rowsL ls, rowsL fs) i := by rw [red_snoc, ← hst]
      -- pivot
      have S : Src (iList K (tVar 2)) ([some (.int (n : Int)), some (.ref a), some (.ref L), some (.ref F), some (.int (((if rowsL ps = [] then 0 else w) : Nat) : Int)), x5, x6, x7, x8, none, none].set 5 (some (.int (i : Int)))) H' ls (fun z x _ => x = V.ref z.1) :=
        src_list (f := fun z : Addr × List Int => V.ref z.1) (R1 := fun v _ => v = .ref L) (Ev.r (ev_var rfl) fun _ _ => rfl) fun v H1 e r => ⟨L, r, sq_of (e _ _ hl)⟩
      have glen : ∀ p ∈ ls, p.2.length = w ∧ ∀ v ∈ p.2, 0 ≤ v ∧ v < n := fun p mp => gs.1 _ (List.mem_map.mpr ⟨p, mp, rfl⟩)
      have glenf : ∀ p ∈ fs, p.2.length = w ∧ ∀ v ∈ p.2, 0 ≤ v ∧ v < n := fun p mp => gs.2 _ (List.mem_map.mpr ⟨p, mp, rfl⟩)
      refine q_asgL (xs := refs' (ls.filter fun z => nzAt i z.2)) (el_lcN S (by omega) (fun z => nzAt i z.2) (fun z => V.ref z.1) (fun x => rfl) (fun z x H2 mz e hx => by
        subst hx
        exact et_test (ev_neI (ev_ixL (ev_var rfl) (ev_var rfl) (sq_of (e _ _ (il z mz))) (at_of (j := i) rfl (getD_at (by rw [(glen z mz).1]; exact hiw)))) ev_c)) (fun z x H2 mz e hx _ => by
        subst hx
        exact ev_var rfl)) fun Pv H4 hP e4 h4 => ?_
      refine s_when (et_test (ev_neNil (ps := ls.filter fun z => nzAt i z.2) (L := Pv) (ev_var rfl) h4 fun p mp => e4 _ _ (il p (List.mem_filter.mp mp).1))) (fun hb H5 e5 => ?_) (fun hb H5 e5 => ?_)
      · obtain ⟨h, tl, hfl⟩ : ∃ h tl, (ls.filter fun z => nzAt i z.2) = h :: tl := by
          cases hx : ls.filter fun z => nzAt i z.2 with
          | nil =>
            rw [hx] at hb
            cases hb
          | cons h tl => exact ⟨h, tl, rfl⟩
        rw [hfl] at h4
        · skip
          have mh : h ∈ ls := (List.mem_filter.mp (by rw [hfl]; exact List.mem_cons_self)).1
          have fr : (rowsL ls).filter (nzAt i) = h.2 :: rowsL tl := by
            rw [filter_rows, hfl]
            rfl
          have E45 := e4.trans e5
          -- head
          refine q_asg (v := .ref h.1) (ev_ixL (ev_var rfl) ev_c (sq_of (e5 _ _ h4)) (at_of (j := 0) rfl rfl)) fun H6 e6 => ?_
          have E6 := E45.trans e6
          refine q_remove (ps := ls) (h := h.2) (b := h.1) (L := L) (ev_var rfl) (ev_var rfl) (E6 _ _ hl) (il.ex E6) (E6 _ _ (il h mh)) (List.mem_map.mpr ⟨h, mh, rfl⟩) fun H7 qs e7 hq hsub => ?_
          have E7 := E6.trans e7
          have nl : ∀ p ∈ ls, p.1 ≠ L := ils_ne (il.ex E7) (neL gs.1) (E7 _ _ hl) refs_ref
          have nf : ∀ p ∈ fs, p.1 ≠ L := ils_ne (if'.ex E7) (neL gs.2) (E7 _ _ hl) refs_ref
          have Em : Ex H (upd H7 L (.lst (refs' qs))) := Ex.mut (E'.trans E7) hL
          have mL : (upd H7 L (.lst (refs' qs))) L = some (.lst (refs' qs)) := upd_same
          have mF : (upd H7 L (.lst (refs' qs))) F = some (.lst (refs' fs)) := by rw [upd_ne (Ne.symm nLF)]; exact E7 _ _ hf
          have mq : ILs (upd H7 L (.lst (refs' qs))) qs := fun p mp => by
            rw [upd_ne (nl p (hsub p mp))]
            exact E7 _ _ (il p (hsub p mp))
          have mf : ILs (upd H7 L (.lst (refs' qs))) fs := (if'.ex E7).upd nf
          have mhh : (upd H7 L (.lst (refs' qs))) h.1 = some (.lst (h.2.map V.int)) := by
            rw [upd_ne (nl h mh)]
            exact E7 _ _ (il h mh)
          generalize upd H7 L (.lst (refs' qs)) = Hm at Em mL mF mq mf mhh
          -- factor
          have gh := glen h mh
          refine q_asg (v := .int (h.2.getD i 0)) (ev_ixL (ev_var rfl) (ev_var rfl) (sq_of mhh) (at_of (j := i) rfl (getD_at (by rw [gh.1]; exact hiw)))) fun H8 e8 => ?_
          have fb := gh.2 _ (getD_mem (r := h.2) (c := i) (by rw [gh.1]; exact hiw))
          -- head
          have S2 : Src (iList K (tVar 7)) ((((([some (.int (n : Int)), some (.ref a), some (.ref L), some (.ref F), some (.int (((if rowsL ps = [] then 0 else w) : Nat) : Int)), x5, x6, x7, x8, none, none].set 5 (some (.int (i : Int)))).set 6 (some (.ref Pv))).set 7 (some (.ref h.1)))).set 8 (some (.int (h.2.getD i 0)))) H8 h.2 (fun z x _ => x = V.int z) :=
            src_list (f := V.int) (R1 := fun v _ => v = .ref h.1) (Ev.r (ev_var rfl) fun _ _ => rfl) fun v H1 e r => ⟨h.1, r, sq_of (e _ _ (e8 _ _ mhh))⟩
          refine q_asgL (xs := (h.2.map fun v => v * h.2.getD i 0 % (n : Int)).map V.int) (by
            rw [List.map_map]
            exact el_lcY S2 (by rw [gh.1]; omega) (fun z => V.int (z * h.2.getD i 0 % (n : Int))) (fun x => rfl) fun z x H2 mz e hx => by
              subst hx
              exact ev_mod (ev_mul (ev_var rfl) (ev_var rfl) (.inr ⟨by omega, by omega⟩)) (ev_var rfl) (by omega)) fun hd H9 hhd e9 h9 => ?_
          have E9 := e8.trans e9
          have lhd : (h.2.map fun v => v * h.2.getD i 0 % (n : Int)).length = w := by rw [List.length_map, gh.1]
          have ghd : GoodR n w (h.2.map fun v => v * h.2.getD i 0 % (n : Int)) := good_head hn gh.1 i
          generalize hhd' : (h.2.map fun v => v * h.2.getD i 0 % (n : Int)) = hdr at h9 lhd ghd
          -- left
          have lq : qs.length ≤ 1000 := by
            have e := congrArg List.length hq
            rw [List.length_map] at e
            rw [e]
            have h2 := List.length_erase_le (a := h.2) (l := rowsL ls)
            rw [List.length_map] at h2
            omega
          refine q_asgR (er_rows (K := K) (ps := qs) (a := L) (g := fun r => lowr n r hdr i) (ev_var rfl) (E9 _ _ mL) (by omega) (fun x => rfl) fun p H2 mp e => ?_) fun v H10 e10 r10 => ?_
          · have gp := glen p (hsub p mp)
            exact el_call (vs := [.int (n : Int), .ref p.1, .ref hd, .int (i : Int)]) (ea_cons (ev_var rfl) (ea_cons (ev_var rfl) (ea_cons (ev_var rfl) (ea_cons (ev_var rfl) ea_nil)))) fun H3 e3 Q q E => ⟨n, p.1, hd, p.2, hdr, i, rfl, hn, hn3, (e.trans e3) _ _ (E9 _ _ (mq p mp)), (e.trans e3) _ _ h9, by rw [gp.1, lhd], by rw [gp.1]; exact hw5, by rw [gp.1]; exact hiw, gp.2, q⟩
          obtain ⟨L', ls', rfl, hL', hl', il', rl'⟩ := r10
          have E10 := E9.trans e10
          -- found
          refine q_asgR (er_rows (K := K) (ps := fs) (a := F) (g := fun r => lowr n r hdr i) (ev_var rfl) (E10 _ _ mF) (by omega) (fun x => rfl) fun p H2 mp e => ?_) fun v H11 e11 r11 => ?_
          · have gp := glenf p mp
            exact el_call (vs := [.int (n : Int), .ref p.1, .ref hd, .int (i : Int)]) (ea_cons (ev_var rfl) (ea_cons (ev_var rfl) (ea_cons (ev_var rfl) (ea_cons (ev_var rfl) ea_nil)))) fun H3 e3 Q q E => ⟨n, p.1, hd, p.2, hdr, i, rfl, hn, hn3, (e.trans e3) _ _ (E10 _ _ (mf p mp)), (e.trans e3) _ _ (e10 _ _ h9), by rw [gp.1, lhd], by rw [gp.1]; exact hw5, by rw [gp.1]; exact hiw, gp.2, q⟩
          obtain ⟨F', fs', rfl, hF', hf', if2, rf'⟩ := r11
          have h9' := e11 _ _ (e10 _ _ h9)
          have nLF' : L' ≠ F' := fun e => by
            rw [e] at hl'
            rw [hl'] at hF'
            cases hF'
          -- append
          refine s_app (xs := refs' fs') (l := F') (v := .ref hd) hf' (ev_var rfl) (ev_var rfl) (by
            have e := congrArg List.length rf'
            simp only [List.length_map] at e
            rw [List.length_map, e]
            omega) fun H12 e12 => ?_
          have gl' : ∀ r ∈ rowsL ls', GoodR n w r := by
            rw [rl']
            intro r hr
            obtain ⟨z, hz, rfl⟩ := List.mem_map.mp hr
            rw [hq] at hz
            exact good_lowr hn (gs.1 z (List.mem_of_mem_erase hz)).1 lhd i
          have gf' : ∀ r ∈ rowsL fs', GoodR n w r := by
            rw [rf']
            intro r hr
            obtain ⟨z, hz, rfl⟩ := List.mem_map.mp hr
            exact good_lowr hn (gs.2 z hz).1 lhd i
          have E12 := E10.trans (e11.trans e12)
          have f12 := e12 _ _ hf'
          have il12 := il'.ex (e11.trans e12)
          have if12 := if2.ex e12
          have nhd : hd ≠ F' := ils_ne (ps := [(hd, hdr)]) (L := F') (fun p mp => by
            have e : p = (hd, hdr) := by simpa using mp
            rw [e]
            exact e12 _ _ h9') (fun p mp => by
            have e : p = (hd, hdr) := by simpa using mp
            rw [e]
            exact ne_nil_of ghd hw1) f12 refs_ref (hd, hdr) (by simp)
          refine ⟨Ex.mut (Em.trans E12) (fresh_back (Em.trans E10) hF'), L', F', ls', fs' ++ [(hd, hdr)], _, _, _, _, rfl, fresh_back (Em.trans E9) hL', fresh_back (Em.trans E10) hF', nLF', ?_, ?_, il12.upd (ils_ne il12 (neL gl') f12 refs_ref), fun p mp => ?_, ?_⟩
          · rw [upd_ne nLF']
            exact (e11.trans e12) _ _ hl'
          · rw [upd_same]
            simp
          · rcases List.mem_append.mp mp with mp | mp
            · exact if12.upd (ils_ne if12 (neL gf') f12 refs_ref) p mp
            · have e : p = (hd, hdr) := by simpa using mp
              rw [e, upd_ne nhd]
              exact e12 _ _ h9'
          · rw [nxt]
            unfold redStep
            simp only [fr]
            rw [hhd', ← hq, ← rl', ← rf']
            unfold rowsL
            rw [List.map_append]
            rfl
      · have fe : (rowsL ls).filter (nzAt i) = [] := by
          rw [filter_rows]
          cases hx : rowsL (ls.filter fun z => nzAt i z.2) with
          | nil => rfl
          | cons _ _ =>
            rw [hx] at hb
            cases hb
        have E45 := e4.trans e5
        refine ⟨E'.trans E45, L, F, ls, fs, _, _, _, _, rfl, hL, hF, nLF, E45 _ _ hl, E45 _ _ hf, il.ex E45, if'.ex E45, ?_⟩
        rw [nxt]
        unfold redStep
        simp only [fe]
    · obtain ⟨E', L, F, ls, fs, x5, x6, x7, x8, rfl, hL, hF, nLF, hl, hf, il, if', hst⟩ := p
      rw [Int.toNat_natCast] at hst
      refine s_ret (ev_var rfl) fun H4 e4 => q F fs H4 hF (E'.trans e4) (e4 _ _ hf) (if'.ex e4) ?_
      unfold red
      rw [← hst]
end
end G651
/-! What the equations need: rows of tuples to rows of lists, places that are not 0, told rows. -/
namespace G651
open PySem PySem.Spec PyProof.Rows L2 Evl
section
variable {K : PySem.W.Frag} {σ : L2.St} {H : Hp} {tl te ta tb : TE}
/-- a comprehension over a tuple of rows, its items new lists -/
theorem er_rowsT {ps : List (Addr × List Int)} {t : Addr} {vs : List Nat} {j : Nat} {g : List Int → List Int} (h : Ev tl σ H (.ref t)) (ht : H t = some (.tup (refs ps))) (hz : ps.length ≤ 40000) (hw : ∀ x, wipe ((wipe σ vs).set j (some x)) vs = wipe σ vs)
    (he : ∀ p H2, p ∈ ps → Ex H H2 → EvL te ((wipe σ vs).set j (some (.ref p.1))) H2 ((g p.2).map V.int)) : EvR (tLc (iTup K tl) (gName j) tYes te vs) σ H (NewLL H ((rowsOf ps).map g)) := by
  have S : Src (iTup K tl) σ H ps (fun z x _ => x = V.ref z.1) := src_tup (f := fun z : Addr × List Int => V.ref z.1) (R1 := fun v _ => v = .ref t) (Ev.r h fun _ _ => rfl) fun v H1 e r => ⟨t, r, st_of (e _ _ ht)⟩
  refine er_lcLY S hz (fun z => (g z.2).map V.int) hw (fun z x H2 mz e hx => by rw [hx]; exact he z H2 mz e) fun D as H2 hD e h2 pr => ?_
  obtain ⟨qs, ea, er, hq⟩ := prd_zip (fun z : Addr × List Int => g z.2) pr
  refine ⟨D, qs, rfl, hD, by rw [h2, ea, List.map_map]; rfl, fun q mq => ?_, ?_⟩
  · obtain ⟨z, _, e2, _, _, hz2⟩ := hq q mq
    rw [e2]
    exact hz2
  · unfold rowsL
    rw [← er, List.map_map]
    rfl
theorem el_rep0 {m : Nat} (hb : Ev tb σ H (.int (m : Int))) (hm : m ≤ 100) : EvL (tOp rRep (tLst (tCons (tC (.int 0)) tNil)) tb) σ H (List.replicate m (V.int 0)) := fun H1 e Q q =>
  (el_lst (σ := σ) (H := H) (vs := [.int 0]) (ea_cons ev_c ea_nil) (by decide)) H1 e _ fun p H2 hp e2 h2 => hb H2 (e.trans e2) _ fun H3 e3 => by
    refine ⟨p, (m : Int), [.int 0], rfl, rfl, e3 _ _ h2, by omega, by omega, ?_, fun l hl => ?_⟩
    · rw [Int.toNat_natCast]
      show 1 * m ≤ sizeLine
      have := sizeLine_eq
      omega
    · rw [Int.toNat_natCast, List.flatten_replicate_singleton]
      exact q l _ (fresh_back (e2.trans e3) hl) ((e2.trans e3).trans (Ex.new hl)) upd_same
theorem el_cat {a : Addr} {xs ys : List V} (ha : Ev ta σ H (.ref a)) (hA : H a = some (.lst xs)) (hb : EvL tb σ H ys) (hz : xs.length + ys.length ≤ 100000) : EvL (tOp rCat ta tb) σ H (xs ++ ys) := fun H1 e Q q =>
  ha H1 e _ fun H2 e2 => hb H2 (e.trans e2) _ fun p H3 hp e3 h3 => ⟨a, p, xs, ys, rfl, rfl, ((e.trans e2).trans e3) _ _ hA, h3, sz_of hz, fun l hl => q l _ (fresh_back (e2.trans e3) hl) ((e2.trans e3).trans (Ex.new hl)) upd_same⟩
end
/-! ### places that are not 0 -/
def nzV (z : V × Nat) : Bool := match z.1 with
  | .int v => !decide (v = 0)
  | _ => false
theorem enum_nz : ∀ (r : List Int) (k : Nat), (((r.map V.int).zipIdx k).filter nzV).map (fun z => V.int ((z.2 : Nat) : Int)) = ((List.range r.length).filter fun i => nzAt i r).map fun i => V.int (((k + i : Nat)) : Int)
  | [], k => rfl
  | a :: r, k => by
    have ih := enum_nz r (k + 1)
    rw [List.map_cons, List.zipIdx_cons, List.length_cons, List.range_succ_eq_map, List.filter_cons, List.filter_cons, List.filter_map]
    have e1 : nzV (V.int a, k) = nzAt 0 (a :: r) := rfl
    have e2 : ((fun i => nzAt i (a :: r)) ∘ Nat.succ) = fun i => nzAt i r := by
      funext i
      rfl
    rw [e1, e2]
    have e3 : ((List.range r.length).filter fun i => nzAt i r).map (fun i => V.int (((k + 1 + i : Nat)) : Int)) = (((List.range r.length).filter fun i => nzAt i r).map Nat.succ).map fun i => V.int (((k + i : Nat)) : Int) := by
      rw [List.map_map]
      apply List.map_congr_left
      intro i _
      show V.int _ = V.int _
      rw [show k + 1 + i = k + Nat.succ i by omega]
    rw [e3] at ih
    cases nzAt 0 (a :: r) with
    | true =>
      simp only [if_true]
      rw [List.map_cons, List.map_cons, ih]
      rfl
    | false =>
      simp only [Bool.false_eq_true, if_false]
      exact ih
theorem nzs_lt {r : List Int} {i : Nat} (h : i ∈ nzs r) : i < r.length := by
  unfold nzs at h
  exact List.mem_range.mp (List.mem_filter.mp h).1
theorem headD_mem {l : List Nat} (h : l ≠ []) : l.headD 0 ∈ l := by
  cases l with
  | nil => exact absurd rfl h
  | cons a r => exact List.mem_cons_self
/-! ### told rows keep their length, and their entries -/
theorem good_set {n w : Nat} {r : List Int} (h : GoodR n w r) {v : Int} (hv : 0 ≤ v ∧ v < n) (i : Nat) : GoodR n w (r.set i v) :=
  ⟨by rw [List.length_set]; exact h.1, fun x hx => (List.mem_or_eq_of_mem_set hx).elim (h.2 x) fun e => e ▸ hv⟩
def tFold (n : Int) (p : Nat) (t : List Int) (l : List (List Int × Nat)) : List Int := l.foldl (fun t bh => t.set bh.2 (-(bh.1.getD p 0) % n)) t
theorem good_tFold {n w p : Nat} (hn : 0 < n) : ∀ (l : List (List Int × Nat)) {t : List Int}, GoodR n w t → GoodR n w (tFold n p t l)
  | [], _, h => h
  | _ :: l, _, h => good_tFold hn l (good_set h (mod_in hn _) _)
theorem tFold_snoc (n : Int) (p : Nat) (t : List Int) (l : List (List Int × Nat)) (x : List Int × Nat) : tFold n p t (l ++ [x]) = (tFold n p t l).set x.2 (-(x.1.getD p 0) % n) := by
  unfold tFold
  rw [List.foldl_append]
  rfl
theorem good_rep {n w : Nat} (hn : 0 < n) : GoodR n w (List.replicate w 0) := ⟨List.length_replicate, fun v hv => by
  rw [(List.mem_replicate.mp hv).2]
  omega⟩
theorem good_eqn {n w : Nat} (hn : 0 < n) {t : List Int} (h : GoodR n w t) (f : List Int) : GoodR n (w + 1) (eqn n f t) := by
  unfold eqn
  refine ⟨by rw [List.length_append, h.1]; rfl, fun v hv => ?_⟩
  rcases List.mem_append.mp hv with hv | hv
  · exact h.2 v hv
  · have e : v = (List.zipWith (fun a b => a * b) t f).sum % (n : Int) := by simpa using hv
    rw [e]
    exact mod_in hn _
end G651
/-! The equations. -/
namespace G651
open PySem PySem.Spec PyProof.Rows L2 Evl
open StX (tStar pa_star)
/-- for a, b in zip(l, l2): two lists of one length -/
theorem q_forZ {K : PySem.W.Frag} {ta : TA} {g : TG} {tu tz : TS} {D : Ends} {σ : L2.St} {H : Hp} {a b : Addr} {xs ys : List V} (h : EvA ta σ H [.ref a, .ref b]) (hx : SqL K H a xs) (hy : SqL K H b ys) (hl : xs.length = ys.length) (Pv : Nat → L2.St → Hp → Prop) (h0 : ∀ H1, Ex H H1 → Pv 0 σ H1)
    (hq : ∀ i σ H, Pv i σ H → SqL K H a xs ∧ SqL K H b ys) (hs : ∀ (i : Nat) (x y : V) (T : Addr) (σ : L2.St) (H : Hp), xs[i]? = some x → ys[i]? = some y → Pv i σ H → H T = none → g (.ref T) σ (upd H T (.tup [x, y])) fun σ2 H2 => tu { D with nx := Pv (i + 1), ct := Pv (i + 1), bk := tz D } σ2 H2)
    (hd : ∀ σ H, Pv xs.length σ H → tz D σ H) : tSeq (tFor (iZip K ta) g tu) tz D σ H :=
  h H (Ex.refl _) _ fun H1 e => ⟨a, b, xs, ys, rfl, ex_l e hx, ex_l e hy, RZ.for_zipL (D := { D with nx := tz D }) hl Pv (h0 H1 e) hq hs hd⟩
section
variable {P : Program} {w : World} {K : PySem.W.Frag} {mg : Str → Option Value} {base : Heap} {f : Addr} {fd : FuncData}
/-! ### equations_in -/
abbrev s_equations_in : Stmt := topS 25
theorem sc_equations_in : FnScope ["size", "relation", "first", "steps", "basis", "heads", "found", "place", "told", "row", "head", "value", "other", "at", "factor"] ["size", "relation"] (defScope s_equations_in) := ⟨rfl, rfl, rfl, by decide +kernel, rfl, by decide +kernel, by decide +kernel⟩
def sp_equations_in : Sp := fun vs H Q _ => ∃ (n ar : Nat) (r t : Addr) (ps : List (Addr × List Int)), vs = [.int (n : Int), .ref r] ∧ RelAt H r t ar ps ∧ Val n ar (rowsOf ps) ∧ rowsOf ps ≠ [] ∧ okBasis n ar (rowsOf ps) = true ∧ RetLL (eqs n ar (rowsOf ps)) H Q
theorem ok_equations_in (B : Bl mg) (C_reduced : Cal P w K mg base 2 "reduced" ["size", "rows"] sp_reduced) (F : Fun K "equations_in" "equations_in" s_equations_in f fd) : FnOk P w K mg base CX0 3 f fd ["size", "relation"] sp_equations_in := by
  refine F.ok sc_equations_in (fun vs H Q E h => ?_) (fun cdv A outer s H vs Q E hr h => ?_)
  · obtain ⟨n, ar, r, t, ps, rfl, _⟩ := h
    rfl
  · obtain ⟨n, ar, r, t, ps, rfl, hrel, hv, hne, hob, q⟩ := h
    refine ⟨_, (pss_cons (ps_set (i := 2) sc_equations_in.nd rfl (Or.inr rfl) (pe_ix (r := rIxT K) ix_tup (pe_ix (r := rIxT K) ix_tup (pv 1) pe_int (fun _ _ => rfl)) pe_int (fun _ _ => rfl)))
      (pss_cons (ps_setLc (i := 3) (own := [("row", 9)]) (g := (gName 9)) (tt := tYes) (by rfl) sc_equations_in.nd rfl rfl (sw_true rfl rfl rfl (by decide +kernel)) (show PI _ _ _ (iTup K _) from pi_tup (pe_ix (r := rIxT K) ix_tup (pv 1) pe_int (fun _ _ => rfl))) (blkOk_by (own := [("row", 9)]) (N := ["size", "relation", "first", "steps", "basis", "heads", "found", "place", "told", "row", "head", "value", "other", "at", "factor"]) (sc := defScope s_equations_in) (by decide +kernel)) (fun _ _ _ _ _ => (pg_name (i := 9) sc_equations_in.nd rfl (Or.inl rfl))) (fun _ _ _ _ _ => pts_nil) (fun _ _ _ _ _ => (pe_lc (own := [("value", 11), ("other", 12)]) (g := (gTup K 2 (gCons (gName 11) (gCons (gName 12) gNil)))) (tt := tYes) (by rfl) sc_equations_in.nd (show PI _ _ _ (RZ.iZipA K _) from RZ.pi_zipA (by rfl) B.zip (pa_cons (pv 9) (pa_cons (pv 2) pa_nil))) (blkOk_by (own := [("value", 11), ("other", 12)]) (N := ["size", "relation", "first", "steps", "basis", "heads", "found", "place", "told", "row", "head", "value", "other", "at", "factor"]) (sc := relS _ (defScope s_equations_in)) (by decide +kernel)) (fun _ _ _ _ _ => (show PG _ _ (gTup K 2 _) from pg_tup rfl (pgs_cons (pg_name (i := 11) sc_equations_in.nd rfl (Or.inl rfl)) (pgs_cons (pg_name (i := 12) sc_equations_in.nd rfl (Or.inl rfl)) pgs_nil)))) (fun _ _ _ _ _ => pts_nil) (fun _ _ _ _ _ => (pe_op op_mod (pe_op op_sub (pv 11) (pv 12)) (pv 0))))))
      (pss_cons (ps_set (i := 4) sc_equations_in.nd rfl (Or.inl rfl) (pe_cal C_reduced hr (by decide) (pa_cons (pv 0) (pa_cons (pv 3) pa_nil))))
      (pss_cons (ps_setLc (i := 5) (own := [("row", 9)]) (g := (gName 9)) (tt := tYes) (by rfl) sc_equations_in.nd rfl rfl (sw_true rfl rfl rfl (by decide +kernel)) (show PI _ _ _ (iList K _) from pi_list (pv 4)) (blkOk_by (own := [("row", 9)]) (N := ["size", "relation", "first", "steps", "basis", "heads", "found", "place", "told", "row", "head", "value", "other", "at", "factor"]) (sc := defScope s_equations_in) (by decide +kernel)) (fun _ _ _ _ _ => (pg_name (i := 9) sc_equations_in.nd rfl (Or.inl rfl))) (fun _ _ _ _ _ => pts_nil) (fun _ _ _ _ _ => (pe_ix (r := rIxL K) ix_list (pe_lc (own := [("at", 13), ("value", 11)]) (g := (gTup K 2 (gCons (gName 13) (gCons (gName 11) gNil)))) (by rfl) sc_equations_in.nd (show PI _ _ _ (iEnum K _) from pi_enum (by rfl) B.enum (pa_cons (pv 9) pa_nil)) (blkOk_by (own := [("at", 13), ("value", 11)]) (N := ["size", "relation", "first", "steps", "basis", "heads", "found", "place", "told", "row", "head", "value", "other", "at", "factor"]) (sc := relS _ (defScope s_equations_in)) (by decide +kernel)) (fun _ _ _ _ _ => (show PG _ _ (gTup K 2 _) from pg_tup rfl (pgs_cons (pg_name (i := 13) sc_equations_in.nd rfl (Or.inl rfl)) (pgs_cons (pg_name (i := 11) sc_equations_in.nd rfl (Or.inl rfl)) pgs_nil)))) (fun _ _ _ _ _ => pts_one (pt_cmpR op_ne (pv 11) pe_int (nomark _))) (fun _ _ _ _ _ => (pv 13))) pe_int (fun _ _ => rfl))))
      (pss_cons (ps_set (i := 6) sc_equations_in.nd rfl (Or.inl rfl) (pe_lst pa_nil))
      (pss_cons (ps_for PassesOwn.never rfl (pi_range1 (by rfl) B.range (pa_cons (pe_ix (r := rIxT K) ix_tup (pv 1) pe_int (fun _ _ => rfl)) pa_nil)) (pg_name (i := 7) sc_equations_in.nd rfl (Or.inl rfl)) (pss_one (ps_if (pt_cmpR (r := rIn K true) op_notIn_seq (pv 7) (pv 5) (by rfl)) (pss_cons (ps_set (i := 8) sc_equations_in.nd rfl (Or.inl rfl) (pe_op op_rep (pe_lst (pa_cons pe_int pa_nil)) (pe_ix (r := rIxT K) ix_tup (pv 1) pe_int (fun _ _ => rfl))))
      (pss_cons (ps_asg pe_int (pg_sub (pv 8) (pv 7) set_list))
      (pss_cons (ps_for PassesOwn.never rfl (show PI _ _ _ (iZip K _) from pi_zip (by rfl) B.zip (pa_cons (pv 4) (pa_cons (pv 5) pa_nil))) (show PG _ _ (gTup K 2 _) from pg_tup rfl (pgs_cons (pg_name (i := 9) sc_equations_in.nd rfl (Or.inl rfl)) (pgs_cons (pg_name (i := 10) sc_equations_in.nd rfl (Or.inl rfl)) pgs_nil))) (pss_one (ps_asg (pe_op op_mod (pe_un un_neg (pe_ix (r := rIxL K) ix_list (pv 9) (pv 7) (fun _ _ => rfl))) (pv 0)) (pg_sub (pv 8) (pv 10) set_list))))
      (pss_one (ps_expr (pe_bm PySem.F.plainAttrs_list PySem.F.slot_list_append PySem.F.type_list_append mt_append (pv 6) (pa_cons (pe_op op_cat (pv 8) (pe_lst (pa_cons (pe_op op_mod (pe_callB (r := rSum K) (cr_sum rfl) (by rfl) B.sum PyProof.Rows.boot_sum (pa_cons (pe_lc (own := [("factor", 14), ("value", 11)]) (g := (gTup K 2 (gCons (gName 14) (gCons (gName 11) gNil)))) (tt := tYes) (by rfl) sc_equations_in.nd (show PI _ _ _ (iZipLT K _) from pi_zipLT (by rfl) B.zip (pa_cons (pv 8) (pa_cons (pv 2) pa_nil))) (blkOk_by (own := [("factor", 14), ("value", 11)]) (N := ["size", "relation", "first", "steps", "basis", "heads", "found", "place", "told", "row", "head", "value", "other", "at", "factor"]) (sc := defScope s_equations_in) (by decide +kernel)) (fun _ _ _ _ _ => (show PG _ _ (gTup K 2 _) from pg_tup rfl (pgs_cons (pg_name (i := 14) sc_equations_in.nd rfl (Or.inl rfl)) (pgs_cons (pg_name (i := 11) sc_equations_in.nd rfl (Or.inl rfl)) pgs_nil)))) (fun _ _ _ _ _ => pts_nil) (fun _ _ _ _ _ => (pe_op op_mul (pv 14) (pv 11)))) pa_nil)) (pv 0)) pa_nil))) pa_nil))))))) pss_nil)))
      (pss_one (ps_ret (pe_cal C_reduced hr (by decide) (pa_cons (pv 0) (pa_cons (pv 6) pa_nil))))))))))), ?_⟩
    obtain ⟨h1, h2, h3⟩ := id hrel
    have hn : 0 < n := by rcases hv.hn with rfl | rfl <;> decide
    have hn1 : 1 < n := by rcases hv.hn with rfl | rfl <;> decide
    have hn3 : n ≤ 3 := by rcases hv.hn with rfl | rfl <;> decide
    have a1 := hv.h1
    have a4 := hv.h4
    have lz : ps.length ≤ 81 := by
      have := hv.len
      rw [List.length_map] at this
      exact this
    obtain ⟨p0, pr, hp0⟩ : ∃ p0 pr, ps = p0 :: pr := by
      cases hps : ps with
      | nil => exact absurd (by rw [hps]; rfl) hne
      | cons a b => exact ⟨a, b, rfl⟩
    have m0 : p0 ∈ ps := by rw [hp0]; exact List.mem_cons_self
    have row : ∀ p ∈ ps, p.2.length = ar ∧ ∀ v ∈ p.2, 0 ≤ v ∧ v < n := fun p mp => mem_rows.mp (hv.mem _ (List.mem_map.mpr ⟨p, mp, rfl⟩))
    have hd0 : (rowsOf ps).headD [] = p0.2 := by rw [hp0]; rfl
    -- first
    refine q_asg (v := .ref p0.1) (ev_ixT (ev_ixT (ev_var rfl) ev_c (st_of h1) rfl) ev_c (st_of h2) (at_of (j := 0) rfl (by rw [hp0]; rfl))) fun H1 e1 => ?_
    -- steps
    refine q_asgR (er_rowsT (K := K) (ps := ps) (t := t) (g := fun row => List.zipWith (fun v o => (v - o) % (n : Int)) row p0.2) (ev_ixT (ev_var rfl) ev_c (st_of (e1 _ _ h1)) rfl) (e1 _ _ h2) (by omega) (fun x => rfl) fun p H2 mp e => ?_) fun v H2 e2 r2 => ?_
    · obtain ⟨z1, z2⟩ := zip_map1 (as := p.2) (bs := p0.2) (by rw [(row p mp).1, (row p0 m0).1])
      rw [zipWith_zip, List.map_map]
      refine el_lcP (K := K) (f1 := fun z : Int × Int => V.int z.1) (f2 := fun z : Int × Int => V.int z.2) (zs := p.2.zip p0.2) (src_zipT fun H3 e3 Q3 q3 => ?_) (by rw [List.length_zip, (row p mp).1]; omega) _ (fun x y => rfl) fun z H3 mz e3 => ?_
      · exact (ea_cons (ev_var rfl) (ea_cons (ev_var rfl) ea_nil)) H3 e3 _ fun H4 e4 => q3 H4 p.1 p0.1 e4 (by rw [z1]; exact st_of ((((e1.trans e).trans e3).trans e4) _ _ (h3 p mp))) (by rw [z2]; exact st_of ((((e1.trans e).trans e3).trans e4) _ _ (h3 p0 m0)))
      · exact ev_mod (ev_sub (ev_var rfl) (ev_var rfl)) (ev_var rfl) (by omega)
    obtain ⟨Sd, ss, rfl, hS, s2, is2, rs2⟩ := r2
    have E2 := e1.trans e2
    have esteps : rowsL ss = steps n (rowsOf ps) := by
      rw [rs2]
      unfold steps
      rw [hd0]
    have gsteps : ∀ r ∈ rowsL ss, GoodR n ar r := by
      rw [rs2]
      intro r hr
      obtain ⟨z, hz, rfl⟩ := List.mem_map.mp hr
      obtain ⟨p, mp, rfl⟩ := List.mem_map.mp hz
      refine ⟨by rw [List.length_zipWith, (row p mp).1, (row p0 m0).1, Nat.min_self], fun v hv => ?_⟩
      rw [zipWith_zip] at hv
      obtain ⟨z, _, rfl⟩ := List.mem_map.mp hv
      exact mod_in hn _
    have nsteps : rowsL ss ≠ [] := by
      rw [rs2, hp0]
      exact fun e => nomatch e
    -- basis
    refine q_asgR (R := NewLL H2 (basis n ar (rowsOf ps))) (er_call (vs := [.int (n : Int), .ref Sd]) (ea_cons (ev_var rfl) (ea_cons (ev_var rfl) ea_nil)) fun H3 e3 Q q E => ⟨n, Sd, ar, ss, rfl, hn, hn3, e3 _ _ s2, is2.ex e3, a1, by omega, by
        have e := congrArg List.length rs2
        rw [List.length_map, List.length_map, List.length_map] at e
        omega, gsteps, fun D bs H4 hD e4 d4 i4 r4 => q _ H4 e4 ⟨D, bs, rfl, fresh_back e3 hD, d4, i4, by
        rw [r4, esteps]
        unfold basis
        rw [if_neg (by rw [← esteps]; exact nsteps)]⟩⟩) fun v H3 e3 r3 => ?_
    obtain ⟨Bd, bs, rfl, hB, b3, ib3, rb3⟩ := r3
    have E3 := E2.trans e3
    have gb : ∀ r ∈ rowsL bs, GoodR n ar r := by
      rw [rb3]
      exact good_red hn (by rw [← esteps]; exact gsteps) ar
    have gbp : ∀ p ∈ bs, GoodR n ar p.2 := fun p mp => gb _ (List.mem_map.mpr ⟨p, mp, rfl⟩)
    have nb : ∀ p ∈ bs, nzs p.2 ≠ [] := fun p mp => by
      have h := List.all_eq_true.mp hob p.2 (by rw [← rb3]; exact List.mem_map.mpr ⟨p, mp, rfl⟩)
      intro z
      rw [z] at h
      cases h
    have lb : bs.length ≤ ar := by
      have l := (len_fold n (steps n (rowsOf ps)) ar).2
      have e := congrArg List.length rb3
      rw [List.length_map] at e
      rw [e]
      exact l
    have eh : (rowsL bs).map (fun r => (nzs r).headD 0) = heads n ar (rowsOf ps) := by
      rw [rb3]
      rfl
    have eh2 : (bs.map fun p => (nzs p.2).headD 0) = heads n ar (rowsOf ps) := by
      rw [← eh]
      unfold rowsL
      rw [List.map_map]
      rfl
    -- heads
    have Sb : Src (iList K (tVar 4)) (((((start ["size", "relation", "first", "steps", "basis", "heads", "found", "place", "told", "row", "head", "value", "other", "at", "factor"] [.int (n : Int), .ref r]).set 2 (some (.ref p0.1))).set 3 (some (.ref Sd))).set 4 (some (.ref Bd)))) H3 bs (fun z x _ => x = V.ref z.1) :=
      src_list (f := fun z : Addr × List Int => V.ref z.1) (R1 := fun v _ => v = .ref Bd) (Ev.r (ev_var rfl) fun _ _ => rfl) fun v H1 e r => ⟨Bd, r, sq_of (e _ _ b3)⟩
    refine q_asgL (xs := (heads n ar (rowsOf ps)).map fun i => V.int ((i : Nat) : Int)) (by
      rw [← eh2, List.map_map]
      refine el_lcY Sb (by omega) (fun p => V.int (((nzs p.2).headD 0 : Nat) : Int)) (fun x => rfl) fun p x H4 mp e hx => ?_
      subst hx
      have EL := el_lcPN (K := K) (te := tVar 13) (tt := tTest (tOp rNe (tVar 11) (tC (.int 0)))) (j := 13) (k := 11) (vs := [13, 11]) (H := H4) (f1 := fun z : V × Nat => V.int ((z.2 : Nat) : Int)) (f2 := fun z : V × Nat => z.1) (zs := (p.2.map V.int).zipIdx)
        (σ := (wipe (((((start ["size", "relation", "first", "steps", "basis", "heads", "found", "place", "told", "row", "head", "value", "other", "at", "factor"] [.int (n : Int), .ref r]).set 2 (some (.ref p0.1))).set 3 (some (.ref Sd))).set 4 (some (.ref Bd)))) [9]).set 9 (some (.ref p.1)))
        (wi := iEnum K (tCons (tVar 9) tNil)) (src_enum (R1 := fun vs _ => vs = [.ref p.1]) (ar_of (ea_cons (ev_var rfl) ea_nil)) fun vs H5 e5 r5 => ⟨p.1, r5, sq_of (e5 _ _ (e _ _ (ib3 p mp)))⟩) (by rw [List.length_zipIdx, List.length_map, (gbp p mp).1]; omega) nzV (fun z => V.int ((z.2 : Nat) : Int)) (fun x y => rfl)
        (fun z H5 mz e5 => by
          obtain ⟨v, hv'⟩ : ∃ v : Int, z.1 = V.int v := by
            have m1 := List.fst_mem_of_mem_zipIdx mz
            obtain ⟨v, _, e⟩ := List.mem_map.mp m1
            exact ⟨v, e.symm⟩
          obtain ⟨z1, z2⟩ := z
          dsimp only at hv'
          subst hv'
          exact et_test (ev_neI (ev_var rfl) ev_c)) (fun z H5 mz e5 _ => ev_var rfl)
      rw [enum_nz] at EL
      have n0 : nzs p.2 ≠ [] := nb p mp
      unfold nzs at n0
      refine ev_opL1 EL (fun H5 e5 => ev_c) fun q H5 h5 e5 => rv_ixL (sq_of h5) (at_of (j := 0) rfl ?_)
      unfold nzs
      cases hx : (List.range p.2.length).filter fun i => nzAt i p.2 with
      | nil => exact absurd hx n0
      | cons a l =>
        show some (V.int (((0 + a : Nat)) : Int)) = some (V.int ((a : Nat) : Int))
        rw [Nat.zero_add]) fun Hd H4 hHd e4 d4 => ?_
    have E4 := E3.trans e4
    have hlt : ∀ i ∈ heads n ar (rowsOf ps), i < ar := fun i hi => by
      rw [← eh2] at hi
      obtain ⟨p, mp, rfl⟩ := List.mem_map.mp hi
      have l := nzs_lt (headD_mem (nb p mp))
      rw [(gbp p mp).1] at l
      exact l
    -- found
    refine q_asgL (xs := []) (el_lst ea_nil (by decide)) fun Fd H5 hFd e5 f5 => ?_
    have E5 := E4.trans e5
    -- the places
    refine q_forR1 (n := (ar : Int)) (ea_cons (ev_ixT (ev_var rfl) ev_c (st_of (E5 _ _ h1)) rfl) ea_nil) ⟨by omega, by omega⟩
      (fun i σ' H' => Ex H4 H' ∧ ∃ fs x7 x8 x9 x10, σ' = [some (.int (n : Int)), some (.ref r), some (.ref p0.1), some (.ref Sd), some (.ref Bd), some (.ref Hd), some (.ref Fd), x7, x8, x9, x10, none, none, none, none] ∧ H' Fd = some (.lst (refs' fs)) ∧ ILs H' fs ∧
        (∀ p ∈ fs, GoodR n (ar + 1) p.2) ∧ fs.length ≤ i ∧ rowsL fs = ((List.range i).filter fun p => !((heads n ar (rowsOf ps)).contains p)).map fun p => eqn n p0.2 (toldOf n ar (basis n ar (rowsOf ps)) (heads n ar (rowsOf ps)) p)) (fun H6 e6 => ?_) (fun i σ' H' hi p => ?_) (fun σ' H' p => ?_)
    · exact ⟨e5.trans e6, [], none, none, none, none, rfl, e6 _ _ f5, (fun _ h => nomatch h), (fun _ h => nomatch h), Nat.le_refl _, rfl⟩
    · obtain ⟨E', fs, x7, x8, x9, x10, rfl, hf, ifs, gfs, lfs, rfs⟩ := p
      have ia : i < ar := by omega
      have EE := E4.trans E'
      have hFd4 : H4 Fd = none := hFd
      have inI : inV (V.int (i : Int)) ((heads n ar (rowsOf ps)).map fun i => V.int ((i : Nat) : Int)) = (heads n ar (rowsOf ps)).contains i := by
        generalize heads n ar (rowsOf ps) = l
        induction l with
        | nil => rfl
        | cons a l ih =>
          rw [List.map_cons, List.contains_cons, ← ih]
          show (eqV (V.int (a : Int)) (V.int (i : Int)) || _) = _
          congr 1
          show ((a : Int) == (i : Int)) = (i == a)
          by_cases ea : a = i
          · subst ea
            simp
          · have e1 : (i == a) = false := by simpa using fun e => ea e.symm
            rw [e1]
            exact beq_eq_false_iff_ne.mpr fun z => ea (by omega)
      refine s_when (b := !((heads n ar (rowsOf ps)).contains i)) (et_is (et_test (ev_op (ev_var rfl) (ev_var rfl) (rv_niL (K := K) (sq_of (E' _ _ d4)) rfl ?_))) (by rw [inI])) (fun hb H6 e6 => ?_) (fun hb H6 e6 => ?_)
      · rw [List.all_map]
        exact List.all_eq_true.mpr fun _ _ => rfl
      · -- told
        have E6 := E'.trans e6
        refine q_asgL (xs := List.replicate ar (V.int 0)) (el_rep0 (ev_ixT (ev_var rfl) ev_c (st_of ((E4.trans E6) _ _ h1)) rfl) (by omega)) fun Td H7 hT e7 t7 => ?_
        refine q_setL (j := i) t7 ev_c (ev_var rfl) (ev_var rfl) (by rw [List.length_replicate]; exact ia) fun H8 e8 => ?_
        have et0 : (List.replicate ar (V.int 0)).set i (V.int 1) = ((List.replicate ar (0 : Int)).set i 1).map V.int := by
          rw [List.map_set, List.map_replicate]
        rw [et0]
        have E8 := e7.trans e8
        have g0 : GoodR n ar ((List.replicate ar (0 : Int)).set i 1) := good_set (good_rep hn) ⟨by decide, by omega⟩ i
        -- the loop over basis and heads
        have Em : Ex H6 (upd H8 Td (.lst (((List.replicate ar (0 : Int)).set i 1).map V.int))) := Ex.mut E8 hT
        have mT : (upd H8 Td (.lst (((List.replicate ar (0 : Int)).set i 1).map V.int))) Td = some (.lst (((List.replicate ar (0 : Int)).set i 1).map V.int)) := upd_same
        generalize upd H8 Td (.lst (((List.replicate ar (0 : Int)).set i 1).map V.int)) = Hm at Em mT
        have bl : ∀ {H' : Hp}, Ex H6 H' → SqL K H' Bd (refs' bs) := fun e => sq_of ((e4.trans (E6.trans e)) _ _ b3)
        have hl : ∀ {H' : Hp}, Ex H6 H' → SqL K H' Hd ((heads n ar (rowsOf ps)).map fun i => V.int ((i : Nat) : Int)) := fun e => sq_of ((E6.trans e) _ _ d4)
        · have ll : (refs' bs).length = ((heads n ar (rowsOf ps)).map fun i => V.int ((i : Nat) : Int)).length := by
            rw [← eh2]
            simp
          refine q_forZ (K := K) (a := Bd) (b := Hd) (ea_cons (ev_var rfl) (ea_cons (ev_var rfl) ea_nil)) (bl Em) (hl Em) ll (fun j σ' H' => Ex H6 H' ∧ ∃ y9 y10, σ' = [some (.int (n : Int)), some (.ref r), some (.ref p0.1), some (.ref Sd), some (.ref Bd), some (.ref Hd), some (.ref Fd), some (.int (i : Int)), some (.ref Td), y9, y10, none, none, none, none] ∧
            H' Td = some (.lst ((tFold n i ((List.replicate ar (0 : Int)).set i 1) ((bs.map fun p => (p.2, (nzs p.2).headD 0)).take j)).map V.int))) (fun H10 e10 => ⟨Em.trans e10, _, _, rfl, e10 _ _ mT⟩) (fun j σ' H' p => ⟨bl p.1, hl p.1⟩) (fun j x y T σ' H' hx hy p hTn => ?_) (fun σ' H9 p => ?_)
          · obtain ⟨E9, y9, y10, rfl, hTd⟩ := p
            have jb : j < bs.length := by
              have l := (List.getElem?_eq_some_iff.mp hx).1
              rwa [List.length_map] at l
            have gj := List.getElem?_eq_getElem jb
            generalize bs[j] = b at gj
            have mb := List.mem_of_getElem? gj
            rw [List.getElem?_map, gj] at hx
            rw [← eh2, List.map_map, List.getElem?_map, gj] at hy
            have ex : x = V.ref b.1 := (Option.some.inj hx).symm
            have ey : y = V.int (((nzs b.2).headD 0 : Nat) : Int) := (Option.some.inj hy).symm
            subst ex
            subst ey
            refine ⟨T, [V.ref b.1, V.int (((nzs b.2).headD 0 : Nat) : Int)], rfl, .inl (.inl upd_same), rfl, _, _, rfl, _, _, rfl, rfl, ?_⟩
            have EN : Ex H6 (upd H' T (.tup [V.ref b.1, V.int (((nzs b.2).headD 0 : Nat) : Int)])) := E9.trans (Ex.new hTn)
            have nTd : (upd H' T (.tup [V.ref b.1, V.int (((nzs b.2).headD 0 : Nat) : Int)])) Td = some (.lst ((tFold n i ((List.replicate ar (0 : Int)).set i 1) ((bs.map fun p => (p.2, (nzs p.2).headD 0)).take j)).map V.int)) := by
              rw [upd_ne (ne_of_none hTd hTn)]
              exact hTd
            generalize upd H' T (.tup [V.ref b.1, V.int (((nzs b.2).headD 0 : Nat) : Int)]) = Hn at EN nTd
            have gt := good_tFold (p := i) hn ((bs.map fun p => (p.2, (nzs p.2).headD 0)).take j) g0
            have hb1 : Hn b.1 = some (.lst (b.2.map V.int)) := ((e4.trans (E6.trans EN)) _ _ (ib3 b mb))
            refine s_setL (j := (nzs b.2).headD 0) (v := .int (-(b.2.getD i 0) % (n : Int))) nTd (ev_mod (ev_un (ev_ixL (ev_var rfl) (ev_var rfl) (sq_of hb1) (at_of (j := i) rfl (getD_at (by rw [(gbp b mb).1]; exact ia)))) ru_neg) (ev_var rfl) (by omega)) (ev_var rfl) (ev_var rfl) ?_ fun H11 e11 => ?_
            · rw [List.length_map, gt.1]
              have l := nzs_lt (headD_mem (nb b mb))
              rwa [(gbp b mb).1] at l
            · refine ⟨Ex.mut (EN.trans e11) hT, _, _, rfl, ?_⟩
              rw [upd_same, take_more (x := (b.2, (nzs b.2).headD 0)) (by rw [List.getElem?_map, gj]; rfl), tFold_snoc, List.map_set]
          obtain ⟨E9, y9, y10, rfl, hTd0⟩ := p
          have hTd : H9 Td = some (.lst ((toldOf n ar (basis n ar (rowsOf ps)) (heads n ar (rowsOf ps)) i).map V.int)) := by
            rw [hTd0]
            have lbb : (refs' bs).length = (bs.map fun p => (p.2, (nzs p.2).headD 0)).length := by simp
            rw [lbb, List.take_length]
            have ez : (basis n ar (rowsOf ps)).zip (heads n ar (rowsOf ps)) = bs.map fun p => (p.2, (nzs p.2).headD 0) := by
              rw [← rb3, ← eh2]
              unfold rowsL
              rw [List.zip_map']
            unfold toldOf
            rw [ez]
            rfl
          have gtold : GoodR n ar (toldOf n ar (basis n ar (rowsOf ps)) (heads n ar (rowsOf ps)) i) := good_tFold (p := i) hn _ g0
          generalize htd : toldOf n ar (basis n ar (rowsOf ps)) (heads n ar (rowsOf ps)) i = td at hTd gtold
          have EA := (E4.trans E6).trans E9
          obtain ⟨z1, z2⟩ := zip_map1 (as := td) (bs := p0.2) (by rw [gtold.1, (row p0 m0).1])
          have SM : EvL (tLc (iZipLT K (tCons (tVar 8) (tCons (tVar 2) tNil))) (gTup K 2 (gCons (gName 14) (gCons (gName 11) gNil))) tYes (tOp (rI CMul fun i j => .int (i * j)) (tVar 14) (tVar 11)) [14, 11])
              [some (.int (n : Int)), some (.ref r), some (.ref p0.1), some (.ref Sd), some (.ref Bd), some (.ref Hd), some (.ref Fd), some (.int (i : Int)), some (.ref Td), y9, y10, none, none, none, none] H9 ((List.zipWith (fun a b => a * b) td p0.2).map V.int) := by
            rw [zipWith_zip, List.map_map]
            refine el_lcP (K := K) (f1 := fun z : Int × Int => V.int z.1) (f2 := fun z : Int × Int => V.int z.2) (zs := td.zip p0.2) (src_zipM fun H10 e10 Q3 q3 => ?_) (by rw [List.length_zip, gtold.1]; omega) _ (fun x y => rfl) fun z H10 mz e10 => ?_
            · exact (ea_cons (ev_var rfl) (ea_cons (ev_var rfl) ea_nil)) H10 e10 _ fun H11 e11 => q3 H11 Td p0.1 e11 (by rw [z1]; exact sq_of ((e10.trans e11) _ _ hTd)) (by rw [z2]; exact st_of (((EA.trans e10).trans e11) _ _ (h3 p0 m0)))
            · have b1 := gtold.2 _ (List.of_mem_zip (a := z.1) (b := z.2) mz).1
              exact ev_mul (ev_var rfl) (ev_var rfl) (.inl ⟨by omega, by omega⟩)
          have hf9 := (e6.trans E9) _ _ hf
          refine s_appL (xs := refs' fs) (l := Fd) (ys := (eqn n p0.2 td).map V.int) hf9 (ev_var rfl) ?_ (by rw [List.length_map]; omega) fun Ed H12 hEd e12 d12 => ?_
          · unfold eqn
            rw [List.map_append]
            exact el_cat (ev_var rfl) hTd (el_lst (vs := [.int ((List.zipWith (fun a b => a * b) td p0.2).sum % (n : Int))]) (ea_cons (ev_mod (ev_sum SM) (ev_var rfl) (by omega)) ea_nil) (show 1 ≤ 100000 by decide)) (by rw [List.length_map, gtold.1]; show ar + 1 ≤ 100000; omega)
          · have EX := (e6.trans E9).trans e12
            have f12 := EX _ _ hf
            have i12 := ifs.ex EX
            have nE : Ed ≠ Fd := fun z => by
              rw [z, hf9] at hEd
              cases hEd
            refine ⟨Ex.mut (E'.trans EX) hFd4, fs ++ [(Ed, eqn n p0.2 td)], _, _, _, _, rfl, ?_, fun q mq => ?_, fun q mq => ?_, by rw [List.length_append]; exact Nat.succ_le_succ lfs, ?_⟩
            · rw [upd_same]
              simp
            · rcases List.mem_append.mp mq with mq | mq
              · exact i12.upd (ils_ne i12 (fun q mq => ne_nil_of (gfs q mq) (by omega)) f12 refs_ref) q mq
              · have e : q = (Ed, eqn n p0.2 td) := by simpa using mq
                rw [e, upd_ne nE]
                exact d12
            · rcases List.mem_append.mp mq with mq | mq
              · exact gfs q mq
              · have e : q = (Ed, eqn n p0.2 td) := by simpa using mq
                rw [e]
                exact good_eqn hn gtold _
            · rw [List.range_succ, List.filter_append, List.filter_cons, hb, if_pos rfl, List.filter_nil, List.map_append, ← rfs, List.map_cons, List.map_nil, htd]
              unfold rowsL
              rw [List.map_append]
              rfl
      · refine ⟨E'.trans e6, fs, _, _, _, _, rfl, e6 _ _ hf, ifs.ex e6, gfs, Nat.le_succ_of_le lfs, ?_⟩
        rw [List.range_succ, List.filter_append, List.filter_cons, hb, if_neg (by decide), List.filter_nil, List.append_nil]
        exact rfs
    · obtain ⟨E', fs, x7, x8, x9, x10, rfl, hf, ifs, gfs, lfs, rfs⟩ := p
      rw [Int.toNat_natCast] at rfs lfs
      have efound : rowsL fs = found n ar (rowsOf ps) := by
        rw [rfs]
        unfold found
        rw [hd0]
      refine s_retR (R := NewLL H' (eqs n ar (rowsOf ps))) (er_call (vs := [.int (n : Int), .ref Fd]) (ea_cons (ev_var rfl) (ea_cons (ev_var rfl) ea_nil)) fun H3 e3 Q q E => ⟨n, Fd, ar + 1, fs, rfl, hn, hn3, e3 _ _ hf, ifs.ex e3, by omega, by omega, by omega, fun r hr => by
        obtain ⟨p, mp, rfl⟩ := List.mem_map.mp hr
        exact gfs p mp, fun D bs H4 hD e4 d4 i4 r4 => q _ H4 e4 ⟨D, bs, rfl, fresh_back e3 hD, d4, i4, by
        rw [r4, efound]
        rfl⟩⟩) fun v H9 e9 r9 => ?_
      obtain ⟨D, ds, rfl, hD, d9, i9, r9⟩ := r9
      exact q D ds H9 (fresh_back (E4.trans E') hD) ((E4.trans E').trans e9) d9 i9 r9
end
end G651
/-! equations, or NotAffine; is it refused? -/
namespace G651
open PySem PySem.Spec PyProof.Rows L2 Evl
open StX (tStar pa_star)
/-- the class NotAffine -/
structure NA (K : PySem.W.Frag) (mg : Str → Option Value) (C : Addr) : Prop where
  x : PySem.W.excIn K C [.type "ValueError", .type "Exception", .type "BaseException", .type "object"] "ValueError.__new__" = true
  g : mg "NotAffine" = some (.ref C)
  k : PySem.W.keepIn K (.ref C) = true
  b : PySem.W.subIn K (.ref C) (.type "BaseException") = some true
  t : PySem.W.typeIn K (.ref C) = some (.type "type")
  e : PySem.W.exmOne K (.ref C) (.ref C) = some true
/-! ### tuples as data -/
def dT (r : List Int) : PyData := .tuple (r.map PyData.int)
section
variable {K : PySem.W.Frag} {H : Hp}
theorem dp_T {a : Addr} {r : List Int} (h : H a = some (.tup (r.map V.int))) : Dp K H (.ref a) (dT r) := .tup (st_of h) (dp_ints r)
theorem dp_Ts : ∀ {ps : List (Addr × List Int)}, Rows H ps → DpAll K H (ps.map fun p => V.ref p.1) (ps.map fun p => dT p.2)
  | [], _ => .nil
  | p :: ps, h => .cons (dp_T (h p List.mem_cons_self)) (dp_Ts fun q hq => h q (List.mem_cons_of_mem _ hq))
theorem canLay_T (r : List Int) : (dT r).canLay0 = true := canLay_ints r
theorem canLay_Ts : ∀ rs : List (List Int), PyData.canLayAll0 (rs.map dT) = true
  | [] => rfl
  | a :: r => by
    show (PyData.canLay0 (dT a) && PyData.canLayAll0 (r.map dT)) = true
    rw [canLay_Ts r, canLay_T a]
    rfl
theorem depth_T (r : List Int) : (dT r).depth = 1 := by
  show PyData.depthAll (r.map PyData.int) + 1 = 1
  rw [depth_ints]
theorem depth_Ts : ∀ rs : List (List Int), PyData.depthAll (rs.map dT) ≤ 1
  | [] => Nat.zero_le _
  | a :: r => by
    show max (dT a).depth (PyData.depthAll (r.map dT)) ≤ 1
    rw [depth_T]
    exact Nat.max_le.mpr ⟨Nat.le_refl _, depth_Ts r⟩
theorem shaped_T (r : List Int) : SeqAt.shaped (dT r) = true := by
  unfold SeqAt.shaped
  rw [Bool.and_eq_true, canLay_T, depth_T]
  exact ⟨rfl, rfl⟩
theorem shaped_Ts (rs : List (List Int)) : SeqAt.shaped (.tuple (rs.map dT)) = true := by
  unfold SeqAt.shaped
  rw [Bool.and_eq_true]
  refine ⟨canLay_Ts rs, decide_eq_true ?_⟩
  show PyData.depthAll (rs.map dT) + 1 ≤ 64
  have := depth_Ts rs
  omega
theorem shaped_TLs (rs : List (List Int)) : SeqAt.shaped (.list (rs.map dT)) = true := by
  unfold SeqAt.shaped
  rw [Bool.and_eq_true]
  refine ⟨canLay_Ts rs, decide_eq_true ?_⟩
  show PyData.depthAll (rs.map dT) + 1 ≤ 64
  have := depth_Ts rs
  omega
theorem eqv_T (a b : List Int) : PyData.eqv (dT a) (dT b) = (a == b) := eqv_ints a b
theorem eqv_Ts : ∀ a b : List (List Int), PyData.eqvAll (a.map dT) (b.map dT) = (a == b)
  | [], [] => rfl
  | [], _ :: _ => rfl
  | _ :: _, [] => rfl
  | x :: a, y :: b => by
    show (PyData.eqv (dT x) (dT y) && PyData.eqvAll (a.map dT) (b.map dT)) = _
    rw [eqv_Ts a b, eqv_T]
    rfl
/-- two tuples of rows -/
theorem dp_TT {t : Addr} {ps : List (Addr × List Int)} (h : H t = some (.tup (refs ps))) (hr : Rows H ps) : Dp K H (.ref t) (.tuple ((rowsOf ps).map dT)) := by
  refine .tup (st_of h) ?_
  have d := dp_Ts (K := K) hr
  have e3 : (rowsOf ps).map dT = ps.map fun p => dT p.2 := by unfold rowsOf; rw [List.map_map]; rfl
  rw [e3]
  exact d
variable {σ : L2.St} {tl ta tb : TE}
theorem ev_eqNilT {ps : List (Addr × List Int)} {t : Addr} (ha : Ev ta σ H (.ref t)) (ht : H t = some (.tup (refs ps))) (hs : Rows H ps) : Ev (tOp (rEqD K) ta (tTup tNil)) σ H (.bl (rowsOf ps).isEmpty) :=
  ev_opU (xs := []) ha (eu_tup ea_nil (by decide)) fun p H1 h1 e H2 e2 Q q => by
    refine ⟨.tuple ((rowsOf ps).map dT), .tuple [], dp_TT ((e.trans e2) _ _ ht) (hs.ex (e.trans e2)), .tup (st_of (e2 _ _ h1)) .nil, shaped_Ts _, rfl, ?_⟩
    have e4 : PyData.eqv (.tuple ((rowsOf ps).map dT)) (.tuple []) = (rowsOf ps).isEmpty := by
      generalize rowsOf ps = l
      cases l <;> rfl
    rw [e4]
    exact q H2 (Ex.refl _)
theorem src_LL {rs : List (List Int)} {H0 : Hp} (h : EvR tl σ H (NewLL H0 rs)) : Src (iList K tl) σ H rs (fun r x H => ∃ a, x = .ref a ∧ H a = some (.lst (r.map V.int))) := fun H1 e1 R q =>
  h H1 e1 _ fun v H2 e2 r => by
    obtain ⟨L, ps, rfl, _, hL, hI, hr⟩ := r
    have w : Walk (Itl K L) (refs' ps).length (fun H => SqL K H L (refs' ps)) (YAt (refs' ps)) := walk_list
    have l : (refs' ps).length = rs.length := by rw [← hr, List.length_map, List.length_map]
    rw [l] at w
    refine ⟨L, rfl, ⟨_, sq_of hL⟩, q _ H2 _ _ e2 w (fun H3 e3 => sq_of (e3 _ _ hL)) fun i z H3 x H4 hz e y => ?_⟩
    obtain ⟨eH, y⟩ := y
    subst eH
    rw [← hr, List.getElem?_map] at hz
    rw [List.getElem?_map] at y
    cases g : ps[i]? with
    | none =>
      rw [g] at hz
      cases hz
    | some p =>
      rw [g] at hz y
      have e1 : p.2 = z := Option.some.inj hz
      have e2 : V.ref p.1 = x := Option.some.inj y
      subst e1
      exact ⟨Ex.refl _, p.1, e2.symm, e _ _ (hI p (List.mem_of_getElem? g))⟩
end
section
variable {P : Program} {w : World} {K : PySem.W.Frag} {mg : Str → Option Value} {base : Heap} {f : Addr} {fd : FuncData} {C : Addr}
/-! ### equations -/
abbrev s_equations : Stmt := topS 26
theorem sc_equations : FnScope ["size", "relation", "row"] ["size", "relation"] (defScope s_equations) := ⟨rfl, rfl, rfl, by decide +kernel, rfl, by decide +kernel, by decide +kernel⟩
def sp_equations (C : Addr) : Sp := fun vs H Q E => ∃ (n ar : Nat) (r t : Addr) (ps : List (Addr × List Int)), vs = [.int (n : Int), .ref r] ∧ RelAt H r t ar ps ∧ Val n ar (rowsOf ps) ∧ ps.length ≤ 9 ∧
  ((rowsOf ps = [] ∨ aff n (rowsOf ps) = false) → ∀ H2, Ex H H2 → E (.ref C) none H2) ∧
  (rowsOf ps ≠ [] → aff n (rowsOf ps) = true → okBasis n ar (rowsOf ps) = true ∧ ∀ p es H2, H p = none → Ex H H2 → H2 p = some (.tup (refs es)) → Rows H2 es → rowsOf es = eqs n ar (rowsOf ps) → Q (.ref p) H2)
theorem ok_equations (B : Bl mg) (T : NA K mg C) (C_need_prime : Cal P w K mg base 3 "need_prime" ["size"] sp_need_prime) (C_need_relation : Cal P w K mg base 5 "need_relation" ["size", "value"] sp_need_relation) (C_first_broken : Cal P w K mg base 4 "first_broken" ["size", "operation", "relation"] sp_first_broken)
    (C_difference_of : Cal P w K mg base 2 "difference_of" ["size"] sp_difference_of) (C_equations_in : Cal P w K mg base 3 "equations_in" ["size", "relation"] sp_equations_in)
    (F : Fun K "equations" "equations" s_equations f fd) : FnOk P w K mg base (L2.CX P w) 6 f fd ["size", "relation"] (sp_equations C) := by
  refine F.okX sc_equations (fun vs H Q E h => ?_) (fun cdv A outer s H vs Q E hr h => ?_)
  · obtain ⟨n, ar, r, t, ps, rfl, _⟩ := h
    rfl
  · obtain ⟨n, ar, r, t, ps, rfl, hrel, hv, h9, qE, qQ⟩ := h
    refine ⟨_, (pss_cons (ps_expr (pe_cal C_need_prime hr (by decide) (pa_cons (pv 0) pa_nil)))
      (pss_cons (ps_expr (pe_cal C_need_relation hr (by decide) (pa_cons (pv 0) (pa_cons (pv 1) pa_nil))))
      (pss_cons (ps_if (PW.pt (pw_or (pt_cmpR (r := rEqD K) (op_eqD hr.units) (pe_ix (r := rIxT K) ix_tup (pv 1) pe_int (fun _ _ => rfl)) (pe_tup pa_nil) (nomark _)) (pw_or1 (pt_cmpR op_notN (pe_cal C_first_broken hr (by decide) (pa_cons (pv 0) (pa_cons (pe_cal C_difference_of hr (by decide) (pa_cons (pv 0) pa_nil)) (pa_cons (pv 1) pa_nil)))) pe_non (nomark _))))) (pss_one (ps_raise rfl (takes_of rfl rfl rfl rfl) (pmk_ownN PySem.F.excBase_ValueError T.x T.g T.k (raises_own T.b T.t) rfl))) pss_nil)
      (pss_one (ps_ret (pe_callTy (r := rTupS K) call_tuple_of (by rfl) B.tuple PyProof.Rows.boot_tuple (pa_cons (pe_lc (own := [("row", 2)]) (g := (gName 2)) (tt := tYes) (by rfl) sc_equations.nd (show PI _ _ _ (iList K _) from pi_list (pe_cal C_equations_in hr (by decide) (pa_cons (pv 0) (pa_cons (pv 1) pa_nil)))) (blkOk_by (own := [("row", 2)]) (N := ["size", "relation", "row"]) (sc := defScope s_equations) (by decide +kernel)) (fun _ _ _ _ _ => (pg_name (i := 2) sc_equations.nd rfl (Or.inl rfl))) (fun _ _ _ _ _ => pts_nil) (fun _ _ _ _ _ => (pe_callTy (r := rTupS K) call_tuple_of (by rfl) B.tuple PyProof.Rows.boot_tuple (pa_cons (pv 2) pa_nil)))) pa_nil))))))), ?_⟩
    obtain ⟨h1, h2, h3⟩ := id hrel
    refine q_drop (v := .non) (ev_call (vs := [.int (n : Int)]) (ea_cons (ev_var rfl) ea_nil) fun H1 e1 Q q E => ⟨n, rfl, hv.hn, q⟩) fun H1 e1 => ?_
    refine q_drop (v := .non) (ev_call (vs := [.int (n : Int), .ref r]) (ea_cons (ev_var rfl) (ea_cons (ev_var rfl) ea_nil)) fun H2 e2 Q q E => ⟨n, ar, r, t, ps, rfl, hrel.ex (e1.trans e2), hv, q⟩) fun H2 e2 => ?_
    have E2 := e1.trans e2
    have et : EvT (tOr (tTest (tOp (rEqD K) (tOp (rIxT K) (tVar 1) (tC (V.int 1))) (tTup tNil)))
            (tTest (tOp (fun x y H Q => y = V.non ∧ Q (V.bl !decide (x = V.non)) H) (tCall sp_first_broken [] E0 (tCons (tVar 0) (tCons (tCall sp_difference_of [] E0 (tCons (tVar 0) tNil)) (tCons (tVar 1) tNil)))) (tC V.non))))
        (start ["size", "relation", "row"] [.int (n : Int), .ref r]) H2 ((rowsOf ps).isEmpty || !(aff n (rowsOf ps))) := by
      refine et_or (et_test (ev_eqNilT (ev_ixT (ev_var rfl) ev_c (st_of (E2 _ _ h1)) rfl) (E2 _ _ h2) (h3.ex E2))) fun _ => et_test fun H3 e3 Q3 q3 => ?_
      refine er_broken (σ := start ["size", "relation", "row"] [.int (n : Int), .ref r]) (H := H3) rfl rfl (hrel.ex (E2.trans e3)) hv h9 H3 (Ex.refl _) _ fun v H4 e4 ⟨k1, k2⟩ => ?_
      cases ha : aff n (rowsOf ps) with
      | true =>
        obtain rfl := k1 ha
        rw [ha] at q3
        exact ⟨rfl, q3 H4 e4⟩
      | false =>
        obtain ⟨p, rfl⟩ := k2 ha
        rw [ha] at q3
        exact ⟨rfl, q3 H4 e4⟩
    refine q_when et (fun hb H3 e3 => ?_) (fun hb H3 e3 => ?_)
    · refine qE ?_ H3 (E2.trans e3)
      rcases Bool.or_eq_true_iff.mp hb with z | z
      · exact .inl (List.isEmpty_iff.mp z)
      · refine .inr ?_
        cases ha : aff n (rowsOf ps) with
        | false => rfl
        | true =>
          rw [ha] at z
          cases z
    · have hb2 := Bool.or_eq_false_iff.mp hb
      have hne : rowsOf ps ≠ [] := fun z => by
        rw [z] at hb2
        cases hb2.1
      have ha : aff n (rowsOf ps) = true := by
        have z := hb2.2
        cases ha : aff n (rowsOf ps) with
        | true => rfl
        | false =>
          rw [ha] at z
          cases z
      obtain ⟨ob, k⟩ := qQ hne ha
      have E3 := E2.trans e3
      have S := src_LL (K := K) (H0 := H3) (rs := eqs n ar (rowsOf ps)) (H := H3) (tl := tCall sp_equations_in [] E0 (tCons (tVar 0) (tCons (tVar 1) tNil))) (σ := start ["size", "relation", "row"] [.int (n : Int), .ref r])
        (er_call (vs := [.int (n : Int), .ref r]) (ea_cons (ev_var rfl) (ea_cons (ev_var rfl) ea_nil)) fun H4 e4 Q q E => ⟨n, ar, r, t, ps, rfl, hrel.ex (E3.trans e4), hv, hne, ob, fun D ds H5 hD e5 d5 i5 r5 => q _ H5 e5 ⟨D, ds, rfl, fresh_back e4 hD, d5, i5, r5⟩⟩)
      have lq : (eqs n ar (rowsOf ps)).length ≤ 40000 := by
        have a4 := hv.h4
        unfold eqs red
        have l := (len_fold n (found n ar (rowsOf ps)) (if found n ar (rowsOf ps) = [] then 0 else ar + 1)).2
        refine Nat.le_trans l ?_
        split <;> omega
      refine s_retR (R := fun v H5 => ∃ p es, v = .ref p ∧ H3 p = none ∧ H5 p = some (.tup (refs es)) ∧ Rows H5 es ∧ rowsOf es = eqs n ar (rowsOf ps)) (er_tupN (K := K) (R1 := fun v H5 => ∃ D as, v = .ref D ∧ H5 D = some (.lst (as.map V.ref)) ∧ Ex H3 H5 ∧ Tups H5 as ((eqs n ar (rowsOf ps)).map (List.map V.int)))
        (er_lcTY S lq (fun r => r.map V.int) (fun x => rfl) (fun z x H4 mz e hx => ?_) (R := fun v H5 => ∃ D as, v = .ref D ∧ H5 D = some (.lst (as.map V.ref)) ∧ Ex H3 H5 ∧ Tups H5 as ((eqs n ar (rowsOf ps)).map (List.map V.int))) fun D as H5 hD e5 d5 pr => ⟨D, as, rfl, d5, e5, prd_mapr (F := fun a t => H5 a = some (.tup t)) (List.map V.int) pr⟩) fun v H5 e5 r5 => ?_) fun v H5 e5 r5 => ?_
      · obtain ⟨a, rfl, ha'⟩ := hx
        exact fun H5 e5 Q q => ⟨.ref a, rfl, a, z.map V.int, rfl, .inl ⟨sq_of (e5 _ _ ha'), fun l hl => q _ _ (Ex.new hl) ⟨l, rfl, upd_same⟩⟩⟩
      · obtain ⟨D, as, rfl, d5, ee, pr⟩ := r5
        refine ⟨D, as.map V.ref, rfl, sq_of d5, fun l hl => ?_⟩
        have pr2 : Paired (fun a (t : List Int) => H5 a = some (.tup (t.map V.int))) as (eqs n ar (rowsOf ps)) := by
          have go : ∀ {as : List Addr} {ts : List (List Int)}, Tups H5 as (ts.map (List.map V.int)) → Paired (fun a (t : List Int) => H5 a = some (.tup (t.map V.int))) as ts := by
            intro as ts
            induction ts generalizing as with
            | nil => intro h; cases h; exact .nil
            | cons t ts ih =>
              intro h
              cases h with
              | cons r h => exact .cons r (ih h)
          exact go pr
        obtain ⟨es, ea, er, he⟩ := prd_zip (fun t : List Int => t) pr2
        rw [List.map_id'] at er
        refine ⟨l, es, rfl, fresh_back ee hl, ?_, fun p hp => ?_, er.symm⟩
        · rw [upd_same, ea]
          unfold refs
          rw [List.map_map]
          rfl
        · obtain ⟨z, _, e2, hz⟩ := he p hp
          rw [upd_ne (ne_of_none hz hl), e2]
          exact hz
      · obtain ⟨p, es, rfl, hp, d5, r5, e⟩ := r5
        exact k p es H5 (fresh_back E3 hp) (E3.trans e5) d5 r5 e
/-! ### _law_refused -/
abbrev s__law_refused : Stmt := topS 42
theorem sc__law_refused : FnScope ["_law_size", "_law_relation"] ["_law_size", "_law_relation"] (defScope s__law_refused) := ⟨rfl, rfl, rfl, by decide +kernel, rfl, by decide +kernel, by decide +kernel⟩
/-- equations, by its name -/
structure CalE (P : Program) (w : World) (K : PySem.W.Frag) (mg : Str → Option Value) (base : Heap) (C : Addr) : Prop where
  ex : ∃ (f : Addr) (fd : FuncData), FnOk P w K mg base (L2.CX P w) 6 f fd ["size", "relation"] (sp_equations C) ∧ mg "equations" = some (.ref f) ∧ PySem.W.keepIn K (.ref f) = true ∧ Binds K fd ["size", "relation"] []
def sp__law_refused : Sp := fun vs H Q _ => ∃ (n ar : Nat) (r t : Addr) (ps : List (Addr × List Int)), vs = [.int (n : Int), .ref r] ∧ RelAt H r t ar ps ∧ Val n ar (rowsOf ps) ∧ ps.length ≤ 9 ∧ (rowsOf ps ≠ [] → aff n (rowsOf ps) = true → okBasis n ar (rowsOf ps) = true) ∧
  RetV (.bl ((rowsOf ps).isEmpty || !(aff n (rowsOf ps)))) H Q
theorem ok__law_refused (T : NA K mg C) (CE : CalE P w K mg base C) (F : Fun K "_law_refused" "_law_refused" s__law_refused f fd) : FnOk P w K mg base CX0 7 f fd ["_law_size", "_law_relation"] sp__law_refused := by
  obtain ⟨fE, fdE, GE, mE, kE, bE⟩ := CE.ex
  refine F.ok sc__law_refused (fun vs H Q E h => ?_) (fun cdv A outer s H vs Q E hr h => ?_)
  · obtain ⟨n, ar, r, t, ps, rfl, _⟩ := h
    rfl
  · obtain ⟨n, ar, r, t, ps, rfl, hrel, hv, h9, hob, q⟩ := h
    refine ⟨_, (pss_cons (ps_try_only (tb := fun W => tDrop (tCallS (sp_equations C) (WE W) (tCons (tVar 0) (tCons (tVar 1) tNil)))) (ts := fun _ _ _ => tRet (tC (.bl true))) (Wout := fun _ _ _ _ => False) rfl rfl ⟨rfl, by decide, .inl T.g⟩ takes0 (fun W pn xe tk _ => pss_one (ps_expr (pe_callS GE (hr.mono (by decide)) rfl mE kE bE (fun σ => passAt tk σ) (by exact (pa_cons (pv 0) (pa_cons (pv 1) pa_nil)))))) (fun a oe cls d pn _ _ => pss_one (ps_ret pe_bl)))
      (pss_one (ps_ret pe_bl))), ?_⟩
    refine ⟨_, rfl, _, rfl, n, ar, r, t, ps, rfl, hrel, hv, h9, fun hc H2 e2 => ⟨true, T.e, fun _ a ha => ?_, fun z => nomatch z⟩, fun h1 h2 => ⟨hob h1 h2, fun p es H2 hp e2 d2 r2 er => ?_⟩⟩
    · have e : ((rowsOf ps).isEmpty || !(aff n (rowsOf ps))) = true := by
        rcases hc with z | z
        · rw [z]
          rfl
        · rw [z]
          simp
      rw [e] at q
      exact q H2 e2
    · have e : ((rowsOf ps).isEmpty || !(aff n (rowsOf ps))) = false := by
        rw [h2]
        cases hx : rowsOf ps with
        | nil => exact absurd hx h1
        | cons _ _ => rfl
      rw [e] at q
      exact q H2 e2
end
end G651
/-! The law's own: whole, alike, value, carried, sums. -/
namespace G651
open PySem PySem.Spec PyProof.Rows L2 Evl
open StX (tStar pa_star)
theorem kit_bool {K : PySem.W.Frag} : PySem.W.kitAny K (.type "bool") [.type "tuple", .type "list"] = some false := by first | rfl | kernel_rfl
section
variable {K : PySem.W.Frag} {σ : L2.St} {H : Hp} {ta : TE}
theorem ev_isiT {x : V} {t : Value} {b : Bool} (ha : Ev ta σ H x) (ht : ∀ H1, Ex H H1 → TyX K H1 x t) (hb : PySem.W.kitAny K t [.type "tuple", .type "list"] = some b) : Ev (tCB (rIsiT K) (tCons ta (tCons (tTup (tCons (tC (.ty "tuple")) (tCons (tC (.ty "list")) tNil))) tNil))) σ H (.bl b) := fun H1 e Q q =>
  ha H1 e _ fun H2 e2 => (eu_tup (σ := σ) (H := H) (vs := [.ty "tuple", .ty "list"]) (ea_cons ev_c (ea_cons ev_c ea_nil)) (by decide)) H2 (e.trans e2) _ fun p H3 hp e3 h3 =>
    ⟨x, p, _, t, [.type "tuple", .type "list"], b, rfl, h3, .cons (.ty "tuple") (.cons (.ty "list") .nil), ht H3 ((e.trans e2).trans e3), hb, q H3 (e2.trans e3)⟩
theorem ar2L {t1 t2 t3 : TE} {v1 v2 : V} {xs : List V} (h1 : Ev t1 σ H v1) (h2 : Ev t2 σ H v2) (h3 : EvL t3 σ H xs) : EvAR (tCons t1 (tCons t2 (tCons t3 tNil))) σ H (fun vs H2 => ∃ p, vs = [v1, v2, .ref p] ∧ H2 p = some (.lst xs)) := fun H1 e1 Q q =>
  h1 H1 e1 _ fun H2 e2 => h2 H2 (e1.trans e2) _ fun H3 e3 => h3 H3 ((e1.trans e2).trans e3) _ fun p H4 hp e4 h4 => q _ H4 ((e2.trans e3).trans e4) ⟨p, rfl, h4⟩
end
theorem img_range {n : Int} : ∀ {as bs cs : List Int}, as.length = bs.length → as.length = cs.length → (List.range as.length).map (fun i => mn n (as.getD i 0) (bs.getD i 0) (cs.getD i 0)) = img n as bs cs
  | [], [], [], _, _ => rfl
  | a :: as, b :: bs, c :: cs, h1, h2 => by
    have ih := img_range (n := n) (as := as) (bs := bs) (cs := cs) (by simpa using h1) (by simpa using h2)
    rw [List.length_cons, List.range_succ_eq_map, List.map_cons, List.map_map]
    show mn n a b c :: _ = mn n a b c :: img n as bs cs
    rw [← ih]
    rfl
  | [], _ :: _, _, h, _ => by simp at h
  | _ :: _, [], _, h, _ => by simp at h
  | [], [], _ :: _, _, h => by simp at h
  | _ :: _, _ :: _, [], _, h => by simp at h
section
variable {P : Program} {w : World} {K : PySem.W.Frag} {mg : Str → Option Value} {base : Heap} {f : Addr} {fd : FuncData}
/-! ### _law_whole -/
abbrev s__law_whole : Stmt := topS 31
theorem sc__law_whole : FnScope ["_law_value_here", "_law_least", "_law_most"] ["_law_value_here", "_law_least", "_law_most"] (defScope s__law_whole) := ⟨rfl, rfl, rfl, by decide +kernel, rfl, by decide +kernel, by decide +kernel⟩
def sp__law_whole : Sp := fun vs H Q _ => ∃ i lo hi : Int, vs = [.int i, .int lo, .int hi] ∧ RetV (.bl (decide (lo ≤ i) && decide (i ≤ hi))) H Q
theorem ok__law_whole (B : Bl mg) (F : Fun K "_law_whole" "_law_whole" s__law_whole f fd) : FnOk P w K mg base CX0 1 f fd ["_law_value_here", "_law_least", "_law_most"] sp__law_whole := by
  refine F.ok sc__law_whole (fun vs H Q E h => ?_) (fun cdv A outer s H vs Q E hr h => ?_)
  · obtain ⟨i, lo, hi, rfl, _⟩ := h
    rfl
  · obtain ⟨i, lo, hi, rfl, q⟩ := h
    refine ⟨_, (pss_one (ps_ret (pe_and (pe_callB (r := rIsi K) call_isi (by rfl) B.isi PyProof.Rows.boot_isinstance (pa_cons (pv 0) (pa_cons (pe_bltn (v := .ty "int") (by rfl) B.int PyProof.Rows.boot_int rfl) pa_nil))) (pe_and (pe_not (pe_callB (r := rIsi K) call_isi (by rfl) B.isi PyProof.Rows.boot_isinstance (pa_cons (pv 0) (pa_cons (pe_bltn (v := .ty "bool") (by rfl) B.bool PyProof.Rows.boot_bool rfl) pa_nil)))) (pe_one (pe_chain op_le op_le (pv 1) (pv 0) (pv 2))))))), ?_⟩
    refine s_ret (v := .bl (true && (true && (decide (lo ≤ i) && decide (i ≤ hi))))) (ev_andV (a := true) (ev_isi (T := "int") (ev_var rfl) (fun _ _ => .base (.int i)) (by decide +kernel)) fun _ => ev_andV (a := true) (ev_notV (a := false) (ev_isi (T := "int") (ev_var rfl) (fun _ _ => .base (.int i)) (by decide +kernel))) fun _ => ev_chain_le (ev_var rfl) (ev_var rfl) (ev_var rfl)) fun H1 e => ?_
    rw [Bool.true_and, Bool.true_and]
    exact q H1 e
/-! ### _law_alike, of truth values -/
abbrev s__law_alike : Stmt := topS 30
theorem sc__law_alike : FnScope ["_law_found", "_law_due", "_law_k"] ["_law_found", "_law_due"] (defScope s__law_alike) := ⟨rfl, rfl, rfl, by decide +kernel, rfl, by decide +kernel, by decide +kernel⟩
def sp__law_alike : Sp := fun vs H Q _ => ∃ a b : Bool, vs = [.bl a, .bl b] ∧ RetV (.bl (a == b)) H Q
theorem ok__law_alike (B : Bl mg) (F : Fun K "_law_alike" "_law_alike" s__law_alike f fd) : FnOk P w K mg base CX0 1 f fd ["_law_found", "_law_due"] sp__law_alike := by
  refine F.ok sc__law_alike (fun vs H Q E h => ?_) (fun cdv A outer s H vs Q E hr h => ?_)
  · obtain ⟨a, b, rfl, _⟩ := h
    rfl
  · obtain ⟨a, b, rfl, q⟩ := h
    refine ⟨_, (pss_cons (ps_if (pt_val (pe_callB (r := rIsiT K) call_isiT (by rfl) B.isi PyProof.Rows.boot_isinstance (pa_cons (pv 1) (pa_cons (pe_tup (pa_cons (pe_bltn (v := .ty "tuple") (by rfl) B.tuple PyProof.Rows.boot_tuple rfl) (pa_cons (pe_bltn (v := .ty "list") (by rfl) B.list PyProof.Rows.boot_list rfl) pa_nil))) pa_nil)))) pss_never pss_nil)
      (pss_cons (ps_if (PW.pt (pw_or (pt_cmpR op_isN (pv 1) pe_non (nomark _)) (pw_or1 (pt_val (pe_callB (r := rIsi K) call_isi (by rfl) B.isi PyProof.Rows.boot_isinstance (pa_cons (pv 1) (pa_cons (pe_bltn (v := .ty "str") (by rfl) B.str PyProof.Rows.boot_str rfl) pa_nil))))))) pss_never pss_nil)
      (pss_one (ps_ret (pe_and (pe_callB (r := rIsi K) call_isi (by rfl) B.isi PyProof.Rows.boot_isinstance (pa_cons (pv 0) (pa_cons (pe_bltn (v := .ty "int") (by rfl) B.int PyProof.Rows.boot_int rfl) pa_nil))) (pe_and (pe_cmpR op_eq (pe_callB (r := rIsi K) call_isi (by rfl) B.isi PyProof.Rows.boot_isinstance (pa_cons (pv 0) (pa_cons (pe_bltn (v := .ty "bool") (by rfl) B.bool PyProof.Rows.boot_bool rfl) pa_nil))) (pe_callB (r := rIsi K) call_isi (by rfl) B.isi PyProof.Rows.boot_isinstance (pa_cons (pv 1) (pa_cons (pe_bltn (v := .ty "bool") (by rfl) B.bool PyProof.Rows.boot_bool rfl) pa_nil))) (nomark _)) (pe_one (pe_cmpR op_eq (pv 0) (pv 1) (nomark _))))))))), ?_⟩
    have tb : ∀ (c : Bool) (H1 : Hp), TyX K H1 (.bl c) (.type "bool") := fun c H1 => .base (.bl c)
    refine q_when (b := false) (et_B (ev_isiT (ev_var rfl) (fun H1 _ => tb b H1) kit_bool)) (fun z => nomatch z) fun _ H1 e1 => ?_
    refine q_when (b := false) (et_or (a := false) (b := false) (et_test (ev_op (ev_var rfl) ev_c fun H2 e2 Q q => ⟨rfl, q H2 (Ex.refl _)⟩)) fun _ => et_B (ev_isi (T := "bool") (ev_var rfl) (fun H1 _ => tb b H1) (by decide +kernel))) (fun z => nomatch z) fun _ H2 e2 => ?_
    refine s_ret (v := .bl (true && (true && (a == b)))) (ev_andV (a := true) (ev_isi (T := "bool") (ev_var rfl) (fun H1 _ => tb a H1) (by decide +kernel)) fun _ => ev_andV (a := true) (ev_is (ev_op (ev_isi (T := "bool") (b := true) (ev_var rfl) (fun H1 _ => tb a H1) (by decide +kernel)) (ev_isi (T := "bool") (b := true) (ev_var rfl) (fun H1 _ => tb b H1) (by decide +kernel)) (rv_eq rfl)) rfl) fun _ => ev_is (ev_op (ev_var rfl) (ev_var rfl) (rv_eq rfl)) ?_) fun H3 e3 => ?_
    · cases a <;> cases b <;> rfl
    · rw [Bool.true_and, Bool.true_and]
      exact q H3 ((e1.trans e2).trans e3)
/-! ### _law_value -/
abbrev s__law_value : Stmt := topS 34
theorem sc__law_value : FnScope ["_law_size", "_law_operation", "_law_arguments", "_law_at", "_law_argument"] ["_law_size", "_law_operation", "_law_arguments"] (defScope s__law_value) := ⟨rfl, rfl, rfl, by decide +kernel, rfl, by decide +kernel, by decide +kernel⟩
def sp__law_value : Sp := fun vs H Q _ => ∃ (n : Nat) (o a : Addr) (x y z : Int), vs = [.int (n : Int), .ref o, .ref a] ∧ (n = 2 ∨ n = 3) ∧ OpAt H n o ∧ H a = some (.lst [.int x, .int y, .int z]) ∧ In n x ∧ In n y ∧ In n z ∧ RetV (.int (mn n x y z)) H Q
theorem ok__law_value (F : Fun K "_law_value" "_law_value" s__law_value f fd) : FnOk P w K mg base CX0 1 f fd ["_law_size", "_law_operation", "_law_arguments"] sp__law_value := by
  refine F.ok sc__law_value (fun vs H Q E h => ?_) (fun cdv A outer s H vs Q E hr h => ?_)
  · obtain ⟨n, o, a, x, y, z, rfl, _⟩ := h
    rfl
  · obtain ⟨n, o, a, x, y, z, rfl, hn, ho, ha, hx, hy, hz, q⟩ := h
    refine ⟨_, (pss_cons (ps_set (i := 3) sc__law_value.nd rfl (Or.inl rfl) pe_int)
      (pss_cons (ps_for PassesOwn.never rfl (show PI _ _ _ (iList K _) from pi_list (pv 2)) (pg_name (i := 4) sc__law_value.nd rfl (Or.inl rfl)) (pss_one (ps_set (i := 3) sc__law_value.nd rfl (Or.inl rfl) (pe_op op_add (pe_op op_mul (pv 3) (pv 0)) (pv 4)))))
      (pss_one (ps_ret (pe_ix (r := rIxT K) ix_tup (pe_ix (r := rIxT K) ix_tup (pv 1) pe_int (fun _ _ => rfl)) (pv 3) (fun _ _ => rfl)))))), ?_⟩
    obtain ⟨tb, h1, h2⟩ := ho
    refine q_asg ev_c fun H1 e1 => ?_
    refine q_forL (a := a) (ev_var rfl) (sq_of (e1 _ _ ha)) (fun i σ' H' => Ex H H' ∧ ∃ u, σ' = [some (.int (n : Int)), some (.ref o), some (.ref a), some (.int (plc n ([x, y, z].take i))), u]) (fun H2 e2 => ⟨e1.trans e2, none, rfl⟩) (fun i σ' H' _ p => sq_of (p.1 _ _ ha)) (fun i v σ' H' hi p => ?_) (fun σ' H' p => ?_)
    · obtain ⟨e', u, rfl⟩ := p
      have hv : ([x, y, z].map V.int)[i]? = some v := hi
      rw [List.getElem?_map] at hv
      cases g : [x, y, z][i]? with
      | none =>
        rw [g] at hv
        cases hv
      | some t =>
        rw [g] at hv
        have ev : V.int t = v := Option.some.inj hv
        subst ev
        have b := plc_le hn hx hy hz i
        refine s_asg (v := .int (plc n ([x, y, z].take (i + 1)))) (ev_is (ev_add (ev_mul (ev_var rfl) (ev_var rfl) ?_) (ev_var rfl)) ?_) fun H2 e2 => ⟨e'.trans e2, _, rfl⟩
        · exact .inr ⟨by rcases hn with rfl | rfl <;> decide, by rcases hn with rfl | rfl <;> decide⟩
        · rw [take_more g, plc_snoc]
    · obtain ⟨e', u, rfl⟩ := p
      have b := plc_le hn hx hy hz 3
      rw [show [x, y, z].take 3 = [x, y, z] from rfl] at b
      refine s_ret (v := .int (mn n x y z)) (ev_ixT (ev_ixT (ev_var rfl) ev_c (st_of (e' _ _ h1)) rfl) (ev_var rfl) (st_of (e' _ _ h2)) (at_of (j := (plc n [x, y, z]).toNat) ?_ ?_)) fun H2 e2 => q H2 (e'.trans e2)
      · show plc n [x, y, z] = _
        omega
      · rw [List.getElem?_map, dtab_at hn hx hy hz]
        rfl
/-! ### _law_carried -/
abbrev s__law_carried : Stmt := topS 35
theorem sc__law_carried : FnScope ["_law_size", "_law_operation", "_law_rows_here", "_law_at", "_law_told"] ["_law_size", "_law_operation", "_law_rows_here"] (defScope s__law_carried) := ⟨rfl, rfl, rfl, by decide +kernel, rfl, by decide +kernel, by decide +kernel⟩
def sp__law_carried : Sp := fun vs H Q _ => ∃ (n ar : Nat) (o t : Addr) (a b c : Addr) (ra rb rc : List Int), vs = [.int (n : Int), .ref o, .ref t] ∧ (n = 2 ∨ n = 3) ∧ ar ≤ 4 ∧ OpAt H n o ∧ H t = some (.tup [.ref a, .ref b, .ref c]) ∧ H a = some (.tup (ra.map V.int)) ∧ H b = some (.tup (rb.map V.int)) ∧ H c = some (.tup (rc.map V.int)) ∧
  ra ∈ rows n ar ∧ rb ∈ rows n ar ∧ rc ∈ rows n ar ∧ RetU ((img n ra rb rc).map V.int) H Q
theorem ok__law_carried (B : Bl mg) (C__law_value : Cal P w K mg base 1 "_law_value" ["_law_size", "_law_operation", "_law_arguments"] sp__law_value) (F : Fun K "_law_carried" "_law_carried" s__law_carried f fd) : FnOk P w K mg base CX0 2 f fd ["_law_size", "_law_operation", "_law_rows_here"] sp__law_carried := by
  refine F.ok sc__law_carried (fun vs H Q E h => ?_) (fun cdv A outer s H vs Q E hr h => ?_)
  · obtain ⟨n, ar, o, t, a, b, c, ra, rb, rc, rfl, _⟩ := h
    rfl
  · obtain ⟨n, ar, o, t, a, b, c, ra, rb, rc, rfl, hn, h4, ho, ht, ha, hb, hc, ma, mb, mc, q⟩ := h
    refine ⟨_, (pss_one (ps_ret (pe_callTy (r := rTupS K) call_tuple_of (by rfl) B.tuple PyProof.Rows.boot_tuple (pa_cons (pe_lc (own := [("_law_at", 3)]) (g := (gName 3)) (tt := tYes) (by rfl) sc__law_carried.nd (pi_range1 (by rfl) B.range (pa_cons (pe_callB (r := rLenS2 K) call_len_seq (by rfl) B.len PySem.boot_len (pa_cons (pe_ix (r := rIxT K) ix_tup (pv 2) pe_int (fun _ _ => rfl)) pa_nil)) pa_nil)) (blkOk_by (own := [("_law_at", 3)]) (N := ["_law_size", "_law_operation", "_law_rows_here", "_law_at", "_law_told"]) (sc := defScope s__law_carried) (by decide +kernel)) (fun _ _ _ _ _ => (pg_name (i := 3) sc__law_carried.nd rfl (Or.inr rfl))) (fun _ _ _ _ _ => pts_nil) (fun _ _ _ _ _ => (pe_cal C__law_value hr (by decide) (pa_cons (pv 0) (pa_cons (pv 1) (pa_cons (pe_lc (own := [("_law_told", 4)]) (g := (gName 4)) (tt := tYes) (by rfl) sc__law_carried.nd (show PI _ _ _ (iTup K _) from pi_tup (pv 2)) (blkOk_by (own := [("_law_told", 4)]) (N := ["_law_size", "_law_operation", "_law_rows_here", "_law_at", "_law_told"]) (sc := relS _ (defScope s__law_carried)) (by decide +kernel)) (fun _ _ _ _ _ => (pg_name (i := 4) sc__law_carried.nd rfl (Or.inl rfl))) (fun _ _ _ _ _ => pts_nil) (fun _ _ _ _ _ => (pe_ix (r := rIxT K) ix_tup (pv 4) (pv 3) (fun _ _ => rfl)))) pa_nil)))))) pa_nil)))), ?_⟩
    obtain ⟨la, va⟩ := mem_rows.mp ma
    obtain ⟨lb, vb⟩ := mem_rows.mp mb
    obtain ⟨lc, vc⟩ := mem_rows.mp mc
    have S : Src (iRng1 (tCons (tCB (rLenS2 K) (tCons (tOp (rIxT K) (tVar 2) (tC (.int 0))) tNil)) tNil)) (start ["_law_size", "_law_operation", "_law_rows_here", "_law_at", "_law_told"] [.int (n : Int), .ref o, .ref t]) H (List.range ra.length) (fun z x _ => x = .int ((z : Nat) : Int)) :=
      src_range1 (ea_cons (ev_is (ev_lenT (K := K) (ev_ixT (ev_var rfl) ev_c (st_of ht) rfl) (st_of ha)) (by rw [List.length_map])) ea_nil) (by omega)
    refine s_retU (eu_tupN (xs := (img n ra rb rc).map V.int) ?_) fun p H1 hp e h1 => q p H1 hp e h1
    rw [← img_range (by omega) (by omega), List.map_map]
    refine el_lcY S (by rw [List.length_range]; omega) _ (fun x => rfl) fun i x H2 mi e hx => ?_
    subst hx
    rw [List.mem_range] at mi
    refine EvR.v (er_callR (ar2L (v1 := .int (n : Int)) (v2 := .ref o) (xs := [.int (ra.getD i 0), .int (rb.getD i 0), .int (rc.getD i 0)]) (ev_var rfl) (ev_var rfl) ?_) fun vs H3 e3 ⟨p, ep, hp⟩ => ?_)
    · have SI : Src (iTup K (tVar 2)) ((wipe (start ["_law_size", "_law_operation", "_law_rows_here", "_law_at", "_law_told"] [.int (n : Int), .ref o, .ref t]) [3]).set 3 (some (.int (i : Int)))) H2 [(a, ra), (b, rb), (c, rc)] (fun z x _ => x = V.ref z.1) :=
        src_tup (f := fun z : Addr × List Int => V.ref z.1) (R1 := fun v _ => v = .ref t) (Ev.r (ev_var rfl) fun _ _ => rfl) fun v H4 e4 r4 => ⟨t, r4, st_of (e4 _ _ (e _ _ ht))⟩
      have L := el_lcY (te := tOp (rIxT K) (tVar 4) (tVar 3)) (vs := [4]) (j := 4) SI (by show 3 ≤ 40000; decide) (fun z : Addr × List Int => V.int (z.2.getD i 0)) (fun x => rfl) fun z x H4 mz e4 hx => by
        subst hx
        have hz : H4 z.1 = some (.tup (z.2.map V.int)) ∧ i < z.2.length := by
          rcases List.mem_cons.mp mz with z1 | mz
          · subst z1
            exact ⟨e4 _ _ (e _ _ ha), by show i < ra.length; omega⟩
          rcases List.mem_cons.mp mz with z1 | mz
          · subst z1
            exact ⟨e4 _ _ (e _ _ hb), by show i < rb.length; omega⟩
          have z1 : z = (c, rc) := by simpa using mz
          subst z1
          exact ⟨e4 _ _ (e _ _ hc), by show i < rc.length; omega⟩
        exact ev_ixT (ev_var rfl) (ev_var rfl) (st_of hz.1) (at_of (j := i) rfl (getD_at hz.2))
      exact L
    · subst ep
      exact fun H4 e4 Q q E => ⟨n, o, p, _, _, _, rfl, hn, (ho.ex e).ex (e3.trans e4), e4 _ _ hp, va _ (getD_mem mi), vb _ (getD_mem (by omega)), vc _ (getD_mem (by omega)), fun H5 e5 => q _ H5 e5 rfl⟩
/-! ### _law_sums -/
abbrev s__law_sums : Stmt := topS 41
theorem sc__law_sums : FnScope ["_law_size", "_law_told", "_law_values", "_law_total", "_law_at"] ["_law_size", "_law_told", "_law_values"] (defScope s__law_sums) := ⟨rfl, rfl, rfl, by decide +kernel, rfl, by decide +kernel, by decide +kernel⟩
def sp__law_sums : Sp := fun vs H Q _ => ∃ (n : Nat) (a b : Addr) (e v : List Int), vs = [.int (n : Int), .ref a, .ref b] ∧ 0 < n ∧ n ≤ 3 ∧ H a = some (.tup (e.map V.int)) ∧ H b = some (.tup (v.map V.int)) ∧ e.length = v.length + 1 ∧ v.length ≤ 4 ∧ (∀ x ∈ e, 0 ≤ x ∧ x < n) ∧ RetV (.bl (sums n e v)) H Q
theorem ok__law_sums (B : Bl mg) (F : Fun K "_law_sums" "_law_sums" s__law_sums f fd) : FnOk P w K mg base CX0 1 f fd ["_law_size", "_law_told", "_law_values"] sp__law_sums := by
  refine F.ok sc__law_sums (fun vs H Q E h => ?_) (fun cdv A outer s H vs Q E hr h => ?_)
  · obtain ⟨n, a, b, e, v, rfl, _⟩ := h
    rfl
  · obtain ⟨n, a, b, e, v, rfl, hn, hn3, ha, hb, hl, h4, he, q⟩ := h
    refine ⟨_, (pss_cons (ps_set (i := 3) sc__law_sums.nd rfl (Or.inl rfl) (pe_callB (r := rSum K) (cr_sum rfl) (by rfl) B.sum PyProof.Rows.boot_sum (pa_cons (pe_lc (own := [("_law_at", 4)]) (g := (gName 4)) (tt := tYes) (by rfl) sc__law_sums.nd (pi_range1 (by rfl) B.range (pa_cons (pe_callB (r := rLenS2 K) call_len_seq (by rfl) B.len PySem.boot_len (pa_cons (pv 2) pa_nil)) pa_nil)) (blkOk_by (own := [("_law_at", 4)]) (N := ["_law_size", "_law_told", "_law_values", "_law_total", "_law_at"]) (sc := defScope s__law_sums) (by decide +kernel)) (fun _ _ _ _ _ => (pg_name (i := 4) sc__law_sums.nd rfl (Or.inl rfl))) (fun _ _ _ _ _ => pts_nil) (fun _ _ _ _ _ => (pe_op op_mul (pe_ix (r := rIxT K) ix_tup (pv 1) (pv 4) (fun _ _ => rfl)) (pe_ix (r := rIxT K) ix_tup (pv 2) (pv 4) (fun _ _ => rfl))))) pa_nil)))
      (pss_one (ps_ret (pe_cmpR op_eq (pe_op op_mod (pe_callTy call_int1 (by rfl) B.int PyProof.Rows.boot_int (pa_cons (pv 3) pa_nil)) (pv 0)) (pe_ix (r := rIxT K) ix_tup (pv 1) (pe_callB (r := rLenS2 K) call_len_seq (by rfl) B.len PySem.boot_len (pa_cons (pv 2) pa_nil)) (fun _ _ => rfl)) (nomark _))))), ?_⟩
    have S : Src (iRng1 (tCons (tCB (rLenS2 K) (tCons (tVar 2) tNil)) tNil)) (start ["_law_size", "_law_told", "_law_values", "_law_total", "_law_at"] [.int (n : Int), .ref a, .ref b]) H (List.range v.length) (fun z x _ => x = .int ((z : Nat) : Int)) :=
      src_range1 (ea_cons (ev_is (ev_lenT (K := K) (ev_var rfl) (st_of hb)) (by rw [List.length_map])) ea_nil) (by omega)
    refine q_asg (v := .int (((List.range v.length).map fun i => e.getD i 0 * v.getD i 0).sum)) (ev_sum ?_) fun H1 e1 => ?_
    · rw [List.map_map]
      refine el_lcY S (by rw [List.length_range]; omega) _ (fun x => rfl) fun i x H2 mi e2 hx => ?_
      subst hx
      rw [List.mem_range] at mi
      have bb := he _ (getD_mem (r := e) (c := i) (by omega))
      exact ev_mul (ev_ixT (ev_var rfl) (ev_var rfl) (st_of (e2 _ _ ha)) (at_of (j := i) rfl (getD_at (by omega)))) (ev_ixT (ev_var rfl) (ev_var rfl) (st_of (e2 _ _ hb)) (at_of (j := i) rfl (getD_at mi))) (.inl ⟨by omega, by omega⟩)
    · refine s_ret (v := .bl (sums n e v)) (ev_is (ev_eqI (ev_mod (ev_cb (ea_cons (ev_var rfl) ea_nil) fun H2 e2 Q q => .inl ⟨_, rfl, q H2 (Ex.refl _)⟩) (ev_var rfl) (by omega)) (ev_ixT (ev_var rfl) (ev_lenT (K := K) (ev_var rfl) (st_of (e1 _ _ hb))) (st_of (e1 _ _ ha)) (at_of (j := v.length) (by rw [List.length_map]) (getD_at (by omega))))) rfl) fun H2 e2 => q H2 (e1.trans e2)
end
end G651
/-! The law's own: rows, tuples, breaks. -/
namespace G651
open PySem PySem.Spec PyProof.Rows L2 Evl
open StX (tStar pa_star)
/-- a new list of tuples -/
def NewT (H : Hp) (ts : List (List V)) : V → Hp → Prop := fun v H2 => ∃ D as, v = .ref D ∧ H D = none ∧ H2 D = some (.lst (as.map V.ref)) ∧ Tups H2 as ts
theorem prd_app {α β : Type} {F : α → β → Prop} : ∀ {as : List α} {zs : List β} {bs : List α} {ws : List β}, Paired F as zs → Paired F bs ws → Paired F (as ++ bs) (zs ++ ws)
  | _, _, _, _, .nil, h => h
  | _, _, _, _, .cons r t, h => .cons r (prd_app t h)
section
variable {K : PySem.W.Frag} {σ : L2.St} {H : Hp} {α : Type} {wi : TI}
theorem er_moreL {us : List α} {g : α → V} {jm jt j : Nat} {M a : Addr} {as : List Addr} {ms : List (List V)} {t : List V} (S : Src wi σ H us (fun z x _ => x = g z)) (hm : σ[jm]? = some (some (.ref M))) (hM : H M = some (.lst (as.map V.ref))) (hT : Tups H as ms)
    (ht : ∀ x, ((wipe σ [j]).set j (some x))[jt]? = some (some (.ref a))) (hj : ∀ x, ((wipe σ [j]).set j (some x))[j]? = some (some x)) (ha : H a = some (.tup t)) (hw : ∀ x, wipe ((wipe σ [j]).set j (some x)) [j] = wipe σ [j])
    (hu : us.length ≤ 1000) (hz : ms.length ≤ 20000) (htl : t.length ≤ 1000) :
    EvR (tOp rCat (tVar jm) (tLc wi (gName j) tYes (tOp (rCatA K) (tVar jt) (tTup (tCons (tVar j) tNil))) [j])) σ H (NewT H (ms ++ us.map fun u => t ++ [g u])) := by
  refine er_op (R1 := fun v _ => v = .ref M) (R2' := fun v H2 => ∃ D bs, v = .ref D ∧ H2 D = some (.lst (bs.map V.ref)) ∧ Ex H H2 ∧ Tups H2 bs (us.map fun u => t ++ [g u])) (Ev.r (ev_var hm) fun _ _ => rfl) (fun x H1 e1 r1 => ?_) fun x y H1 H2 e1 r1 e2 r2 Q q => ?_
  · refine er_lcTY (f := fun u => t ++ [g u]) (j := j) (vs := [j]) (fun H2 e2 => S H2 (e1.trans e2)) (by omega) (by exact hw) (fun z x H2 mz e hx => ?_) fun D bs H2 hD e d2 pr => ⟨D, bs, rfl, d2, e1.trans e, prd_mapr (F := fun a t => H2 a = some (.tup t)) (fun u => t ++ [g u]) pr⟩
    subst hx
    intro H3 e3 Q q
    refine ⟨_, ht _, ?_⟩
    refine (eu_tup (σ := (wipe σ [j]).set j (some (g z))) (H := H3) (vs := [g z]) (ea_cons (ev_var (hj _)) ea_nil) (show 1 ≤ 100000 by decide)) H3 (Ex.refl _) _ fun p H4 hp e4 h4 => ?_
    have ha4 : H4 a = some (.tup t) := (((e1.trans e).trans e3).trans e4) _ _ ha
    refine ⟨a, p, t, [g z], rfl, rfl, st_of ha4, st_of h4, ?_, fun e0 => ?_, fun _ e0 => (by cases e0), fun _ _ l hl => q _ _ (e4.trans (Ex.new hl)) ⟨l, rfl, upd_same⟩⟩
    · have : t.length + [g z].length ≤ 100000 := by show t.length + 1 ≤ 100000; omega
      exact sz_of this
    · refine q _ _ e4 ⟨p, rfl, ?_⟩
      rw [e0]
      exact h4
  · subst r1
    obtain ⟨D, bs, rfl, hD, ee, hT2⟩ := r2
    have lb := Paired.length hT2
    have la := Paired.length hT
    rw [List.length_map] at lb
    refine ⟨M, D, _, _, rfl, rfl, ee _ _ hM, hD, sz_of (by rw [List.length_map, List.length_map]; omega), fun l hl => q _ _ (Ex.new hl) ⟨l, as ++ bs, rfl, fresh_back ee hl, ?_, ?_⟩⟩
    · rw [upd_same, List.map_append]
    · exact prd_app (prd_mono hT fun a t _ h => by rw [upd_ne (ne_of_none (ee _ _ h) hl)]; exact ee _ _ h) (prd_mono hT2 fun a t _ h => by rw [upd_ne (ne_of_none h hl)]; exact h)
end
theorem flat_more {α β : Type} (ts : List (List V)) (us : List α) (g : α → V) {i : Nat} {t : List V} (h : ts[i]? = some t) : ((ts.take (i + 1)).flatMap fun t => (us.map g).map fun x => t ++ [x]) = ((ts.take i).flatMap fun t => (us.map g).map fun x => t ++ [x]) ++ us.map fun u => t ++ [g u] := by
  rw [take_more h, List.flatMap_append]
  simp
theorem flat_len {ts : List (List V)} {ws : List V} : (ts.flatMap fun t => ws.map fun x => t ++ [x]).length = ts.length * ws.length := by
  rw [List.length_flatMap]
  have e : (ts.map fun t => (ws.map fun x => t ++ [x]).length) = List.replicate ts.length ws.length := by
    rw [List.eq_replicate_iff]
    refine ⟨by rw [List.length_map], fun b hb => ?_⟩
    obtain ⟨z, _, rfl⟩ := List.mem_map.mp hb
    rw [List.length_map]
  rw [e, List.sum_replicate_nat]
section
variable {P : Program} {w : World} {K : PySem.W.Frag} {mg : Str → Option Value} {base : Heap} {f : Addr} {fd : FuncData}
/-! ### _law_rows -/
abbrev s__law_rows : Stmt := topS 32
theorem sc__law_rows : FnScope ["_law_size", "_law_arity", "_law_found", "_law_turn", "_law_more", "_law_told", "_law_value_here"] ["_law_size", "_law_arity"] (defScope s__law_rows) := ⟨rfl, rfl, rfl, by decide +kernel, rfl, by decide +kernel, by decide +kernel⟩
def sp__law_rows : Sp := fun vs H Q _ => ∃ (n ar : Nat), vs = [.int (n : Int), .int (ar : Int)] ∧ n ≤ 3 ∧ ar ≤ 4 ∧ RetT H Q (tups ((vals n).map V.int) ar)
theorem ok__law_rows (B : Bl mg) (F : Fun K "_law_rows" "_law_rows" s__law_rows f fd) : FnOk P w K mg base CX0 1 f fd ["_law_size", "_law_arity"] sp__law_rows := by
  refine F.ok sc__law_rows (fun vs H Q E h => ?_) (fun cdv A outer s H vs Q E hr h => ?_)
  · obtain ⟨n, ar, rfl, _⟩ := h
    rfl
  · obtain ⟨n, ar, rfl, hn, har, q⟩ := h
    refine ⟨_, (pss_cons (ps_set (i := 2) sc__law_rows.nd rfl (Or.inl rfl) (pe_lst (pa_cons (pe_tup pa_nil) pa_nil)))
      (pss_cons (ps_for PassesOwn.never rfl (pi_range1 (by rfl) B.range (pa_cons (pv 1) pa_nil)) (pg_name (i := 3) sc__law_rows.nd rfl (Or.inl rfl)) (pss_cons (ps_set (i := 4) sc__law_rows.nd rfl (Or.inl rfl) (pe_lst pa_nil))
      (pss_cons (ps_for PassesOwn.never rfl (show PI _ _ _ (iList K _) from pi_list (pv 2)) (pg_name (i := 5) sc__law_rows.nd rfl (Or.inr rfl)) (pss_one (ps_set (i := 4) sc__law_rows.nd rfl (Or.inl rfl) (pe_op op_cat (pv 4) (pe_lc (own := [("_law_value_here", 6)]) (g := (gName 6)) (tt := tYes) (by rfl) sc__law_rows.nd (pi_range1 (by rfl) B.range (pa_cons (pv 0) pa_nil)) (blkOk_by (own := [("_law_value_here", 6)]) (N := ["_law_size", "_law_arity", "_law_found", "_law_turn", "_law_more", "_law_told", "_law_value_here"]) (sc := defScope s__law_rows) (by decide +kernel)) (fun _ _ _ _ _ => (pg_name (i := 6) sc__law_rows.nd rfl (Or.inl rfl))) (fun _ _ _ _ _ => pts_nil) (fun _ _ _ _ _ => (pe_op (r := rCatA K) op_catA (pv 5) (pe_tup (pa_cons (pv 6) pa_nil)))))))))
      (pss_one (ps_set (i := 2) sc__law_rows.nd rfl (Or.inl rfl) (pv 4))))))
      (pss_one (ps_ret (pv 2))))), ?_⟩
    have lv : (vals n).length = n := by unfold vals; rw [List.length_map, List.length_range]
    refine q_asgR er_one fun v H1 e1 r1 => ?_
    obtain ⟨D0, as0, rfl, hD0, h0, t0⟩ := r1
    refine q_forR1 (n := (ar : Int)) (ea_cons (ev_var rfl) ea_nil) ⟨by omega, by omega⟩ (fun i σ' H' => Ex H H' ∧ ∃ x x4 x5 D as, σ' = [some (.int (n : Int)), some (.int (ar : Int)), some (.ref D), x, x4, x5, none] ∧ H D = none ∧ H' D = some (.lst (as.map V.ref)) ∧ Tups H' as (tups ((vals n).map V.int) i)) (fun H2 e2 => ?_) (fun i σ' H' hi p => ?_) (fun σ' H' p => ?_)
    · exact ⟨e1.trans e2, none, none, none, D0, as0, rfl, hD0, e2 _ _ h0, prd_mono t0 fun a t _ h => e2 _ _ h⟩
    · obtain ⟨e', x, x4, x5, D, as, rfl, hD, hl, ht⟩ := p
      have ln := pow_le34 (n := n) (k := i) hn (by omega)
      have lt : (tups ((vals n).map V.int) i).length = n ^ i := by rw [tups_pow, List.length_map, lv]
      have las := Paired.length ht
      refine q_asgL (xs := []) (el_lst ea_nil (by decide)) fun M0 H2 hM0 e2 m0 => ?_
      refine q_forL (a := D) (xs := as.map V.ref) (ev_var rfl) (sq_of (e2 _ _ hl)) (fun j σ' H3 => Ex H2 H3 ∧ ∃ x5 M ms, σ' = [some (.int (n : Int)), some (.int (ar : Int)), some (.ref D), some (.int (i : Int)), some (.ref M), x5, none] ∧ H' M = none ∧ H3 M = some (.lst (ms.map V.ref)) ∧
        Tups H3 ms (((tups ((vals n).map V.int) i).take j).flatMap fun t => ((vals n).map V.int).map fun x => t ++ [x])) (fun H3 e3 => ⟨e3, x5, M0, [], rfl, hM0, e3 _ _ m0, .nil⟩) (fun j σ' H3 _ p => sq_of ((e2.trans p.1) _ _ hl)) (fun j v σ' H3 hj p => ?_) (fun σ' H3 p => ?_)
      · obtain ⟨e3, y5, M, ms, rfl, hM, hm, hms⟩ := p
        rw [List.getElem?_map] at hj
        cases ga : as[j]? with
        | none =>
          rw [ga] at hj
          cases hj
        | some a =>
          rw [ga] at hj
          have ev : V.ref a = v := Option.some.inj hj
          subst ev
          have lj : j < (tups ((vals n).map V.int) i).length := by rw [← las]; exact (List.getElem?_eq_some_iff.mp ga).1
          have gt : (tups ((vals n).map V.int) i)[j]? = some (tups ((vals n).map V.int) i)[j] := List.getElem?_eq_getElem lj
          generalize (tups ((vals n).map V.int) i)[j] = t at gt
          obtain ⟨a', ga', ha'⟩ := prd_get ht gt
          rw [ga] at ga'
          cases ga'
          have lms : (((tups ((vals n).map V.int) i).take j).flatMap fun t => ((vals n).map V.int).map fun x => t ++ [x]).length ≤ 81 * 3 := by
            rw [flat_len, List.length_map, lv, List.length_take]
            exact Nat.mul_le_mul (by omega) hn
          refine s_asgR (er_moreL (K := K) (us := List.range n) (g := fun z : Nat => V.int ((z : Nat) : Int)) (jm := 4) (jt := 5) (j := 6) (M := M) (a := a) (src_range1 (n := n) (ea_cons (ev_var rfl) ea_nil) (by omega)) rfl hm hms (fun x => rfl) (fun x => rfl) ((e2.trans e3) _ _ ha') (fun x => rfl) (by rw [List.length_range]; omega) (by omega) (by rw [mem_tups_len (List.mem_of_getElem? gt)]; omega)) fun v H4 e4 r4 => ?_
          obtain ⟨M', ms', rfl, hM', hm', hms'⟩ := r4
          refine ⟨e3.trans e4, _, M', ms', rfl, fresh_back (e2.trans e3) hM', hm', ?_⟩
          have fm := flat_more (β := Nat) (tups ((vals n).map V.int) i) (List.range n) (fun z : Nat => V.int ((z : Nat) : Int)) gt
          rw [← vals_V] at fm
          rw [fm]
          exact hms'
      · obtain ⟨e3, y5, M, ms, rfl, hM, hm, hms⟩ := p
        rw [List.length_map, las, List.take_length] at hms
        refine s_asg (ev_var rfl) fun H4 e4 => ?_
        exact ⟨e'.trans (e2.trans (e3.trans e4)), _, _, _, M, ms, rfl, fresh_back e' hM, e4 _ _ hm, prd_mono hms fun a t _ h => e4 _ _ h⟩
    · obtain ⟨e', x, x4, x5, D, as, rfl, hD, hl, ht⟩ := p
      rw [Int.toNat_natCast] at ht
      exact s_ret (ev_var rfl) fun H2 e2 => q D as H2 hD (e'.trans e2) (e2 _ _ hl) (prd_mono ht fun a t _ h => e2 _ _ h)
/-! ### _law_tuples -/
abbrev s__law_tuples : Stmt := topS 33
theorem sc__law_tuples : FnScope ["_law_things", "_law_many", "_law_found", "_law_turn", "_law_more", "_law_told", "_law_thing"] ["_law_things", "_law_many"] (defScope s__law_tuples) := ⟨rfl, rfl, rfl, by decide +kernel, rfl, by decide +kernel, by decide +kernel⟩
def sp__law_tuples : Sp := fun vs H Q _ => ∃ (l : Addr) (xs : List V) (m : Nat), vs = [.ref l, .int (m : Int)] ∧ H l = some (.lst xs) ∧ xs.length ≤ 9 ∧ m ≤ 3 ∧ RetT H Q (tups xs m)
theorem ok__law_tuples (B : Bl mg) (F : Fun K "_law_tuples" "_law_tuples" s__law_tuples f fd) : FnOk P w K mg base CX0 1 f fd ["_law_things", "_law_many"] sp__law_tuples := by
  refine F.ok sc__law_tuples (fun vs H Q E h => ?_) (fun cdv A outer s H vs Q E hr h => ?_)
  · obtain ⟨l, xs, m, rfl, _⟩ := h
    rfl
  · obtain ⟨l, xs, m, rfl, hL, hx, hm3, q⟩ := h
    refine ⟨_, (pss_cons (ps_set (i := 2) sc__law_tuples.nd rfl (Or.inl rfl) (pe_lst (pa_cons (pe_tup pa_nil) pa_nil)))
      (pss_cons (ps_for PassesOwn.never rfl (pi_range1 (by rfl) B.range (pa_cons (pv 1) pa_nil)) (pg_name (i := 3) sc__law_tuples.nd rfl (Or.inl rfl)) (pss_cons (ps_set (i := 4) sc__law_tuples.nd rfl (Or.inl rfl) (pe_lst pa_nil))
      (pss_cons (ps_for PassesOwn.never rfl (show PI _ _ _ (iList K _) from pi_list (pv 2)) (pg_name (i := 5) sc__law_tuples.nd rfl (Or.inr rfl)) (pss_one (ps_set (i := 4) sc__law_tuples.nd rfl (Or.inl rfl) (pe_op op_cat (pv 4) (pe_lc (own := [("_law_thing", 6)]) (g := (gName 6)) (tt := tYes) (by rfl) sc__law_tuples.nd (show PI _ _ _ (iList K _) from pi_list (pv 0)) (blkOk_by (own := [("_law_thing", 6)]) (N := ["_law_things", "_law_many", "_law_found", "_law_turn", "_law_more", "_law_told", "_law_thing"]) (sc := defScope s__law_tuples) (by decide +kernel)) (fun _ _ _ _ _ => (pg_name (i := 6) sc__law_tuples.nd rfl (Or.inl rfl))) (fun _ _ _ _ _ => pts_nil) (fun _ _ _ _ _ => (pe_op (r := rCatA K) op_catA (pv 5) (pe_tup (pa_cons (pv 6) pa_nil)))))))))
      (pss_one (ps_set (i := 2) sc__law_tuples.nd rfl (Or.inl rfl) (pv 4))))))
      (pss_one (ps_ret (pv 2))))), ?_⟩
    refine q_asgR er_one fun v H1 e1 r1 => ?_
    obtain ⟨D0, as0, rfl, hD0, h0, t0⟩ := r1
    refine q_forR1 (n := (m : Int)) (ea_cons (ev_var rfl) ea_nil) ⟨by omega, by omega⟩ (fun i σ' H' => Ex H H' ∧ ∃ x x4 x5 D as, σ' = [some (.ref l), some (.int (m : Int)), some (.ref D), x, x4, x5, none] ∧ H D = none ∧ H' D = some (.lst (as.map V.ref)) ∧ Tups H' as (tups xs i)) (fun H2 e2 => ?_) (fun i σ' H' hi p => ?_) (fun σ' H' p => ?_)
    · exact ⟨e1.trans e2, none, none, none, D0, as0, rfl, hD0, e2 _ _ h0, prd_mono t0 fun a t _ h => e2 _ _ h⟩
    · obtain ⟨e', x, x4, x5, D, as, rfl, hD, hl, ht⟩ := p
      have ln := pow_le93 (n := xs.length) (k := i) hx (by omega)
      have lt : (tups xs i).length = xs.length ^ i := tups_pow xs i
      have las := Paired.length ht
      refine q_asgL (xs := []) (el_lst ea_nil (by decide)) fun M0 H2 hM0 e2 m0 => ?_
      refine q_forL (a := D) (xs := as.map V.ref) (ev_var rfl) (sq_of (e2 _ _ hl)) (fun j σ' H3 => Ex H2 H3 ∧ ∃ x5 M ms, σ' = [some (.ref l), some (.int (m : Int)), some (.ref D), some (.int (i : Int)), some (.ref M), x5, none] ∧ H' M = none ∧ H3 M = some (.lst (ms.map V.ref)) ∧
        Tups H3 ms (((tups xs i).take j).flatMap fun t => xs.map fun x => t ++ [x])) (fun H3 e3 => ⟨e3, x5, M0, [], rfl, hM0, e3 _ _ m0, .nil⟩) (fun j σ' H3 _ p => sq_of ((e2.trans p.1) _ _ hl)) (fun j v σ' H3 hj p => ?_) (fun σ' H3 p => ?_)
      · obtain ⟨e3, y5, M, ms, rfl, hM, hm, hms⟩ := p
        rw [List.getElem?_map] at hj
        cases ga : as[j]? with
        | none =>
          rw [ga] at hj
          cases hj
        | some a =>
          rw [ga] at hj
          have ev : V.ref a = v := Option.some.inj hj
          subst ev
          have lj : j < (tups xs i).length := by rw [← las]; exact (List.getElem?_eq_some_iff.mp ga).1
          have gt : (tups xs i)[j]? = some (tups xs i)[j] := List.getElem?_eq_getElem lj
          generalize (tups xs i)[j] = t at gt
          obtain ⟨a', ga', ha'⟩ := prd_get ht gt
          rw [ga] at ga'
          cases ga'
          have lms : (((tups xs i).take j).flatMap fun t => xs.map fun x => t ++ [x]).length ≤ 729 * 9 := by
            rw [flat_len, List.length_take]
            exact Nat.mul_le_mul (by omega) hx
          refine s_asgR (er_moreL (K := K) (us := xs) (g := fun z : V => z) (jm := 4) (jt := 5) (j := 6) (M := M) (a := a) (src_list (f := fun z : V => z) (R1 := fun v _ => v = .ref l) (Ev.r (ev_var rfl) fun _ _ => rfl) fun v H4 e4 r4 => ⟨l, r4, by rw [List.map_id']; exact sq_of ((e'.trans (e2.trans (e3.trans e4))) _ _ hL)⟩) rfl hm hms (fun x => rfl) (fun x => rfl) ((e2.trans e3) _ _ ha') (fun x => rfl) (by omega) (by omega) (by rw [mem_tups_len (List.mem_of_getElem? gt)]; omega)) fun v H4 e4 r4 => ?_
          obtain ⟨M', ms', rfl, hM', hm', hms'⟩ := r4
          refine ⟨e3.trans e4, _, M', ms', rfl, fresh_back (e2.trans e3) hM', hm', ?_⟩
          have fm := flat_more (β := Nat) (tups xs i) xs (fun z : V => z) gt
          rw [List.map_id'] at fm
          rw [fm]
          exact hms'
      · obtain ⟨e3, y5, M, ms, rfl, hM, hm, hms⟩ := p
        rw [List.length_map, las, List.take_length] at hms
        refine s_asg (ev_var rfl) fun H4 e4 => ?_
        exact ⟨e'.trans (e2.trans (e3.trans e4)), _, _, _, M, ms, rfl, fresh_back e' hM, e4 _ _ hm, prd_mono hms fun a t _ h => e4 _ _ h⟩
    · obtain ⟨e', x, x4, x5, D, as, rfl, hD, hl, ht⟩ := p
      rw [Int.toNat_natCast] at ht
      exact s_ret (ev_var rfl) fun H2 e2 => q D as H2 hD (e'.trans e2) (e2 _ _ hl) (prd_mono ht fun a t _ h => e2 _ _ h)
end
end G651
/-! The law's own: breaks; dicts that are filled. -/
namespace G651
open PySem PySem.Spec PyProof.Rows L2 Evl
open StX (tStar pa_star)
/-- all stands, but what is at a -/
def ExB (a : Addr) (H H' : Hp) : Prop := ∀ b o, b ≠ a → H b = some o → H' b = some o
theorem ExB.refl (a : Addr) (H : Hp) : ExB a H H := fun _ _ _ h => h
theorem ExB.trans {a : Addr} {H H1 H2 : Hp} (x : ExB a H H1) (y : ExB a H1 H2) : ExB a H H2 := fun b o n h => y b o n (x b o n h)
theorem exB_of {a : Addr} {H H' : Hp} (e : Ex H H') : ExB a H H' := fun b o _ h => e b o h
theorem ExB.new {a p : Addr} {o : HO} {H : Hp} (h : H p = none) : ExB a H (upd H p o) := exB_of (Ex.new h)
theorem ExB.put {a : Addr} {o : HO} {H H' : Hp} (x : ExB a H H') : ExB a H (upd H' a o) := fun b u n h => by
  rw [upd_ne n]
  exact x b u n h
/-- what stood ahead of a stands -/
theorem ExB.ex {a : Addr} {H0 H H' : Hp} (e : Ex H0 H) (x : ExB a H H') (h : H0 a = none) : Ex H0 H' := fun b o q => x b o (ne_of_none q h) (e b o q)
section
variable {K : PySem.W.Frag} {σ : L2.St} {H : Hp} {tl ta : TE} {Dn : Ends} {tz : TS}
theorem el_listT {p : Addr} {xs : List V} (ha : Ev ta σ H (.ref p)) (h : SqT K H p xs) : EvL (tCB (rListS K) (tCons ta tNil)) σ H xs := fun H1 e Q q =>
  ha H1 e _ fun H2 e2 => ⟨p, xs, rfl, .inr (ex_t (e.trans e2) h), fun l hl => q l _ (fresh_back e2 hl) (e2.trans (Ex.new hl)) upd_same⟩
/-- one row into the dict -/
theorem dput_row {D a : Addr} {kvs : List (List Key × V)} {ks : List (List Int)} {r : List Int} {H1 : Hp} (hD : H1 D = some (.dT kvs)) (hk : Ks kvs ks) (ha : H1 a = some (.tup (r.map V.int))) (hl : ks.length ≤ 1000) : DPut H1 D (.ref a) (.bl true) (upd H1 D (.dT (putK kvs (kInts r) (.bl true)))) :=
  DPut.t (k := kInts r) hD (by rw [kInts_V]; exact ha) (sz_lt (by rw [hk.len]; omega))
theorem q_fillT {ps : List (Addr × List Int)} {t D : Addr} {jd jt : Nat} {x0 : Option V} {kvs : List (List Key × V)} {ks : List (List Int)} (hl : Ev tl σ H (.ref t)) (ht : H t = some (.tup (refs ps))) (hr : Rows H ps) (hd : ∀ x, (σ.set jt x)[jd]? = some (some (.ref D))) (hj : ∀ x, (σ.set jt x)[jt]? = some x) (h00 : σ.set jt x0 = σ) (hD : H D = some (.dT kvs)) (hk : Ks kvs ks)
    (hz : ks.length + ps.length ≤ 1000) (k : ∀ H1 x kvs', ExB D H H1 → H1 D = some (.dT kvs') → Ks kvs' (addsK ks (rowsOf ps)) → tz Dn (σ.set jt x) H1) : tSeq (tFor (iTup K tl) (gName jt) (sDPut (tVar jd) (tVar jt) (tC (.bl true)))) tz Dn σ H := by
  have nD : ∀ {b : Addr} {us : List V}, H b = some (.tup us) → b ≠ D := fun h e => by
    rw [e, hD] at h
    cases h
  refine q_forT (a := t) hl (st_of ht) (fun i σ' H' => ExB D H H' ∧ ∃ x kvs', σ' = σ.set jt x ∧ H' D = some (.dT kvs') ∧ Ks kvs' (addsK ks ((rowsOf ps).take i))) (fun H1 e1 => ⟨exB_of e1, x0, kvs, h00.symm, e1 _ _ hD, hk⟩) (fun i σ' H' _ p => st_of (p.1 _ _ (nD ht) ht)) (fun i v σ' H' hi p => ?_) (fun σ' H' p => ?_)
  · obtain ⟨e', x, kvs', rfl, hD', hk'⟩ := p
    unfold refs at hi
    rw [List.getElem?_map] at hi
    cases g : ps[i]? with
    | none =>
      rw [g] at hi
      cases hi
    | some p =>
      rw [g] at hi
      have ev : V.ref p.1 = v := Option.some.inj hi
      subst ev
      have mp := List.mem_of_getElem? g
      have lk := len_addsK ((rowsOf ps).take i) ks
      have lt : ((rowsOf ps).take i).length ≤ ps.length := by rw [List.length_take, List.length_map]; exact Nat.min_le_right _ _
      show sDPut (tVar jd) (tVar jt) (tC (.bl true)) _ ((σ.set jt x).set jt (some (.ref p.1))) H'
      rw [List.set_set]
      refine ⟨_, hd _, _, hj _, D, _, rfl, dput_row (r := p.2) hD' hk' (e' _ _ (nD (hr p mp)) (hr p mp)) (by omega), e'.put, _, _, rfl, upd_same, ?_⟩
      rw [take_more (x := p.2) (by rw [List.getElem?_map, g]; rfl), addsK_snoc]
      exact hk'.put _ _
  · obtain ⟨e', x, kvs', rfl, hD', hk'⟩ := p
    have lr : (refs ps).length = (rowsOf ps).length := by unfold refs; rw [List.length_map, List.length_map]
    rw [lr, List.take_length] at hk'
    exact k H' x kvs' e' hD' hk'
theorem q_fillL {ps : List (Addr × List Int)} {L D : Addr} {jd jt : Nat} {x0 : Option V} {kvs : List (List Key × V)} {ks : List (List Int)} (hl : Ev tl σ H (.ref L)) (hL : H L = some (.lst (refs ps))) (hr : Rows H ps) (hd : ∀ x, (σ.set jt x)[jd]? = some (some (.ref D))) (hj : ∀ x, (σ.set jt x)[jt]? = some x) (h00 : σ.set jt x0 = σ) (hD : H D = some (.dT kvs)) (hk : Ks kvs ks)
    (hz : ks.length + ps.length ≤ 1000) (k : ∀ H1 x kvs', ExB D H H1 → H1 D = some (.dT kvs') → Ks kvs' (addsK ks (rowsOf ps)) → tz Dn (σ.set jt x) H1) : tSeq (tFor (iList K tl) (gName jt) (sDPut (tVar jd) (tVar jt) (tC (.bl true)))) tz Dn σ H := by
  have nD : ∀ {b : Addr} {us : List V}, H b = some (.tup us) → b ≠ D := fun h e => by
    rw [e, hD] at h
    cases h
  have nL : L ≠ D := fun e => by
    rw [e, hD] at hL
    cases hL
  refine q_forL (a := L) hl (sq_of hL) (fun i σ' H' => ExB D H H' ∧ ∃ x kvs', σ' = σ.set jt x ∧ H' D = some (.dT kvs') ∧ Ks kvs' (addsK ks ((rowsOf ps).take i))) (fun H1 e1 => ⟨exB_of e1, x0, kvs, h00.symm, e1 _ _ hD, hk⟩) (fun i σ' H' _ p => sq_of (p.1 _ _ nL hL)) (fun i v σ' H' hi p => ?_) (fun σ' H' p => ?_)
  · obtain ⟨e', x, kvs', rfl, hD', hk'⟩ := p
    unfold refs at hi
    rw [List.getElem?_map] at hi
    cases g : ps[i]? with
    | none =>
      rw [g] at hi
      cases hi
    | some p =>
      rw [g] at hi
      have ev : V.ref p.1 = v := Option.some.inj hi
      subst ev
      have mp := List.mem_of_getElem? g
      have lk := len_addsK ((rowsOf ps).take i) ks
      have lt : ((rowsOf ps).take i).length ≤ ps.length := by rw [List.length_take, List.length_map]; exact Nat.min_le_right _ _
      show sDPut (tVar jd) (tVar jt) (tC (.bl true)) _ ((σ.set jt x).set jt (some (.ref p.1))) H'
      rw [List.set_set]
      refine ⟨_, hd _, _, hj _, D, _, rfl, dput_row (r := p.2) hD' hk' (e' _ _ (nD (hr p mp)) (hr p mp)) (by omega), e'.put, _, _, rfl, upd_same, ?_⟩
      rw [take_more (x := p.2) (by rw [List.getElem?_map, g]; rfl), addsK_snoc]
      exact hk'.put _ _
  · obtain ⟨e', x, kvs', rfl, hD', hk'⟩ := p
    have lr : (refs ps).length = (rowsOf ps).length := by unfold refs; rw [List.length_map, List.length_map]
    rw [lr, List.take_length] at hk'
    exact k H' x kvs' e' hD' hk'
end
/-- a triple in the heap, and its image by a promise like image_of's -/
theorem eu_img {K : PySem.W.Frag} {σ : L2.St} {H : Hp} {n ar : Nat} {o T : Addr} {pa pb pc : Addr × List Int} {ps : List (Addr × List Int)} {i0 i1 i2 : Nat} (hn : n = 2 ∨ n = 3) (h4 : ar ≤ 4) (h0 : σ[i0]? = some (some (.int (n : Int)))) (h1 : σ[i1]? = some (some (.ref o))) (h2 : σ[i2]? = some (some (.ref T))) (ho : OpAt H n o)
    (hT : H T = some (.tup [.ref pa.1, .ref pb.1, .ref pc.1])) (hr : Rows H ps) (ma : pa ∈ ps) (mb : pb ∈ ps) (mc : pc ∈ ps) (mm : ∀ p ∈ ps, p.2 ∈ rows n ar) :
    EvU (tCall sp__law_carried [] E0 (tCons (tVar i0) (tCons (tVar i1) (tCons (tVar i2) tNil)))) σ H ((img n pa.2 pb.2 pc.2).map V.int) := fun H3 e3 Q3 q3 =>
  (er_call (R := fun v H4 => ∃ p, v = .ref p ∧ H3 p = none ∧ H4 p = some (.tup ((img n pa.2 pb.2 pc.2).map V.int))) (H := H3) (vs := [.int (n : Int), .ref o, .ref T]) (ea_cons (ev_var h0) (ea_cons (ev_var h1) (ea_cons (ev_var h2) ea_nil))) fun H4 e4 Q q E =>
    have EE := e3.trans e4
    ⟨n, ar, o, T, pa.1, pb.1, pc.1, pa.2, pb.2, pc.2, rfl, hn, h4, ho.ex EE, EE _ _ hT, EE _ _ (hr _ ma), EE _ _ (hr _ mb), EE _ _ (hr _ mc), mm _ ma, mm _ mb, mm _ mc, fun p H5 hp e5 h5 => q _ H5 e5 ⟨p, rfl, fresh_back e4 hp, h5⟩⟩)
  H3 (Ex.refl _) _ fun v H5 e5 ⟨p, e, hp, h5⟩ => by
    subst e
    exact q3 p H5 hp e5 h5
section
variable {P : Program} {w : World} {K : PySem.W.Frag} {mg : Str → Option Value} {base : Heap} {f : Addr} {fd : FuncData}
/-! ### _law_breaks -/
abbrev s__law_breaks : Stmt := topS 36
theorem sc__law_breaks : FnScope ["_law_size", "_law_operation", "_law_relation", "_law_known", "_law_told", "_law_rows_here"] ["_law_size", "_law_operation", "_law_relation"] (defScope s__law_breaks) := ⟨rfl, rfl, rfl, by decide +kernel, rfl, by decide +kernel, by decide +kernel⟩
def sp__law_breaks : Sp := fun vs H Q _ => ∃ (n ar : Nat) (o r t : Addr) (ps : List (Addr × List Int)), vs = [.int (n : Int), .ref o, .ref r] ∧ OpAt H n o ∧ RelAt H r t ar ps ∧ Val n ar (rowsOf ps) ∧ ps.length ≤ 9 ∧ RetF (aff n (rowsOf ps)) H Q
theorem ok__law_breaks (B : Bl mg) (C__law_tuples : Cal P w K mg base 1 "_law_tuples" ["_law_things", "_law_many"] sp__law_tuples) (C__law_carried : Cal P w K mg base 2 "_law_carried" ["_law_size", "_law_operation", "_law_rows_here"] sp__law_carried)
    (F : Fun K "_law_breaks" "_law_breaks" s__law_breaks f fd) : FnOk P w K mg base CX0 3 f fd ["_law_size", "_law_operation", "_law_relation"] sp__law_breaks := by
  refine F.ok sc__law_breaks (fun vs H Q E h => ?_) (fun cdv A outer s H vs Q E hr h => ?_)
  · obtain ⟨n, ar, o, r, t, ps, rfl, _⟩ := h
    rfl
  · obtain ⟨n, ar, o, r, t, ps, rfl, ho, hrel, hv, h9, q⟩ := h
    refine ⟨_, (pss_cons (ps_set (i := 3) sc__law_breaks.nd rfl (Or.inl rfl) pe_dnewT)
      (pss_cons (ps_for PassesOwn.never rfl (show PI _ _ _ (iTup K _) from pi_tup (pe_ix (r := rIxT K) ix_tup (pv 2) pe_int (fun _ _ => rfl))) (pg_name (i := 4) sc__law_breaks.nd rfl (Or.inl rfl)) (pss_one (ps_dput (hu_of hr) (pv 3) (pv 4) pe_bl rfl)))
      (pss_cons (ps_for PassesOwn.never rfl (show PI _ _ _ (iList K _) from pi_list (pe_cal C__law_tuples hr (by decide) (pa_cons (pe_callTy (r := rListS K) call_list_of (by rfl) B.list PyProof.Rows.boot_list (pa_cons (pe_ix (r := rIxT K) ix_tup (pv 2) pe_int (fun _ _ => rfl)) pa_nil)) (pa_cons (pe_ix (r := rIxT K) ix_tup (pv 1) pe_int (fun _ _ => rfl)) pa_nil)))) (pg_name (i := 5) sc__law_breaks.nd rfl (Or.inl rfl)) (pss_one (ps_if (pt_cmp (pc_dnotin (hu_of hr) (pe_cal C__law_carried hr (by decide) (pa_cons (pv 0) (pa_cons (pv 1) (pa_cons (pv 5) pa_nil)))) (pv 3)) rfl) (pss_one (ps_ret (pv 5))) pss_nil)))
      (pss_one (ps_ret pe_non))))), ?_⟩
    obtain ⟨h1, h2, h3⟩ := id hrel
    obtain ⟨tb, o1, o2⟩ := id ho
    -- known = {}
    intro D hD
    have e0 : Ex H (upd H D (.dT [])) := Ex.new hD
    have d0 : (upd H D (.dT [])) D = some (.dT []) := upd_same
    generalize upd H D (.dT []) = H0 at e0 d0
    refine q_fillT (K := K) (ps := ps) (t := t) (D := D) (jd := 3) (jt := 4) (x0 := none) (kvs := []) (ks := []) (ev_ixT (ev_var rfl) ev_c (st_of (e0 _ _ h1)) rfl) (e0 _ _ h2) (h3.ex e0) (fun x => rfl) (fun x => rfl) rfl d0 rfl (by show 0 + ps.length ≤ 1000; omega) fun H1 x kvs eB h4 hk => ?_
    have e1 : Ex H H1 := eB.ex e0 hD
    refine q_forLR (R1 := fun v H2 => ∃ L as, v = .ref L ∧ H2 L = some (.lst (as.map V.ref)) ∧ Tups H2 as (tups (refs ps) 3))
      (er_callR (R1 := fun vs H2 => ∃ l, vs = [.ref l, .int 3] ∧ H2 l = some (.lst (refs ps))) (fun H2 e2 Q q => (el_listT (K := K) (ev_ixT (ev_var rfl) ev_c (st_of (e1 _ _ h1)) rfl) (st_of (e1 _ _ h2))) H2 e2 _ fun l H3 hl e3 d3 => (ev_ixT (K := K) (ta := tVar 1) (tb := tC (.int 0)) (H := H3) (v := .int 3) (ev_var rfl) ev_c (st_of ((e1.trans (e2.trans e3)) _ _ o1)) rfl) H3 (Ex.refl _) _ fun H4 e4 => q _ H4 (e3.trans e4) ⟨l, rfl, e4 _ _ d3⟩)
        fun vs H2 e2 ⟨l, el, hl⟩ => by
          subst el
          exact fun H3 e3 Q q E => ⟨l, refs ps, 3, rfl, e3 _ _ hl, by unfold refs; rw [List.length_map]; exact h9, by decide, fun L as H4 hL e4 hl ht => q _ H4 e4 ⟨L, as, rfl, hl, ht⟩⟩) fun v H2 e2 r2 => ?_
    obtain ⟨L, as, rfl, hL, hT⟩ := r2
    have E2 := e1.trans e2
    rw [tups_refs] at hT
    have lT : as.length = (tups ps 3).length := by rw [Paired.length hT, List.length_map]
    refine ⟨L, as.map V.ref, fun i σ' H' => Ex H2 H' ∧ ∃ x x5, σ' = [some (.int (n : Int)), some (.ref o), some (.ref r), some (.ref D), x, x5] ∧ ((tups ps 3).take i).all (inT n (rowsOf ps)) = true, rfl, sq_of hL, ⟨Ex.refl _, _, none, rfl, rfl⟩, fun i σ' H' _ p => sq_of (p.1 _ _ hL), fun i x σ' H' hi p => ?_, fun σ' H' p => ?_⟩
    · obtain ⟨e', x0, x5, rfl, ha⟩ := p
      have E' := E2.trans e'
      rw [List.getElem?_map] at hi
      cases ga : as[i]? with
      | none =>
        rw [ga] at hi
        cases hi
      | some T =>
        rw [ga] at hi
        have ex : V.ref T = x := Option.some.inj hi
        subst ex
        have li : i < (tups ps 3).length := by rw [← lT]; exact (List.getElem?_eq_some_iff.mp ga).1
        have gt : (tups ps 3)[i]? = some (tups ps 3)[i] := List.getElem?_eq_getElem li
        generalize (tups ps 3)[i] = tr at gt
        obtain ⟨a', ga', hT'⟩ := prd_get hT (i := i) (z := tr.map fun p => V.ref p.1) (by rw [List.getElem?_map, gt]; rfl)
        rw [ga] at ga'
        cases ga'
        obtain ⟨pa, pb, pc, rfl, ma, mb, mc⟩ := triple_of (List.mem_of_getElem? gt)
        have hT3 : H' T = some (.tup [.ref pa.1, .ref pb.1, .ref pc.1]) := e' _ _ hT'
        have mm : ∀ p ∈ ps, p.2 ∈ rows n ar := fun p hp => hv.mem _ (List.mem_map.mpr ⟨p, hp, rfl⟩)
        have im := eu_img (K := K) (σ := [some (.int (n : Int)), some (.ref o), some (.ref r), some (.ref D), x0, x5].set 5 (some (.ref T))) (H := H') (i0 := 0) (i1 := 1) (i2 := 5) hv.hn hv.h4 rfl rfl rfl (ho.ex E') hT3 (h3.ex E') ma mb mc mm
        refine s_when (et_dnotin im (ev_var rfl) ((e2.trans e') _ _ h4) hk) (fun hb H3 e3 => ?_) fun hb H3 e3 => ?_
        · refine s_ret (ev_var rfl) fun H4 e4 => q.2 ?_ T H4 ((E'.trans e3).trans e4)
          rw [aff_inT, List.all_eq_false]
          refine ⟨_, List.mem_of_getElem? gt, ?_⟩
          rw [has_addsK] at hb
          show ¬ ((rowsOf ps).contains (G651.img n pa.2 pb.2 pc.2) = true)
          intro z
          rw [z] at hb
          cases hb
        · refine ⟨e'.trans e3, _, _, rfl, ?_⟩
          rw [take_more gt, List.all_append, ha]
          rw [has_addsK] at hb
          show (true && ((rowsOf ps).contains (G651.img n pa.2 pb.2 pc.2) && true)) = true
          cases z : (rowsOf ps).contains (G651.img n pa.2 pb.2 pc.2) with
          | true => rfl
          | false =>
            rw [z] at hb
            cases hb
    · obtain ⟨e', x0, x5, rfl, ha⟩ := p
      rw [List.length_map, lT, List.take_length] at ha
      exact s_ret ev_c fun H4 e4 => q.1 (by rw [aff_inT]; exact ha) H4 ((E2.trans e').trans e4)
end
end G651
/-! What the law draws: a number, a thing, some rows. -/
namespace G651
open PySem PySem.Spec PyProof.Rows L2 Evl
open StX (tStar pa_star)
/-- the list that holds where the script stands -/
def RowS (H : Hp) (a l : Addr) : Prop := ∃ i s g : Int, H a = some (.lst [.ref l, .int i, .int s, .int g]) ∧ 0 ≤ i ∧ 0 ≤ s ∧ s < 2147483647 ∧ 0 ≤ g
/-- .. and the script, that stood ahead of it -/
def Scr (K : PySem.W.Frag) (H : Hp) (a l : Addr) : Prop := ∃ (H0 : Hp) (ns : List Int), H0 a = none ∧ Ex H0 H ∧ SqL K H0 l (ns.map V.int)
theorem Scr.b {K : PySem.W.Frag} {H H' : Hp} {a l : Addr} (h : Scr K H a l) (e : ExB a H H') : Scr K H' a l := by
  obtain ⟨H0, ns, h1, h2, h3⟩ := h
  exact ⟨H0, ns, h1, e.ex h2 h1, h3⟩
def RetN (H : Hp) (a l : Addr) (m : Int) (Q : VK) : Prop := ∀ v H2, 0 ≤ v → v < m → RowS H2 a l → ExB a H H2 → Q (.int v) H2
theorem RowS.ne {H : Hp} {a l b : Addr} {us : List V} (h : RowS H a l) (hb : H b = some (.tup us)) : b ≠ a := fun e => by
  obtain ⟨i, s, g, h1, _⟩ := h
  rw [e, h1] at hb
  cases hb
section
variable {σ : L2.St} {H : Hp} {ta : TE}
theorem ev_int1 {i : Int} (h : Ev ta σ H (.int i)) : Ev (tCB (fun xs H Q => (∃ i, xs = [V.int i] ∧ Q (.int i) H) ∨ ∃ k, xs = [V.bl k] ∧ Q (.int (if k then 1 else 0)) H) (tCons ta tNil)) σ H (.int i) :=
  ev_cb (ea_cons h ea_nil) fun H2 e2 Q q => .inl ⟨_, rfl, q H2 (Ex.refl _)⟩
end
section
variable {P : Program} {w : World} {K : PySem.W.Frag} {mg : Str → Option Value} {base : Heap} {f : Addr} {fd : FuncData}
/-! ### _law_taken -/
abbrev s__law_taken : Stmt := topS 28
theorem sc__law_taken : FnScope ["_law_row", "_law_many", "_law_found", "_law_cell"] ["_law_row", "_law_many"] (defScope s__law_taken) := ⟨rfl, rfl, rfl, by decide +kernel, rfl, by decide +kernel, by decide +kernel⟩
def sp__law_taken (K : PySem.W.Frag) : Sp := fun vs H Q _ => ∃ (a l : Addr) (m : Int), vs = [.ref a, .int m] ∧ 1 ≤ m ∧ m ≤ 1000 ∧ RowS H a l ∧ Scr K H a l ∧ RetN H a l m Q
theorem ok__law_taken (B : Bl mg) (F : Fun K "_law_taken" "_law_taken" s__law_taken f fd) : FnOk P w K mg base CX0 1 f fd ["_law_row", "_law_many"] (sp__law_taken K) := by
  refine F.ok sc__law_taken (fun vs H Q E h => ?_) (fun cdv A outer s H vs Q E hr h => ?_)
  · obtain ⟨a, l, m, rfl, _⟩ := h
    rfl
  · obtain ⟨a, l, m, rfl, hm1, hm2, hR, hS, q⟩ := h
    refine ⟨_, (pss_cons (ps_if (pt_cmpR op_gt (pe_ix (r := rIxL K) ix_list (pv 0) pe_int (fun _ _ => rfl)) pe_int (nomark _)) (pss_cons (ps_set (i := 2) sc__law_taken.nd rfl (Or.inl rfl) (pe_op op_mod (pe_callTy call_int1 (by rfl) B.int PyProof.Rows.boot_int (pa_cons (pe_ix (r := rIxL K) ix_list (pv 0) pe_int (fun _ _ => rfl)) pa_nil)) (pv 1)))
      (pss_cons (ps_asg (pe_op op_fdiv (pe_ix (r := rIxL K) ix_list (pv 0) pe_int (fun _ _ => rfl)) (pv 1)) (pg_sub (pv 0) pe_int set_list))
      (pss_one (ps_ret (pv 2))))) pss_nil)
      (pss_cons (ps_asg (pe_op op_add (pe_ix (r := rIxL K) ix_list (pv 0) pe_int (fun _ _ => rfl)) pe_int) (pg_sub (pv 0) pe_int set_list))
      (pss_cons (ps_if (pt_cmpR op_gt (pe_ix (r := rIxL K) ix_list (pv 0) pe_int (fun _ _ => rfl)) (pe_callB (r := rLenS2 K) call_len_seq (by rfl) B.len PySem.boot_len (pa_cons (pe_ix (r := rIxL K) ix_list (pv 0) pe_int (fun _ _ => rfl)) pa_nil)) (nomark _)) (pss_cons (ps_asg (pe_op op_mod (pe_callTy call_int1 (by rfl) B.int PyProof.Rows.boot_int (pa_cons (pe_op op_add (pe_op op_mul (pe_ix (r := rIxL K) ix_list (pv 0) pe_int (fun _ _ => rfl)) pe_int) pe_int) pa_nil)) pe_int) (pg_sub (pv 0) pe_int set_list))
      (pss_one (ps_ret (pe_op op_mod (pe_callTy call_int1 (by rfl) B.int PyProof.Rows.boot_int (pa_cons (pe_op op_fdiv (pe_ix (r := rIxL K) ix_list (pv 0) pe_int (fun _ _ => rfl)) pe_int) pa_nil)) (pv 1))))) pss_nil)
      (pss_cons (ps_set (i := 3) sc__law_taken.nd rfl (Or.inl rfl) (pe_ix (r := rIxL K) ix_list (pe_ix (r := rIxL K) ix_list (pv 0) pe_int (fun _ _ => rfl)) (pe_op op_sub (pe_ix (r := rIxL K) ix_list (pv 0) pe_int (fun _ _ => rfl)) pe_int) (fun _ _ => rfl)))
      (pss_cons (ps_asg (pe_op op_mod (pe_callTy call_int1 (by rfl) B.int PyProof.Rows.boot_int (pa_cons (pe_op op_add (pe_op op_add (pe_op op_mul (pe_ix (r := rIxL K) ix_list (pv 0) pe_int (fun _ _ => rfl)) pe_int) (pv 3)) pe_int) pa_nil)) pe_int) (pg_sub (pv 0) pe_int set_list))
      (pss_cons (ps_if (pt_cmpR op_ge (pv 3) (pe_op op_pow pe_int pe_int) (nomark _)) (pss_one (ps_asg (pe_op op_fdiv (pv 3) (pv 1)) (pg_sub (pv 0) pe_int set_list))) pss_nil)
      (pss_one (ps_ret (pe_op op_mod (pe_callTy call_int1 (by rfl) B.int PyProof.Rows.boot_int (pa_cons (pv 3) pa_nil)) (pv 1)))))))))), ?_⟩
    obtain ⟨i, s, g, ha, hi, hs, hs2, hg⟩ := hR
    have hmod : ∀ z : Int, 0 ≤ z % m ∧ z % m < m := fun z => ⟨Int.emod_nonneg _ (by omega), Int.emod_lt_of_pos _ (by omega)⟩
    have hM : ∀ z : Int, 0 ≤ z % 2147483647 ∧ z % 2147483647 < 2147483647 := fun z => ⟨Int.emod_nonneg _ (by omega), Int.emod_lt_of_pos _ (by omega)⟩
    refine q_when (b := decide (0 < g)) (et_test (ev_op (ev_ixL (ev_var rfl) ev_c (sq_of ha) (at_of (j := 3) rfl rfl)) ev_c rv_I0)) (fun hb H1 e1 => ?_) (fun hb H1 e1 => ?_)
    · refine q_asg (v := .int (g % m)) (ev_mod (ev_int1 (ev_ixL (ev_var rfl) ev_c (sq_of (e1 _ _ ha)) (at_of (j := 3) rfl rfl))) (ev_var rfl) (by omega)) fun H2 e2 => ?_
      have E2 := e1.trans e2
      refine q_setL (j := 3) (v := .int (g / m)) (E2 _ _ ha) (ev_op (ev_ixL (ev_var rfl) ev_c (sq_of (E2 _ _ ha)) (at_of (j := 3) rfl rfl)) (ev_var rfl) (rv_I ⟨by omega, by omega⟩)) (ev_var rfl) ev_c (by show _ < 4; decide) fun H3 e3 => ?_
      have E3 := E2.trans e3
      refine s_ret (ev_var rfl) fun H4 e4 => q _ H4 (hmod g).1 (hmod g).2 ⟨i, s, g / m, e4 _ _ upd_same, hi, hs, hs2, Int.ediv_nonneg hg (by omega)⟩ ((exB_of E3).put.trans (exB_of e4))
    · -- the next place
      refine q_setL (j := 1) (v := .int (i + 1)) (e1 _ _ ha) (ev_add (ev_ixL (ev_var rfl) ev_c (sq_of (e1 _ _ ha)) (at_of (j := 1) rfl rfl)) ev_c) (ev_var rfl) ev_c (by show _ < 4; decide) fun H2 e2 => ?_
      have x2 : ExB a H (upd H2 a (.lst ([V.ref l, .int i, .int s, .int g].set 1 (.int (i + 1))))) := (exB_of (e1.trans e2)).put
      have a2 : (upd H2 a (.lst ([V.ref l, .int i, .int s, .int g].set 1 (.int (i + 1))))) a = some (.lst [.ref l, .int (i + 1), .int s, .int g]) := upd_same
      have s2 := hS.b x2
      generalize upd H2 a (.lst ([V.ref l, .int i, .int s, .int g].set 1 (.int (i + 1)))) = G at x2 a2 s2
      obtain ⟨H0, ns, h0, e0, hl⟩ := s2
      have hlG : SqL K G l (ns.map V.int) := ex_l e0 hl
      refine q_when (b := decide ((ns.length : Int) < i + 1)) (et_test (ev_is (ev_op (ev_ixL (ev_var rfl) ev_c (sq_of a2) (at_of (j := 1) rfl rfl)) (ev_lenL (K := K) (ev_ixL (ev_var rfl) ev_c (sq_of a2) (at_of (j := 0) rfl rfl)) hlG) rv_I0) (by rw [List.length_map]))) (fun hb2 H3 e3 => ?_) (fun hb2 H3 e3 => ?_)
      · refine q_setL (j := 2) (v := .int ((s * 48271 + 11) % 2147483647)) (e3 _ _ a2) (ev_mod (ev_int1 (ev_add (ev_mul (ev_ixL (ev_var rfl) ev_c (sq_of (e3 _ _ a2)) (at_of (j := 2) rfl rfl)) ev_c (.inr ⟨by decide, by decide⟩)) ev_c)) ev_c (by decide)) (ev_var rfl) ev_c (by show _ < 4; decide) fun H4 e4 => ?_
        have x4 : ExB a H (upd H4 a (.lst ([V.ref l, .int (i + 1), .int s, .int g].set 2 (.int ((s * 48271 + 11) % 2147483647))))) := (x2.trans (exB_of (e3.trans e4))).put
        have a4 : (upd H4 a (.lst ([V.ref l, .int (i + 1), .int s, .int g].set 2 (.int ((s * 48271 + 11) % 2147483647))))) a = some (.lst [.ref l, .int (i + 1), .int ((s * 48271 + 11) % 2147483647), .int g]) := upd_same
        generalize upd H4 a (.lst ([V.ref l, .int (i + 1), .int s, .int g].set 2 (.int ((s * 48271 + 11) % 2147483647)))) = G4 at x4 a4
        have hM4 := hM (s * 48271 + 11)
        refine s_ret (v := .int ((s * 48271 + 11) % 2147483647 / 7 % m)) (ev_mod (ev_int1 (ev_op (ev_ixL (ev_var rfl) ev_c (sq_of a4) (at_of (j := 2) rfl rfl)) ev_c (rv_I ⟨by decide, by decide⟩))) (ev_var rfl) (by omega)) fun H5 e5 => q _ H5 (hmod _).1 (hmod _).2 ⟨i + 1, _, g, e5 _ _ a4, by omega, hM4.1, hM4.2, hg⟩ (x4.trans (exB_of e5))
      · have hlt : i.toNat < ns.length := by
          have h2 := of_decide_eq_false hb2
          omega
        have gc : (ns.map V.int)[i.toNat]? = some (.int ns[i.toNat]) := by
          rw [List.getElem?_map, List.getElem?_eq_getElem hlt]
          rfl
        generalize ns[i.toNat] = c at gc
        have hl3 : SqL K H3 l (ns.map V.int) := ex_l (e0.trans e3) hl
        refine q_asg (v := .int c) (ev_ixL (ev_ixL (ev_var rfl) ev_c (sq_of (e3 _ _ a2)) (at_of (j := 0) rfl rfl)) (ev_sub (ev_ixL (ev_var rfl) ev_c (sq_of (e3 _ _ a2)) (at_of (j := 1) rfl rfl)) ev_c) hl3 (at_of (j := i.toNat) (by omega) gc)) fun H4 e4 => ?_
        have E4 := e3.trans e4
        refine q_setL (j := 2) (v := .int ((s * 48271 + c + 11) % 2147483647)) (E4 _ _ a2) (ev_mod (ev_int1 (ev_add (ev_add (ev_mul (ev_ixL (ev_var rfl) ev_c (sq_of (E4 _ _ a2)) (at_of (j := 2) rfl rfl)) ev_c (.inr ⟨by decide, by decide⟩)) (ev_var rfl)) ev_c)) ev_c (by decide)) (ev_var rfl) ev_c (by show _ < 4; decide) fun H5 e5 => ?_
        have x5 : ExB a H (upd H5 a (.lst ([V.ref l, .int (i + 1), .int s, .int g].set 2 (.int ((s * 48271 + c + 11) % 2147483647))))) := (x2.trans (exB_of (E4.trans e5))).put
        have a5 : (upd H5 a (.lst ([V.ref l, .int (i + 1), .int s, .int g].set 2 (.int ((s * 48271 + c + 11) % 2147483647))))) a = some (.lst [.ref l, .int (i + 1), .int ((s * 48271 + c + 11) % 2147483647), .int g]) := upd_same
        generalize upd H5 a (.lst ([V.ref l, .int (i + 1), .int s, .int g].set 2 (.int ((s * 48271 + c + 11) % 2147483647)))) = G5 at x5 a5
        have hM5 := hM (s * 48271 + c + 11)
        refine q_when (b := decide ((10 : Int) ^ (18 : Int).toNat ≤ c)) (et_test (ev_op (ev_var rfl) (ev_op ev_c ev_c (rv_I ⟨by decide, by decide, by decide⟩)) rv_I0)) (fun hb3 H6 e6 => ?_) (fun hb3 H6 e6 => ?_)
        · have hc : (0 : Int) ≤ c := Int.le_trans (by decide) (of_decide_eq_true hb3)
          refine s_setL (j := 3) (v := .int (c / m)) (e6 _ _ a5) (ev_op (ev_var rfl) (ev_var rfl) (rv_I ⟨by omega, by omega⟩)) (ev_var rfl) ev_c (by show _ < 4; decide) fun H7 e7 => ?_
          have x7 : ExB a H (upd H7 a (.lst ([V.ref l, .int (i + 1), .int ((s * 48271 + c + 11) % 2147483647), .int g].set 3 (.int (c / m))))) := (x5.trans (exB_of (e6.trans e7))).put
          have a7 : (upd H7 a (.lst ([V.ref l, .int (i + 1), .int ((s * 48271 + c + 11) % 2147483647), .int g].set 3 (.int (c / m))))) a = some (.lst [.ref l, .int (i + 1), .int ((s * 48271 + c + 11) % 2147483647), .int (c / m)]) := upd_same
          generalize upd H7 a (.lst ([V.ref l, .int (i + 1), .int ((s * 48271 + c + 11) % 2147483647), .int g].set 3 (.int (c / m)))) = G7 at x7 a7
          exact s_ret (v := .int (c % m)) (ev_mod (ev_int1 (ev_var rfl)) (ev_var rfl) (by omega)) fun H8 e8 => q _ H8 (hmod c).1 (hmod c).2 ⟨i + 1, _, c / m, e8 _ _ a7, by omega, hM5.1, hM5.2, Int.ediv_nonneg hc (by omega)⟩ (x7.trans (exB_of e8))
        · exact s_ret (v := .int (c % m)) (ev_mod (ev_int1 (ev_var rfl)) (ev_var rfl) (by omega)) fun H8 e8 => q _ H8 (hmod c).1 (hmod c).2 ⟨i + 1, _, g, (e6.trans e8) _ _ a5, by omega, hM5.1, hM5.2, hg⟩ (x5.trans (exB_of (e6.trans e8)))
/-! ### _law_pick -/
abbrev s__law_pick : Stmt := topS 29
theorem sc__law_pick : FnScope ["_law_row", "_law_things"] ["_law_row", "_law_things"] (defScope s__law_pick) := ⟨rfl, rfl, rfl, by decide +kernel, rfl, by decide +kernel, by decide +kernel⟩
def sp__law_pick (K : PySem.W.Frag) : Sp := fun vs H Q _ => ∃ (a l D : Addr) (xs : List V), vs = [.ref a, .ref D] ∧ D ≠ a ∧ H D = some (.lst xs) ∧ 1 ≤ xs.length ∧ xs.length ≤ 1000 ∧ RowS H a l ∧ Scr K H a l ∧ ∀ v H2, v ∈ xs → RowS H2 a l → ExB a H H2 → Q v H2
theorem ok__law_pick (B : Bl mg) (C__law_taken : Cal P w K mg base 1 "_law_taken" ["_law_row", "_law_many"] (sp__law_taken K)) (F : Fun K "_law_pick" "_law_pick" s__law_pick f fd) : FnOk P w K mg base CX0 2 f fd ["_law_row", "_law_things"] (sp__law_pick K) := by
  refine F.ok sc__law_pick (fun vs H Q E h => ?_) (fun cdv A outer s H vs Q E hr h => ?_)
  · obtain ⟨a, l, D, xs, rfl, _⟩ := h
    rfl
  · obtain ⟨a, l, D, xs, rfl, nD, hD, h1, h2, hR, hS, q⟩ := h
    refine ⟨_, (pss_one (ps_ret (pe_ix (r := rIxL K) ix_list (pv 1) (pe_cal C__law_taken hr (by decide) (pa_cons (pv 0) (pa_cons (pe_callB (r := rLenS2 K) call_len_seq (by rfl) B.len PySem.boot_len (pa_cons (pv 1) pa_nil)) pa_nil))) (fun _ _ => rfl)))), ?_⟩
    refine ⟨_, rfl, _, rfl, (ev_lenL (K := K) (te := tVar 1) (σ := start ["_law_row", "_law_things"] [.ref a, .ref D]) (H := H) (ev_var rfl) (sq_of hD)) H (Ex.refl _) _ fun H1 e1 => ?_⟩
    obtain ⟨i, s, g, ha, r⟩ := hR
    refine ⟨a, l, (xs.length : Int), rfl, by omega, by omega, ⟨i, s, g, e1 _ _ ha, r⟩, hS.b (exB_of e1), fun v H2 v0 v1 hR2 x2 => ?_⟩
    have hlt : v.toNat < xs.length := by omega
    have gx := List.getElem?_eq_getElem hlt
    exact ⟨D, xs, v, xs[v.toNat], rfl, rfl, sq_of (x2 _ _ nD (e1 _ _ hD)), at_of (j := v.toNat) (by omega) gx, q _ H2 (List.mem_of_getElem? gx) hR2 ((exB_of e1).trans x2)⟩
end
end G651
/-! Some rows, drawn. -/
namespace G651
open PySem PySem.Spec PyProof.Rows L2 Evl
open StX (tStar pa_star)
/-! ### the order of the codes is the order of the rows -/
theorem code_lex : ∀ {x y : List Int}, x.length = y.length → TS.Bd 3 x → TS.Bd 3 y → HT.lexLt x y = true → TS.code 3 x < TS.code 3 y
  | [], [], _, _, _, h => by cases h
  | [], _ :: _, hl, _, _, _ => by simp at hl
  | _ :: _, [], hl, _, _, _ => by simp at hl
  | a :: x, b :: y, hl, h1, h2, h => by
    have hl' : x.length = y.length := by simpa using hl
    have h' : (if a = b then HT.lexLt x y else decide (a < b)) = true := h
    by_cases e : a = b
    · rw [if_pos e] at h'
      subst e
      exact (TS.code_same hl').mpr (code_lex hl' h1.tail h2.tail h')
    · rw [if_neg e] at h'
      exact TS.code_lt hl' h1.tail h2.tail (of_decide_eq_true h')
theorem asc_code {rs : List (List Int)} {d : Nat} (hl : ∀ r ∈ rs, r.length = d ∧ TS.Bd 3 r) (hn : rs.Nodup) (hc : rs.Pairwise fun a b => TS.code 3 a ≤ TS.code 3 b) : Asc rs := by
  refine List.Pairwise.imp_of_mem (fun {a b} ma mb h => ?_) (hn.and hc)
  obtain ⟨ne, h⟩ := h
  cases h1 : HT.lexLt a b with
  | true => rfl
  | false =>
    exfalso
    cases h2 : HT.lexLt b a with
    | true =>
      have h3 := code_lex (by rw [(hl b mb).1, (hl a ma).1]) (hl b mb).2 (hl a ma).2 h2
      omega
    | false => exact ne (lx_tot (by rw [(hl a ma).1, (hl b mb).1]) h1 h2)
theorem bd_row {n ar : Nat} (hn : n = 2 ∨ n = 3) {r : List Int} (h : r ∈ rows n ar) : r.length = ar ∧ TS.Bd 3 r := by
  obtain ⟨h1, h2⟩ := mem_rows.mp h
  refine ⟨h1, fun m hm => ?_⟩
  have h3 := h2 m hm
  rcases hn with rfl | rfl <;> omega
theorem ExB.mut {a p : Addr} {o : HO} {H H' : Hp} (x : ExB a H H') (h : H p = none) : ExB a H (upd H' p o) := fun b u n q => by
  rw [upd_ne (ne_of_none q h)]
  exact x b u n q
theorem any_T (r : List Int) : ∀ rs : List (List Int), ((rs.map dT).any fun z => PyData.eqv z (dT r)) = rs.contains r
  | [] => rfl
  | a :: rs => by
    rw [List.map_cons, List.any_cons, any_T r rs, List.contains_cons, eqv_T]
    congr 1
    by_cases e : a = r
    · subst e
      rfl
    · rw [beq_eq_false_iff_ne.mpr e, beq_eq_false_iff_ne.mpr (fun z => e z.symm)]
section
variable {K : PySem.W.Frag} {σ : L2.St} {H : Hp} {ta tb : TE}
theorem ev_notInT {a F : Addr} {r : List Int} {fs : List (Addr × List Int)} (ha : Ev ta σ H (.ref a)) (hb : Ev tb σ H (.ref F)) (hA : H a = some (.tup (r.map V.int))) (hF : H F = some (.lst (refs fs))) (hr : Rows H fs) : Ev (tOp (rNotInD K) ta tb) σ H (.bl (!(rowsOf fs).contains r)) :=
  ev_op ha hb fun H1 e1 Q q => by
    refine ⟨dT r, (rowsOf fs).map dT, dp_T (e1 _ _ hA), .lst (sq_of (e1 _ _ hF)) ?_, shaped_T r, shaped_TLs _, ?_⟩
    · have d := dp_Ts (K := K) (hr.ex e1)
      have e3 : (rowsOf fs).map dT = fs.map fun p => dT p.2 := by unfold rowsOf; rw [List.map_map]; rfl
      rw [e3]
      exact d
    · rw [any_T]
      exact q H1 (Ex.refl _)
end
section
variable {P : Program} {w : World} {K : PySem.W.Frag} {mg : Str → Option Value} {base : Heap} {f : Addr} {fd : FuncData}
/-! ### _law_some_rows -/
abbrev s__law_some_rows : Stmt := topS 40
theorem sc__law_some_rows : FnScope ["_law_row", "_law_size", "_law_arity", "_law_most", "_law_every", "_law_found", "_law_turn", "_law_told"] ["_law_row", "_law_size", "_law_arity", "_law_most"] (defScope s__law_some_rows) := ⟨rfl, rfl, rfl, by decide +kernel, rfl, by decide +kernel, by decide +kernel⟩
/-- a new tuple of valid rows, one at least -/
def RetS (n ar most : Nat) (a l : Addr) (H : Hp) (Q : VK) : Prop := ∀ t ps H2, H t = none → ExB a H H2 → RowS H2 a l → H2 t = some (.tup (refs ps)) → Rows H2 ps → Val n ar (rowsOf ps) → rowsOf ps ≠ [] → ps.length ≤ most → Q (.ref t) H2
def sp__law_some_rows (K : PySem.W.Frag) : Sp := fun vs H Q _ => ∃ (n ar most : Nat) (a l : Addr), vs = [.ref a, .int (n : Int), .int (ar : Int), .int (most : Int)] ∧ (n = 2 ∨ n = 3) ∧ 1 ≤ ar ∧ ar ≤ 4 ∧ 1 ≤ most ∧ most ≤ 4 ∧ RowS H a l ∧ Scr K H a l ∧ RetS n ar most a l H Q
theorem ok__law_some_rows (B : Bl mg) (C__law_rows : Cal P w K mg base 1 "_law_rows" ["_law_size", "_law_arity"] sp__law_rows) (C__law_taken : Cal P w K mg base 1 "_law_taken" ["_law_row", "_law_many"] (sp__law_taken K)) (C__law_pick : Cal P w K mg base 2 "_law_pick" ["_law_row", "_law_things"] (sp__law_pick K))
    (F : Fun K "_law_some_rows" "_law_some_rows" s__law_some_rows f fd) : FnOk P w K mg base CX0 3 f fd ["_law_row", "_law_size", "_law_arity", "_law_most"] (sp__law_some_rows K) := by
  refine F.ok sc__law_some_rows (fun vs H Q E h => ?_) (fun cdv A outer s H vs Q E hr h => ?_)
  · obtain ⟨n, ar, most, a, l, rfl, _⟩ := h
    rfl
  · obtain ⟨n, ar, most, a, l, rfl, hn, hd1, h4, hm1, hm4, hR, hS, q⟩ := h
    refine ⟨_, (pss_cons (ps_par (i := 4) (j := 5) (by rfl) sc__law_some_rows.nd rfl rfl (by decide) rfl rfl (pa_cons (pe_cal C__law_rows hr (by decide) (pa_cons (pv 1) (pa_cons (pv 2) pa_nil))) (pa_cons (pe_lst pa_nil) pa_nil)) (by rfl))
      (pss_cons (ps_for PassesOwn.never rfl (pi_range1 (by rfl) B.range (pa_cons (pe_op op_add pe_int (pe_cal C__law_taken hr (by decide) (pa_cons (pv 0) (pa_cons (pv 3) pa_nil)))) pa_nil)) (pg_name (i := 6) sc__law_some_rows.nd rfl (Or.inl rfl)) (pss_cons (ps_set (i := 7) sc__law_some_rows.nd rfl (Or.inl rfl) (pe_cal C__law_pick hr (by decide) (pa_cons (pv 0) (pa_cons (pv 4) pa_nil))))
      (pss_one (ps_if (pt_cmpR (r := rNotInD K) (op_notInD (hu_of65 hr)) (pv 7) (pv 5) (by rfl)) (pss_one (ps_expr (pe_bm PySem.F.plainAttrs_list PySem.F.slot_list_append PySem.F.type_list_append mt_append (pv 5) (pa_cons (pv 7) pa_nil)))) pss_nil))))
      (pss_one (ps_ret (pe_callTy (r := rTupS K) call_tuple_of (by rfl) B.tuple PyProof.Rows.boot_tuple (pa_cons (pe_callB (r := rSortU K ar 3) (cr_sortT (d := ar) (B := 3) hd1) (by rfl) B.sorted PyProof.Rows.boot_sorted (pa_cons (pv 5) pa_nil)) pa_nil)))))), ?_⟩
    have n3 : n ≤ 3 := by omega
    -- every, found
    refine par_go ((er_ltup (sp := sp__law_rows) (E := E0) (dvs := []) (vs := [.int (n : Int), .int (ar : Int)]) (σ := start ["_law_row", "_law_size", "_law_arity", "_law_most", "_law_every", "_law_found", "_law_turn", "_law_told"] [.ref a, .int (n : Int), .int (ar : Int), .int (most : Int)]) (H := H) (ta := tCons (tVar 1) (tCons (tVar 2) tNil)) (ts := (rows n ar).map (List.map V.int)) (ea_cons (ev_var rfl) (ea_cons (ev_var rfl) ea_nil)) fun H1 e1 Q E k => ⟨n, ar, rfl, n3, h4, by rw [rows_V]; exact k⟩) H (Ex.refl _) _ fun v H1 e1 r1 => ?_)
    obtain ⟨D, as, rfl, hD, hT⟩ := r1
    have pr2 : Paired (fun a (t : List Int) => H1 a = some (.tup (t.map V.int))) as (rows n ar) := by
      have go : ∀ {as : List Addr} {ts : List (List Int)}, Tups H1 as (ts.map (List.map V.int)) → Paired (fun a (t : List Int) => H1 a = some (.tup (t.map V.int))) as ts := by
        intro as ts
        induction ts generalizing as with
        | nil => intro h; cases h; exact .nil
        | cons t ts ih =>
          intro h
          cases h with
          | cons r h => exact .cons r (ih h)
      exact go hT
    obtain ⟨es, ea, er, he⟩ := prd_zip (fun t : List Int => t) pr2
    rw [List.map_id'] at er
    have hes : Rows H1 es := fun p hp => by
      obtain ⟨z, _, e2, hz⟩ := he p hp
      rw [e2]
      exact hz
    have des : H1 D = some (.lst (refs es)) := by
      rw [hD, ea]
      unfold refs
      rw [List.map_map]
      rfl
    have mes : ∀ p ∈ es, p.2 ∈ rows n ar := fun p hp => by rw [er]; exact List.mem_map.mpr ⟨p, hp, rfl⟩
    have les : es.length = (rows n ar).length := by rw [er, List.length_map]
    have les1 : 1 ≤ es.length ∧ es.length ≤ 81 := by
      rw [les]
      refine ⟨?_, rows_le n3 h4⟩
      unfold rows
      rw [tups_pow]
      have lv : (vals n).length = n := by unfold vals; rw [List.length_map, List.length_range]
      rw [lv]
      exact Nat.pow_pos (by omega)
    refine el_lst (vs := []) ea_nil (by decide) H1 (Ex.refl _) _ fun F0 H2 hF0 e2 f0 => ⟨_, _, rfl, ?_⟩
    have E2 := e1.trans e2
    have hFH : H F0 = none := fresh_back e1 hF0
    obtain ⟨i0, s0, g0, ha, hi0, hs0, hs1, hg0⟩ := id hR
    have nFa : F0 ≠ a := fun e => by rw [e, e1 _ _ ha] at hF0; cases hF0
    have nDF : D ≠ F0 := fun e => by rw [e, hF0] at des; cases des
    have nDa : D ≠ a := fun e => by
      rw [e, e1 _ _ ha] at des
      have e3 : [V.ref l, .int i0, .int s0, .int g0] = refs es := by injection des with z; injection z
      have m : V.int i0 ∈ refs es := by rw [← e3]; simp
      obtain ⟨p, _, hp⟩ := List.mem_map.mp m
      cases hp
    -- 1 + a draw
    refine ⟨_, rfl, _, rfl, a, l, (most : Int), rfl, by omega, by omega, ⟨i0, s0, g0, E2 _ _ ha, hi0, hs0, hs1, hg0⟩, hS.b (exB_of E2), fun v H3 v0 v1 hR3 x3 => ⟨1, v, rfl, rfl, 1 + v, rfl, by omega, by omega, ?_⟩⟩
    refine for_range (lo := 0) (n := (1 + v).toNat) (fun i σ' H' => RowS H' a l ∧ ExB a H H' ∧ H' D = some (.lst (refs es)) ∧ Rows H' es ∧ ∃ fs x6 x7, σ' = [some (.ref a), some (.int (n : Int)), some (.int (ar : Int)), some (.int (most : Int)), some (.ref D), some (.ref F0), x6, x7] ∧ H' F0 = some (.lst (refs fs)) ∧ (∀ p ∈ fs, p ∈ es) ∧ (rowsOf fs).Nodup ∧ fs.length ≤ i ∧ (1 ≤ i → fs ≠ []))
      ⟨hR3, (exB_of E2).trans x3, x3 _ _ nDa (e2 _ _ des), fun p hp => x3 _ _ (RowS.ne ⟨i0, s0, g0, E2 _ _ ha, hi0, hs0, hs1, hg0⟩ (e2 _ _ (hes p hp))) (e2 _ _ (hes p hp)), [], none, none, rfl, x3 _ _ nFa f0, (fun _ h => nomatch h), .nil, Nat.le_refl _, fun z => absurd z (by decide)⟩ (fun i σ' H' hi p => ?_) (fun σ' H' p => ?_)
    · obtain ⟨hR', xB, dE, rE, fs, x6, x7, rfl, hf, sub, nd, lf, nz⟩ := p
      -- told
      refine ⟨_, rfl, _, rfl, a, l, D, refs es, rfl, nDa, dE, by unfold refs; rw [List.length_map]; omega, by unfold refs; rw [List.length_map]; omega, hR', hS.b xB, fun v H4 mv hR4 x4 => ?_⟩
      obtain ⟨p, mp, rfl⟩ := List.mem_map.mp mv
      have rE4 : Rows H4 es := fun p hp => x4 _ _ (hR'.ne (rE p hp)) (rE p hp)
      have dE4 := x4 _ _ nDa dE
      have hf4 := x4 _ _ nFa hf
      have rF4 : Rows H4 fs := fun p hp => rE4 p (sub p hp)
      have xB4 := xB.trans x4
      refine s_when (et_test (ev_notInT (K := K) (r := p.2) (ev_var rfl) (ev_var rfl) (rE4 p mp) hf4 rF4)) (fun hb H5 e5 => ?_) (fun hb H5 e5 => ?_)
      · refine s_app (xs := refs fs) (l := F0) (v := .ref p.1) (e5 _ _ hf4) (ev_var rfl) (ev_var rfl) (by unfold refs; rw [List.length_map]; omega) fun H6 e6 => ?_
        have E6 := e5.trans e6
        have nR : ∀ {b : Addr} {us : List V}, H6 b = some (.tup us) → b ≠ F0 := fun h e => by
          rw [e, E6 _ _ hf4] at h
          cases h
        obtain ⟨i', s', g', ha', r'⟩ := hR4
        refine ⟨⟨i', s', g', by rw [upd_ne (Ne.symm nFa)]; exact E6 _ _ ha', r'⟩, (xB4.trans (exB_of E6)).mut hFH, by rw [upd_ne nDF]; exact E6 _ _ dE4, fun p hp => by rw [upd_ne (nR (E6 _ _ (rE4 p hp)))]; exact E6 _ _ (rE4 p hp), fs ++ [p], _, _, rfl, ?_, fun z mz => ?_, ?_, by rw [List.length_append]; exact Nat.succ_le_succ lf, fun _ z => ?_⟩
        · rw [upd_same]
          unfold refs
          rw [List.map_append]
          rfl
        · rcases List.mem_append.mp mz with mz | mz
          · exact sub z mz
          · have e : z = p := by simpa using mz
            rw [e]
            exact mp
        · have nm : p.2 ∉ rowsOf fs := fun m => by
            rw [List.contains_iff_mem.mpr m] at hb
            cases hb
          unfold rowsOf at nd nm ⊢
          rw [List.map_append]
          refine List.nodup_append.mpr ⟨nd, by simp, fun x hx y hy z => ?_⟩
          have e : y = p.2 := by simpa using hy
          rw [z, e] at hx
          exact nm hx
        · simp at z
      · obtain ⟨i', s', g', ha', r'⟩ := hR4
        refine ⟨⟨i', s', g', e5 _ _ ha', r'⟩, xB4.trans (exB_of e5), e5 _ _ dE4, rE4.ex e5, fs, _, _, rfl, e5 _ _ hf4, sub, nd, Nat.le_succ_of_le lf, fun _ z => ?_⟩
        rw [z] at hb
        cases hb
    · obtain ⟨hR', xB, dE, rE, fs, x6, x7, rfl, hf, sub, nd, lf, nz⟩ := p
      have rF : Rows H' fs := fun p hp => rE p (sub p hp)
      have fne : fs ≠ [] := nz (by omega)
      have lf4 : fs.length ≤ most := by omega
      have mrow : ∀ p ∈ fs, p.2 ∈ rows n ar := fun p hp => mes p (sub p hp)
      -- tuple(sorted(found))
      refine ⟨_, rfl, F0, refs fs, rfl, sq_of hf, by unfold refs; rw [List.length_map]; omega, fun x mx => ?_, fun ys p hperm hpw hp => ?_⟩
      · obtain ⟨p, mp, rfl⟩ := List.mem_map.mp mx
        exact ⟨p.2, ⟨p.1, rfl, st_of (rF p mp)⟩, (bd_row hn (mrow p mp)).1, (bd_row hn (mrow p mp)).2⟩
      · obtain ⟨gs, eg, pg⟩ := perm_map (f := fun p : Addr × List Int => V.ref p.1) (l := fs) hperm
        subst eg
        refine ⟨p, gs.map (fun p => V.ref p.1), rfl, .inl ⟨sq_of upd_same, fun t ht => ?_⟩⟩
        have hpH : ∀ {b : Addr} {o : HO}, H' b = some o → (upd (upd H' p (.lst (gs.map fun p => V.ref p.1))) t (.tup (gs.map fun p => V.ref p.1))) b = some o := fun {b o} h => by
          have h2 : (upd H' p (.lst (gs.map fun p => V.ref p.1))) b = some o := by
            rw [upd_ne (ne_of_none h hp)]
            exact h
          rw [upd_ne (ne_of_none h2 ht)]
          exact h2
        have htH : H' t = none := by
          have ht2 := ht
          by_cases e : t = p
          · rw [e]
            exact hp
          · rwa [upd_ne e] at ht2
        obtain ⟨i', s', g', ha', r'⟩ := hR'
        have mg : ∀ p ∈ gs, p ∈ fs := fun p hp => pg.mem_iff.mp hp
        refine q t gs _ ?_ (fun b o nb h => hpH (xB b o nb h)) ⟨i', s', g', hpH ha', r'⟩ upd_same (fun p hp => hpH (rF p (mg p hp))) ⟨hn, hd1, h4, fun r hr => ?_, asc_code (d := ar) (fun r hr => ?_) ((pg.map (·.2)).nodup_iff.mpr nd) ?_⟩ ?_ (by rw [pg.length_eq]; exact lf4)
        · cases z : H t with
          | none => rfl
          | some o =>
            by_cases e : t = a
            · rw [e, ha'] at htH
              cases htH
            · rw [xB t o e z] at htH
              cases htH
        · obtain ⟨p, hp, rfl⟩ := List.mem_map.mp hr
          exact mrow p (mg p hp)
        · obtain ⟨p, hp, rfl⟩ := List.mem_map.mp hr
          exact bd_row hn (mrow p (mg p hp))
        · refine List.pairwise_map.mpr ?_
          refine List.Pairwise.imp_of_mem (fun {x y} mx my h => ?_) (List.pairwise_map.mp hpw)
          exact h _ _ ⟨x.1, rfl, st_of (rF x (mg x mx))⟩ ⟨y.1, rfl, st_of (rF y (mg y my))⟩
        · intro z
          have e := congrArg List.length z
          rw [List.length_map, pg.length_eq] at e
          exact fne (List.eq_nil_of_length_eq_zero e)
end
end G651
/-! The closure of some rows. -/
namespace G651
open PySem PySem.Spec PyProof.Rows L2 Evl
open StX (tStar pa_star)
theorem img_mem {n ar : Nat} (hn : 0 < n) {a b c : List Int} (ha : a ∈ rows n ar) (hb : b ∈ rows n ar) (hc : c ∈ rows n ar) : img n a b c ∈ rows n ar := by
  have la := (mem_rows.mp ha).1
  have lb := (mem_rows.mp hb).1
  have lc := (mem_rows.mp hc).1
  rw [← cols_img, mem_rows]
  obtain ⟨e1, _, _⟩ := cols1 (as := a) (bs := b) (cs := c) (by omega) (by omega)
  have l := congrArg List.length e1
  rw [List.length_map] at l
  refine ⟨by rw [List.length_map]; omega, fun v hv => ?_⟩
  obtain ⟨z, _, rfl⟩ := List.mem_map.mp hv
  exact mod_in hn _
theorem img_self {n : Nat} : ∀ {a : List Int}, (∀ v ∈ a, 0 ≤ v ∧ v < (n : Int)) → img n a a a = a
  | [], _ => rfl
  | x :: a, h => by
    show mn n x x x :: img n a a a = x :: a
    rw [img_self fun v hv => h v (List.mem_cons_of_mem _ hv)]
    have hx := h x List.mem_cons_self
    have e : mn n x x x = x := by
      unfold mn
      rw [show x - x + x = x by omega]
      exact Int.emod_eq_of_lt hx.1 hx.2
    rw [e]
section
variable {K : PySem.W.Frag} {σ : L2.St} {H : Hp} {ta : TE}
theorem ev_eqNilL {fs : List (Addr × List Int)} {F : Addr} (ha : Ev ta σ H (.ref F)) (hF : H F = some (.lst (refs fs))) (hs : Rows H fs) : Ev (tOp (rEqD K) ta (tLst tNil)) σ H (.bl fs.isEmpty) :=
  ev_opL (xs := []) ha (el_lst ea_nil (by decide)) fun p H1 h1 e H2 e2 Q q => by
    refine ⟨.list ((rowsOf fs).map dT), .list [], .lst (sq_of ((e.trans e2) _ _ hF)) ?_, .lst (sq_of (e2 _ _ h1)) .nil, shaped_TLs _, rfl, ?_⟩
    · have d := dp_Ts (K := K) (hs.ex (e.trans e2))
      have e3 : (rowsOf fs).map dT = fs.map fun p => dT p.2 := by unfold rowsOf; rw [List.map_map]; rfl
      rw [e3]
      exact d
    · have e4 : PyData.eqv (.list ((rowsOf fs).map dT)) (.list []) = fs.isEmpty := by
        cases fs <;> rfl
      rw [e4]
      exact q H2 (Ex.refl _)
/-- sorted(known): a new list, its rows -/
theorem er_sortedK {D : Addr} {kvs : List (List Key × V)} {ks : List (List Int)} {n ar : Nat} (hn : n = 2 ∨ n = 3) (h1 : 1 ≤ ar) (ha : Ev ta σ H (.ref D)) (hD : H D = some (.dT kvs)) (hk : Ks kvs ks) (hl : ks.length < 64) (hm : ∀ r ∈ ks, r ∈ rows n ar) :
    EvR (tCB rSortedDT (tCons ta tNil)) σ H (fun v H2 => ∃ L qs, v = .ref L ∧ H2 L = some (.lst (refs qs)) ∧ Rows H2 qs ∧ (rowsOf qs).Perm ks ∧ (rowsOf qs).Pairwise (fun a b => TS.code 3 a ≤ TS.code 3 b)) := fun H1 e Q q =>
  ha H1 e _ fun H2 e2 => ⟨D, kvs, ks, ar, 3, rfl, (e.trans e2) _ _ hD, hk, hl, h1, fun r hr => bd_row hn (hm r hr), fun ps p hp hr hc hf => q _ _ (e2.trans (Ex.new hf)) ⟨p, ps, rfl, upd_same, fun z hz => by rw [upd_ne (ne_of_none (hr z hz) hf)]; exact hr z hz, hp, List.pairwise_map.mpr hc⟩⟩
end
theorem adds_one (r : List Int) : addsK [] [r] = [r] := rfl
section
variable {P : Program} {w : World} {K : PySem.W.Frag} {mg : Str → Option Value} {base : Heap} {f : Addr} {fd : FuncData}
/-! ### _law_closed -/
abbrev s__law_closed : Stmt := topS 37
theorem sc__law_closed : FnScope ["_law_size", "_law_operation", "_law_arity", "_law_rows_here", "_law_known", "_law_fresh", "_law_told", "_law_turn", "_law_later", "_law_some", "_law_made"] ["_law_size", "_law_operation", "_law_arity", "_law_rows_here"] (defScope s__law_closed) := ⟨rfl, rfl, rfl, by decide +kernel, rfl, by decide +kernel, by decide +kernel⟩
def RetC (n ar : Nat) (one : Prop) (H : Hp) (Q : VK) : Prop := (∀ r t2 qs H2, Ex H H2 → RelAt H2 r t2 ar qs → Val n ar (rowsOf qs) → rowsOf qs ≠ [] → qs.length ≤ 8 → Q (.ref r) H2) ∧ (¬ one → ∀ H2, Ex H H2 → Q .non H2)
def sp__law_closed : Sp := fun vs H Q _ => ∃ (n ar : Nat) (o t : Addr) (ps : List (Addr × List Int)), vs = [.int (n : Int), .ref o, .int (ar : Int), .ref t] ∧ OpAt H n o ∧ H t = some (.tup (refs ps)) ∧ Rows H ps ∧ Val n ar (rowsOf ps) ∧ rowsOf ps ≠ [] ∧ ps.length ≤ 8 ∧ RetC n ar (ps.length = 1) H Q
theorem ok__law_closed (B : Bl mg) (C__law_tuples : Cal P w K mg base 1 "_law_tuples" ["_law_things", "_law_many"] sp__law_tuples) (C__law_carried : Cal P w K mg base 2 "_law_carried" ["_law_size", "_law_operation", "_law_rows_here"] sp__law_carried)
    (F : Fun K "_law_closed" "_law_closed" s__law_closed f fd) : FnOk P w K mg base CX0 3 f fd ["_law_size", "_law_operation", "_law_arity", "_law_rows_here"] sp__law_closed := by
  refine F.ok sc__law_closed (fun vs H Q E h => ?_) (fun cdv A outer s H vs Q E hr h => ?_)
  · obtain ⟨n, ar, o, t, ps, rfl, _⟩ := h
    rfl
  · obtain ⟨n, ar, o, t, ps, rfl, ho, ht, hps, hv, hne, h8, q⟩ := h
    refine ⟨_, (pss_cons (ps_par (i := 4) (j := 5) (by rfl) sc__law_closed.nd rfl rfl (by decide) rfl rfl (pa_cons pe_dnewT (pa_cons (pe_callTy (r := rListS K) call_list_of (by rfl) B.list PyProof.Rows.boot_list (pa_cons (pv 3) pa_nil)) pa_nil)) (by rfl))
      (pss_cons (ps_for PassesOwn.never rfl (show PI _ _ _ (iTup K _) from pi_tup (pv 3)) (pg_name (i := 6) sc__law_closed.nd rfl (Or.inl rfl)) (pss_one (ps_dput (hu_of hr) (pv 4) (pv 6) pe_bl rfl)))
      (pss_cons (ps_for PassesOwn.never rfl (pi_range1 (by rfl) B.range (pa_cons pe_int pa_nil)) (pg_name (i := 7) sc__law_closed.nd rfl (Or.inl rfl)) (pss_cons (ps_if (pt_cmpR (r := rEqD K) (op_eqD hr.units) (pv 5) (pe_lst pa_nil) (nomark _)) (pss_one ps_break) pss_nil)
      (pss_cons (ps_set (i := 8) sc__law_closed.nd rfl (Or.inl rfl) (pe_lst pa_nil))
      (pss_cons (ps_for PassesOwn.never rfl (show PI _ _ _ (iList K _) from pi_list (pe_cal C__law_tuples hr (by decide) (pa_cons (pe_callB (cr_sortedDT rfl) (by rfl) B.sorted PyProof.Rows.boot_sorted (pa_cons (pv 4) pa_nil)) (pa_cons (pe_ix (r := rIxT K) ix_tup (pv 1) pe_int (fun _ _ => rfl)) pa_nil)))) (pg_name (i := 9) sc__law_closed.nd rfl (Or.inl rfl)) (pss_cons (ps_set (i := 10) sc__law_closed.nd rfl (Or.inl rfl) (pe_cal C__law_carried hr (by decide) (pa_cons (pv 0) (pa_cons (pv 1) (pa_cons (pv 9) pa_nil)))))
      (pss_one (ps_if (PW.pt (pw_and (pt_cmp (pc_dnotin (hu_of hr) (pv 10) (pv 4)) rfl) (pw_and1 (pt_cmpR (r := rNotInD K) (op_notInD (hu_of65 hr)) (pv 10) (pv 8) (by rfl))))) (pss_one (ps_expr (pe_bm PySem.F.plainAttrs_list PySem.F.slot_list_append PySem.F.type_list_append mt_append (pv 8) (pa_cons (pv 10) pa_nil)))) pss_nil))))
      (pss_cons (ps_for PassesOwn.never rfl (show PI _ _ _ (iList K _) from pi_list (pv 8)) (pg_name (i := 6) sc__law_closed.nd rfl (Or.inl rfl)) (pss_one (ps_dput (hu_of hr) (pv 4) (pv 6) pe_bl rfl)))
      (pss_cons (ps_if (pt_cmpR op_gt (pe_callB call_len_dT (by rfl) B.len PySem.boot_len (pa_cons (pv 4) pa_nil)) pe_int (nomark _)) (pss_one (ps_ret pe_non)) pss_nil)
      (pss_one (ps_set (i := 5) sc__law_closed.nd rfl (Or.inl rfl) (pv 8)))))))))
      (pss_one (ps_ret (pe_tup (pa_cons (pv 2) (pa_cons (pe_callTy (r := rTupS K) call_tuple_of (by rfl) B.tuple PyProof.Rows.boot_tuple (pa_cons (pe_callB (cr_sortedDT rfl) (by rfl) B.sorted PyProof.Rows.boot_sorted (pa_cons (pv 4) pa_nil)) pa_nil)) pa_nil)))))))), ?_⟩
    have hn0 : 0 < n := by rcases hv.hn with rfl | rfl <;> decide
    obtain ⟨tb, o1, o2⟩ := id ho
    -- known, fresh
    refine par_go (show tDNewT _ H _ from fun D hD => ?_)
    have e0 : Ex H (upd H D (.dT [])) := Ex.new hD
    have d0 : (upd H D (.dT [])) D = some (.dT []) := upd_same
    generalize upd H D (.dT []) = H0 at e0 d0
    refine (el_listT (K := K) (ta := tVar 3) (σ := start ["_law_size", "_law_operation", "_law_arity", "_law_rows_here", "_law_known", "_law_fresh", "_law_told", "_law_turn", "_law_later", "_law_some", "_law_made"] [.int (n : Int), .ref o, .int (ar : Int), .ref t]) (H := H0) (ev_var rfl) (st_of (e0 _ _ ht))) H0 (Ex.refl _) _ fun F0 H1 hF e1 f1 => ⟨_, _, rfl, ?_⟩
    have E1 := e0.trans e1
    refine q_fillT (K := K) (ps := ps) (t := t) (D := D) (jd := 4) (jt := 6) (x0 := none) (kvs := []) (ks := []) (ev_var rfl) (E1 _ _ ht) (hps.ex E1) (fun x => rfl) (fun x => rfl) rfl (e1 _ _ d0) rfl (by show 0 + ps.length ≤ 1000; omega) fun H2 x6 kvs eB d2 hk => ?_
    have nF : F0 ≠ D := fun e => by rw [e, d0] at hF; cases hF
    have E2 : Ex H H2 := eB.ex E1 hD
    -- the word between the turns
    let St : L2.St → Hp → Prop := fun σ' H' => Ex H H' ∧ ∃ x6 x7 x8 x9 x10 FL fr kvs ks, σ' = [some (.int (n : Int)), some (.ref o), some (.int (ar : Int)), some (.ref t), some (.ref D), some (.ref FL), x6, x7, x8, x9, x10] ∧ H' D = some (.dT kvs) ∧ Ks kvs ks ∧ ks.Nodup ∧ ks ≠ [] ∧ ks.length ≤ 8 ∧ (∀ r ∈ ks, r ∈ rows n ar) ∧
      (ps.length = 1 → ks = rowsOf ps) ∧ H' FL = some (.lst (refs fr)) ∧ Rows H' fr
    have st0 : St ([some (.int (n : Int)), some (.ref o), some (.int (ar : Int)), some (.ref t), some (.ref D), some (.ref F0), x6, none, none, none, none]) H2 := by
      refine ⟨E2, x6, none, none, none, none, F0, ps, kvs, _, rfl, d2, hk, nodup_addsK .nil, fun z => ?_, ?_, fun r hr => ?_, fun h1 => ?_, eB _ _ nF f1, hps.ex E2⟩
      · obtain ⟨r, hr⟩ := List.exists_mem_of_ne_nil _ hne
        have m := mem_addsK (x := r) (l := rowsOf ps) (ks := []) |>.mpr (.inr hr)
        rw [z] at m
        cases m
      · have l := len_addsK (rowsOf ps) []
        rw [List.length_map] at l
        exact Nat.le_trans l (by show 0 + ps.length ≤ 8; omega)
      · rcases mem_addsK.mp hr with h | h
        · cases h
        · exact hv.mem r h
      · match ps, h1 with
        | [p], _ => rfl
    have fin : ∀ σ' H', St σ' H' → tRet (tTup (tCons (tVar 2) (tCons (tCB (rTupS K) (tCons (tCB rSortedDT (tCons (tVar 4) tNil)) tNil)) tNil))) { nx := fun x H' => Q V.non H', rt := Q } σ' H' := by
      intro σ' H' ⟨E', x6, x7, x8, x9, x10, FL, fr, kvs, ks, es, hD', hk', nd, kne, k8, km, _, hFL, hfr⟩
      subst es
      refine ⟨_, rfl, er_sortedK (ta := tVar 4) (D := D) (n := n) (ar := ar) hv.hn hv.h1 (ev_var rfl) hD' hk' (by omega) km H' (Ex.refl _) _ fun v H3 e3 ⟨L, qs, ev, hL, hqs, pm, pw⟩ => ?_⟩
      subst ev
      refine ⟨L, refs qs, rfl, .inl ⟨sq_of hL, fun t2 ht2 => ⟨by show 2 ≤ sizeLine; decide, fun r hr => ?_⟩⟩⟩
      have up : ∀ {b : Addr} {ob : HO}, H3 b = some ob → (upd (upd H3 t2 (.tup (refs qs))) r (.tup [.int (ar : Int), .ref t2])) b = some ob := fun {b ob} h => by
        have h2 : (upd H3 t2 (.tup (refs qs))) b = some ob := by
          rw [upd_ne (ne_of_none h ht2)]
          exact h
        rw [upd_ne (ne_of_none h2 hr)]
        exact h2
      have ht3 : (upd (upd H3 t2 (.tup (refs qs))) r (.tup [.int (ar : Int), .ref t2])) t2 = some (.tup (refs qs)) := by
        rw [upd_ne (ne_of_none upd_same hr)]
        exact upd_same
      have nd2 : (rowsOf qs).Nodup := pm.nodup_iff.mpr nd
      have mq : ∀ r ∈ rowsOf qs, r ∈ rows n ar := fun r hr => km r (pm.mem_iff.mp hr)
      refine q.1 r t2 qs _ (fun b ob h => up (e3 _ _ (E' _ _ h))) ⟨upd_same, ht3, fun p hp => up (hqs p hp)⟩ ⟨hv.hn, hv.h1, hv.h4, mq, asc_code (d := ar) (fun r hr => bd_row hv.hn (mq r hr)) nd2 pw⟩ (fun z => ?_) ?_
      · rw [z] at pm
        exact kne (List.nil_perm.mp pm)
      · have l := pm.length_eq
        rw [List.length_map] at l
        omega
    refine q_forR1 (n := 10) (ea_cons ev_c ea_nil) ⟨by decide, by decide⟩ (fun _ => St) (fun H3 e3 => ?_) (fun i σ' H' hi p => ?_) (fun σ' H' p => fin σ' H' p)
    · obtain ⟨a0, b6, b7, b8, b9, b10, FL, fr, kv, ks, c0, c1, c2, c3, c4, c5, c6, c7, c8, c9⟩ := st0
      exact ⟨a0.trans e3, b6, b7, b8, b9, b10, FL, fr, kv, ks, c0, e3 _ _ c1, c2, c3, c4, c5, c6, c7, e3 _ _ c8, c9.ex e3⟩
    · obtain ⟨E', x6, x7, x8, x9, x10, FL, fr, kvs, ks, rfl, hD', hk', nd, kne, k8, km, kone, hFL, hfr⟩ := p
      refine q_when (et_test (ev_eqNilL (ev_var rfl) hFL hfr)) (fun hb H3 e3 => ?_) (fun hb H3 e3 => ?_)
      · exact fin _ H3 ⟨E'.trans e3, x6, _, x8, x9, x10, FL, fr, kvs, ks, rfl, e3 _ _ hD', hk', nd, kne, k8, km, kone, e3 _ _ hFL, hfr.ex e3⟩
      · have E3 := E'.trans e3
        have d3 := e3 _ _ hD'
        -- later
        refine q_asgL (xs := []) (el_lst ea_nil (by decide)) fun LT H4 hLT e4 l4 => ?_
        have E4 := E3.trans e4
        have hLTH : H LT = none := fresh_back E3 hLT
        have d4 := e4 _ _ d3
        refine q_forLR (R1 := fun v H5 => ∃ L as qs, v = .ref L ∧ H5 L = some (.lst (as.map V.ref)) ∧ Tups H5 as (tups (refs qs) 3) ∧ Rows H5 qs ∧ (rowsOf qs).Perm ks)
          (er_callR (R1 := fun vs H5 => ∃ l qs, vs = [.ref l, .int 3] ∧ H5 l = some (.lst (refs qs)) ∧ Rows H5 qs ∧ (rowsOf qs).Perm ks) (fun H5 e5 Q3 q3 => er_sortedK (ta := tVar 4) (D := D) (n := n) (ar := ar) (H := H4) hv.hn hv.h1 (ev_var rfl) d4 hk' (by omega) km H5 e5 _ fun v H6 e6 ⟨l, qs, ev, hl, hqs, pm, pw⟩ => by
            subst ev
            exact (ev_ixT (K := K) (ta := tVar 1) (tb := tC (.int 0)) (H := H6) (v := .int 3) (ev_var rfl) ev_c (st_of ((E4.trans (e5.trans e6)) _ _ o1)) rfl) H6 (Ex.refl _) _ fun H7 e7 => q3 _ H7 (e6.trans e7) ⟨l, qs, rfl, e7 _ _ hl, hqs.ex e7, pm⟩)
            fun vs H5 e5 ⟨l, qs, el, hl, hqs, pm⟩ => by
              subst el
              exact fun H6 e6 Q3 q3 E3 => ⟨l, refs qs, 3, rfl, e6 _ _ hl, by
                have e := pm.length_eq
                rw [List.length_map] at e
                unfold refs
                rw [List.length_map]
                omega, by decide, fun L as H7 hL e7 hl ht => q3 _ H7 e7 ⟨L, as, qs, rfl, hl, ht, hqs.ex (e6.trans e7), pm⟩⟩) fun v H5 e5 r5 => ?_
        obtain ⟨L, as, qs, rfl, hL, hT, hqs, pm⟩ := r5
        have E5 := E4.trans e5
        rw [tups_refs] at hT
        have lT : as.length = (tups qs 3).length := by rw [Paired.length hT, List.length_map]
        have mqs : ∀ p ∈ qs, p.2 ∈ rows n ar := fun p hp => km _ (pm.mem_iff.mp (List.mem_map.mpr ⟨p, hp, rfl⟩))
        have d5 := e5 _ _ d4
        have l5 := e5 _ _ l4
        have nLT : L ≠ LT := fun e => by
          rw [e, l5] at hL
          have e6 : ([] : List V) = as.map V.ref := by injection hL with z; injection z
          have la : as = [] := by
            cases as with
            | nil => rfl
            | cons _ _ => cases e6
          -- there is a triple at least
          have lq : 1 ≤ qs.length := by
            have e := pm.length_eq
            rw [List.length_map] at e
            have := List.length_pos_iff.mpr kne
            omega
          rw [la, tups_pow] at lT
          have := Nat.pow_pos (n := 3) lq
          have l0 : ([] : List Addr).length = 0 := rfl
          omega
        have nDT : D ≠ LT := fun e => by rw [← e, d3] at hLT; cases hLT
        refine ⟨L, as.map V.ref, fun j σ' H6 => ExB LT H5 H6 ∧ ∃ y9 y10 ls, σ' = [some (.int (n : Int)), some (.ref o), some (.int (ar : Int)), some (.ref t), some (.ref D), some (.ref FL), x6, some (.int (i : Int)), some (.ref LT), y9, y10] ∧ H6 LT = some (.lst (refs ls)) ∧ Rows H6 ls ∧ (rowsOf ls).Nodup ∧ (∀ r ∈ rowsOf ls, r ∈ rows n ar) ∧ (ps.length = 1 → ls = []), rfl, sq_of hL,
          ⟨ExB.refl _ _, x9, x10, [], rfl, l5, (fun _ h => nomatch h), .nil, (fun _ h => nomatch h), fun _ => rfl⟩, fun j σ' H6 _ p => sq_of (p.1 _ _ nLT hL), fun j x σ' H6 hj p => ?_, fun σ' H6 p => ?_⟩
        · obtain ⟨xB, y9, y10, ls, rfl, hls, rls, ndl, ml, one⟩ := p
          have E6 : Ex H H6 := xB.ex E5 hLTH
          rw [List.getElem?_map] at hj
          cases ga : as[j]? with
          | none =>
            rw [ga] at hj
            cases hj
          | some T =>
            rw [ga] at hj
            have ex : V.ref T = x := Option.some.inj hj
            subst ex
            have li : j < (tups qs 3).length := by rw [← lT]; exact (List.getElem?_eq_some_iff.mp ga).1
            have gt : (tups qs 3)[j]? = some (tups qs 3)[j] := List.getElem?_eq_getElem li
            generalize (tups qs 3)[j] = tr at gt
            obtain ⟨a', ga', hT'⟩ := prd_get hT (i := j) (z := tr.map fun p => V.ref p.1) (by rw [List.getElem?_map, gt]; rfl)
            rw [ga] at ga'
            cases ga'
            obtain ⟨pa, pb, pc, rfl, ma, mb, mc⟩ := triple_of (List.mem_of_getElem? gt)
            have ntup : ∀ {b : Addr} {us : List V}, H5 b = some (.tup us) → b ≠ LT := fun h e => by
              rw [e, l5] at h
              cases h
            have hT3 : H6 T = some (.tup [.ref pa.1, .ref pb.1, .ref pc.1]) := xB _ _ (ntup hT') hT'
            have rq6 : Rows H6 qs := fun p hp => xB _ _ (ntup (hqs p hp)) (hqs p hp)
            refine q_asgU (eu_img (K := K) (H := H6) (i0 := 0) (i1 := 1) (i2 := 9) hv.hn hv.h4 rfl rfl rfl (ho.ex E6) hT3 rq6 ma mb mc mqs) fun pm' H7 hpm e7 h7 => ?_
            have im := img_mem hn0 (mqs _ ma) (mqs _ mb) (mqs _ mc)
            have d7 : H7 D = some (.dT kvs) := e7 _ _ (xB _ _ nDT d5)
            have t1 : EvT (tB (tDNotIn (tVar 10) (tVar 4))) ([some (.int (n : Int)), some (.ref o), some (.int (ar : Int)), some (.ref t), some (.ref D), some (.ref FL), x6, some (.int (i : Int)), some (.ref LT), some (.ref T), some (.ref pm')]) H7 (!ks.contains (img n pa.2 pb.2 pc.2)) := fun H8 e8 Q8 q8 => by
              obtain ⟨ov, gv, ev⟩ := get_row (e8 _ _ d7) hk' (e8 _ _ h7)
              exact ⟨_, rfl, _, rfl, D, ov, rfl, gv, !ks.contains (img n pa.2 pb.2 pc.2), by rw [ev], q8 H8 (Ex.refl _)⟩
            refine s_when (et_and (b := !(rowsOf ls).contains (img n pa.2 pb.2 pc.2)) t1 fun _ => et_test (ev_notInT (K := K) (ev_var rfl) (ev_var rfl) h7 (e7 _ _ hls) (rls.ex e7))) (fun hb H8 e8 => ?_) (fun hb H8 e8 => ?_)
            · have E8 := e7.trans e8
              obtain ⟨hb1, hb2⟩ := Bool.and_eq_true_iff.mp hb
              have none1 : ps.length ≠ 1 := fun h1 => by
                have ek := kone h1
                match ps, h1 with
                | [p], _ =>
                  have sel : ∀ z ∈ qs, z.2 = p.2 := fun z hz => by
                    have m := pm.mem_iff.mp (List.mem_map.mpr ⟨z, hz, rfl⟩)
                    rw [ek] at m
                    simpa [rowsOf] using m
                  rw [sel _ ma, sel _ mb, sel _ mc, img_self (fun v hv' => (mem_rows.mp (hv.mem p.2 (by simp [rowsOf]))).2 v hv'), ek] at hb1
                  simp [rowsOf] at hb1
              refine s_app (xs := refs ls) (l := LT) (v := .ref pm') (E8 _ _ hls) (ev_var rfl) (ev_var rfl) (by
                have l := nodup_le ndl ml
                have l2 := rows_le (n := n) (k := ar) (by rcases hv.hn with rfl | rfl <;> decide) hv.h4
                rw [List.length_map] at l
                unfold refs
                rw [List.length_map]
                omega) fun H9 e9 => ?_
              have E9 := E8.trans e9
              have nm : img n pa.2 pb.2 pc.2 ∉ rowsOf ls := fun m => by
                rw [List.contains_iff_mem.mpr m] at hb2
                cases hb2
              refine ⟨(xB.trans (exB_of E9)).put, _, _, ls ++ [(pm', img n pa.2 pb.2 pc.2)], rfl, ?_, fun p hp => ?_, ?_, fun r hr => ?_, fun h1 => absurd h1 none1⟩
              · rw [upd_same]
                unfold refs
                rw [List.map_append]
                rfl
              · have nt : ∀ {b : Addr} {us : List V}, H9 b = some (.tup us) → b ≠ LT := fun h e => by
                  rw [e, E9 _ _ hls] at h
                  cases h
                rcases List.mem_append.mp hp with hp | hp
                · rw [upd_ne (nt (E9 _ _ (rls p hp)))]
                  exact E9 _ _ (rls p hp)
                · have e : p = (pm', img n pa.2 pb.2 pc.2) := by simpa using hp
                  rw [e, upd_ne (nt ((e8.trans e9) _ _ h7))]
                  exact (e8.trans e9) _ _ h7
              · unfold rowsOf at ndl nm ⊢
                rw [List.map_append]
                refine List.nodup_append.mpr ⟨ndl, by simp, fun x hx y hy z => ?_⟩
                have e : y = img n pa.2 pb.2 pc.2 := by simpa using hy
                rw [z, e] at hx
                exact nm hx
              · unfold rowsOf at hr
                rw [List.map_append] at hr
                rcases List.mem_append.mp hr with hr | hr
                · exact ml r hr
                · have e : r = img n pa.2 pb.2 pc.2 := by simpa using hr
                  rw [e]
                  exact im
            · have E8 := e7.trans e8
              exact ⟨xB.trans (exB_of E8), _, _, ls, rfl, E8 _ _ hls, rls.ex E8, ndl, ml, one⟩
        · obtain ⟨xB, y9, y10, ls, rfl, hls, rls, ndl, ml, one⟩ := p
          have E6 : Ex H H6 := xB.ex E5 hLTH
          have d6 := xB _ _ nDT d5
          have lls : ls.length ≤ 81 := by
            have l := nodup_le ndl ml
            have l2 := rows_le (n := n) (k := ar) (by rcases hv.hn with rfl | rfl <;> decide) hv.h4
            rw [List.length_map] at l
            omega
          refine q_fillL (K := K) (ps := ls) (L := LT) (D := D) (jd := 4) (jt := 6) (x0 := x6) (ev_var rfl) hls rls (fun x => rfl) (fun x => rfl) rfl d6 hk' (by omega) fun H7 z6 kvs' eB' d7 hk7 => ?_
          have E7 : Ex H H7 := eB'.ex E6 hD
          have l7 := eB' _ _ (Ne.symm nDT) hls
          have r7 : Rows H7 ls := fun p hp => eB' _ _ (fun e => by
            have h := rls p hp
            rw [e, d6] at h
            cases h) (rls p hp)
          refine q_when (b := decide ((8 : Int) < (kvs'.length : Int))) (et_test (ev_op (x := .int (kvs'.length : Int)) (fun H8 e8 Q8 q8 => ⟨_, rfl, D, kvs', rfl, e8 _ _ d7, q8 H8 (Ex.refl _)⟩) ev_c rv_I0)) (fun hb8 H8 e8 => ?_) (fun hb8 H8 e8 => ?_)
          · refine s_ret ev_c fun H9 e9 => q.2 (fun h1 => ?_) H9 (E7.trans (e8.trans e9))
            have h2 := of_decide_eq_true hb8
            have l := hk7.len
            rw [one h1] at l
            have e : addsK ks (rowsOf []) = ks := rfl
            rw [e] at l
            omega
          · have h2 := of_decide_eq_false hb8
            refine s_asg (ev_var rfl) fun H9 e9 => ?_
            have E9 := e8.trans e9
            refine ⟨E7.trans E9, _, _, _, _, _, LT, ls, kvs', addsK ks (rowsOf ls), rfl, E9 _ _ d7, hk7, nodup_addsK nd, fun z => ?_, by have := hk7.len; omega, fun r hr => ?_, fun h1 => ?_, E9 _ _ l7, r7.ex E9⟩
            · obtain ⟨r, hr⟩ := List.exists_mem_of_ne_nil _ kne
              have m := mem_addsK (x := r) (l := rowsOf ls) (ks := ks) |>.mpr (.inl hr)
              rw [z] at m
              cases m
            · rcases mem_addsK.mp hr with h | h
              · exact km r h
              · exact ml r h
            · rw [one h1]
              exact kone h1
end
end G651
/-! Kept relations; the named operations. -/
namespace G651
open PySem PySem.Spec PyProof.Rows L2 Evl
open StX (tStar pa_star)
section
variable {K : PySem.W.Frag} {σ : L2.St} {H : Hp} {ta te : TE} {D : Ends} {tz : TS} {α : Type} {wi : TI} {zs : List α} {Xr : α → V → Hp → Prop}
/-- l.append(e), e told by a relation -/
theorem q_appR {l : Addr} {xs : List V} {R : V → Hp → Prop} (hl : H l = some (.lst xs)) (ha : Ev ta σ H (.ref l)) (h : EvR te σ H R) (hz : xs.length < 100000) (k : ∀ v H1, Ex H H1 → R v H1 → tz D σ (upd H1 l (.lst (xs ++ [v])))) :
    tSeq (tDrop (tBM K "list" rAppend ta (tCons te tNil))) tz D σ H := ha H (Ex.refl H) _ fun H1 e1 =>
  ⟨Or.inl ⟨rfl, xs, sq_of (e1 l _ hl)⟩, h H1 e1 _ fun v H2 e2 r => ⟨l, xs, v, rfl, rfl, e2 l _ (e1 l _ hl), sz_lt hz, k v H2 (e1.trans e2) r⟩⟩
/-- a comprehension of whatever -/
theorem er_lcAny {vs : List Nat} {j : Nat} (S : Src wi σ H zs Xr) (hz : zs.length ≤ 40000) (hw : ∀ x, wipe ((wipe σ vs).set j (some x)) vs = wipe σ vs) (he : ∀ z x H2, z ∈ zs → Ex H H2 → Xr z x H2 → EvR te ((wipe σ vs).set j (some x)) H2 (fun _ _ => True)) :
    EvR (tLc wi (gName j) tYes te vs) σ H (fun v H2 => ∃ D ys, v = .ref D ∧ H2 D = some (.lst ys)) :=
  er_lcT S hz (tgt_name (j := j) (σ0 := wipe σ vs)) (fun _ => true) (fun _ _ _ => True) (fun _ _ _ _ _ _ => trivial) (fun z σ' H2 ⟨x, e, _⟩ => by rw [e]; exact hw x) (fun _ _ _ _ _ _ => et_yes) (fun z σ' H2 m e ⟨x, e2, hx⟩ _ => by rw [e2]; exact he z x H2 m e hx) fun D ys H2 hD e h pr => ⟨D, ys, rfl, h⟩
theorem er_tupAny (h : EvR te σ H (fun v H2 => ∃ D ys, v = .ref D ∧ H2 D = some (.lst ys))) : EvR (tCB (rTupS K) (tCons te tNil)) σ H (fun v _ => ∃ p, v = .ref p) := fun H1 e Q q =>
  h H1 e _ fun v H2 e2 ⟨D, ys, ev, hD⟩ => by
    subst ev
    exact ⟨D, ys, rfl, .inl ⟨sq_of hD, fun l hl => q _ _ (e2.trans (Ex.new hl)) ⟨l, rfl⟩⟩⟩
theorem er_lst1 {R : V → Hp → Prop} (h : EvR te σ H R) : EvR (tLst (tCons te tNil)) σ H (fun v H2 => ∃ D x, v = .ref D ∧ H D = none ∧ H2 D = some (.lst [x])) := fun H1 e Q q =>
  h H1 e _ fun v H2 e2 _ => ⟨by show 1 ≤ sizeLine; decide, fun p hp => q _ _ (e2.trans (Ex.new hp)) ⟨p, v, rfl, fresh_back (e.trans e2) hp, upd_same⟩⟩
theorem er_pair {c : V} (h : EvR te σ H (fun v _ => ∃ p, v = .ref p)) : EvR (tTup (tCons (tC c) (tCons te tNil))) σ H (fun v _ => ∃ p, v = .ref p) := fun H1 e Q q =>
  h H1 e _ fun v H2 e2 _ => ⟨by show 2 ≤ sizeLine; decide, fun p hp => q _ _ (e2.trans (Ex.new hp)) ⟨p, rfl⟩⟩
end
section
variable {P : Program} {w : World} {K : PySem.W.Frag} {mg : Str → Option Value} {base : Heap} {f : Addr} {fd : FuncData}
/-! ### _law_kept -/
abbrev s__law_kept : Stmt := topS 38
theorem sc__law_kept : FnScope ["_law_row", "_law_size", "_law_operation", "_law_arity", "_law_rows_here", "_law_found"] ["_law_row", "_law_size", "_law_operation", "_law_arity"] (defScope s__law_kept) := ⟨rfl, rfl, rfl, by decide +kernel, rfl, by decide +kernel, by decide +kernel⟩
/-- a valid relation of eight rows at most -/
def RetK (n ar : Nat) (a l : Addr) (H : Hp) (Q : VK) : Prop := ∀ r t qs H2, ExB a H H2 → RowS H2 a l → RelAt H2 r t ar qs → Val n ar (rowsOf qs) → rowsOf qs ≠ [] → qs.length ≤ 8 → Q (.ref r) H2
def sp__law_kept (K : PySem.W.Frag) : Sp := fun vs H Q _ => ∃ (n ar : Nat) (a l o : Addr), vs = [.ref a, .int (n : Int), .ref o, .int (ar : Int)] ∧ (n = 2 ∨ n = 3) ∧ 1 ≤ ar ∧ ar ≤ 4 ∧ OpAt H n o ∧ RowS H a l ∧ Scr K H a l ∧ RetK n ar a l H Q
theorem RowS.ex {H H' : Hp} {a l : Addr} (h : RowS H a l) (e : Ex H H') : RowS H' a l := by
  obtain ⟨i, s, g, h1, h2⟩ := h
  exact ⟨i, s, g, e _ _ h1, h2⟩
theorem OpAt.b {H H' : Hp} {n : Nat} {o a l : Addr} (h : OpAt H n o) (hR : RowS H a l) (e : ExB a H H') : OpAt H' n o := by
  obtain ⟨tb, h1, h2⟩ := h
  exact ⟨tb, e _ _ (hR.ne h1) h1, e _ _ (hR.ne h2) h2⟩
theorem ok__law_kept (B : Bl mg) (C__law_some_rows : Cal P w K mg base 3 "_law_some_rows" ["_law_row", "_law_size", "_law_arity", "_law_most"] (sp__law_some_rows K)) (C__law_closed : Cal P w K mg base 3 "_law_closed" ["_law_size", "_law_operation", "_law_arity", "_law_rows_here"] sp__law_closed)
    (F : Fun K "_law_kept" "_law_kept" s__law_kept f fd) : FnOk P w K mg base CX0 4 f fd ["_law_row", "_law_size", "_law_operation", "_law_arity"] (sp__law_kept K) := by
  refine F.ok sc__law_kept (fun vs H Q E h => ?_) (fun cdv A outer s H vs Q E hr h => ?_)
  · obtain ⟨n, ar, a, l, o, rfl, _⟩ := h
    rfl
  · obtain ⟨n, ar, a, l, o, rfl, hn, h1, h4, ho, hR, hS, q⟩ := h
    refine ⟨_, (pss_cons (ps_set (i := 4) sc__law_kept.nd rfl (Or.inl rfl) (pe_cal C__law_some_rows hr (by decide) (pa_cons (pv 0) (pa_cons (pv 1) (pa_cons (pv 3) (pa_cons pe_int pa_nil))))))
      (pss_cons (ps_set (i := 5) sc__law_kept.nd rfl (Or.inl rfl) (pe_cal C__law_closed hr (by decide) (pa_cons (pv 1) (pa_cons (pv 2) (pa_cons (pv 3) (pa_cons (pv 4) pa_nil))))))
      (pss_one (ps_ret (pe_ifExp (pt_cmpR op_notN (pv 5) pe_non (nomark _)) (pv 5) (pe_cal C__law_closed hr (by decide) (pa_cons (pv 1) (pa_cons (pv 2) (pa_cons (pv 3) (pa_cons (pe_slice (r := rSlA K) sl_tupA (pv 4) po_none (po_some pe_int)) pa_nil)))))))))), ?_⟩
    refine ⟨_, rfl, _, rfl, _, rfl, n, ar, 3, a, l, rfl, hn, h1, h4, by decide, by decide, hR, hS, fun t ps H2 ht xB hR2 d2 r2 hv hne hl => ?_⟩
    have o2 := ho.b hR xB
    refine q_asgR (R := fun v H3 => (v = .non ∧ ps.length ≠ 1) ∨ ∃ r t2 qs, v = .ref r ∧ RelAt H3 r t2 ar qs ∧ Val n ar (rowsOf qs) ∧ rowsOf qs ≠ [] ∧ qs.length ≤ 8) (er_call (vs := [.int (n : Int), .ref o, .int (ar : Int), .ref t]) (ea_cons (ev_var rfl) (ea_cons (ev_var rfl) (ea_cons (ev_var rfl) (ea_cons (ev_var rfl) ea_nil)))) fun H3 e3 Q q E =>
      ⟨n, ar, o, t, ps, rfl, o2.ex e3, e3 _ _ d2, r2.ex e3, hv, hne, by omega, ⟨fun r t2 qs H4 e4 rel v' ne l8 => q _ H4 e4 (.inr ⟨r, t2, qs, rfl, rel, v', ne, l8⟩), fun h1 H4 e4 => q _ H4 e4 (.inl ⟨rfl, h1⟩)⟩⟩) fun v H3 e3 r3 => ?_
    have x3 := xB.trans (exB_of e3)
    rcases r3 with ⟨rfl, n1⟩ | ⟨r, t2, qs, rfl, rel, v', ne, l8⟩
    · -- the first row alone
      obtain ⟨p0, pr, hp0⟩ : ∃ p0 pr, ps = p0 :: pr := by
        cases hps : ps with
        | nil => exact absurd (by rw [hps]; rfl) hne
        | cons a b => exact ⟨a, b, rfl⟩
      have m0 : p0 ∈ ps := by rw [hp0]; exact List.mem_cons_self
      have mem1 : ∀ r ∈ rowsOf [p0], r ∈ rows n ar := fun r hr => by
        have e : r = p0.2 := by simpa [rowsOf] using hr
        rw [e]
        exact hv.mem _ (List.mem_map.mpr ⟨p0, m0, rfl⟩)
      have v1 : Val n ar (rowsOf [p0]) := ⟨hn, h1, h4, mem1, List.pairwise_singleton _ _⟩
      refine s_retR (R := fun v H4 => ∃ r t2 qs, v = .ref r ∧ RelAt H4 r t2 ar qs ∧ Val n ar (rowsOf qs) ∧ rowsOf qs ≠ [] ∧ qs.length ≤ 8) (fun H4 e4 Q4 q4 => ?_) fun v H4 e4 ⟨r, t2, qs, ev, rel, v', ne, l8⟩ => by
        subst ev
        exact q r t2 qs H4 (x3.trans (exB_of e4)) ((hR2.ex e3).ex e4) rel v' ne l8
      refine (et_test (b := false) (ev_op (x := .non) (y := .non) (ev_var rfl) ev_c fun H5 e5 Q5 q5 => ⟨rfl, q5 H5 (Ex.refl _)⟩)) H4 (Ex.refl _) _ fun H5 e5 => ?_
      refine iteF ?_
      have E5 := (e3.trans e4).trans e5
      refine (er_callR (H := H5) (R1 := fun vs H6 => ∃ t1, vs = [.int (n : Int), .ref o, .int (ar : Int), .ref t1] ∧ H6 t1 = some (.tup (refs [p0])) ∧ Ex H5 H6) (fun H6 e6 Q6 q6 => ?_) fun vs H6 e6 ⟨t1, ev, ht1, ee⟩ => ?_) H5 (Ex.refl _) _ fun v H6 e6 r6 => q4 v H6 (e5.trans e6) r6
      · refine ⟨_, rfl, _, rfl, _, rfl, ?_⟩
        have dt : H6 t = some (.tup (refs ps)) := (E5.trans e6) _ _ d2
        have l2 : 2 ≤ (refs ps).length := by
          unfold refs
          rw [List.length_map]
          have h := List.length_pos_iff.mpr (fun z : ps = [] => hne (by rw [z]; rfl))
          omega
        have s1 : HT.sIx (refs ps).length (refs ps).length (some 1) = 1 := by
          unfold HT.sIx
          simp
          omega
        refine ⟨_, rfl, 1, rfl, t, refs ps, rfl, st_of dt, fun hw => ?_, fun hw p hp => ?_⟩
        · exfalso
          rw [s1] at hw
          omega
        · refine q6 _ _ (Ex.new hp) ⟨p, rfl, ?_, e6.trans (Ex.new hp)⟩
          rw [upd_same]
          unfold cutV
          rw [s1]
          have s0 : HT.sIx (refs ps).length 0 none = 0 := rfl
          rw [s0, hp0]
          rfl
      · subst ev
        exact fun H7 e7 Q7 q7 E7 => ⟨n, ar, o, t1, [p0], rfl, (o2.ex E5).ex (ee.trans e7), e7 _ _ ht1, fun p hp => by
          have e : p = p0 := by simpa using hp
          rw [e]
          exact (E5.trans (ee.trans e7)) _ _ (r2 p0 m0), v1, (fun z => nomatch z), by show 1 ≤ 8; decide, ⟨fun r t2 qs H8 e8 rel v' ne l8 => q7 _ H8 e8 ⟨r, t2, qs, rfl, rel, v', ne, l8⟩, fun h => absurd rfl h⟩⟩
    · refine s_ret (v := .ref r) (ev_if (b := true) (et_test (ev_op (ev_var rfl) ev_c fun H5 e5 Q5 q5 => ⟨rfl, q5 H5 (Ex.refl _)⟩)) (fun _ => ev_var rfl) (fun z => nomatch z)) fun H4 e4 => q r t2 qs H4 (x3.trans (exB_of e4)) ((hR2.ex e3).ex e4) (rel.ex e4) v' ne l8
/-! ### _law_named -/
abbrev s__law_named : Stmt := topS 39
theorem sc__law_named : FnScope ["_law_size", "_law_found", "_law_three", "_law_told"] ["_law_size"] (defScope s__law_named) := ⟨rfl, rfl, rfl, by decide +kernel, rfl, by decide +kernel, by decide +kernel⟩
def RetNm (n : Nat) (H : Hp) (Q : VK) : Prop := ∀ D xs o H2, H D = none → Ex H H2 → H2 D = some (.lst xs) → xs[3]? = some (.ref o) → OpAt H2 n o → Q (.ref D) H2
def sp__law_named : Sp := fun vs H Q _ => ∃ n : Nat, vs = [.int (n : Int)] ∧ (n = 2 ∨ n = 3) ∧ RetNm n H Q
theorem ok__law_named (B : Bl mg) (C__law_rows : Cal P w K mg base 1 "_law_rows" ["_law_size", "_law_arity"] sp__law_rows) (F : Fun K "_law_named" "_law_named" s__law_named f fd) : FnOk P w K mg base CX0 2 f fd ["_law_size"] sp__law_named := by
  refine F.ok sc__law_named (fun vs H Q E h => ?_) (fun cdv A outer s H vs Q E hr h => ?_)
  · obtain ⟨n, rfl, _⟩ := h
    rfl
  · obtain ⟨n, rfl, hn, q⟩ := h
    refine ⟨_, (pss_cons (ps_set (i := 1) sc__law_named.nd rfl (Or.inl rfl) (pe_lst (pa_cons (pe_tup (pa_cons pe_int (pa_cons (pe_callTy (r := rTupS K) call_tuple_of (by rfl) B.tuple PyProof.Rows.boot_tuple (pa_cons (pe_lc (own := [("_law_told", 3)]) (g := (gName 3)) (tt := tYes) (by rfl) sc__law_named.nd (show PI _ _ _ (iList K _) from pi_list (pe_cal C__law_rows hr (by decide) (pa_cons (pv 0) (pa_cons pe_int pa_nil)))) (blkOk_by (own := [("_law_told", 3)]) (N := ["_law_size", "_law_found", "_law_three", "_law_told"]) (sc := defScope s__law_named) (by decide +kernel)) (fun _ _ _ _ _ => (pg_name (i := 3) sc__law_named.nd rfl (Or.inl rfl))) (fun _ _ _ _ _ => pts_nil) (fun _ _ _ _ _ => (pe_callB (r := rMinT K) (cr_minT rfl hr.units) (by rfl) B.min PyProof.Rows.boot_min (pa_cons (pv 3) pa_nil)))) pa_nil)) pa_nil))) pa_nil)))
      (pss_cons (ps_expr (pe_bm PySem.F.plainAttrs_list PySem.F.slot_list_append PySem.F.type_list_append mt_append (pv 1) (pa_cons (pe_tup (pa_cons pe_int (pa_cons (pe_callTy (r := rTupS K) call_tuple_of (by rfl) B.tuple PyProof.Rows.boot_tuple (pa_cons (pe_lc (own := [("_law_told", 3)]) (g := (gName 3)) (tt := tYes) (by rfl) sc__law_named.nd (show PI _ _ _ (iList K _) from pi_list (pe_cal C__law_rows hr (by decide) (pa_cons (pv 0) (pa_cons pe_int pa_nil)))) (blkOk_by (own := [("_law_told", 3)]) (N := ["_law_size", "_law_found", "_law_three", "_law_told"]) (sc := defScope s__law_named) (by decide +kernel)) (fun _ _ _ _ _ => (pg_name (i := 3) sc__law_named.nd rfl (Or.inl rfl))) (fun _ _ _ _ _ => pts_nil) (fun _ _ _ _ _ => (pe_callB (r := rMinT K) (cr_maxT rfl hr.units) (by rfl) B.max PyProof.Rows.boot_max (pa_cons (pv 3) pa_nil)))) pa_nil)) pa_nil))) pa_nil)))
      (pss_cons (ps_set (i := 2) sc__law_named.nd rfl (Or.inl rfl) (pe_cal C__law_rows hr (by decide) (pa_cons (pv 0) (pa_cons pe_int pa_nil))))
      (pss_cons (ps_expr (pe_bm PySem.F.plainAttrs_list PySem.F.slot_list_append PySem.F.type_list_append mt_append (pv 1) (pa_cons (pe_tup (pa_cons pe_int (pa_cons (pe_callTy (r := rTupS K) call_tuple_of (by rfl) B.tuple PyProof.Rows.boot_tuple (pa_cons (pe_lc (own := [("_law_told", 3)]) (g := (gName 3)) (tt := tYes) (by rfl) sc__law_named.nd (show PI _ _ _ (iList K _) from pi_list (pv 2)) (blkOk_by (own := [("_law_told", 3)]) (N := ["_law_size", "_law_found", "_law_three", "_law_told"]) (sc := defScope s__law_named) (by decide +kernel)) (fun _ _ _ _ _ => (pg_name (i := 3) sc__law_named.nd rfl (Or.inl rfl))) (fun _ _ _ _ _ => pts_nil) (fun _ _ _ _ _ => (pe_ix (r := rIxL K) ix_list (pe_callB (r := rSorted3 K) cr_sorted3 (by rfl) B.sorted PyProof.Rows.boot_sorted (pa_cons (pv 3) pa_nil)) pe_int (fun _ _ => rfl)))) pa_nil)) pa_nil))) pa_nil)))
      (pss_cons (ps_expr (pe_bm PySem.F.plainAttrs_list PySem.F.slot_list_append PySem.F.type_list_append mt_append (pv 1) (pa_cons (pe_tup (pa_cons pe_int (pa_cons (pe_callTy (r := rTupS K) call_tuple_of (by rfl) B.tuple PyProof.Rows.boot_tuple (pa_cons (pe_lc (own := [("_law_told", 3)]) (g := (gName 3)) (tt := tYes) (by rfl) sc__law_named.nd (show PI _ _ _ (iList K _) from pi_list (pv 2)) (blkOk_by (own := [("_law_told", 3)]) (N := ["_law_size", "_law_found", "_law_three", "_law_told"]) (sc := defScope s__law_named) (by decide +kernel)) (fun _ _ _ _ _ => (pg_name (i := 3) sc__law_named.nd rfl (Or.inl rfl))) (fun _ _ _ _ _ => pts_nil) (fun _ _ _ _ _ => (pe_op op_mod (pe_callTy call_int1 (by rfl) B.int PyProof.Rows.boot_int (pa_cons (pe_op op_add (pe_op op_sub (pe_ix (r := rIxT K) ix_tup (pv 3) pe_int (fun _ _ => rfl)) (pe_ix (r := rIxT K) ix_tup (pv 3) pe_int (fun _ _ => rfl))) (pe_ix (r := rIxT K) ix_tup (pv 3) pe_int (fun _ _ => rfl))) pa_nil)) (pv 0)))) pa_nil)) pa_nil))) pa_nil)))
      (pss_cons (ps_expr (pe_bm PySem.F.plainAttrs_list PySem.F.slot_list_append PySem.F.type_list_append mt_append (pv 1) (pa_cons (pe_tup (pa_cons pe_int (pa_cons (pe_op (r := rRepT K) op_repT (pe_tup (pa_cons pe_int pa_nil)) (pv 0)) pa_nil))) pa_nil)))
      (pss_one (ps_ret (pe_op op_cat (pv 1) (pe_lst (pa_cons (pe_tup (pa_cons pe_int (pa_cons (pe_callTy (r := rTupS K) call_tuple_of (by rfl) B.tuple PyProof.Rows.boot_tuple (pa_cons (pe_lc (own := [("_law_told", 3)]) (g := (gName 3)) (tt := tYes) (by rfl) sc__law_named.nd (show PI _ _ _ (iList K _) from pi_list (pv 2)) (blkOk_by (own := [("_law_told", 3)]) (N := ["_law_size", "_law_found", "_law_three", "_law_told"]) (sc := defScope s__law_named) (by decide +kernel)) (fun _ _ _ _ _ => (pg_name (i := 3) sc__law_named.nd rfl (Or.inl rfl))) (fun _ _ _ _ _ => pts_nil) (fun _ _ _ _ _ => (pe_ifExp (pt_cmpR op_eq (pe_ix (r := rIxT K) ix_tup (pv 3) pe_int (fun _ _ => rfl)) (pe_ix (r := rIxT K) ix_tup (pv 3) pe_int (fun _ _ => rfl)) (nomark _)) (pe_ix (r := rIxT K) ix_tup (pv 3) pe_int (fun _ _ => rfl)) (pe_ix (r := rIxT K) ix_tup (pv 3) pe_int (fun _ _ => rfl))))) pa_nil)) pa_nil))) pa_nil))))))))))), ?_⟩
    have n3 : n ≤ 3 := by omega
    have n0 : 0 < n := by omega
    have S2 : ∀ {σ : L2.St} {G : Hp}, σ[0]? = some (some (.int (n : Int))) → Src (iList K (tCall sp__law_rows [] E0 (tCons (tVar 0) (tCons (tC (.int 2)) tNil)))) σ G (rows n 2) (fun z x H => ∃ a, x = .ref a ∧ H a = some (.tup (z.map V.int))) := fun {σ G} h0 =>
      src_listT (K := K) (zs := rows n 2) (f := List.map V.int) (er_ltup (sp := sp__law_rows) (E := E0) (dvs := []) (vs := [.int (n : Int), .int 2]) (ea_cons (ev_var h0) (ea_cons ev_c ea_nil)) fun H1 e1 Q E k => ⟨n, 2, rfl, n3, by decide, by rw [rows_V]; exact k⟩)
    have l2 : (rows n 2).length ≤ 40000 := by have := rows_le (n := n) (k := 2) n3 (by decide); omega
    have l3 : (rows n 3).length ≤ 40000 := by have := rows_le (n := n) (k := 3) n3 (by decide); omega
    have mm : ∀ {σ : L2.St} {G : Hp} {z : List Int} {a : Addr} {j : Nat}, z ∈ rows n 2 → σ[j]? = some (some (.ref a)) → G a = some (.tup (z.map V.int)) → EvR (tCB (rMinT K) (tCons (tVar j) tNil)) σ G (fun _ _ => True) := fun {σ G z a j} mz hj ha H1 e1 Q q => by
      have lz := (mem_rows.mp mz).1
      match z, lz with
      | [x, y], _ => exact ⟨_, hj, a, x, [y], rfl, st_of (e1 _ _ ha), fun m => q _ H1 (Ex.refl _) trivial⟩
    -- found
    refine q_asgR (er_lst1 (er_pair (er_tupAny (K := K) (er_lcAny (vs := [3]) (j := 3) (S2 rfl) l2 (fun x => rfl) fun z x G mz e ⟨a, ex, ha⟩ => by
        subst ex
        exact mm mz rfl ha)))) fun v H1 e1 ⟨F, x0, ev, hF, f1⟩ => ?_
    subst ev
    -- the most
    refine q_appR (xs := [x0]) f1 (ev_var rfl) (er_pair (er_tupAny (K := K) (er_lcAny (vs := [3]) (j := 3) (S2 rfl) l2 (fun x => rfl) fun z x G mz e ⟨a, ex, ha⟩ => by
        subst ex
        exact mm mz rfl ha))) (by simp) fun x1 H2 e2 _ => ?_
    have E2 : Ex H (upd H2 F (.lst ([x0] ++ [x1]))) := Ex.mut (e1.trans e2) hF
    have f2 : (upd H2 F (.lst ([x0] ++ [x1]))) F = some (.lst [x0, x1]) := upd_same
    generalize upd H2 F (.lst ([x0] ++ [x1])) = G2 at E2 f2
    -- three
    refine q_asgR (R := fun v H3 => ∃ L as, v = .ref L ∧ G2 L = none ∧ H3 L = some (.lst (as.map V.ref)) ∧ Tups H3 as ((rows n 3).map (List.map V.int))) (er_call (vs := [.int (n : Int), .int 3]) (ea_cons (ev_var rfl) (ea_cons ev_c ea_nil)) fun H3 e3 Q q E => ⟨n, 3, rfl, n3, by decide, by
      rw [rows_V]
      exact fun L as H4 hL e4 d4 t4 => q _ H4 e4 ⟨L, as, rfl, fresh_back e3 hL, d4, t4⟩⟩) fun v H3 e3 ⟨L, as, ev, hLG, d3, t3⟩ => ?_
    subst ev
    have nL : L ≠ F := fun e => by rw [e, f2] at hLG; cases hLG
    have S3 : ∀ {σ : L2.St} {G : Hp}, σ[2]? = some (some (.ref L)) → G L = some (.lst (as.map V.ref)) → Tups G as ((rows n 3).map (List.map V.int)) → Src (iList K (tVar 2)) σ G (rows n 3) (fun z x H => ∃ a, x = .ref a ∧ H a = some (.tup (z.map V.int))) := fun {σ G} h2 hd ht =>
      src_listT (K := K) (zs := rows n 3) (f := List.map V.int) (Ev.r (ev_var h2) fun H1 e1 => ⟨L, as, rfl, e1 _ _ hd, prd_mono ht fun a t _ h => e1 _ _ h⟩)
    -- what stands through an append
    have carry : ∀ {G G1 : Hp} {xs : List V} {ob : HO}, Ex H G → G F = some (.lst xs) → G L = some (.lst (as.map V.ref)) → Tups G as ((rows n 3).map (List.map V.int)) → Ex G G1 → Ex H (upd G1 F ob) ∧ (upd G1 F ob) L = some (.lst (as.map V.ref)) ∧ Tups (upd G1 F ob) as ((rows n 3).map (List.map V.int)) := fun {G G1 xs ob} a b c d e =>
      ⟨Ex.mut (a.trans e) hF, by rw [upd_ne nL]; exact e _ _ c, prd_mono d fun x t _ h => by
        have nx : x ≠ F := fun z => by
          rw [z, b] at h
          cases h
        rw [upd_ne nx]
        exact e _ _ h⟩
    have E3 := E2.trans e3
    have f3 := e3 _ _ f2
    refine q_appR (xs := [x0, x1]) f3 (ev_var rfl) (er_pair (er_tupAny (K := K) (er_lcAny (vs := [3]) (j := 3) (S3 rfl d3 t3) l3 (fun x => rfl) fun z x G mz e ⟨a, ex, ha⟩ => by
        subst ex
        obtain ⟨u, v, w', rfl⟩ := row3 mz
        exact fun H5 e5 Q5 q5 => ⟨_, rfl, a, [u, v, w'], rfl, st_of (e5 _ _ ha), by show 3 < 64; decide, fun ys p ly hp => ⟨p, ys.map V.int, 1, .int (ys.getD 1 0), rfl, rfl, sq_of upd_same, at_of (j := 1) rfl (getD_at (by rw [ly]; show 1 < 3; decide)), q5 _ _ (Ex.new hp) trivial⟩⟩))) (by simp) fun x2 H4 e4 _ => ?_
    obtain ⟨E4, d4, t4⟩ := carry (ob := .lst ([x0, x1] ++ [x2])) E3 f3 d3 t3 e4
    have f4 : (upd H4 F (.lst ([x0, x1] ++ [x2]))) F = some (.lst [x0, x1, x2]) := upd_same
    generalize upd H4 F (.lst ([x0, x1] ++ [x2])) = G4 at E4 d4 t4 f4
    -- x - y + z
    refine q_appR (xs := [x0, x1, x2]) (R := fun v H5 => ∃ o, v = .ref o ∧ OpAt H5 n o) f4 (ev_var rfl) (fun H5 e5 Q5 q5 => ?_) (by simp) fun xo H5 e5 ⟨o, ev, ho⟩ => ?_
    · have LL := el_lcY (te := tOp (rI (fun _ j => 0 < j) fun i j => .int (i % j)) (tCB (fun xs H Q => (∃ i, xs = [V.int i] ∧ Q (.int i) H) ∨ ∃ k, xs = [V.bl k] ∧ Q (.int (if k then 1 else 0)) H) (tCons (tOp (rI0 fun i j => .int (i + j)) (tOp (rI0 fun i j => .int (i - j)) (tOp (rIxT K) (tVar 3) (tC (.int 0))) (tOp (rIxT K) (tVar 3) (tC (.int 1)))) (tOp (rIxT K) (tVar 3) (tC (.int 2)))) tNil)) (tVar 0)) (vs := [3]) (j := 3) (σ := [some (.int (n : Int)), some (.ref F), some (.ref L), none]) (H := G4) (S3 rfl d4 t4) l3 (fun r => V.int (mn n (r.getD 0 0) (r.getD 1 0) (r.getD 2 0))) (fun x => rfl) fun r x G mr e hx => by
        obtain ⟨a, rfl, ha⟩ := hx
        obtain ⟨x, y, z, rfl⟩ := row3 mr
        exact ev_mod (ev_int1 (ev_add (ev_sub (ev_ixT (ev_var rfl) ev_c (st_of ha) rfl) (ev_ixT (ev_var rfl) ev_c (st_of ha) rfl)) (ev_ixT (ev_var rfl) ev_c (st_of ha) rfl))) (ev_var rfl) (by omega)
      refine (eu_tupN (K := K) LL) H5 e5 _ fun p H6 hp e6 h6 => ⟨by show 2 ≤ sizeLine; decide, fun o ho => ?_⟩
      refine q5 _ _ (e6.trans (Ex.new ho)) ⟨o, rfl, p, upd_same, ?_⟩
      rw [upd_ne (ne_of_none h6 ho), h6]
      unfold dtab
      rw [List.map_map]
      rfl
    subst ev
    obtain ⟨E5, d5, t5⟩ := carry (ob := .lst ([x0, x1, x2] ++ [V.ref o])) E4 f4 d4 t4 e5
    have f4' := e5 _ _ f4
    have o5 : OpAt (upd H5 F (.lst ([x0, x1, x2] ++ [V.ref o]))) n o := by
      obtain ⟨tb, o1, o2⟩ := ho
      have nt : ∀ {b : Addr} {us : List V}, H5 b = some (.tup us) → b ≠ F := fun h z => by
        rw [z, f4'] at h
        cases h
      exact ⟨tb, by rw [upd_ne (nt o1)]; exact o1, by rw [upd_ne (nt o2)]; exact o2⟩
    have f5 : (upd H5 F (.lst ([x0, x1, x2] ++ [V.ref o]))) F = some (.lst [x0, x1, x2, .ref o]) := upd_same
    generalize upd H5 F (.lst ([x0, x1, x2] ++ [V.ref o])) = G5 at E5 d5 t5 f5 o5
    -- zero
    refine q_appR (xs := [x0, x1, x2, .ref o]) f5 (ev_var rfl) (er_pair (fun H6 e6 Q6 q6 => ?_)) (by simp) fun x4 H6 e6 _ => ?_
    · refine (eu_tup (σ := [some (.int (n : Int)), some (.ref F), some (.ref L), none]) (H := H6) (vs := [.int 0]) (ea_cons ev_c ea_nil) (by decide)) H6 (Ex.refl _) _ fun p H7 hp e7 h7 => ⟨_, rfl, p, (n : Int), [.int 0], rfl, rfl, st_of h7, (fun z => nomatch z), by omega, by omega, by show 1 ≤ 1000; decide, fun l hl => q6 _ _ (e7.trans (Ex.new hl)) ⟨l, rfl⟩⟩
    obtain ⟨E6, d6, t6⟩ := carry (ob := .lst ([x0, x1, x2, V.ref o] ++ [x4])) E5 f5 d5 t5 e6
    have o6 : OpAt (upd H6 F (.lst ([x0, x1, x2, V.ref o] ++ [x4]))) n o := by
      obtain ⟨tb, o1, o2⟩ := o5.ex e6
      have f5' := e6 _ _ f5
      have nt : ∀ {b : Addr} {us : List V}, H6 b = some (.tup us) → b ≠ F := fun h z => by
        rw [z, f5'] at h
        cases h
      exact ⟨tb, by rw [upd_ne (nt o1)]; exact o1, by rw [upd_ne (nt o2)]; exact o2⟩
    have f6 : (upd H6 F (.lst ([x0, x1, x2, V.ref o] ++ [x4]))) F = some (.lst [x0, x1, x2, .ref o, x4]) := upd_same
    generalize upd H6 F (.lst ([x0, x1, x2, V.ref o] ++ [x4])) = G6 at E6 d6 t6 f6 o6
    -- the last one
    have LX : EvR (tLst (tCons (tTup (tCons (tC (.int 3)) (tCons (tCB (rTupS K) (tCons (tLc (iList K (tVar 2)) (gName 3) tYes (tIf (tTest (tOp rEq (tOp (rIxT K) (tVar 3) (tC (.int 1))) (tOp (rIxT K) (tVar 3) (tC (.int 2))))) (tOp (rIxT K) (tVar 3) (tC (.int 1))) (tOp (rIxT K) (tVar 3) (tC (.int 0)))) [3]) tNil)) tNil))) tNil)) [some (.int (n : Int)), some (.ref F), some (.ref L), none] G6 (fun v H2 => ∃ D x, v = .ref D ∧ G6 D = none ∧ H2 D = some (.lst [x])) :=
      er_lst1 (er_pair (er_tupAny (K := K) (er_lcAny (S3 rfl d6 t6) l3 (fun x => rfl) fun z x G mz e ⟨a, ex, ha⟩ => by
        subst ex
        obtain ⟨u, v, w', rfl⟩ := row3 mz
        exact Ev.r (v := if v = w' then V.int v else V.int u) (ev_if (b := decide (v = w')) (et_test (ev_eqI (ev_ixT (ev_var rfl) ev_c (st_of ha) rfl) (ev_ixT (ev_var rfl) ev_c (st_of ha) rfl))) (fun hb => by
          rw [if_pos (of_decide_eq_true hb)]
          exact ev_ixT (ev_var rfl) ev_c (st_of ha) rfl) (fun hb => by
          rw [if_neg (of_decide_eq_false hb)]
          exact ev_ixT (ev_var rfl) ev_c (st_of ha) rfl)) fun _ _ => trivial)))
    refine s_retR (R := fun v H7 => ∃ D x5, v = .ref D ∧ H D = none ∧ H7 D = some (.lst [x0, x1, x2, .ref o, x4, x5])) (fun H7 e7 Q7 q7 => ⟨_, rfl, LX H7 e7 _ fun v H8 e8 ⟨p, x5, ev, hp, d8⟩ => ?_⟩) fun v H7 e7 ⟨D, x5, ev, hD, d7⟩ => by
      subst ev
      exact q D _ o H7 hD (E6.trans e7) d7 rfl (o6.ex e7)
    subst ev
    exact ⟨F, p, _, _, rfl, rfl, (e7.trans e8) _ _ f6, d8, by show 5 + 1 ≤ sizeLine; decide, fun l hl => q7 _ _ (e8.trans (Ex.new hl)) ⟨l, x5, rfl, fresh_back ((E6.trans e7).trans e8) hl, upd_same⟩⟩
end
end G651
/-! What the law asks of the equations, read off okAll. -/
namespace G651
theorem ok_parts {n ar : Nat} {R : List (List Int)} (h : okAll n ar R = true) : okBasis n ar R = true ∧ okEqs n ar R (eqs n ar R) = true := by
  rw [okAll_eq] at h
  exact Bool.and_eq_true_iff.mp h
structure EqF (n ar : Nat) (R E : List (List Int)) : Prop where
  len : ∀ e ∈ E, e.length = ar + 1
  ent : ∀ e ∈ E, ∀ v ∈ e, 0 ≤ v ∧ v ≤ (n : Int) - 1
  som : ∀ e ∈ E, some1 ar e ≠ []
  one : ∀ e ∈ E, e.getD ((some1 ar e).headD 0) 0 = 1
  inc : incr (eHeads ar E) = true
  uni : ∀ h ∈ eHeads ar E, (E.filter fun e => nzAt h e).length = 1
  sol : (rows n ar).filter (fun v => E.all fun e => sums n e v) = R
def NN (r : List Int) : Prop := ∀ v ∈ r, 0 ≤ v
theorem natL_back : ∀ {r : List Int}, NN r → (natL r).map (fun i : Nat => (i : Int)) = r
  | [], _ => rfl
  | a :: r, h => by
    have ih := natL_back (r := r) fun v hv => h v (List.mem_cons_of_mem _ hv)
    have ha := h a List.mem_cons_self
    unfold natL at ih ⊢
    rw [List.map_cons, List.map_cons, ih, Int.toNat_of_nonneg ha]
theorem natL_inj : ∀ {A B : List (List Int)}, (∀ r ∈ A, NN r) → (∀ r ∈ B, NN r) → A.map natL = B.map natL → A = B := by
  intro A B hA hB e
  have e2 : (A.map natL).map (List.map fun i : Nat => (i : Int)) = (B.map natL).map (List.map fun i : Nat => (i : Int)) := by rw [e]
  rw [List.map_map, List.map_map] at e2
  have f : ∀ {C : List (List Int)}, (∀ r ∈ C, NN r) → C.map ((List.map fun i : Nat => (i : Int)) ∘ natL) = C := fun {C} hC => by
    have : C.map ((List.map fun i : Nat => (i : Int)) ∘ natL) = C.map id := List.map_congr_left fun r hr => natL_back (hC r hr)
    rw [this, List.map_id]
  rwa [f hA, f hB] at e2
theorem tupsN_map {α β : Type} (f : α → β) (xs : List α) : ∀ k, (tups xs k).map (List.map f) = tups (xs.map f) k
  | 0 => rfl
  | k + 1 => by
    show ((tups xs k).flatMap fun t => xs.map fun x => t ++ [x]).map (List.map f) = (tups (xs.map f) k).flatMap fun t => (xs.map f).map fun x => t ++ [x]
    rw [← tupsN_map f xs k, List.map_flatMap, List.flatMap_map]
    congr 1
    funext t
    simp
theorem rowsN_eq (n k : Nat) : rowsN n k = (rows n k).map natL := by
  unfold rowsN rows
  have e : natL = List.map Int.toNat := by funext r; rfl
  rw [e, tupsN_map]
  congr 1
  unfold vals
  rw [List.map_map]
  have : (List.range n).map (Int.toNat ∘ fun i : Nat => (i : Int)) = (List.range n).map id := List.map_congr_left fun i _ => Int.toNat_natCast i
  rw [this, List.map_id]
theorem sols_filter (n : Nat) : ∀ (es vs : List (List Nat)), solsN n es vs = vs.filter fun v => es.all fun e => sumsN n e v
  | [], vs => by
    show vs = vs.filter fun _ => true
    rw [List.filter_eq_self.mpr fun _ _ => rfl]
  | e :: es, vs => by
    show solsN n es (vs.filter fun v => sumsN n e v) = _
    rw [sols_filter n es, List.filter_filter]
    congr 1
    funext v
    rw [List.all_cons, Bool.and_comm]
theorem dot_eq : ∀ {e v : List Int} (s : Nat), e.length = v.length + 1 → NN e → NN v → ((dotN (natL e) (natL v) s : Nat) : Int) = ((List.range v.length).map fun i => e.getD i 0 * v.getD i 0).sum + s
  | [], v, s, h, _, _ => by simp at h
  | [a], [], s, _, _, _ => by
    show ((s : Nat) : Int) = 0 + s
    omega
  | a :: b :: e, [], s, h, _, _ => by simp at h
  | a :: e, y :: v, s, h, he, hv => by
    have ih := dot_eq (e := e) (v := v) (Nat.add (Nat.mul a.toNat y.toNat) s) (by simpa using h) (fun z hz => he z (List.mem_cons_of_mem _ hz)) (fun z hz => hv z (List.mem_cons_of_mem _ hz))
    show ((dotN (natL e) (natL v) (Nat.add (Nat.mul a.toNat y.toNat) s) : Nat) : Int) = _
    rw [ih, List.length_cons, List.range_succ_eq_map, List.map_cons, List.map_map, List.sum_cons]
    have e1 : ((fun i => (a :: e).getD i 0 * (y :: v).getD i 0) ∘ Nat.succ) = fun i => e.getD i 0 * v.getD i 0 := by
      funext i
      rfl
    rw [e1]
    show _ + (((a.toNat * y.toNat + s : Nat)) : Int) = (a * y + _) + (s : Int)
    have ea := Int.toNat_of_nonneg (he a List.mem_cons_self)
    have ey := Int.toNat_of_nonneg (hv y List.mem_cons_self)
    rw [Int.natCast_add, Int.natCast_mul, ea, ey]
    omega
theorem last_eq : ∀ {e : List Int} {k : Nat}, e.length = k + 1 → lastN (natL e) = (e.getD k 0).toNat
  | [], k, h => by simp at h
  | [a], k, h => by
    have e : k = 0 := by simpa using h.symm
    subst e
    rfl
  | a :: b :: e, 0, h => by simp at h
  | a :: b :: e, k + 1, h => by
    have ih := last_eq (e := b :: e) (k := k) (by simpa using h)
    show lastN (natL (b :: e)) = ((b :: e).getD k 0).toNat
    exact ih
theorem sums_eq {n : Nat} {e v : List Int} (hl : e.length = v.length + 1) (he : NN e) (hv : NN v) : sumsN n (natL e) (natL v) = sums n e v := by
  unfold sumsN sums
  have d := dot_eq (s := 0) hl he hv
  have l := last_eq (e := e) (k := v.length) hl
  have l0 : 0 ≤ e.getD v.length 0 := by
    have m : v.length < e.length := by omega
    rw [List.getD_eq_getElem?_getD, List.getElem?_eq_getElem m]
    exact he _ (List.getElem_mem m)
  rw [l]
  generalize e.getD v.length 0 = z at l0
  generalize ((List.range v.length).map fun i => e.getD i 0 * v.getD i 0).sum = S at d
  generalize dotN (natL e) (natL v) 0 = N at d
  have eS : S = (N : Int) := by omega
  subst eS
  obtain ⟨k, rfl⟩ := Int.eq_ofNat_of_zero_le l0
  rw [Int.toNat_natCast]
  show Nat.beq (N % n) k = ((N : Int) % (n : Int) == (k : Int))
  rw [Bool.eq_iff_iff, Nat.beq_eq, beq_iff_eq]
  constructor
  · intro h
    rw [← h]
    exact (Int.natCast_emod N n).symm
  · intro h
    have h2 : (((N % n : Nat)) : Int) = (k : Int) := by rw [← h]; exact Int.natCast_emod N n
    exact Int.ofNat.inj h2
theorem eqF_of {n ar : Nat} {R : List (List Int)} (hR : ∀ r ∈ R, r ∈ rows n ar) (h : okAll n ar R = true) : EqF n ar R (eqs n ar R) := by
  have h2 := (ok_parts h).2
  generalize eqs n ar R = E at h2
  unfold okEqs at h2
  rw [Bool.and_eq_true, Bool.and_eq_true, Bool.and_eq_true] at h2
  obtain ⟨⟨⟨a, b⟩, c⟩, d⟩ := h2
  have ae : ∀ e ∈ E, e.length = ar + 1 ∧ (∀ v ∈ e, 0 ≤ v ∧ v ≤ (n : Int) - 1) ∧ some1 ar e ≠ [] ∧ e.getD ((some1 ar e).headD 0) 0 = 1 := fun e he => by
    have q := List.all_eq_true.mp a e he
    rw [Bool.and_eq_true, Bool.and_eq_true, Bool.and_eq_true] at q
    obtain ⟨⟨⟨q1, q2⟩, q3⟩, q4⟩ := q
    refine ⟨of_decide_eq_true q1, fun v hv => ?_, fun z => ?_, eq_of_beq q4⟩
    · have w := List.all_eq_true.mp q2 v hv
      rw [Bool.and_eq_true] at w
      exact ⟨of_decide_eq_true w.1, of_decide_eq_true w.2⟩
    · rw [z] at q3
      cases q3
  have nnE : ∀ e ∈ E, NN e := fun e he v hv => ((ae e he).2.1 v hv).1
  have nnr : ∀ r ∈ rows n ar, NN r := fun r hr v hv => ((mem_rows.mp hr).2 v hv).1
  refine ⟨fun e he => (ae e he).1, fun e he => (ae e he).2.1, fun e he => (ae e he).2.2.1, fun e he => (ae e he).2.2.2, b, fun h hh => eq_of_beq (List.all_eq_true.mp c h hh), ?_⟩
  have d2 := eq_of_beq d
  rw [sols_filter, rowsN_eq, List.filter_map] at d2
  have f : (rows n ar).filter ((fun v => (E.map natL).all fun e => sumsN n e v) ∘ natL) = (rows n ar).filter fun v => E.all fun e => sums n e v := by
    apply List.filter_congr
    intro v hv
    show ((E.map natL).all fun e => sumsN n e (natL v)) = E.all fun e => sums n e v
    rw [List.all_map]
    have lv := (mem_rows.mp hv).1
    rw [Bool.eq_iff_iff, List.all_eq_true, List.all_eq_true]
    constructor
    · intro q e he
      rw [← sums_eq (by rw [(ae e he).1, lv]) (nnE e he) (nnr v hv)]
      exact q e he
    · intro q e he
      show sumsN n (natL e) (natL v) = true
      rw [sums_eq (by rw [(ae e he).1, lv]) (nnE e he) (nnr v hv)]
      exact q e he
  rw [f] at d2
  exact natL_inj (fun r hr => nnr r (List.mem_filter.mp hr).1) (fun r hr => nnr r (hR r hr)) d2
/-- the heads go up: each is beyond the one before -/
theorem incr_at : ∀ {l : List Nat}, incr l = true → ∀ {i a b : Nat}, l[i]? = some a → l[i + 1]? = some b → a < b
  | [], _, i, a, b, h, _ => by simp at h
  | [x], _, i, a, b, _, h => by simp at h
  | x :: y :: r, hi, 0, a, b, h1, h2 => by
    have h : (decide (x < y) && incr (y :: r)) = true := hi
    rw [Bool.and_eq_true] at h
    have e1 : x = a := Option.some.inj h1
    have e2 : y = b := Option.some.inj h2
    subst e1 e2
    exact of_decide_eq_true h.1
  | x :: y :: r, hi, i + 1, a, b, h1, h2 => by
    have h : (decide (x < y) && incr (y :: r)) = true := hi
    rw [Bool.and_eq_true] at h
    exact incr_at h.2 (i := i) (by simpa using h1) (by simpa using h2)
end G651
/-! The law's tail: what the equations tell. -/
namespace G651
open PySem PySem.Spec PyProof.Rows L2 Evl
open StX (tStar pa_star)
section
variable {K : PySem.W.Frag} {σ : L2.St} {H : Hp} {ta tb : TE}
theorem dp_Ls0 {H : Hp} {a : Addr} {xs : List V} {ds : List PyData} (h : H a = some (.lst xs)) (d : DpAll K H xs ds) : Dp K H (.ref a) (.list ds) := .lst (sq_of h) d
theorem eqv_nil0 (ds : List PyData) : PyData.eqv (.list ds) (.list []) = ds.isEmpty := by cases ds <;> rfl
theorem shaped_ints (r : List Int) : SeqAt.shaped (.list (r.map PyData.int)) = true := by
  unfold SeqAt.shaped
  rw [Bool.and_eq_true]
  refine ⟨canLay_ints r, decide_eq_true ?_⟩
  show PyData.depthAll (r.map PyData.int) + 1 ≤ 64
  rw [depth_ints]
  decide
theorem emp_map {α β : Type} (f : α → β) (l : List α) : (l.map f).isEmpty = l.isEmpty := by cases l <;> rfl
/-- a list of ints against [] -/
theorem ev_neLn {ns : List Int} (ha : EvL ta σ H (ns.map V.int)) : Ev (tOp (rNeD K) ta (tLst tNil)) σ H (.bl (!ns.isEmpty)) :=
  ev_opLL (ys := []) ha (el_lst ea_nil (by decide)) fun p q H1 h1 h2 e H2 e2 Q k => by
    refine ⟨.list (ns.map PyData.int), .list [], dp_Ls0 (e2 _ _ h1) (dp_ints ns), dp_Ls0 (e2 _ _ h2) .nil, shaped_ints ns, rfl, ?_⟩
    rw [eqv_nil0, emp_map]
    exact k H2 (Ex.refl _)
theorem ev_neLv {ns : List Int} {L : Addr} (ha : Ev ta σ H (.ref L)) (hL : H L = some (.lst (ns.map V.int))) : Ev (tOp (rNeD K) ta (tLst tNil)) σ H (.bl (!ns.isEmpty)) :=
  ev_opL (xs := []) ha (el_lst ea_nil (by decide)) fun q H1 h2 e H2 e2 Q k => by
    refine ⟨.list (ns.map PyData.int), .list [], dp_Ls0 ((e.trans e2) _ _ hL) (dp_ints ns), dp_Ls0 (e2 _ _ h2) .nil, shaped_ints ns, rfl, ?_⟩
    rw [eqv_nil0, emp_map]
    exact k H2 (Ex.refl _)
theorem ev_eqLv {ns : List Int} {L : Addr} (ha : Ev ta σ H (.ref L)) (hL : H L = some (.lst (ns.map V.int))) : Ev (tOp (rEqD K) ta (tLst tNil)) σ H (.bl ns.isEmpty) :=
  ev_opL (xs := []) ha (el_lst ea_nil (by decide)) fun q H1 h2 e H2 e2 Q k => by
    refine ⟨.list (ns.map PyData.int), .list [], dp_Ls0 ((e.trans e2) _ _ hL) (dp_ints ns), dp_Ls0 (e2 _ _ h2) .nil, shaped_ints ns, rfl, ?_⟩
    rw [eqv_nil0, emp_map]
    exact k H2 (Ex.refl _)
/-- a list of rows against [] -/
theorem ev_eqLr {ps : List (Addr × List Int)} (ha : EvL ta σ H (refs ps)) (hr : Rows H ps) : Ev (tOp (rEqD K) ta (tLst tNil)) σ H (.bl ps.isEmpty) :=
  ev_opLL (ys := []) ha (el_lst ea_nil (by decide)) fun p q H1 h1 h2 e H2 e2 Q k => by
    have e3 : (rowsOf ps).map dT = ps.map fun p => dT p.2 := by unfold rowsOf; rw [List.map_map]; rfl
    refine ⟨.list ((rowsOf ps).map dT), .list [], dp_Ls0 (e2 _ _ h1) (by rw [e3]; exact dp_Ts (hr.ex (e.trans e2))), dp_Ls0 (e2 _ _ h2) .nil, shaped_TLs _, rfl, ?_⟩
    rw [eqv_nil0, emp_map, emp_map]
    exact k H2 (Ex.refl _)
end
theorem at_last {xs : List V} {v : V} (h : xs[xs.length - 1]? = some v) : atI xs (-1) = some v := by
  have l : 0 < xs.length := by
    cases xs with
    | nil => simp at h
    | cons _ _ => simp
  unfold atI
  have e : ixN xs.length (-1) = some (xs.length - 1) := by
    unfold ixN
    rw [if_neg (by omega)]
    simp
    omega
  rw [e]
  exact h
abbrev nI (l : List Nat) : List V := (l.map fun i : Nat => ((i : Nat) : Int)).map V.int
theorem nI_eq (l : List Nat) : nI l = l.map fun i => V.int ((i : Nat) : Int) := by unfold nI; rw [List.map_map]; rfl
theorem at_zero {xs : List Nat} (h : xs ≠ []) : atI (nI xs) 0 = some (V.int ((xs.headD 0 : Nat) : Int)) := by
  refine at_of (j := 0) rfl ?_
  cases xs with
  | nil => exact absurd rfl h
  | cons _ _ => rfl
/-- the tail of the law's reading -/
def tTail (K : PySem.W.Frag) (C : Addr) : TS :=
                    (tSeq
                      (tAsg
                        (tTup
                          (tCons (tCall (sp_equations C) [] E0 (tCons (tVar 2) (tCons (tVar 5) tNil)))
                            (tCons (tLst tNil) tNil)))
                        (gTup K 2 (gCons (gName 7) (gCons (gName 8) gNil))))
                      (tSeq
                        (tIfS (tNot (tB (tCB (rIsi K) (tCons (tVar 7) (tCons (tC (V.ty "tuple")) tNil)))))
                          (tRet (tC (V.bl false))) tNext)
                        (tSeq
                          (tFor (iTup K (tVar 7)) (gName 9)
                            (tSeq
                              (tIfS
                                (tOr (tNot (tB (tCB (rIsi K) (tCons (tVar 9) (tCons (tC (V.ty "tuple")) tNil)))))
                                  (tTest
                                    (tOp rNe (tCB (rLenS2 K) (tCons (tVar 9) tNil))
                                      (tOp (rI0 fun i j => V.int (i + j)) (tVar 3) (tC (V.int 1))))))
                                (tRet (tC (V.bl false))) tNext)
                              (tSeq
                                (tIfS
                                  (tTest
                                    (tOp (rNeD K)
                                      (tLc (iTup K (tVar 9)) (gName 13)
                                        (tNot
                                          (tB
                                            (tCall sp__law_whole [] E0
                                              (tCons (tVar 13)
                                                (tCons (tC (V.int 0))
                                                  (tCons (tOp (rI0 fun i j => V.int (i - j)) (tVar 2) (tC (V.int 1)))
                                                    tNil))))))
                                        (tVar 13) [13])
                                      (tLst tNil)))
                                  (tRet (tC (V.bl false))) tNext)
                                (tSeq
                                  (tAsg
                                    (tLc (iRng1 (tCons (tVar 3) tNil)) (gName 11)
                                      (tTest (tOp rNe (tOp (rIxT K) (tVar 9) (tVar 11)) (tC (V.int 0)))) (tVar 11)
                                      [11])
                                    (gName 10))
                                  (tSeq
                                    (tIfS
                                      (tOr (tTest (tOp (rEqD K) (tVar 10) (tLst tNil)))
                                        (tOr
                                          (tTest
                                            (tOp rNe (tOp (rIxT K) (tVar 9) (tOp (rIxL K) (tVar 10) (tC (V.int 0))))
                                              (tC (V.int 1))))
                                          (tAnd (tTest (tOp (rNeD K) (tVar 8) (tLst tNil)))
                                            (tTest
                                              (tOp (rI0 fun i j => V.bl (decide (i ≤ j)))
                                                (tOp (rIxL K) (tVar 10) (tC (V.int 0)))
                                                (tOp (rIxL K) (tVar 8)
                                                  (tUn (rU fun i => V.int (-i)) (tC (V.int 1)))))))))
                                      (tRet (tC (V.bl false))) tNext)
                                    (tDrop
                                      (tBM
                                        K
                                        "list" rAppend (tVar 8)
                                        (tCons (tOp (rIxL K) (tVar 10) (tC (V.int 0))) tNil))))))))
                          (tSeq
                            (tFor (iList K (tVar 8)) (gName 11)
                              (tIfS
                                (tTest
                                  (tOp rNe
                                    (tCB (rLenS2 K)
                                      (tCons
                                        (tLc (iTup K (tVar 7)) (gName 9)
                                          (tTest (tOp rNe (tOp (rIxT K) (tVar 9) (tVar 11)) (tC (V.int 0)))) (tVar 9)
                                          [9])
                                        tNil))
                                    (tC (V.int 1))))
                                (tRet (tC (V.bl false))) tNext))
                            (tSeq
                              (tAsg
                                (tLc (iList K (tCall sp__law_rows [] E0 (tCons (tVar 2) (tCons (tVar 3) tNil))))
                                  (gName 14)
                                  (tTest
                                    (tOp (rEqD K)
                                      (tLc (iTup K (tVar 7)) (gName 9)
                                        (tNot
                                          (tB
                                            (tCall sp__law_sums [] E0
                                              (tCons (tVar 2) (tCons (tVar 9) (tCons (tVar 14) tNil))))))
                                        (tVar 9) [9])
                                      (tLst tNil)))
                                  (tVar 14) [14])
                                (gName 12))
                              (tRet
                                (tOp (rEqD K) (tCB (rTupS K) (tCons (tVar 12) tNil))
                                  (tOp (rIxT K) (tVar 5) (tC (V.int 1))))))))))
section
variable {K : PySem.W.Frag} {C : Addr} {H : Hp} {D : Ends} {n ar : Nat} {r t : Addr} {ps : List (Addr × List Int)} {v0 v1 v4 : V}
theorem tail_ok (hrel : RelAt H r t ar ps) (hv : Val n ar (rowsOf ps)) (h9 : ps.length ≤ 9) (hne : rowsOf ps ≠ []) (haf : aff n (rowsOf ps) = true) (hk : okAll n ar (rowsOf ps) = true) (q : ∀ H', D.rt (.bl true) H') :
    tTail K C D [some v0, some v1, some (.int (n : Int)), some (.int (ar : Int)), some v4, some (.ref r), some (.bl true), none, none, none, none, none, none, none, none] H := by
  have FE := eqF_of hv.mem hk
  have a4 := hv.h4
  have n3 : n ≤ 3 := by have := hv.hn; omega
  have n0 : 0 < n := by have := hv.hn; omega
  have lE : (eqs n ar (rowsOf ps)).length ≤ 40000 := by
    unfold eqs red
    have l := (len_fold n (found n ar (rowsOf ps)) (if found n ar (rowsOf ps) = [] then 0 else ar + 1)).2
    refine Nat.le_trans l ?_
    split <;> omega
  generalize hE : eqs n ar (rowsOf ps) = E at FE lE
  refine ⟨_, rfl, _, rfl, n, ar, r, t, ps, rfl, hrel, hv, h9, fun z => absurd z (fun z => z.elim hne fun z => by rw [haf] at z; cases z), fun _ _ => ⟨(ok_parts hk).1, fun p es H1 hp e1 d1 r1 er => ?_⟩⟩
  refine ⟨by show 0 ≤ sizeLine; decide, fun F hF => ⟨by show 2 ≤ sizeLine; decide, fun T hT => ⟨T, [.ref p, .ref F], rfl, st_of upd_same, rfl, _, _, rfl, _, _, rfl, rfl, ?_⟩⟩⟩
  rw [hE] at er
  have eG : Ex H1 (upd (upd H1 F (.lst [])) T (.tup [.ref p, .ref F])) := (Ex.new hF).trans (Ex.new hT)
  have fG : (upd (upd H1 F (.lst [])) T (.tup [.ref p, .ref F])) F = some (.lst []) := Ex.new hT _ _ upd_same
  generalize upd (upd H1 F (.lst [])) T (.tup [.ref p, .ref F]) = G at eG fG
  have EG := e1.trans eG
  have relG := hrel.ex EG
  have dG := eG _ _ d1
  have rG := r1.ex eG
  clear hT hF
  refine q_when (b := false) (et_not (a := true) (et_B (ev_isi (T := "tuple") (U := "tuple") (b := true) (ev_var rfl) (fun _ e => .base (.tup (e _ _ dG))) (by decide +kernel)))) (fun z => nomatch z) fun _ H2 e2 => ?_
  have nT : ∀ {b : Addr} {us : List V}, H2 b = some (.tup us) → b ≠ F := fun h z => by
    rw [z, e2 _ _ fG] at h
    cases h
  refine q_forT (a := p) (xs := refs es) (ev_var rfl) (st_of (e2 _ _ dG)) (fun i σ' H' => ExB F H2 H' ∧ H' F = some (.lst (nI ((eHeads ar E).take i))) ∧ ∃ x9 x10, σ' = [some v0, some v1, some (.int (n : Int)), some (.int (ar : Int)), some v4, some (.ref r), some (.bl true), some (.ref p), some (.ref F), x9, x10, none, none, none, none])
    (fun H3 e3 => ⟨exB_of e3, e3 _ _ (e2 _ _ fG), none, none, rfl⟩) (fun i σ' H' _ pv => st_of (pv.1 _ _ (nT (e2 _ _ dG)) (e2 _ _ dG))) (fun i v σ' H' hi pv => ?_) (fun σ' H' pv => ?_)
  · obtain ⟨eB, hF, x9, x10, rfl⟩ := pv
    unfold refs at hi
    rw [List.getElem?_map] at hi
    cases g : es[i]? with
    | none =>
      rw [g] at hi
      cases hi
    | some pe =>
      rw [g] at hi
      have ev : V.ref pe.1 = v := Option.some.inj hi
      subst ev
      have me := List.mem_of_getElem? g
      have mE : pe.2 ∈ E := by rw [← er]; exact List.mem_map.mpr ⟨pe, me, rfl⟩
      have hc2 := (rG.ex e2) pe me
      have ce : H' pe.1 = some (.tup (pe.2.map V.int)) := eB _ _ (nT hc2) hc2
      have gh : (eHeads ar E)[i]? = some ((some1 ar pe.2).headD 0) := by
        unfold eHeads
        rw [← er, List.getElem?_map, List.getElem?_map, g]
        rfl
      have le := FE.len _ mE
      -- its form
      refine q_when (b := false) (et_or (a := false) (b := false) (et_not (a := true) (et_B (ev_isi (T := "tuple") (U := "tuple") (b := true) (ev_var rfl) (fun _ e => .base (.tup (e _ _ ce))) (by decide +kernel)))) fun _ =>
        et_test (ev_is (ev_neI (i := (ar : Int) + 1) (j := (ar : Int) + 1) (ev_is (ev_lenT (K := K) (ev_var rfl) (st_of ce)) (by rw [List.length_map, le]; rfl)) (ev_add (ev_var rfl) ev_c)) (by simp))) (fun z => nomatch z) fun _ H3 e3 => ?_
      -- its values
      have wh : pe.2.filter (fun v => !(decide (0 ≤ v) && decide (v ≤ (n : Int) - 1))) = [] := by
        rw [List.filter_eq_nil_iff]
        intro v mv z
        have h := FE.ent _ mE v mv
        rw [decide_eq_true h.1, decide_eq_true h.2] at z
        cases z
      have S13 : Src (iTup K (tVar 9)) [some v0, some v1, some (.int (n : Int)), some (.int (ar : Int)), some v4, some (.ref r), some (.bl true), some (.ref p), some (.ref F), some (.ref pe.1), x10, none, none, none, none] H3 pe.2 (fun z x _ => x = V.int z) := src_tup (f := V.int) (R1 := fun v _ => v = .ref pe.1) (Ev.r (ev_var rfl) fun _ _ => rfl) fun v H4 e4 r4 => ⟨pe.1, r4, st_of (e4 _ _ (e3 _ _ ce))⟩
      refine q_when (b := false) (et_test (ev_is (ev_neLn (K := K) (el_lcN (vs := [13]) (j := 13) S13 (by omega) (fun v => !(decide (0 ≤ v) && decide (v ≤ (n : Int) - 1))) V.int (fun x => rfl) (fun z x H4 mz e hx => by
          subst hx
          exact et_not (et_B (ev_call (vs := [.int z, .int 0, .int ((n : Int) - 1)]) (ea_cons (ev_var rfl) (ea_cons ev_c (ea_cons (ev_sub (ev_var rfl) ev_c) ea_nil))) fun H5 e5 Q q E => ⟨z, 0, _, rfl, q⟩))) fun z x H4 mz e hx _ => by
          subst hx
          exact ev_var rfl)) (by rw [wh]; rfl))) (fun z => nomatch z) fun _ H4 e4 => ?_
      -- some
      have S11 : Src (iRng1 (tCons (tVar 3) tNil)) [some v0, some v1, some (.int (n : Int)), some (.int (ar : Int)), some v4, some (.ref r), some (.bl true), some (.ref p), some (.ref F), some (.ref pe.1), x10, none, none, none, none] H4 (List.range ar) (fun z x _ => x = .int ((z : Nat) : Int)) := src_range1 (ea_cons (ev_var rfl) ea_nil) (by omega)
      have ce4 := (e3.trans e4) _ _ ce
      refine q_asgL (xs := nI (some1 ar pe.2)) (by
        rw [nI_eq]
        exact el_lcN (vs := [11]) (j := 11) S11 (by rw [List.length_range]; omega) (fun i => nzAt i pe.2) (fun i => V.int ((i : Nat) : Int)) (fun x => rfl) (fun z x H5 mz e hx => by
          subst hx
          rw [List.mem_range] at mz
          exact et_test (ev_is (ev_neI (ev_ixT (ev_var rfl) (ev_var rfl) (st_of (e _ _ ce4)) (at_of (j := z) rfl (getD_at (by omega)))) ev_c) rfl)) fun z x H5 mz e hx _ => by
          subst hx
          exact ev_var rfl) fun L H5 hL e5 dL' => ?_
      have sne := FE.som _ mE
      have E5 := (e3.trans e4).trans e5
      have hF5 := E5 _ _ hF
      have nLF : L ≠ F := fun z => by
        rw [z, (e3.trans e4) _ _ hF] at hL
        cases hL
      have a0 := at_zero sne
      have hlt : (some1 ar pe.2).headD 0 < ar := by
        have m := headD_mem sne
        exact List.mem_range.mp (List.mem_filter.mp m).1
      have emp : (some1 ar pe.2).isEmpty = false := by
        cases hx : some1 ar pe.2 with
        | nil => exact absurd hx sne
        | cons _ _ => rfl
      have cH : EvT (tAnd (tTest (tOp (rNeD K) (tVar 8) (tLst tNil))) (tTest (tOp (rI0 fun i j => V.bl (decide (i ≤ j))) (tOp (rIxL K) (tVar 10) (tC (V.int 0))) (tOp (rIxL K) (tVar 8) (tUn (rU fun i => V.int (-i)) (tC (V.int 1)))))))
          [some v0, some v1, some (.int (n : Int)), some (.int (ar : Int)), some v4, some (.ref r), some (.bl true), some (.ref p), some (.ref F), some (.ref pe.1), some (.ref L), none, none, none, none] H5 false := by
        have h := et_and (a := !((((eHeads ar E).take i).map fun i : Nat => (i : Int))).isEmpty) (b := false) (t := tTest (tOp (rNeD K) (tVar 8) (tLst tNil))) (u := tTest (tOp (rI0 fun i j => V.bl (decide (i ≤ j))) (tOp (rIxL K) (tVar 10) (tC (V.int 0))) (tOp (rIxL K) (tVar 8) (tUn (rU fun i => V.int (-i)) (tC (V.int 1))))))
          (σ := [some v0, some v1, some (.int (n : Int)), some (.int (ar : Int)), some v4, some (.ref r), some (.bl true), some (.ref p), some (.ref F), some (.ref pe.1), some (.ref L), none, none, none, none]) (H := H5) (et_test (ev_neLv (ev_var rfl) hF5)) fun hb => ?_
        · rw [Bool.and_false] at h
          exact h
        · have i0 : i ≠ 0 := fun z => by
            subst z
            cases hb
          obtain ⟨k, rfl⟩ : ∃ k, i = k + 1 := ⟨i - 1, by omega⟩
          have lk : k < (eHeads ar E).length := by
            have := (List.getElem?_eq_some_iff.mp gh).1
            omega
          have gk : (eHeads ar E)[k]? = some (eHeads ar E)[k] := List.getElem?_eq_getElem lk
          generalize (eHeads ar E)[k] = hk' at gk
          have lt := incr_at FE.inc gk gh
          refine et_test (ev_is (ev_op (x := V.int (((some1 ar pe.2).headD 0 : Nat) : Int)) (y := V.int ((hk' : Nat) : Int)) (ev_ixL (ev_var rfl) ev_c (sq_of dL') a0) (ev_ixL (ev_var rfl) (ev_un ev_c ru_neg) (sq_of hF5) (at_last ?_)) rv_I0) ?_)
          · rw [take_more gk]
            unfold nI
            rw [List.length_map, List.length_map, List.length_append, List.map_append, List.map_append, List.getElem?_append_right (by simp)]
            simp
          · congr 1
            exact decide_eq_false (by omega)
      refine q_when (b := false) (et_or (a := false) (b := false) (et_test (ev_is (ev_eqLv (ev_var rfl) dL') (by rw [emp_map, emp]))) fun _ => et_or (a := false) (b := false)
        (et_test (ev_is (ev_neI (i := 1) (j := 1) (ev_is (ev_ixT (ev_var rfl) (ev_ixL (ev_var rfl) ev_c (sq_of dL') a0) (st_of (E5 _ _ ce)) (at_of (j := (some1 ar pe.2).headD 0) rfl (getD_at (by omega)))) (by rw [FE.one _ mE])) ev_c) rfl)) fun _ => cH) (fun z => nomatch z) fun _ H6 e6 => ?_
      have dL6 := e6 _ _ dL'
      have hF6 := e6 _ _ hF5
      refine s_app (l := F) hF6 (ev_var rfl) (ev_ixL (ev_var rfl) ev_c (sq_of dL6) a0) ?_ fun H7 e7 => ?_
      · have l1 : (nI ((eHeads ar E).take i)).length ≤ (eHeads ar E).length := by
          unfold nI
          rw [List.length_map, List.length_map, List.length_take]
          exact Nat.min_le_right _ _
        have l2 : (eHeads ar E).length = E.length := by unfold eHeads; rw [List.length_map]
        omega
      · refine ⟨(eB.trans (exB_of (E5.trans (e6.trans e7)))).put, ?_, _, _, rfl⟩
        rw [upd_same, take_more gh]
        unfold nI
        rw [List.map_append, List.map_append]
        rfl
  · obtain ⟨eB, hF, x9, x10, rfl⟩ := pv
    have lr : (refs es).length = (eHeads ar E).length := by unfold refs eHeads; rw [List.length_map, List.length_map, ← er, List.length_map]
    rw [lr, List.take_length] at hF
    have rE : Rows H' es := fun z mz => eB _ _ (nT ((rG.ex e2) z mz)) ((rG.ex e2) z mz)
    have dE : H' p = some (.tup (refs es)) := eB _ _ (nT (e2 _ _ dG)) (e2 _ _ dG)
    have rl2 := relG.ex e2
    have relH : RelAt H' r t ar ps := ⟨eB _ _ (nT rl2.1) rl2.1, eB _ _ (nT rl2.2.1) rl2.2.1, fun z mz => eB _ _ (nT (rl2.2.2 z mz)) (rl2.2.2 z mz)⟩
    clear eB
    have les : es.length ≤ 40000 := by
      have l : E.length = es.length := by rw [← er, List.length_map]
      omega
    have S7 : ∀ {σ : L2.St} {G : Hp}, Ex H' G → σ[7]? = some (some (.ref p)) → Src (iTup K (tVar 7)) σ G es (fun z x _ => x = V.ref z.1) := fun {σ G} eg h7 =>
      src_tup (f := fun z : Addr × List Int => V.ref z.1) (R1 := fun v _ => v = .ref p) (Ev.r (ev_var h7) fun _ _ => rfl) fun v H4 e4 r4 => ⟨p, r4, st_of (e4 _ _ (eg _ _ dE))⟩
    -- each head in one equation
    refine q_forL (a := F) (xs := nI (eHeads ar E)) (ev_var rfl) (sq_of hF) (fun i σ' G => Ex H' G ∧ ∃ x11, σ' = [some v0, some v1, some (.int (n : Int)), some (.int (ar : Int)), some v4, some (.ref r), some (.bl true), some (.ref p), some (.ref F), x9, x10, x11, none, none, none]) (fun H3 e3 => ⟨e3, none, rfl⟩) (fun i σ' G _ pv => sq_of (pv.1 _ _ hF)) (fun i v σ' G hi pv => ?_) (fun σ' G pv => ?_)
    · obtain ⟨eg, x11, rfl⟩ := pv
      rw [nI_eq, List.getElem?_map] at hi
      cases g : (eHeads ar E)[i]? with
      | none =>
        rw [g] at hi
        cases hi
      | some h =>
        rw [g] at hi
        have ev : V.int ((h : Nat) : Int) = v := Option.some.inj hi
        subst ev
        have mh := List.mem_of_getElem? g
        have hh : h < ar := by
          unfold eHeads at mh
          obtain ⟨e, me, rfl⟩ := List.mem_map.mp mh
          exact List.mem_range.mp (List.mem_filter.mp (headD_mem (FE.som _ me))).1
        refine s_when (b := false) (et_test (ev_is (ev_neI (i := 1) (j := 1) (ev_is (ev_lenLn (K := K) (el_lcN (vs := [9]) (j := 9) (S7 (σ := [some v0, some v1, some (.int (n : Int)), some (.int (ar : Int)), some v4, some (.ref r), some (.bl true), some (.ref p), some (.ref F), x9, x10, some (.int ((h : Nat) : Int)), none, none, none]) eg rfl) les (fun z => nzAt h z.2) (fun z => V.ref z.1) (fun x => rfl) (fun z x H5 mz e hx => by
            subst hx
            have lz := FE.len z.2 (by rw [← er]; exact List.mem_map.mpr ⟨z, mz, rfl⟩)
            exact et_test (ev_is (ev_neI (ev_ixT (ev_var rfl) (ev_var rfl) (st_of ((eg.trans e) _ _ (rE z mz))) (at_of (j := h) rfl (getD_at (by omega)))) ev_c) rfl)) fun z x H5 mz e hx _ => by
            subst hx
            exact ev_var rfl)) (by
              have u := FE.uni h mh
              rw [← er, List.filter_map, List.length_map] at u
              rw [List.length_map]
              show V.int (((es.filter (nzAt h ∘ fun z => z.2)).length : Nat) : Int) = V.int 1
              rw [u]
              rfl)) ev_c) rfl)) (fun z => nomatch z) fun _ H3 e3 => ⟨eg.trans e3, _, rfl⟩
    · obtain ⟨eg, x11, rfl⟩ := pv
      -- the rows that solve all
      have pB : ∀ v : List Int, (es.filter fun z => !(sums n z.2 v)).isEmpty = E.all fun e => sums n e v := fun v => by
        rw [← er, List.all_map, Bool.eq_iff_iff, List.isEmpty_iff, List.filter_eq_nil_iff, List.all_eq_true]
        refine ⟨fun h z mz => ?_, fun h z mz w => ?_⟩
        · have := h z mz
          cases hs : sums n z.2 v with
          | true => exact hs
          | false => simp [hs] at this
        · have := h z mz
          have this' : sums n z.2 v = true := this
          rw [this'] at w
          cases w
      have SR : Src (iList K (tCall sp__law_rows [] E0 (tCons (tVar 2) (tCons (tVar 3) tNil)))) [some v0, some v1, some (.int (n : Int)), some (.int (ar : Int)), some v4, some (.ref r), some (.bl true), some (.ref p), some (.ref F), x9, x10, x11, none, none, none] G (rows n ar) (fun z x H => ∃ a, x = .ref a ∧ H a = some (.tup (z.map V.int))) :=
        src_listT (K := K) (zs := rows n ar) (f := List.map V.int) (er_ltup (sp := sp__law_rows) (E := E0) (dvs := []) (vs := [.int (n : Int), .int (ar : Int)]) (ea_cons (ev_var rfl) (ea_cons (ev_var rfl) ea_nil)) fun H1 e1 Q E k => ⟨n, ar, rfl, n3, a4, by rw [rows_V]; exact k⟩)
      have lR : (rows n ar).length ≤ 40000 := by have := rows_le (n := n) (k := ar) n3 a4; omega
      refine q_asgR (R := fun v H5 => ∃ D qs, v = .ref D ∧ H5 D = some (.lst (refs qs)) ∧ Rows H5 qs ∧ rowsOf qs = rowsOf ps) (er_lcT (vs := [14]) SR lR (tgt_name (j := 14)) (fun v => E.all fun e => sums n e v) (fun z y H' => ∃ a, y = V.ref a ∧ H' a = some (.tup (z.map V.int))) (fun z y Ha Hb tp ⟨a, e, h⟩ => ⟨a, e, tp a _ h⟩) (fun z σ' H2 ⟨x, e, _⟩ => by rw [e]; rfl) (fun z σ' H5 mz e ⟨x, ex, a, hx, ha⟩ => ?_) (fun z σ' H5 mz e ⟨x, ex, a, hx, ha⟩ _ => ?_) fun D ys H5 hD e5 d5 pr => ?_) fun v H5 e5 ⟨D', qs, ev, dD, rq, eq⟩ => ?_
      · subst ex hx
        have lz := (mem_rows.mp mz).1
        have eH := eg.trans e
        rw [← pB z]
        refine et_test (ev_eqLr (K := K) (ps := es.filter fun w => !(sums n w.2 z)) (el_lcN (vs := [9]) (j := 9) (S7 eH rfl) les (fun w => !(sums n w.2 z)) (fun w => V.ref w.1) (fun x => rfl) (fun w x H6 mw e6 hx => ?_) fun w x H6 mw e6 hx _ => ?_) fun w mw => (rE.ex eH) w (List.mem_filter.mp mw).1)
        · subst hx
          have mw' : w.2 ∈ E := by rw [← er]; exact List.mem_map.mpr ⟨w, mw, rfl⟩
          have lw := FE.len _ mw'
          exact et_not (et_B (ev_call (vs := [.int (n : Int), .ref w.1, .ref a]) (ea_cons (ev_var rfl) (ea_cons (ev_var rfl) (ea_cons (ev_var rfl) ea_nil))) fun H7 e7 Q q E' => ⟨n, w.1, a, w.2, z, rfl, n0, n3, (eH.trans (e6.trans e7)) _ _ (rE w mw), (e6.trans e7) _ _ ha, by rw [lw, lz], by omega, fun x hx => (by have h := FE.ent _ mw' x hx; omega), q⟩))
        · subst hx
          exact ev_var rfl
      · subst ex hx
        exact Ev.r (ev_var rfl) fun H6 e6 => ⟨a, rfl, e6 _ _ ha⟩
      · obtain ⟨as, rfl, pr2⟩ := prd_refs pr
        obtain ⟨qs, ea, eq, hq⟩ := prd_zip (fun z : List Int => z) pr2
        rw [List.map_id', FE.sol] at eq
        refine ⟨D, qs, rfl, ?_, fun z mz => ?_, eq.symm⟩
        · rw [d5, ea, List.map_map]
          rfl
        · obtain ⟨w, _, e2, hw⟩ := hq z mz
          rw [e2]
          exact hw
      · subst ev
        have eH := eg.trans e5
        refine s_retR (R := fun v _ => v = .bl true) (fun H6 e6 Q6 q6 => ⟨_, rfl, D', refs qs, rfl, .inl ⟨sq_of (e6 _ _ dD), fun l hl => ?_⟩⟩) fun v H6 e6 hv' => by
          subst hv'
          exact q H6
        have E7 : Ex H6 (upd H6 l (.tup (refs qs))) := Ex.new hl
        have rel7 := relH.ex (eH.trans (e6.trans E7))
        refine ⟨_, rfl, r, _, 1, .ref t, rfl, rfl, st_of rel7.1, rfl, ?_⟩
        refine ⟨.tuple ((rowsOf qs).map dT), .tuple ((rowsOf ps).map dT), dp_TT upd_same (rq.ex (e6.trans E7)), dp_TT rel7.2.1 rel7.2.2, shaped_Ts _, shaped_Ts _, ?_⟩
        have e9 : PyData.eqv (.tuple ((rowsOf qs).map dT)) (.tuple ((rowsOf ps).map dT)) = true := by
          show PyData.eqvAll ((rowsOf qs).map dT) ((rowsOf ps).map dT) = true
          rw [eqv_Ts, eq]
          exact beq_self_eq_true _
        rw [e9]
        exact q6 _ _ E7 rfl
end
end G651
/-! The law, once the relation is drawn. -/
namespace G651
open PySem PySem.Spec PyProof.Rows L2 Evl
open StX (tStar pa_star)
def rIsNotB : R2 := fun x y H Q => ∃ a b, x = .bl a ∧ y = .bl b ∧ Q (.bl (!decide (a = b))) H
/-- the reading behind the draws -/
def tMid (K : PySem.W.Frag) (C : Addr) : TS :=
              (tSeq
                (tAsg
                  (tOp (fun x y H Q => y = V.non ∧ Q (V.bl (decide (x = V.non))) H)
                    (tCall sp__law_breaks [] E0 (tCons (tVar 2) (tCons (tVar 4) (tCons (tVar 5) tNil)))) (tC V.non))
                  (gName 6))
                (tSeq
                  (tIfS
                    (tOr
                      (tNot
                        (tB
                          (tCall sp__law_alike [] E0
                            (tCons (tCall sp_is_affine [] E0 (tCons (tVar 2) (tCons (tVar 5) tNil)))
                              (tCons (tVar 6) tNil)))))
                      (tTest
                        (tOp rIsNotB
                          (tCall sp_is_affine [] E0
                            (tCons (tVar 2) (tCons (tTup (tCons (tVar 3) (tCons (tTup tNil) tNil))) tNil)))
                          (tC (V.bl true)))))
                    (tRet (tC (V.bl false))) tNext)
                  (tSeq
                    (tIfS
                      (tOr
                        (tNot
                          (tB
                            (tCall sp__law_refused [] E0
                              (tCons (tVar 2) (tCons (tTup (tCons (tVar 3) (tCons (tTup tNil) tNil))) tNil)))))
                        (tNot (tB (tVar 6))))
                      (tRet
                        (tAndV (tNotV (tVar 6))
                          (tAndV (tCall sp__law_refused [] E0 (tCons (tVar 2) (tCons (tVar 5) tNil)))
                            (tCall sp__law_refused [] E0
                              (tCons (tVar 2) (tCons (tTup (tCons (tVar 3) (tCons (tTup tNil) tNil))) tNil))))))
                      tNext)
                    (tTail K C))))
section
variable {K : PySem.W.Frag} {C : Addr} {H : Hp} {D : Ends} {n ar : Nat} {o r t : Addr} {ps : List (Addr × List Int)} {v0 v1 : V} {σ : L2.St}
/-- size, the empty relation -/
theorem ar_empty (h2 : σ[2]? = some (some (.int (n : Int)))) (h3 : σ[3]? = some (some (.int (ar : Int)))) :
    EvAR (tCons (tVar 2) (tCons (tTup (tCons (tVar 3) (tCons (tTup tNil) tNil))) tNil)) σ H (fun vs H2 => ∃ r0 t0, vs = [.int (n : Int), .ref r0] ∧ RelAt H2 r0 t0 ar []) := fun H1 e1 Q q =>
  ⟨_, h2, _, h3, by show 0 ≤ sizeLine; decide, fun t0 ht0 => ⟨by show 2 ≤ sizeLine; decide, fun r0 hr0 => q _ _ ((Ex.new ht0).trans (Ex.new hr0)) ⟨r0, t0, rfl, upd_same, Ex.new hr0 _ _ upd_same, fun _ z => nomatch z⟩⟩⟩
theorem mid_ok (ho : OpAt H n o) (hrel : RelAt H r t ar ps) (hv : Val n ar (rowsOf ps)) (h9 : ps.length ≤ 9) (hne : rowsOf ps ≠ []) (h8 : ps.length ≤ 8 ∨ ar < 3) (q : ∀ H', D.rt (.bl true) H') :
    tMid K C D [some v0, some v1, some (.int (n : Int)), some (.int (ar : Int)), some (.ref o), some (.ref r), none, none, none, none, none, none, none, none, none] H := by
  have hok : aff n (rowsOf ps) = true → okAll n ar (rowsOf ps) = true := fun ha => ok_all hv.hn hv.h1 hv.h4 hv.mem hv.asc ha hne (by rw [List.length_map]; exact h8)
  have hv0 : Val n ar (rowsOf []) := ⟨hv.hn, hv.h1, hv.h4, (fun _ z => nomatch z), List.Pairwise.nil⟩
  have ie : (rowsOf ps).isEmpty = false := by
    cases hx : rowsOf ps with
    | nil => exact absurd hx hne
    | cons _ _ => rfl
  refine q_asgR (R := fun v _ => v = .bl (aff n (rowsOf ps))) (fun H1 e1 Q q => ⟨_, rfl, _, rfl, _, rfl, n, ar, o, r, t, ps, rfl, ho.ex e1, hrel.ex e1, hv, h9, ⟨fun hA H2 e2 => ⟨rfl, q _ H2 e2 (by rw [hA]; rfl)⟩, fun hA p H2 e2 => ⟨rfl, q _ H2 e2 (by rw [hA]; rfl)⟩⟩⟩) fun v H1 e1 rv => ?_
  subst rv
  generalize hA : aff n (rowsOf ps) = A at *
  have emp : ∀ {σ : L2.St} {G : Hp}, σ[2]? = some (some (.int (n : Int))) → σ[3]? = some (some (.int (ar : Int))) → Ev (tCall sp__law_refused [] E0 (tCons (tVar 2) (tCons (tTup (tCons (tVar 3) (tCons (tTup tNil) tNil))) tNil))) σ G (.bl true) := fun {σ G} h2 h3 =>
    EvR.v (er_callR (ar_empty h2 h3) fun vs G1 e1 ⟨r0, t0, ev, rel⟩ => by
      subst ev
      exact fun G2 e2 Q q E => ⟨n, ar, r0, t0, [], rfl, rel.ex e2, hv0, by decide, (fun z _ => absurd rfl z), fun G3 e3 => q _ G3 e3 rfl⟩)
  refine q_when (b := false) (et_or (a := false) (b := false) (et_not (a := true) (et_B (ev_is (ev_call (vs := [.bl A, .bl A]) (ea_cons (ev_call (vs := [.int (n : Int), .ref r]) (ea_cons (ev_var rfl) (ea_cons (ev_var rfl) ea_nil)) fun H2 e2 Q q E => ⟨n, ar, r, t, ps, rfl, hrel.ex (e1.trans e2), hv, h9, by rw [hA]; exact q⟩) (ea_cons (ev_var rfl) ea_nil)) fun H2 e2 Q q E => ⟨A, A, rfl, q⟩) (by rw [beq_self_eq_true])))) fun _ =>
    et_test (ev_is (ev_op (x := .bl true) (y := .bl true) (EvR.v (er_callR (ar_empty rfl rfl) fun vs G1 e1 ⟨r0, t0, ev, rel⟩ => by
      subst ev
      exact fun G2 e2 Q q E => ⟨n, ar, r0, t0, [], rfl, rel.ex e2, hv0, by decide, fun G3 e3 => q _ G3 e3 rfl⟩)) ev_c fun G1 e1 Q q => ⟨true, true, rfl, rfl, q G1 (Ex.refl _)⟩) rfl)) (fun z => nomatch z) fun _ H2 e2 => ?_
  have E2 := e1.trans e2
  refine q_when (b := !A) (et_or (a := false) (b := !A) (et_not (a := true) (et_B (emp rfl rfl))) fun _ => et_not (et_B (ev_var rfl))) (fun hb H3 e3 => ?_) fun hb H3 e3 => ?_
  · have hA0 : A = false := by
      cases A with
      | true => cases hb
      | false => rfl
    subst hA0
    refine s_ret (v := .bl true) (ev_andV (a := true) (b := true) (ev_notV (a := false) (ev_var rfl)) fun _ => ev_andV (a := true) (b := true) (ev_call (vs := [.int (n : Int), .ref r]) (ea_cons (ev_var rfl) (ea_cons (ev_var rfl) ea_nil)) fun H4 e4 Q q E => ⟨n, ar, r, t, ps, rfl, hrel.ex ((E2.trans e3).trans e4), hv, h9, (fun _ z => absurd z (by rw [hA]; decide)), by rw [ie, hA]; exact q⟩) fun _ => emp rfl rfl) fun H4 _ => q H4
  · have hA1 : A = true := by
      cases A with
      | true => rfl
      | false => cases hb
    subst hA1
    exact tail_ok (hrel.ex (E2.trans e3)) hv h9 hne hA (hok rfl) q
end
end G651
/-! What the law draws, ahead of what it asks. -/
namespace G651
open PySem PySem.Spec PyProof.Rows L2 Evl
open StX (tStar pa_star)
def tD3 (K : PySem.W.Frag) (C : Addr) : TS :=
            (tSeq
              (tIfS
                (tAnd
                  (tTest
                    (tOp rEq (tCall (sp__law_taken K) [] E0 (tCons (tVar 1) (tCons (tC (V.int 8)) tNil)))
                      (tC (V.int 0))))
                  (tTest (tOp (rI0 fun i j => V.bl (decide (i < j))) (tVar 3) (tC (V.int 3)))))
                (tAsg
                  (tTup
                    (tCons (tVar 3)
                      (tCons
                        (tCB (rTupS K) (tCons (tCall sp__law_rows [] E0 (tCons (tVar 2) (tCons (tVar 3) tNil))) tNil))
                        tNil)))
                  (gName 5))
                tNext) (tMid K C))
def tD2 (K : PySem.W.Frag) (C : Addr) : TS :=
          (tSeq
            (tIfS
              (tTest
                (tOp (rI0 fun i j => V.bl (decide (j < i)))
                  (tCall (sp__law_taken K) [] E0 (tCons (tVar 1) (tCons (tC (V.int 3)) tNil))) (tC (V.int 0))))
              (tAsg
                (tCall (sp__law_kept K) [] E0 (tCons (tVar 1) (tCons (tVar 2) (tCons (tVar 4) (tCons (tVar 3) tNil)))))
                (gName 5))
              tNext) (tD3 K C))
def tD1 (K : PySem.W.Frag) (C : Addr) : TS :=
      (tSeq (tAsg (tOp (rIxL K) (tCall sp__law_named [] E0 (tCons (tVar 2) tNil)) (tC (V.int 3))) (gName 4))
        (tSeq
          (tAsg
            (tTup
              (tCons (tVar 3)
                (tCons
                  (tCall (sp__law_some_rows K) [] E0
                    (tCons (tVar 1) (tCons (tVar 2) (tCons (tVar 3) (tCons (tC (V.int 4)) tNil)))))
                  tNil)))
            (gName 5)) (tD2 K C)))
theorem tups_prd {H : Hp} {as : List Addr} {ts : List (List Int)} (h : Tups H as (ts.map (List.map V.int))) : Paired (fun a (t : List Int) => H a = some (.tup (t.map V.int))) as ts := by
  induction ts generalizing as with
  | nil => cases h; exact .nil
  | cons t ts ih =>
    cases h with
    | cons r h => exact .cons r (ih h)
theorem RelAt.b {H H' : Hp} {r t a l : Addr} {ar : Nat} {ps : List (Addr × List Int)} (h : RelAt H r t ar ps) (hR : RowS H a l) (x : ExB a H H') : RelAt H' r t ar ps :=
  ⟨x _ _ (hR.ne h.1) h.1, x _ _ (hR.ne h.2.1) h.2.1, fun p hp => x _ _ (hR.ne (h.2.2 p hp)) (h.2.2 p hp)⟩
section
variable {K : PySem.W.Frag} {C : Addr} {H : Hp} {D : Ends} {n ar : Nat} {o r t a l : Addr} {ps : List (Addr × List Int)}
theorem d3_ok (hR : RowS H a l) (hS : Scr K H a l) (ho : OpAt H n o) (hrel : RelAt H r t ar ps) (hv : Val n ar (rowsOf ps)) (hne : rowsOf ps ≠ []) (h8 : ps.length ≤ 8) (q : ∀ H', D.rt (.bl true) H') :
    tD3 K C D [some (.ref l), some (.ref a), some (.int (n : Int)), some (.int (ar : Int)), some (.ref o), some (.ref r), none, none, none, none, none, none, none, none, none] H := by
  have n3 : n ≤ 3 := by have := hv.hn; omega
  refine ⟨_, rfl, a, l, 8, rfl, by decide, by decide, hR, hS, fun v H2 v0 v1 hR2 x2 => ⟨rfl, _, rfl, ?_⟩⟩
  have o2 := ho.b hR x2
  have r2 := hrel.b hR x2
  cases decide (V.int v = V.int 0) with
  | false =>
    refine iteF ?_
    refine iteF ?_
    exact mid_ok o2 r2 hv (by omega) hne (.inl h8) q
  | true =>
    refine iteT ?_
    refine ⟨_, rfl, (ar : Int), 3, rfl, rfl, _, rfl, ?_⟩
    cases hb : decide ((ar : Int) < 3) with
    | false =>
      refine iteF ?_
      exact mid_ok o2 r2 hv (by omega) hne (.inl h8) q
    | true =>
      refine iteT ?_
      have hlt : ar < 3 := by
        have := of_decide_eq_true hb
        omega
      refine ⟨_, rfl, _, rfl, _, rfl, n, ar, rfl, n3, hv.h4, fun L as H3 hL e3 d3 t3 => ⟨L, as.map V.ref, rfl, .inl ⟨sq_of d3, fun T hT => ⟨by show 2 ≤ sizeLine; decide, fun r' hr' => ?_⟩⟩⟩⟩
      rw [rows_V] at t3
      obtain ⟨es, ea, er, he⟩ := prd_zip (fun t : List Int => t) (tups_prd t3)
      rw [List.map_id'] at er
      have E5 : Ex H3 (upd (upd H3 T (.tup (as.map V.ref))) r' (.tup [.int (ar : Int), .ref T])) := (Ex.new hT).trans (Ex.new hr')
      have dT : (upd (upd H3 T (.tup (as.map V.ref))) r' (.tup [.int (ar : Int), .ref T])) T = some (.tup (as.map V.ref)) := Ex.new hr' _ _ upd_same
      have dr : (upd (upd H3 T (.tup (as.map V.ref))) r' (.tup [.int (ar : Int), .ref T])) r' = some (.tup [.int (ar : Int), .ref T]) := upd_same
      have lr : (rows n ar).length ≤ 9 ∧ 1 ≤ (rows n ar).length := by
        have h1 := hv.h1
        have hn := hv.hn
        obtain rfl | rfl : ar = 1 ∨ ar = 2 := by omega
        · rcases hn with rfl | rfl <;> decide
        · rcases hn with rfl | rfl <;> decide
      have les : es.length = (rows n ar).length := by rw [er, List.length_map]
      have nn : rowsOf es ≠ [] := fun z => by
        have e := congrArg List.length z
        rw [List.length_map, les] at e
        have : (rows n ar).length = 0 := e
        omega
      refine mid_ok (ps := es) (r := r') (t := T) ((o2.ex e3).ex E5) ⟨dr, ?_, fun p hp => ?_⟩ ⟨hv.hn, hv.h1, hv.h4, fun x hx => ?_, ?_⟩ (by omega) nn (.inr hlt) q
      · rw [dT, ea]
        unfold refs
        rw [List.map_map]
        rfl
      · obtain ⟨z, _, e2, hz⟩ := he p hp
        rw [e2]
        exact E5 _ _ hz
      · rw [er]
        exact hx
      · show Asc (rowsOf es)
        unfold rowsOf
        rw [← er]
        exact asc_rows hv.hn hv.h1 hv.h4
theorem d2_ok (hR : RowS H a l) (hS : Scr K H a l) (ho : OpAt H n o) (hrel : RelAt H r t ar ps) (hv : Val n ar (rowsOf ps)) (hne : rowsOf ps ≠ []) (h8 : ps.length ≤ 8) (q : ∀ H', D.rt (.bl true) H') :
    tD2 K C D [some (.ref l), some (.ref a), some (.int (n : Int)), some (.int (ar : Int)), some (.ref o), some (.ref r), none, none, none, none, none, none, none, none, none] H := by
  refine ⟨_, rfl, a, l, 3, rfl, by decide, by decide, hR, hS, fun v H2 v0 v1 hR2 x2 => ⟨_, _, rfl, rfl, _, rfl, ?_⟩⟩
  have o2 := ho.b hR x2
  have r2 := hrel.b hR x2
  have s2 := hS.b x2
  cases decide ((0 : Int) < v) with
  | false =>
    refine iteF ?_
    exact d3_ok hR2 s2 o2 r2 hv hne h8 q
  | true =>
    refine iteT ?_
    refine ⟨_, rfl, _, rfl, _, rfl, _, rfl, n, ar, a, l, o, rfl, hv.hn, hv.h1, hv.h4, o2, hR2, s2, fun r' t' qs H3 x3 hR3 rel3 hv3 hne3 l8 => ?_⟩
    exact d3_ok hR3 (s2.b x3) (o2.b hR2 x3) rel3 hv3 hne3 l8 q
theorem d1_ok (hn : n = 2 ∨ n = 3) (h1 : 1 ≤ ar) (h4 : ar ≤ 4) (hR : RowS H a l) (hS : Scr K H a l) (q : ∀ H', D.rt (.bl true) H') :
    tD1 K C D [some (.ref l), some (.ref a), some (.int (n : Int)), some (.int (ar : Int)), none, none, none, none, none, none, none, none, none, none, none] H := by
  refine q_asgR (R := fun v H2 => ∃ o, v = .ref o ∧ OpAt H2 n o) (fun H1 e1 Q q => ⟨_, rfl, n, rfl, hn, fun DD xs o H2 hD e2 d2 g3 ho => ⟨DD, xs, 3, .ref o, rfl, rfl, sq_of d2, at_of (j := 3) rfl g3, q _ H2 e2 ⟨o, rfl, ho⟩⟩⟩) fun v H1 e1 ⟨o, ev, ho⟩ => ?_
  subst ev
  have R1 := hR.ex e1
  have S1 := hS.b (exB_of e1)
  refine ⟨_, rfl, _, rfl, _, rfl, _, rfl, n, ar, 4, a, l, rfl, hn, h1, h4, by decide, by decide, R1, S1, fun t ps H2 ht xB hR2 d2 r2 hv hne hl => ⟨by show 2 ≤ sizeLine; decide, fun r hr => ?_⟩⟩
  have E3 : Ex H2 (upd H2 r (.tup [.int (ar : Int), .ref t])) := Ex.new hr
  exact d2_ok (hR2.ex E3) ((S1.b xB).b (exB_of E3)) ((ho.b R1 xB).ex E3) ⟨upd_same, E3 _ _ d2, r2.ex E3⟩ hv hne (by omega) q
end
end G651
/-! The law. -/
namespace G651
open PySem PySem.Spec PyProof.Rows L2 Evl
open StX (tStar pa_star)
section
variable {X : Cx} {C : Addr} {j : Nat} {e : Expr} {es : List Expr} {t : TA} {p pos : Pos}
/-- equations, where it raises nothing -/
theorem pe_calE (c : CalE X.prog X.w X.K X.mg X.base C) (hr : Room j X.A) (hk : 6 ≤ j) (ha : PA X (e :: es) t) (hg : Gl X "equations" := by rfl)
    (he : starEach (e :: es) X.env = (false, eval e X.env) :: starEach es X.env := by rfl) (hpl : (backTo pos (starEach es X.env)).any (·.1) = false := by rfl) :
    PE X (.Call (.Name "equations" p) (e :: es) [] pos) (tCall (sp_equations C) [] E0 t) := by
  obtain ⟨f, fd, F, hm, kp, b⟩ := c.ex
  exact pe_call F (hr.mono hk) hg hm kp b .nil (fun _ _ _ _ _ _ _ h => by
    obtain ⟨_, _, _, _, _, _, _, _, _, _, _, _, z⟩ := h
    exact z.elim) ha (by decide) he hpl
end
section
variable {P : Program} {w : World} {K : PySem.W.Frag} {mg : Str → Option Value} {base : Heap} {f : Addr} {fd : FuncData} {C : Addr}
abbrev s_law : Stmt := topS 43
theorem sc_law : FnScope ["_law_script", "_law_row", "_law_size", "_law_arity", "_law_minus", "_law_relation", "_law_due", "_law_found", "_law_heads", "_law_told", "_law_some", "_law_at", "_law_rows_here", "_law_value_here", "_law_values"] ["_law_script"] (defScope s_law) := ⟨rfl, rfl, rfl, by decide +kernel, rfl, by decide +kernel, by decide +kernel⟩
def spLaw (K : PySem.W.Frag) : Sp := fun vs H Q _ => ∃ (l : Addr) (ns : List Int), vs = [.ref l] ∧ SqL K H l (ns.map V.int) ∧ ∀ H', Q (.bl true) H'
/-- what law calls -/
structure Cals (P : Program) (w : World) (K : PySem.W.Frag) (mg : Str → Option Value) (base : Heap) (C : Addr) : Prop where
  taken : Cal P w K mg base 1 "_law_taken" ["_law_row", "_law_many"] (sp__law_taken K)
  named : Cal P w K mg base 2 "_law_named" ["_law_size"] sp__law_named
  some_rows : Cal P w K mg base 3 "_law_some_rows" ["_law_row", "_law_size", "_law_arity", "_law_most"] (sp__law_some_rows K)
  kept : Cal P w K mg base 4 "_law_kept" ["_law_row", "_law_size", "_law_operation", "_law_arity"] (sp__law_kept K)
  rows : Cal P w K mg base 1 "_law_rows" ["_law_size", "_law_arity"] sp__law_rows
  breaks : Cal P w K mg base 3 "_law_breaks" ["_law_size", "_law_operation", "_law_relation"] sp__law_breaks
  alike : Cal P w K mg base 1 "_law_alike" ["_law_found", "_law_due"] sp__law_alike
  affine : Cal P w K mg base 6 "is_affine" ["size", "relation"] sp_is_affine
  refused : Cal P w K mg base 7 "_law_refused" ["_law_size", "_law_relation"] sp__law_refused
  whole : Cal P w K mg base 1 "_law_whole" ["_law_value_here", "_law_least", "_law_most"] sp__law_whole
  sums : Cal P w K mg base 1 "_law_sums" ["_law_size", "_law_told", "_law_values"] sp__law_sums
  eqs : CalE P w K mg base C
theorem ok_law (B : Bl mg) (S : Cals P w K mg base C) (F : Fun K "law" "law" s_law f fd) : FnOk P w K mg base CX0 8 f fd ["_law_script"] (spLaw K) := by
  obtain ⟨C__law_taken, C__law_named, C__law_some_rows, C__law_kept, C__law_rows, C__law_breaks, C__law_alike, C_is_affine, C__law_refused, C__law_whole, C__law_sums, CE⟩ := S
  refine F.ok sc_law (fun vs H Q E h => ?_) (fun cdv A outer s H vs Q E hr h => ?_)
  · obtain ⟨l, ns, rfl, _⟩ := h
    rfl
  · obtain ⟨l, ns, rfl, hS, q⟩ := h
    refine ⟨_, (pss_cons (ps_set (i := 1) sc_law.nd rfl (Or.inl rfl) (pe_lst (pa_cons (pv 0) (pa_cons pe_int (pa_cons pe_int (pa_cons pe_int pa_nil))))))
      (pss_cons (ps_asg (pe_tup (pa_cons (pe_op op_add pe_int (pe_cal C__law_taken hr (by decide) (pa_cons (pv 1) (pa_cons pe_int pa_nil)))) (pa_cons (pe_op op_add pe_int (pe_cal C__law_taken hr (by decide) (pa_cons (pv 1) (pa_cons pe_int pa_nil)))) pa_nil))) (show PG _ _ (gTup K 2 _) from pg_tup rfl (pgs_cons (pg_name (i := 2) sc_law.nd rfl (Or.inr rfl)) (pgs_cons (pg_name (i := 3) sc_law.nd rfl (Or.inl rfl)) pgs_nil))))
      (pss_cons (ps_set (i := 4) sc_law.nd rfl (Or.inl rfl) (pe_ix (r := rIxL K) ix_list (pe_cal C__law_named hr (by decide) (pa_cons (pv 2) pa_nil)) pe_int (fun _ _ => rfl)))
      (pss_cons (ps_set (i := 5) sc_law.nd rfl (Or.inl rfl) (pe_tup (pa_cons (pv 3) (pa_cons (pe_cal C__law_some_rows hr (by decide) (pa_cons (pv 1) (pa_cons (pv 2) (pa_cons (pv 3) (pa_cons pe_int pa_nil))))) pa_nil))))
      (pss_cons (ps_if (pt_cmpR op_gt (pe_cal C__law_taken hr (by decide) (pa_cons (pv 1) (pa_cons pe_int pa_nil))) pe_int (nomark _)) (pss_one (ps_set (i := 5) sc_law.nd rfl (Or.inl rfl) (pe_cal C__law_kept hr (by decide) (pa_cons (pv 1) (pa_cons (pv 2) (pa_cons (pv 4) (pa_cons (pv 3) pa_nil))))))) pss_nil)
      (pss_cons (ps_if (PW.pt (pw_and (pt_cmpR op_eq (pe_cal C__law_taken hr (by decide) (pa_cons (pv 1) (pa_cons pe_int pa_nil))) pe_int (nomark _)) (pw_and1 (pt_cmpR op_lt (pv 3) pe_int (nomark _))))) (pss_one (ps_set (i := 5) sc_law.nd rfl (Or.inl rfl) (pe_tup (pa_cons (pv 3) (pa_cons (pe_callTy (r := rTupS K) call_tuple_of (by rfl) B.tuple PyProof.Rows.boot_tuple (pa_cons (pe_cal C__law_rows hr (by decide) (pa_cons (pv 2) (pa_cons (pv 3) pa_nil))) pa_nil)) pa_nil))))) pss_nil)
      (pss_cons (ps_set (i := 6) sc_law.nd rfl (Or.inl rfl) (pe_cmpR op_isN (pe_cal C__law_breaks hr (by decide) (pa_cons (pv 2) (pa_cons (pv 4) (pa_cons (pv 5) pa_nil)))) pe_non (nomark _)))
      (pss_cons (ps_if (PW.pt (pw_or (pt_not (pt_val (pe_cal C__law_alike hr (by decide) (pa_cons (pe_cal C_is_affine hr (by decide) (pa_cons (pv 2) (pa_cons (pv 5) pa_nil))) (pa_cons (pv 6) pa_nil))))) (pw_or1 (pt_cmpR (r := rIsNotB) op_isnot_bl (pe_cal C_is_affine hr (by decide) (pa_cons (pv 2) (pa_cons (pe_tup (pa_cons (pv 3) (pa_cons (pe_tup pa_nil) pa_nil))) pa_nil))) pe_bl (nomark _))))) (pss_one (ps_ret pe_bl)) pss_nil)
      (pss_cons (ps_if (PW.pt (pw_or (pt_not (pt_val (pe_cal C__law_refused hr (by decide) (pa_cons (pv 2) (pa_cons (pe_tup (pa_cons (pv 3) (pa_cons (pe_tup pa_nil) pa_nil))) pa_nil))))) (pw_or1 (pt_not (pt_val (pv 6)))))) (pss_one (ps_ret (pe_and (pe_not (pv 6)) (pe_and (pe_cal C__law_refused hr (by decide) (pa_cons (pv 2) (pa_cons (pv 5) pa_nil))) (pe_one (pe_cal C__law_refused hr (by decide) (pa_cons (pv 2) (pa_cons (pe_tup (pa_cons (pv 3) (pa_cons (pe_tup pa_nil) pa_nil))) pa_nil)))))))) pss_nil)
      (pss_cons (ps_asg (pe_tup (pa_cons (pe_calE CE hr (by decide) (pa_cons (pv 2) (pa_cons (pv 5) pa_nil))) (pa_cons (pe_lst pa_nil) pa_nil))) (show PG _ _ (gTup K 2 _) from pg_tup rfl (pgs_cons (pg_name (i := 7) sc_law.nd rfl (Or.inr rfl)) (pgs_cons (pg_name (i := 8) sc_law.nd rfl (Or.inl rfl)) pgs_nil))))
      (pss_cons (ps_if (pt_not (pt_val (pe_callB (r := rIsi K) call_isi (by rfl) B.isi PyProof.Rows.boot_isinstance (pa_cons (pv 7) (pa_cons (pe_bltn (v := .ty "tuple") (by rfl) B.tuple PyProof.Rows.boot_tuple rfl) pa_nil))))) (pss_one (ps_ret pe_bl)) pss_nil)
      (pss_cons (ps_for PassesOwn.never rfl (show PI _ _ _ (iTup K _) from pi_tup (pv 7)) (pg_name (i := 9) sc_law.nd rfl (Or.inr rfl)) (pss_cons (ps_if (PW.pt (pw_or (pt_not (pt_val (pe_callB (r := rIsi K) call_isi (by rfl) B.isi PyProof.Rows.boot_isinstance (pa_cons (pv 9) (pa_cons (pe_bltn (v := .ty "tuple") (by rfl) B.tuple PyProof.Rows.boot_tuple rfl) pa_nil))))) (pw_or1 (pt_cmpR op_ne (pe_callB (r := rLenS2 K) call_len_seq (by rfl) B.len PySem.boot_len (pa_cons (pv 9) pa_nil)) (pe_op op_add (pv 3) pe_int) (nomark _))))) (pss_one (ps_ret pe_bl)) pss_nil)
      (pss_cons (ps_if (pt_cmpR (r := rNeD K) (op_neD hr.units) (pe_lc (own := [("_law_value_here", 13)]) (g := (gName 13)) (by rfl) sc_law.nd (show PI _ _ _ (iTup K _) from pi_tup (pv 9)) (blkOk_by (own := [("_law_value_here", 13)]) (N := ["_law_script", "_law_row", "_law_size", "_law_arity", "_law_minus", "_law_relation", "_law_due", "_law_found", "_law_heads", "_law_told", "_law_some", "_law_at", "_law_rows_here", "_law_value_here", "_law_values"]) (sc := defScope s_law) (by decide +kernel)) (fun _ _ _ _ _ => (pg_name (i := 13) sc_law.nd rfl (Or.inl rfl))) (fun _ _ _ _ _ => pts_one (pt_not (pt_val (pe_cal C__law_whole hr (by decide) (pa_cons (pv 13) (pa_cons pe_int (pa_cons (pe_op op_sub (pv 2) pe_int) pa_nil))))))) (fun _ _ _ _ _ => (pv 13))) (pe_lst pa_nil) (nomark _)) (pss_one (ps_ret pe_bl)) pss_nil)
      (pss_cons (ps_setLc (i := 10) (own := [("_law_at", 11)]) (g := (gName 11)) (by rfl) sc_law.nd rfl rfl (sw_true rfl rfl rfl (by decide +kernel)) (pi_range1 (by rfl) B.range (pa_cons (pv 3) pa_nil)) (blkOk_by (own := [("_law_at", 11)]) (N := ["_law_script", "_law_row", "_law_size", "_law_arity", "_law_minus", "_law_relation", "_law_due", "_law_found", "_law_heads", "_law_told", "_law_some", "_law_at", "_law_rows_here", "_law_value_here", "_law_values"]) (sc := defScope s_law) (by decide +kernel)) (fun _ _ _ _ _ => (pg_name (i := 11) sc_law.nd rfl (Or.inl rfl))) (fun _ _ _ _ _ => pts_one (pt_cmpR op_ne (pe_ix (r := rIxT K) ix_tup (pv 9) (pv 11) (fun _ _ => rfl)) pe_int (nomark _))) (fun _ _ _ _ _ => (pv 11)))
      (pss_cons (ps_if (PW.pt (pw_or (pt_cmpR (r := rEqD K) (op_eqD hr.units) (pv 10) (pe_lst pa_nil) (nomark _)) (pw_or (pt_cmpR op_ne (pe_ix (r := rIxT K) ix_tup (pv 9) (pe_ix (r := rIxL K) ix_list (pv 10) pe_int (fun _ _ => rfl)) (fun _ _ => rfl)) pe_int (nomark _)) (pw_or1 (PW.pt (pw_and (pt_cmpR (r := rNeD K) (op_neD hr.units) (pv 8) (pe_lst pa_nil) (nomark _)) (pw_and1 (pt_cmpR op_le (pe_ix (r := rIxL K) ix_list (pv 10) pe_int (fun _ _ => rfl)) (pe_ix (r := rIxL K) ix_list (pv 8) (pe_un un_neg pe_int) (fun _ _ => rfl)) (nomark _))))))))) (pss_one (ps_ret pe_bl)) pss_nil)
      (pss_one (ps_expr (pe_bm PySem.F.plainAttrs_list PySem.F.slot_list_append PySem.F.type_list_append mt_append (pv 8) (pa_cons (pe_ix (r := rIxL K) ix_list (pv 10) pe_int (fun _ _ => rfl)) pa_nil)))))))))
      (pss_cons (ps_for PassesOwn.never rfl (show PI _ _ _ (iList K _) from pi_list (pv 8)) (pg_name (i := 11) sc_law.nd rfl (Or.inr rfl)) (pss_one (ps_if (pt_cmpR op_ne (pe_callB (r := rLenS2 K) call_len_seq (by rfl) B.len PySem.boot_len (pa_cons (pe_lc (own := [("_law_told", 9)]) (g := (gName 9)) (by rfl) sc_law.nd (show PI _ _ _ (iTup K _) from pi_tup (pv 7)) (blkOk_by (own := [("_law_told", 9)]) (N := ["_law_script", "_law_row", "_law_size", "_law_arity", "_law_minus", "_law_relation", "_law_due", "_law_found", "_law_heads", "_law_told", "_law_some", "_law_at", "_law_rows_here", "_law_value_here", "_law_values"]) (sc := defScope s_law) (by decide +kernel)) (fun _ _ _ _ _ => (pg_name (i := 9) sc_law.nd rfl (Or.inl rfl))) (fun _ _ _ _ _ => pts_one (pt_cmpR op_ne (pe_ix (r := rIxT K) ix_tup (pv 9) (pv 11) (fun _ _ => rfl)) pe_int (nomark _))) (fun _ _ _ _ _ => (pv 9))) pa_nil)) pe_int (nomark _)) (pss_one (ps_ret pe_bl)) pss_nil)))
      (pss_cons (ps_setLc (i := 12) (own := [("_law_values", 14)]) (g := (gName 14)) (by rfl) sc_law.nd rfl rfl (sw_true rfl rfl rfl (by decide +kernel)) (show PI _ _ _ (iList K _) from pi_list (pe_cal C__law_rows hr (by decide) (pa_cons (pv 2) (pa_cons (pv 3) pa_nil)))) (blkOk_by (own := [("_law_values", 14)]) (N := ["_law_script", "_law_row", "_law_size", "_law_arity", "_law_minus", "_law_relation", "_law_due", "_law_found", "_law_heads", "_law_told", "_law_some", "_law_at", "_law_rows_here", "_law_value_here", "_law_values"]) (sc := defScope s_law) (by decide +kernel)) (fun _ _ _ _ _ => (pg_name (i := 14) sc_law.nd rfl (Or.inr rfl))) (fun _ _ _ _ _ => pts_one (pt_cmpR (r := rEqD K) (op_eqD hr.units) (pe_lc (own := [("_law_told", 9)]) (g := (gName 9)) (by rfl) sc_law.nd (show PI _ _ _ (iTup K _) from pi_tup (pv 7)) (blkOk_by (own := [("_law_told", 9)]) (N := ["_law_script", "_law_row", "_law_size", "_law_arity", "_law_minus", "_law_relation", "_law_due", "_law_found", "_law_heads", "_law_told", "_law_some", "_law_at", "_law_rows_here", "_law_value_here", "_law_values"]) (sc := relS _ (defScope s_law)) (by decide +kernel)) (fun _ _ _ _ _ => (pg_name (i := 9) sc_law.nd rfl (Or.inl rfl))) (fun _ _ _ _ _ => pts_one (pt_not (pt_val (pe_cal C__law_sums hr (by decide) (pa_cons (pv 2) (pa_cons (pv 9) (pa_cons (pv 14) pa_nil))))))) (fun _ _ _ _ _ => (pv 9))) (pe_lst pa_nil) (nomark _))) (fun _ _ _ _ _ => (pv 14)))
      (pss_one (ps_ret (pe_cmpR (r := rEqD K) (op_eqD hr.units) (pe_callTy (r := rTupS K) call_tuple_of (by rfl) B.tuple PyProof.Rows.boot_tuple (pa_cons (pv 12) pa_nil)) (pe_ix (r := rIxT K) ix_tup (pv 5) pe_int (fun _ _ => rfl)) (nomark _)))))))))))))))))), ?_⟩
    refine q_asgL (el_lst (vs := [.ref l, .int 0, .int 3237, .int 0]) (ea_cons (ev_var rfl) (ea_cons ev_c (ea_cons ev_c (ea_cons ev_c ea_nil)))) (show 4 ≤ 100000 by decide)) fun a H1 ha0 e1 a1 => ?_
    have R1 : RowS H1 a l := ⟨0, 3237, 0, a1, by decide, by decide, by decide, by decide⟩
    have S1 : Scr K H1 a l := ⟨H, ns, ha0, e1, hS⟩
    refine ⟨_, rfl, a, l, 2, rfl, by decide, by decide, R1, S1, fun v H2 v0 v1 hR2 x2 => ⟨2, v, rfl, rfl, _, rfl, a, l, 4, rfl, by decide, by decide, hR2, S1.b x2, fun u H3 u0 u1 hR3 x3 => ⟨1, u, rfl, rfl, by show 2 ≤ sizeLine; decide, fun p hp => ⟨p, [.int (2 + v), .int (1 + u)], rfl, st_of upd_same, rfl, _, _, rfl, _, _, rfl, rfl, ?_⟩⟩⟩⟩
    obtain ⟨n, en, hn⟩ : ∃ n : Nat, (2 + v) = (n : Int) ∧ (n = 2 ∨ n = 3) := ⟨(2 + v).toNat, by omega, by omega⟩
    obtain ⟨ar, ea, h1, h4⟩ : ∃ ar : Nat, (1 + u) = (ar : Int) ∧ 1 ≤ ar ∧ ar ≤ 4 := ⟨(1 + u).toNat, by omega, by omega, by omega⟩
    have E4 : Ex H3 (upd H3 p (.tup [.int (2 + v), .int (1 + u)])) := Ex.new hp
    have R4 := hR3.ex E4
    have S4 := ((S1.b x2).b x3).b (exB_of E4)
    have k := d1_ok (C := C) (D := { nx := fun x H' => Q V.non H', rt := Q }) hn h1 h4 R4 S4 q
    rw [← en, ← ea] at k
    exact k
end
end G651
/-! What the top has written, and the law. -/
namespace G651
open PySem PySem.Spec PyProof.Rows L2 Evl
/-- a def, as the written part holds it -/
structure DefIn (K : PySem.W.Frag) (x : Str) (st : Stmt) : Prop where
  ex : ∃ (f : Addr) (oc : Value) (od an : Option Addr) (sl : Array (Option Value)) (kV dc pm cd ct : Value), PySem.W.nsIn K mainGlobals x = some (some (.ref f)) ∧
    K.lookup f = some ⟨oc, od, .func (PySem.W.fnOf x x (defArgs st) (defBody st) (defScope st) .none kV dc pm an cd ct), sl⟩ ∧ PySem.W.codeIn K cd x = true ∧ PySem.W.keepIn K (.ref f) = true
theorem def_in {K : PySem.W.Frag} {x : Str} {st : Stmt} {f : Addr} {oc : Value} {od an : Option Addr} {sl : Array (Option Value)} {kV dc pm cd ct : Value} (a : PySem.W.nsIn K mainGlobals x = some (some (.ref f)))
    (l : K.lookup f = some ⟨oc, od, .func (PySem.W.fnOf x x (defArgs st) (defBody st) (defScope st) .none kV dc pm an cd ct), sl⟩) (c : PySem.W.codeIn K cd x = true) (k : PySem.W.keepIn K (.ref f) = true) : DefIn K x st :=
  ⟨f, oc, od, an, sl, kV, dc, pm, cd, ct, a, l, c, k⟩
/-- the class NotAffine, as the written part holds it -/
structure ExcW (K : PySem.W.Frag) (C : Addr) : Prop where
  x : PySem.W.excIn K C [.type "ValueError", .type "Exception", .type "BaseException", .type "object"] "ValueError.__new__" = true
  k : PySem.W.keepIn K (.ref C) = true
  b : PySem.W.subIn K (.ref C) (.type "BaseException") = some true
  t : PySem.W.typeIn K (.ref C) = some (.type "type")
  i : PySem.W.isClsIn K C = true
  s : PySem.W.subIn K (.ref C) (.ref C) = some true
theorem caught {K : PySem.W.Frag} {C : Addr} (h : ExcW K C) : PySem.W.exmOne K (.ref C) (.ref C) = some true := by
  have i := h.i
  unfold PySem.W.isClsIn at i
  unfold PySem.W.exmOne PySem.W.kitCls
  simp only [h.b, h.t, h.s, i]
  rfl
section
variable {P : Program} {w : World} {K : PySem.W.Frag} {h : Heap} {mg : Str → Option Value} {fa C : Addr} {tk : Tok}
theorem fin (X : K.In h) (G : h.Ns mainGlobals mg) (hfa : mg "law" = some (.ref fa)) (aC : PySem.W.nsIn K mainGlobals "NotAffine" = some (some (.ref C))) (eC : ExcW K C)
    (aM : PySem.W.nsIn K mainGlobals "MOST_ARITY" = some (some (.int 4 tk)))
    (z0 : PySem.W.nsIn K mainGlobals "isinstance" = some none)
    (z1 : PySem.W.nsIn K mainGlobals "int" = some none)
    (z2 : PySem.W.nsIn K mainGlobals "bool" = some none)
    (z3 : PySem.W.nsIn K mainGlobals "tuple" = some none)
    (z4 : PySem.W.nsIn K mainGlobals "list" = some none)
    (z5 : PySem.W.nsIn K mainGlobals "str" = some none)
    (z6 : PySem.W.nsIn K mainGlobals "len" = some none)
    (z7 : PySem.W.nsIn K mainGlobals "all" = some none)
    (z8 : PySem.W.nsIn K mainGlobals "range" = some none)
    (z9 : PySem.W.nsIn K mainGlobals "zip" = some none)
    (z10 : PySem.W.nsIn K mainGlobals "sum" = some none)
    (z11 : PySem.W.nsIn K mainGlobals "enumerate" = some none)
    (z12 : PySem.W.nsIn K mainGlobals "sorted" = some none)
    (z13 : PySem.W.nsIn K mainGlobals "min" = some none)
    (z14 : PySem.W.nsIn K mainGlobals "max" = some none)
    (d_is_int : DefIn K "is_int" s_is_int)
    (d_is_in : DefIn K "is_in" s_is_in)
    (d_is_row : DefIn K "is_row" s_is_row)
    (d_is_relation : DefIn K "is_relation" s_is_relation)
    (d_need_relation : DefIn K "need_relation" s_need_relation)
    (d_need_prime : DefIn K "need_prime" s_need_prime)
    (d_all_rows : DefIn K "all_rows" s_all_rows)
    (d_tuples_of : DefIn K "tuples_of" s_tuples_of)
    (d_place_of : DefIn K "place_of" s_place_of)
    (d_value_of : DefIn K "value_of" s_value_of)
    (d_image_of : DefIn K "image_of" s_image_of)
    (d_first_broken : DefIn K "first_broken" s_first_broken)
    (d_difference_of : DefIn K "difference_of" s_difference_of)
    (d_is_affine : DefIn K "is_affine" s_is_affine)
    (d_lowered : DefIn K "lowered" s_lowered)
    (d_reduced : DefIn K "reduced" s_reduced)
    (d_equations_in : DefIn K "equations_in" s_equations_in)
    (d_equations : DefIn K "equations" s_equations)
    (d__law_refused : DefIn K "_law_refused" s__law_refused)
    (d__law_whole : DefIn K "_law_whole" s__law_whole)
    (d__law_alike : DefIn K "_law_alike" s__law_alike)
    (d__law_value : DefIn K "_law_value" s__law_value)
    (d__law_carried : DefIn K "_law_carried" s__law_carried)
    (d__law_sums : DefIn K "_law_sums" s__law_sums)
    (d__law_rows : DefIn K "_law_rows" s__law_rows)
    (d__law_tuples : DefIn K "_law_tuples" s__law_tuples)
    (d__law_breaks : DefIn K "_law_breaks" s__law_breaks)
    (d__law_taken : DefIn K "_law_taken" s__law_taken)
    (d__law_pick : DefIn K "_law_pick" s__law_pick)
    (d__law_some_rows : DefIn K "_law_some_rows" s__law_some_rows)
    (d__law_closed : DefIn K "_law_closed" s__law_closed)
    (d__law_kept : DefIn K "_law_kept" s__law_kept)
    (d__law_named : DefIn K "_law_named" s__law_named)
    (d_law : DefIn K "law" s_law) :
    ∃ fd : FuncData, (∀ (s : Shared) (v : Value), BindsTo s fd ⟨[v], []⟩ [("_law_script", v)]) ∧ ∀ base : Heap, K.In base → base.Ns mainGlobals mg → FnOk P w K mg base CX0 8 fa fd ["_law_script"] (spLaw K) := by
  have B : Bl mg := ⟨PySem.W.mg_none_of X G z0, PySem.W.mg_none_of X G z1, PySem.W.mg_none_of X G z2, PySem.W.mg_none_of X G z3, PySem.W.mg_none_of X G z4, PySem.W.mg_none_of X G z5, PySem.W.mg_none_of X G z6, PySem.W.mg_none_of X G z7, PySem.W.mg_none_of X G z8, PySem.W.mg_none_of X G z9, PySem.W.mg_none_of X G z10, PySem.W.mg_none_of X G z11, PySem.W.mg_none_of X G z12, PySem.W.mg_none_of X G z13, PySem.W.mg_none_of X G z14⟩
  have T : NA K mg C := ⟨eC.x, PySem.W.mg_of X G aC, eC.k, eC.b, eC.t, caught eC⟩
  have mA := PySem.W.mg_of X G aM
  obtain ⟨f_is_int, oc, od, an, sl, kV, dc, pm, cd, ct, a_is_int, l, c, k_is_int⟩ := d_is_int
  have F_is_int := fun_mk (st := s_is_int) l c k_is_int
  have b_is_int := F_is_int.binds (ps := ["value"]) fun _ _ _ _ _ _ us hl => match us, hl with | [_], _ => rfl
  have A_is_int : At K mg "is_int" s_is_int ["value"] := ⟨_, _, F_is_int, PySem.W.mg_of X G a_is_int, b_is_int⟩
  obtain ⟨f_is_in, oc, od, an, sl, kV, dc, pm, cd, ct, a_is_in, l, c, k_is_in⟩ := d_is_in
  have F_is_in := fun_mk (st := s_is_in) l c k_is_in
  have b_is_in := F_is_in.binds (ps := ["value", "least", "most"]) fun _ _ _ _ _ _ us hl => match us, hl with | [_, _, _], _ => rfl
  have A_is_in : At K mg "is_in" s_is_in ["value", "least", "most"] := ⟨_, _, F_is_in, PySem.W.mg_of X G a_is_in, b_is_in⟩
  obtain ⟨f_is_row, oc, od, an, sl, kV, dc, pm, cd, ct, a_is_row, l, c, k_is_row⟩ := d_is_row
  have F_is_row := fun_mk (st := s_is_row) l c k_is_row
  have b_is_row := F_is_row.binds (ps := ["size", "arity", "value"]) fun _ _ _ _ _ _ us hl => match us, hl with | [_, _, _], _ => rfl
  have A_is_row : At K mg "is_row" s_is_row ["size", "arity", "value"] := ⟨_, _, F_is_row, PySem.W.mg_of X G a_is_row, b_is_row⟩
  obtain ⟨f_is_relation, oc, od, an, sl, kV, dc, pm, cd, ct, a_is_relation, l, c, k_is_relation⟩ := d_is_relation
  have F_is_relation := fun_mk (st := s_is_relation) l c k_is_relation
  have b_is_relation := F_is_relation.binds (ps := ["size", "value"]) fun _ _ _ _ _ _ us hl => match us, hl with | [_, _], _ => rfl
  have A_is_relation : At K mg "is_relation" s_is_relation ["size", "value"] := ⟨_, _, F_is_relation, PySem.W.mg_of X G a_is_relation, b_is_relation⟩
  obtain ⟨f_need_relation, oc, od, an, sl, kV, dc, pm, cd, ct, a_need_relation, l, c, k_need_relation⟩ := d_need_relation
  have F_need_relation := fun_mk (st := s_need_relation) l c k_need_relation
  have b_need_relation := F_need_relation.binds (ps := ["size", "value"]) fun _ _ _ _ _ _ us hl => match us, hl with | [_, _], _ => rfl
  have A_need_relation : At K mg "need_relation" s_need_relation ["size", "value"] := ⟨_, _, F_need_relation, PySem.W.mg_of X G a_need_relation, b_need_relation⟩
  obtain ⟨f_need_prime, oc, od, an, sl, kV, dc, pm, cd, ct, a_need_prime, l, c, k_need_prime⟩ := d_need_prime
  have F_need_prime := fun_mk (st := s_need_prime) l c k_need_prime
  have b_need_prime := F_need_prime.binds (ps := ["size"]) fun _ _ _ _ _ _ us hl => match us, hl with | [_], _ => rfl
  have A_need_prime : At K mg "need_prime" s_need_prime ["size"] := ⟨_, _, F_need_prime, PySem.W.mg_of X G a_need_prime, b_need_prime⟩
  obtain ⟨f_all_rows, oc, od, an, sl, kV, dc, pm, cd, ct, a_all_rows, l, c, k_all_rows⟩ := d_all_rows
  have F_all_rows := fun_mk (st := s_all_rows) l c k_all_rows
  have b_all_rows := F_all_rows.binds (ps := ["size", "arity"]) fun _ _ _ _ _ _ us hl => match us, hl with | [_, _], _ => rfl
  have A_all_rows : At K mg "all_rows" s_all_rows ["size", "arity"] := ⟨_, _, F_all_rows, PySem.W.mg_of X G a_all_rows, b_all_rows⟩
  obtain ⟨f_tuples_of, oc, od, an, sl, kV, dc, pm, cd, ct, a_tuples_of, l, c, k_tuples_of⟩ := d_tuples_of
  have F_tuples_of := fun_mk (st := s_tuples_of) l c k_tuples_of
  have b_tuples_of := F_tuples_of.binds (ps := ["things", "many"]) fun _ _ _ _ _ _ us hl => match us, hl with | [_, _], _ => rfl
  have A_tuples_of : At K mg "tuples_of" s_tuples_of ["things", "many"] := ⟨_, _, F_tuples_of, PySem.W.mg_of X G a_tuples_of, b_tuples_of⟩
  obtain ⟨f_place_of, oc, od, an, sl, kV, dc, pm, cd, ct, a_place_of, l, c, k_place_of⟩ := d_place_of
  have F_place_of := fun_mk (st := s_place_of) l c k_place_of
  have b_place_of := F_place_of.binds (ps := ["size", "arguments"]) fun _ _ _ _ _ _ us hl => match us, hl with | [_, _], _ => rfl
  have A_place_of : At K mg "place_of" s_place_of ["size", "arguments"] := ⟨_, _, F_place_of, PySem.W.mg_of X G a_place_of, b_place_of⟩
  obtain ⟨f_value_of, oc, od, an, sl, kV, dc, pm, cd, ct, a_value_of, l, c, k_value_of⟩ := d_value_of
  have F_value_of := fun_mk (st := s_value_of) l c k_value_of
  have b_value_of := F_value_of.binds (ps := ["size", "operation", "arguments"]) fun _ _ _ _ _ _ us hl => match us, hl with | [_, _, _], _ => rfl
  have A_value_of : At K mg "value_of" s_value_of ["size", "operation", "arguments"] := ⟨_, _, F_value_of, PySem.W.mg_of X G a_value_of, b_value_of⟩
  obtain ⟨f_image_of, oc, od, an, sl, kV, dc, pm, cd, ct, a_image_of, l, c, k_image_of⟩ := d_image_of
  have F_image_of := fun_mk (st := s_image_of) l c k_image_of
  have b_image_of := F_image_of.binds (ps := ["size", "operation", "rows"]) fun _ _ _ _ _ _ us hl => match us, hl with | [_, _, _], _ => rfl
  have A_image_of : At K mg "image_of" s_image_of ["size", "operation", "rows"] := ⟨_, _, F_image_of, PySem.W.mg_of X G a_image_of, b_image_of⟩
  obtain ⟨f_first_broken, oc, od, an, sl, kV, dc, pm, cd, ct, a_first_broken, l, c, k_first_broken⟩ := d_first_broken
  have F_first_broken := fun_mk (st := s_first_broken) l c k_first_broken
  have b_first_broken := F_first_broken.binds (ps := ["size", "operation", "relation"]) fun _ _ _ _ _ _ us hl => match us, hl with | [_, _, _], _ => rfl
  have A_first_broken : At K mg "first_broken" s_first_broken ["size", "operation", "relation"] := ⟨_, _, F_first_broken, PySem.W.mg_of X G a_first_broken, b_first_broken⟩
  obtain ⟨f_difference_of, oc, od, an, sl, kV, dc, pm, cd, ct, a_difference_of, l, c, k_difference_of⟩ := d_difference_of
  have F_difference_of := fun_mk (st := s_difference_of) l c k_difference_of
  have b_difference_of := F_difference_of.binds (ps := ["size"]) fun _ _ _ _ _ _ us hl => match us, hl with | [_], _ => rfl
  have A_difference_of : At K mg "difference_of" s_difference_of ["size"] := ⟨_, _, F_difference_of, PySem.W.mg_of X G a_difference_of, b_difference_of⟩
  obtain ⟨f_is_affine, oc, od, an, sl, kV, dc, pm, cd, ct, a_is_affine, l, c, k_is_affine⟩ := d_is_affine
  have F_is_affine := fun_mk (st := s_is_affine) l c k_is_affine
  have b_is_affine := F_is_affine.binds (ps := ["size", "relation"]) fun _ _ _ _ _ _ us hl => match us, hl with | [_, _], _ => rfl
  have A_is_affine : At K mg "is_affine" s_is_affine ["size", "relation"] := ⟨_, _, F_is_affine, PySem.W.mg_of X G a_is_affine, b_is_affine⟩
  obtain ⟨f_lowered, oc, od, an, sl, kV, dc, pm, cd, ct, a_lowered, l, c, k_lowered⟩ := d_lowered
  have F_lowered := fun_mk (st := s_lowered) l c k_lowered
  have b_lowered := F_lowered.binds (ps := ["size", "row", "head", "column"]) fun _ _ _ _ _ _ us hl => match us, hl with | [_, _, _, _], _ => rfl
  have A_lowered : At K mg "lowered" s_lowered ["size", "row", "head", "column"] := ⟨_, _, F_lowered, PySem.W.mg_of X G a_lowered, b_lowered⟩
  obtain ⟨f_reduced, oc, od, an, sl, kV, dc, pm, cd, ct, a_reduced, l, c, k_reduced⟩ := d_reduced
  have F_reduced := fun_mk (st := s_reduced) l c k_reduced
  have b_reduced := F_reduced.binds (ps := ["size", "rows"]) fun _ _ _ _ _ _ us hl => match us, hl with | [_, _], _ => rfl
  have A_reduced : At K mg "reduced" s_reduced ["size", "rows"] := ⟨_, _, F_reduced, PySem.W.mg_of X G a_reduced, b_reduced⟩
  obtain ⟨f_equations_in, oc, od, an, sl, kV, dc, pm, cd, ct, a_equations_in, l, c, k_equations_in⟩ := d_equations_in
  have F_equations_in := fun_mk (st := s_equations_in) l c k_equations_in
  have b_equations_in := F_equations_in.binds (ps := ["size", "relation"]) fun _ _ _ _ _ _ us hl => match us, hl with | [_, _], _ => rfl
  have A_equations_in : At K mg "equations_in" s_equations_in ["size", "relation"] := ⟨_, _, F_equations_in, PySem.W.mg_of X G a_equations_in, b_equations_in⟩
  obtain ⟨f_equations, oc, od, an, sl, kV, dc, pm, cd, ct, a_equations, l, c, k_equations⟩ := d_equations
  have F_equations := fun_mk (st := s_equations) l c k_equations
  have b_equations := F_equations.binds (ps := ["size", "relation"]) fun _ _ _ _ _ _ us hl => match us, hl with | [_, _], _ => rfl
  obtain ⟨f__law_refused, oc, od, an, sl, kV, dc, pm, cd, ct, a__law_refused, l, c, k__law_refused⟩ := d__law_refused
  have F__law_refused := fun_mk (st := s__law_refused) l c k__law_refused
  have b__law_refused := F__law_refused.binds (ps := ["_law_size", "_law_relation"]) fun _ _ _ _ _ _ us hl => match us, hl with | [_, _], _ => rfl
  have A__law_refused : At K mg "_law_refused" s__law_refused ["_law_size", "_law_relation"] := ⟨_, _, F__law_refused, PySem.W.mg_of X G a__law_refused, b__law_refused⟩
  obtain ⟨f__law_whole, oc, od, an, sl, kV, dc, pm, cd, ct, a__law_whole, l, c, k__law_whole⟩ := d__law_whole
  have F__law_whole := fun_mk (st := s__law_whole) l c k__law_whole
  have b__law_whole := F__law_whole.binds (ps := ["_law_value_here", "_law_least", "_law_most"]) fun _ _ _ _ _ _ us hl => match us, hl with | [_, _, _], _ => rfl
  have A__law_whole : At K mg "_law_whole" s__law_whole ["_law_value_here", "_law_least", "_law_most"] := ⟨_, _, F__law_whole, PySem.W.mg_of X G a__law_whole, b__law_whole⟩
  obtain ⟨f__law_alike, oc, od, an, sl, kV, dc, pm, cd, ct, a__law_alike, l, c, k__law_alike⟩ := d__law_alike
  have F__law_alike := fun_mk (st := s__law_alike) l c k__law_alike
  have b__law_alike := F__law_alike.binds (ps := ["_law_found", "_law_due"]) fun _ _ _ _ _ _ us hl => match us, hl with | [_, _], _ => rfl
  have A__law_alike : At K mg "_law_alike" s__law_alike ["_law_found", "_law_due"] := ⟨_, _, F__law_alike, PySem.W.mg_of X G a__law_alike, b__law_alike⟩
  obtain ⟨f__law_value, oc, od, an, sl, kV, dc, pm, cd, ct, a__law_value, l, c, k__law_value⟩ := d__law_value
  have F__law_value := fun_mk (st := s__law_value) l c k__law_value
  have b__law_value := F__law_value.binds (ps := ["_law_size", "_law_operation", "_law_arguments"]) fun _ _ _ _ _ _ us hl => match us, hl with | [_, _, _], _ => rfl
  have A__law_value : At K mg "_law_value" s__law_value ["_law_size", "_law_operation", "_law_arguments"] := ⟨_, _, F__law_value, PySem.W.mg_of X G a__law_value, b__law_value⟩
  obtain ⟨f__law_carried, oc, od, an, sl, kV, dc, pm, cd, ct, a__law_carried, l, c, k__law_carried⟩ := d__law_carried
  have F__law_carried := fun_mk (st := s__law_carried) l c k__law_carried
  have b__law_carried := F__law_carried.binds (ps := ["_law_size", "_law_operation", "_law_rows_here"]) fun _ _ _ _ _ _ us hl => match us, hl with | [_, _, _], _ => rfl
  have A__law_carried : At K mg "_law_carried" s__law_carried ["_law_size", "_law_operation", "_law_rows_here"] := ⟨_, _, F__law_carried, PySem.W.mg_of X G a__law_carried, b__law_carried⟩
  obtain ⟨f__law_sums, oc, od, an, sl, kV, dc, pm, cd, ct, a__law_sums, l, c, k__law_sums⟩ := d__law_sums
  have F__law_sums := fun_mk (st := s__law_sums) l c k__law_sums
  have b__law_sums := F__law_sums.binds (ps := ["_law_size", "_law_told", "_law_values"]) fun _ _ _ _ _ _ us hl => match us, hl with | [_, _, _], _ => rfl
  have A__law_sums : At K mg "_law_sums" s__law_sums ["_law_size", "_law_told", "_law_values"] := ⟨_, _, F__law_sums, PySem.W.mg_of X G a__law_sums, b__law_sums⟩
  obtain ⟨f__law_rows, oc, od, an, sl, kV, dc, pm, cd, ct, a__law_rows, l, c, k__law_rows⟩ := d__law_rows
  have F__law_rows := fun_mk (st := s__law_rows) l c k__law_rows
  have b__law_rows := F__law_rows.binds (ps := ["_law_size", "_law_arity"]) fun _ _ _ _ _ _ us hl => match us, hl with | [_, _], _ => rfl
  have A__law_rows : At K mg "_law_rows" s__law_rows ["_law_size", "_law_arity"] := ⟨_, _, F__law_rows, PySem.W.mg_of X G a__law_rows, b__law_rows⟩
  obtain ⟨f__law_tuples, oc, od, an, sl, kV, dc, pm, cd, ct, a__law_tuples, l, c, k__law_tuples⟩ := d__law_tuples
  have F__law_tuples := fun_mk (st := s__law_tuples) l c k__law_tuples
  have b__law_tuples := F__law_tuples.binds (ps := ["_law_things", "_law_many"]) fun _ _ _ _ _ _ us hl => match us, hl with | [_, _], _ => rfl
  have A__law_tuples : At K mg "_law_tuples" s__law_tuples ["_law_things", "_law_many"] := ⟨_, _, F__law_tuples, PySem.W.mg_of X G a__law_tuples, b__law_tuples⟩
  obtain ⟨f__law_breaks, oc, od, an, sl, kV, dc, pm, cd, ct, a__law_breaks, l, c, k__law_breaks⟩ := d__law_breaks
  have F__law_breaks := fun_mk (st := s__law_breaks) l c k__law_breaks
  have b__law_breaks := F__law_breaks.binds (ps := ["_law_size", "_law_operation", "_law_relation"]) fun _ _ _ _ _ _ us hl => match us, hl with | [_, _, _], _ => rfl
  have A__law_breaks : At K mg "_law_breaks" s__law_breaks ["_law_size", "_law_operation", "_law_relation"] := ⟨_, _, F__law_breaks, PySem.W.mg_of X G a__law_breaks, b__law_breaks⟩
  obtain ⟨f__law_taken, oc, od, an, sl, kV, dc, pm, cd, ct, a__law_taken, l, c, k__law_taken⟩ := d__law_taken
  have F__law_taken := fun_mk (st := s__law_taken) l c k__law_taken
  have b__law_taken := F__law_taken.binds (ps := ["_law_row", "_law_many"]) fun _ _ _ _ _ _ us hl => match us, hl with | [_, _], _ => rfl
  have A__law_taken : At K mg "_law_taken" s__law_taken ["_law_row", "_law_many"] := ⟨_, _, F__law_taken, PySem.W.mg_of X G a__law_taken, b__law_taken⟩
  obtain ⟨f__law_pick, oc, od, an, sl, kV, dc, pm, cd, ct, a__law_pick, l, c, k__law_pick⟩ := d__law_pick
  have F__law_pick := fun_mk (st := s__law_pick) l c k__law_pick
  have b__law_pick := F__law_pick.binds (ps := ["_law_row", "_law_things"]) fun _ _ _ _ _ _ us hl => match us, hl with | [_, _], _ => rfl
  have A__law_pick : At K mg "_law_pick" s__law_pick ["_law_row", "_law_things"] := ⟨_, _, F__law_pick, PySem.W.mg_of X G a__law_pick, b__law_pick⟩
  obtain ⟨f__law_some_rows, oc, od, an, sl, kV, dc, pm, cd, ct, a__law_some_rows, l, c, k__law_some_rows⟩ := d__law_some_rows
  have F__law_some_rows := fun_mk (st := s__law_some_rows) l c k__law_some_rows
  have b__law_some_rows := F__law_some_rows.binds (ps := ["_law_row", "_law_size", "_law_arity", "_law_most"]) fun _ _ _ _ _ _ us hl => match us, hl with | [_, _, _, _], _ => rfl
  have A__law_some_rows : At K mg "_law_some_rows" s__law_some_rows ["_law_row", "_law_size", "_law_arity", "_law_most"] := ⟨_, _, F__law_some_rows, PySem.W.mg_of X G a__law_some_rows, b__law_some_rows⟩
  obtain ⟨f__law_closed, oc, od, an, sl, kV, dc, pm, cd, ct, a__law_closed, l, c, k__law_closed⟩ := d__law_closed
  have F__law_closed := fun_mk (st := s__law_closed) l c k__law_closed
  have b__law_closed := F__law_closed.binds (ps := ["_law_size", "_law_operation", "_law_arity", "_law_rows_here"]) fun _ _ _ _ _ _ us hl => match us, hl with | [_, _, _, _], _ => rfl
  have A__law_closed : At K mg "_law_closed" s__law_closed ["_law_size", "_law_operation", "_law_arity", "_law_rows_here"] := ⟨_, _, F__law_closed, PySem.W.mg_of X G a__law_closed, b__law_closed⟩
  obtain ⟨f__law_kept, oc, od, an, sl, kV, dc, pm, cd, ct, a__law_kept, l, c, k__law_kept⟩ := d__law_kept
  have F__law_kept := fun_mk (st := s__law_kept) l c k__law_kept
  have b__law_kept := F__law_kept.binds (ps := ["_law_row", "_law_size", "_law_operation", "_law_arity"]) fun _ _ _ _ _ _ us hl => match us, hl with | [_, _, _, _], _ => rfl
  have A__law_kept : At K mg "_law_kept" s__law_kept ["_law_row", "_law_size", "_law_operation", "_law_arity"] := ⟨_, _, F__law_kept, PySem.W.mg_of X G a__law_kept, b__law_kept⟩
  obtain ⟨f__law_named, oc, od, an, sl, kV, dc, pm, cd, ct, a__law_named, l, c, k__law_named⟩ := d__law_named
  have F__law_named := fun_mk (st := s__law_named) l c k__law_named
  have b__law_named := F__law_named.binds (ps := ["_law_size"]) fun _ _ _ _ _ _ us hl => match us, hl with | [_], _ => rfl
  have A__law_named : At K mg "_law_named" s__law_named ["_law_size"] := ⟨_, _, F__law_named, PySem.W.mg_of X G a__law_named, b__law_named⟩
  obtain ⟨f_law, oc, od, an, sl, kV, dc, pm, cd, ct, a_law, l, c, k_law⟩ := d_law
  have F_law := fun_mk (st := s_law) l c k_law
  have e := hfa.symm.trans (PySem.W.mg_of X G a_law)
  cases e
  refine ⟨PySem.W.fnOf "law" "law" (defArgs s_law) (defBody s_law) (defScope s_law) .none kV dc pm an cd ct, fun s v => .of_eq rfl, fun base _ _ => ?_⟩
  have C_is_int := A_is_int.cal (P := P) (w := w) (base := base) fun f fd F => ok_is_int B F
  have C_is_in := A_is_in.cal (P := P) (w := w) (base := base) fun f fd F => ok_is_in C_is_int F
  have C_is_row := A_is_row.cal (P := P) (w := w) (base := base) fun f fd F => ok_is_row B C_is_in F
  have C_is_relation := A_is_relation.cal (P := P) (w := w) (base := base) fun f fd F => ok_is_relation B mA C_is_in C_is_row F
  have C_need_relation := A_need_relation.cal (P := P) (w := w) (base := base) fun f fd F => ok_need_relation C_is_relation F
  have C_need_prime := A_need_prime.cal (P := P) (w := w) (base := base) fun f fd F => ok_need_prime C_is_in F
  have C_all_rows := A_all_rows.cal (P := P) (w := w) (base := base) fun f fd F => ok_all_rows B F
  have C_tuples_of := A_tuples_of.cal (P := P) (w := w) (base := base) fun f fd F => ok_tuples_of B F
  have C_place_of := A_place_of.cal (P := P) (w := w) (base := base) fun f fd F => ok_place_of B F
  have C_value_of := A_value_of.cal (P := P) (w := w) (base := base) fun f fd F => ok_value_of C_place_of F
  have C_image_of := A_image_of.cal (P := P) (w := w) (base := base) fun f fd F => ok_image_of B C_value_of F
  have C_first_broken := A_first_broken.cal (P := P) (w := w) (base := base) fun f fd F => ok_first_broken C_tuples_of C_image_of F
  have C_difference_of := A_difference_of.cal (P := P) (w := w) (base := base) fun f fd F => ok_difference_of B C_all_rows F
  have C_is_affine := A_is_affine.cal (P := P) (w := w) (base := base) fun f fd F => ok_is_affine C_need_prime C_need_relation C_first_broken C_difference_of F
  have C_lowered := A_lowered.cal (P := P) (w := w) (base := base) fun f fd F => ok_lowered B F
  have C_reduced := A_reduced.cal (P := P) (w := w) (base := base) fun f fd F => ok_reduced B C_lowered F
  have C_equations_in := A_equations_in.cal (P := P) (w := w) (base := base) fun f fd F => ok_equations_in B C_reduced F
  have CE : CalE P w K mg base C := ⟨_, _, ok_equations B T C_need_prime C_need_relation C_first_broken C_difference_of C_equations_in F_equations, PySem.W.mg_of X G a_equations, k_equations, b_equations⟩
  have C__law_refused := A__law_refused.cal (P := P) (w := w) (base := base) fun f fd F => ok__law_refused T CE F
  have C__law_whole := A__law_whole.cal (P := P) (w := w) (base := base) fun f fd F => ok__law_whole B F
  have C__law_alike := A__law_alike.cal (P := P) (w := w) (base := base) fun f fd F => ok__law_alike B F
  have C__law_value := A__law_value.cal (P := P) (w := w) (base := base) fun f fd F => ok__law_value  F
  have C__law_carried := A__law_carried.cal (P := P) (w := w) (base := base) fun f fd F => ok__law_carried B C__law_value F
  have C__law_sums := A__law_sums.cal (P := P) (w := w) (base := base) fun f fd F => ok__law_sums B F
  have C__law_rows := A__law_rows.cal (P := P) (w := w) (base := base) fun f fd F => ok__law_rows B F
  have C__law_tuples := A__law_tuples.cal (P := P) (w := w) (base := base) fun f fd F => ok__law_tuples B F
  have C__law_breaks := A__law_breaks.cal (P := P) (w := w) (base := base) fun f fd F => ok__law_breaks B C__law_tuples C__law_carried F
  have C__law_taken := A__law_taken.cal (P := P) (w := w) (base := base) fun f fd F => ok__law_taken B F
  have C__law_pick := A__law_pick.cal (P := P) (w := w) (base := base) fun f fd F => ok__law_pick B C__law_taken F
  have C__law_some_rows := A__law_some_rows.cal (P := P) (w := w) (base := base) fun f fd F => ok__law_some_rows B C__law_rows C__law_taken C__law_pick F
  have C__law_closed := A__law_closed.cal (P := P) (w := w) (base := base) fun f fd F => ok__law_closed B C__law_tuples C__law_carried F
  have C__law_kept := A__law_kept.cal (P := P) (w := w) (base := base) fun f fd F => ok__law_kept B C__law_some_rows C__law_closed F
  have C__law_named := A__law_named.cal (P := P) (w := w) (base := base) fun f fd F => ok__law_named B C__law_rows F
  exact ok_law B ⟨C__law_taken, C__law_named, C__law_some_rows, C__law_kept, C__law_rows, C__law_breaks, C__law_alike, C_is_affine, C__law_refused, C__law_whole, C__law_sums, CE⟩ F_law
end
end G651
open PySem PySem.W PyProof.Rows
set_option maxHeartbeats 0 in
theorem PySem.Challenge.cw_templates_k37_whole_equations_holds : PySem.Challenge.rw_templates_k37_whole_equations.Holds := by
  w_on; o_law; k_head; (case hw => w_witness2)
  k_fill
  refine L2.walk_of (l := PySem.Challenge.rw_templates_k37_whole_equations) (n := 63) (k := 8) (x := "_law_script") (CX := fun _ => L2.CX0) (sp := fun w => G651.spLaw _) rfl (by decide) rfl ⟨rfl, by decide, by decide⟩ (fun w h Y => PySem.W.kIn_of Y) ?F (fun _ _ a ns hl _ hS => ⟨a, ns, rfl, hS, fun _ => rfl⟩) (fun _ _ _ _ _ h => h)
  case F =>
    intro w mg fa h KX G hmg
    refine' G651.fin KX G hmg ?aC ?eC ?aM ?z0 ?z1 ?z2 ?z3 ?z4 ?z5 ?z6 ?z7 ?z8 ?z9 ?z10 ?z11 ?z12 ?z13 ?z14 ?d0 ?d1 ?d2 ?d3 ?d4 ?d5 ?d6 ?d7 ?d8 ?d9 ?d10 ?d11 ?d12 ?d13 ?d14 ?d15 ?d16 ?d17 ?d18 ?d19 ?d20 ?d21 ?d22 ?d23 ?d24 ?d25 ?d26 ?d27 ?d28 ?d29 ?d30 ?d31 ?d32 ?d33
    (case aC => k_is)
    (case eC => (refine' ⟨?x, ?k, ?b, ?t, ?i, ?s⟩; (case x => k_exc); (case k => k_is); (case b => k_is); (case t => k_is); (case i => k_is); (case s => first | rfl | k_is)))
    (case aM => k_is)
    (case z0 => k_is)
    (case z1 => k_is)
    (case z2 => k_is)
    (case z3 => k_is)
    (case z4 => k_is)
    (case z5 => k_is)
    (case z6 => k_is)
    (case z7 => k_is)
    (case z8 => k_is)
    (case z9 => k_is)
    (case z10 => k_is)
    (case z11 => k_is)
    (case z12 => k_is)
    (case z13 => k_is)
    (case z14 => k_is)
    (case d0 => (refine' G651.def_in ?a ?l ?c ?k; (case a => k_is); (case l => k_is); (case c => k_is); (case k => k_is)))
    (case d1 => (refine' G651.def_in ?a ?l ?c ?k; (case a => k_is); (case l => k_is); (case c => k_is); (case k => k_is)))
    (case d2 => (refine' G651.def_in ?a ?l ?c ?k; (case a => k_is); (case l => k_is); (case c => k_is); (case k => k_is)))
    (case d3 => (refine' G651.def_in ?a ?l ?c ?k; (case a => k_is); (case l => k_is); (case c => k_is); (case k => k_is)))
    (case d4 => (refine' G651.def_in ?a ?l ?c ?k; (case a => k_is); (case l => k_is); (case c => k_is); (case k => k_is)))
    (case d5 => (refine' G651.def_in ?a ?l ?c ?k; (case a => k_is); (case l => k_is); (case c => k_is); (case k => k_is)))
    (case d6 => (refine' G651.def_in ?a ?l ?c ?k; (case a => k_is); (case l => k_is); (case c => k_is); (case k => k_is)))
    (case d7 => (refine' G651.def_in ?a ?l ?c ?k; (case a => k_is); (case l => k_is); (case c => k_is); (case k => k_is)))
    (case d8 => (refine' G651.def_in ?a ?l ?c ?k; (case a => k_is); (case l => k_is); (case c => k_is); (case k => k_is)))
    (case d9 => (refine' G651.def_in ?a ?l ?c ?k; (case a => k_is); (case l => k_is); (case c => k_is); (case k => k_is)))
    (case d10 => (refine' G651.def_in ?a ?l ?c ?k; (case a => k_is); (case l => k_is); (case c => k_is); (case k => k_is)))
    (case d11 => (refine' G651.def_in ?a ?l ?c ?k; (case a => k_is); (case l => k_is); (case c => k_is); (case k => k_is)))
    (case d12 => (refine' G651.def_in ?a ?l ?c ?k; (case a => k_is); (case l => k_is); (case c => k_is); (case k => k_is)))
    (case d13 => (refine' G651.def_in ?a ?l ?c ?k; (case a => k_is); (case l => k_is); (case c => k_is); (case k => k_is)))
    (case d14 => (refine' G651.def_in ?a ?l ?c ?k; (case a => k_is); (case l => k_is); (case c => k_is); (case k => k_is)))
    (case d15 => (refine' G651.def_in ?a ?l ?c ?k; (case a => k_is); (case l => k_is); (case c => k_is); (case k => k_is)))
    (case d16 => (refine' G651.def_in ?a ?l ?c ?k; (case a => k_is); (case l => k_is); (case c => k_is); (case k => k_is)))
    (case d17 => (refine' G651.def_in ?a ?l ?c ?k; (case a => k_is); (case l => k_is); (case c => k_is); (case k => k_is)))
    (case d18 => (refine' G651.def_in ?a ?l ?c ?k; (case a => k_is); (case l => k_is); (case c => k_is); (case k => k_is)))
    (case d19 => (refine' G651.def_in ?a ?l ?c ?k; (case a => k_is); (case l => k_is); (case c => k_is); (case k => k_is)))
    (case d20 => (refine' G651.def_in ?a ?l ?c ?k; (case a => k_is); (case l => k_is); (case c => k_is); (case k => k_is)))
    (case d21 => (refine' G651.def_in ?a ?l ?c ?k; (case a => k_is); (case l => k_is); (case c => k_is); (case k => k_is)))
    (case d22 => (refine' G651.def_in ?a ?l ?c ?k; (case a => k_is); (case l => k_is); (case c => k_is); (case k => k_is)))
    (case d23 => (refine' G651.def_in ?a ?l ?c ?k; (case a => k_is); (case l => k_is); (case c => k_is); (case k => k_is)))
    (case d24 => (refine' G651.def_in ?a ?l ?c ?k; (case a => k_is); (case l => k_is); (case c => k_is); (case k => k_is)))
    (case d25 => (refine' G651.def_in ?a ?l ?c ?k; (case a => k_is); (case l => k_is); (case c => k_is); (case k => k_is)))
    (case d26 => (refine' G651.def_in ?a ?l ?c ?k; (case a => k_is); (case l => k_is); (case c => k_is); (case k => k_is)))
    (case d27 => (refine' G651.def_in ?a ?l ?c ?k; (case a => k_is); (case l => k_is); (case c => k_is); (case k => k_is)))
    (case d28 => (refine' G651.def_in ?a ?l ?c ?k; (case a => k_is); (case l => k_is); (case c => k_is); (case k => k_is)))
    (case d29 => (refine' G651.def_in ?a ?l ?c ?k; (case a => k_is); (case l => k_is); (case c => k_is); (case k => k_is)))
    (case d30 => (refine' G651.def_in ?a ?l ?c ?k; (case a => k_is); (case l => k_is); (case c => k_is); (case k => k_is)))
    (case d31 => (refine' G651.def_in ?a ?l ?c ?k; (case a => k_is); (case l => k_is); (case c => k_is); (case k => k_is)))
    (case d32 => (refine' G651.def_in ?a ?l ?c ?k; (case a => k_is); (case l => k_is); (case c => k_is); (case k => k_is)))
    (case d33 => (refine' G651.def_in ?a ?l ?c ?k; (case a => k_is); (case l => k_is); (case c => k_is); (case k => k_is)))
