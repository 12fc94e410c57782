import PyProof.Rows.All
import Wide.All
import OpenK.AllK
import Wide.FinOn
import HandS.CallSlots
import HandS.DictComp
import HandS.EndBits
import HandS.FStr
import HandS.ForExc
import HandS.ForMost
import HandS.Head2
import HandS.HeadHook2
import HandS.HeadNt
import HandS.IsInst
import HandS.More
import HandS.Property
import HandS.RaiseMore
import HandS.Rev
import HandS.Small
import HandS.Style
import HandS.TupAny
import HandS.Wide
import KE.GoesEnum
import KE.GoesMore
import PySem.Challenge.RW_hintslie_k85_texts_by_hand
set_option Elab.async false
set_option linter.all false
set_option maxRecDepth 100000
set_option maxHeartbeats 4000000
/-! DL1: data of a Python program as Lean values; what stands in an abstract heap as such data. -/
namespace DL
open PySem PySem.Spec PyProof.Rows L2

/-- the kinds of boxes -/
inductive BK where
  | tup | lst | scr | dct (ks : List Key) | ins (c : Nat) (fs : List Nat)
  deriving DecidableEq
/-- data: scalars and boxes; an own box is known to one place alone and may change -/
inductive D where
  | non | bl (b : Bool) | int (i : Int) | str (x : Str)
  | bx (own : Bool) (k : BK) (ds : List D)
abbrev dT (ds : List D) : D := .bx false .tup ds
abbrev dL (ds : List D) : D := .bx false .lst ds
abbrev mL (ds : List D) : D := .bx true .lst ds
abbrev dD (ks : List Key) (ds : List D) : D := .bx false (.dct ks) ds
abbrev mD (ks : List Key) (ds : List D) : D := .bx true (.dct ks) ds
abbrev dI (c : Nat) (fs : List Nat) (ds : List D) : D := .bx false (.ins c fs) ds
abbrev mI (c : Nat) (fs : List Nat) (ds : List D) : D := .bx true (.ins c fs) ds

mutual
/-- nothing own is left -/
def fz : D → D
  | .non => .non
  | .bl b => .bl b
  | .int i => .int i
  | .str x => .str x
  | .bx _ k ds => .bx false k (fzs ds)
def fzs : List D → List D
  | [] => []
  | d :: ds => fz d :: fzs ds
end
theorem fzs_map : ∀ ds : List D, fzs ds = ds.map fz
  | [] => rfl
  | d :: ds => by rw [fzs, fzs_map ds]; rfl
mutual
theorem fz_fz : ∀ d : D, fz (fz d) = fz d
  | .non => rfl
  | .bl _ => rfl
  | .int _ => rfl
  | .str _ => rfl
  | .bx o k ds => by
    show D.bx false k (fzs (fzs ds)) = D.bx false k (fzs ds)
    rw [fzs_fzs ds]
theorem fzs_fzs : ∀ ds : List D, fzs (fzs ds) = fzs ds
  | [] => rfl
  | d :: ds => by
    show fz (fz d) :: fzs (fzs ds) = fz d :: fzs ds
    rw [fz_fz d, fzs_fzs ds]
end

/-- the names of classes and attributes by number -/
structure Nm where
  cn : Nat → Addr
  names : List Str
  nd : names.Nodup
  ln : ∀ x ∈ names, x.cps.size ≠ 1
def Nm.fn (N : Nm) (n : Nat) : Str := N.names.getD n ⟨#[2000000 + n]⟩
theorem Nm.inj (N : Nm) {a b : Nat} (h : N.fn a = N.fn b) : a = b := by
  unfold Nm.fn at h
  have out : ∀ n, ¬ n < N.names.length → N.names.getD n (⟨#[2000000 + n]⟩ : Str) = ⟨#[2000000 + n]⟩ := fun n hn => by
    rw [List.getD_eq_getElem?_getD, List.getElem?_eq_none_iff.mpr (by omega)]; rfl
  have ins : ∀ n (hn : n < N.names.length), N.names.getD n (⟨#[2000000 + n]⟩ : Str) = N.names[n] := fun n hn => by
    rw [List.getD_eq_getElem?_getD, List.getElem?_eq_getElem hn]; rfl
  by_cases ha : a < N.names.length <;> by_cases hb : b < N.names.length
  · rw [ins a ha, ins b hb] at h
    exact (List.getElem_inj N.nd).mp h
  · rw [ins a ha, out b hb] at h
    exact absurd (by rw [h]; rfl) (N.ln _ (List.getElem_mem ha))
  · rw [out a ha, ins b hb] at h
    exact absurd (by rw [← h]; rfl) (N.ln _ (List.getElem_mem hb))
  · rw [out a ha, out b hb] at h
    injection h with h
    simpa using h

def Ex (H H' : Hp) : Prop := ∀ a o, H a = some o → H' a = some o
theorem Ex.refl (H : Hp) : Ex H H := fun _ _ h => h
theorem Ex.trans {H H1 H2 : Hp} (a : Ex H H1) (b : Ex H1 H2) : Ex H H2 := fun x o h => b x o (a x o h)
theorem Ex.new {H : Hp} {p : Addr} {o : HO} (h : H p = none) : Ex H (upd H p o) := fun a u e => by
  rw [upd_ne (ne_of_none e h)]
  exact e
theorem Ex.none {H H' : Hp} (e : Ex H H') {a : Addr} (h : H' a = none) : H a = none := by
  cases q : H a with
  | none => rfl
  | some o => rw [e a o q] at h; cases h
theorem Ex.rd {H H' : Hp} {a : Addr} {u : HO} (e : Ex H H') (h : Rd H a u) : Rd H' a u := by
  rcases h with h | ⟨o, h⟩
  · exact Or.inl (e a _ h)
  · exact Or.inr ⟨o, e a _ h⟩

/-- what a persistent box's object is -/
def At (K : PySem.W.Frag) (N : Nm) (R : Hp) (a : Addr) : BK → List V → Prop
  | .tup, xs => SqT K R a xs
  | .lst, xs => R a = some (.lst xs)
  | .scr, xs => SqL K R a xs
  | .dct ks, xs => ks.length = xs.length ∧ Rd R a (.dK (ks.zip xs)) ∧ ks.Nodup
  | .ins c fs, xs => fs.length = xs.length ∧ ∃ dx, R a = some (.ins (N.cn c) dx ((fs.map N.fn).zip xs))
/-- what an own box's object is -/
def AtO (N : Nm) (H : Hp) (a dx : Addr) : BK → List V → Prop
  | .tup, xs => False
  | .lst, xs => dx = a ∧ H a = some (.lst xs)
  | .scr, xs => False
  | .dct ks, xs => dx = a ∧ ks.length = xs.length ∧ H a = some (.dK (ks.zip xs)) ∧ ks.Nodup
  | .ins c fs, xs => fs.length = xs.length ∧ H a = some (.ins (N.cn c) dx ((fs.map N.fn).zip xs)) ∧ H dx = some (.own a)

section
variable {K : PySem.W.Frag} {N : Nm}
/-- what one reads -/
structure LeR (R R' : Hp) : Prop where
  rd : ∀ a u, (∀ o w, u ≠ .frz o w) → Rd R a u → Rd R' a u
  ins : ∀ a c dx fs, R a = some (.ins c dx fs) → R' a = some (.ins c dx fs)
  lst : ∀ a xs, R a = some (.lst xs) → R' a = some (.lst xs)
theorem Ex.le {R R' : Hp} (e : Ex R R') : LeR R R' := ⟨fun _ _ _ h => e.rd h, fun _ _ _ _ h => e _ _ h, fun _ _ h => e _ _ h⟩
theorem At.mono {R R' : Hp} {a : Addr} {k : BK} {xs : List V} (e : LeR R R') (h : At K N R a k xs) : At K N R' a k xs := by
  cases k with
  | tup =>
    rcases h with h | h
    · exact Or.inl (e.rd _ _ (fun _ _ z => nomatch z) h)
    · exact Or.inr h
  | lst => exact e.lst _ _ h
  | scr =>
    rcases h with h | h
    · exact Or.inl (e.rd _ _ (fun _ _ z => nomatch z) h)
    · exact Or.inr h
  | dct ks => exact ⟨h.1, e.rd _ _ (fun _ _ z => nomatch z) h.2.1, h.2.2⟩
  | ins c fs =>
    obtain ⟨h1, dx, h2⟩ := h
    exact ⟨h1, dx, e.ins _ _ _ _ h2⟩
theorem AtO.at {H R : Hp} {a dx : Addr} {k : BK} {xs : List V} (h : AtO N H a dx k xs) (e : R a = H a) : At K N R a k xs := by
  cases k with
  | tup => exact h.elim
  | lst => exact e.trans h.2
  | scr => exact h.elim
  | dct ks => exact ⟨h.2.1, Or.inl (e.trans h.2.2.1), h.2.2.2⟩
  | ins c fs => exact ⟨h.1, dx, e.trans h.2.1⟩
theorem AtO.a {H : Hp} {a dx : Addr} {k : BK} {xs : List V} (h : AtO N H a dx k xs) : ∃ o, H a = some o := by
  cases k with
  | tup => exact h.elim
  | lst => exact ⟨_, h.2⟩
  | scr => exact h.elim
  | dct ks => exact ⟨_, h.2.2.1⟩
  | ins c fs => exact ⟨_, h.2.1⟩
theorem AtO.dx {H : Hp} {a dx : Addr} {k : BK} {xs : List V} (h : AtO N H a dx k xs) : ∃ o, H dx = some o := by
  cases k with
  | tup => exact h.elim
  | lst => exact ⟨_, by rw [h.1]; exact h.2⟩
  | scr => exact h.elim
  | dct ks => exact ⟨_, by rw [h.1]; exact h.2.2.1⟩
  | ins c fs => exact ⟨_, h.2.2⟩
theorem AtO.mono {H H' : Hp} {a dx : Addr} {k : BK} {xs : List V} (h : AtO N H a dx k xs) (ea : H' a = H a) (ed : H' dx = H dx) : AtO N H' a dx k xs := by
  cases k with
  | tup => exact h.elim
  | lst => exact ⟨h.1, ea.trans h.2⟩
  | scr => exact h.elim
  | dct ks => exact ⟨h.1, h.2.1, ea.trans h.2.2.1, h.2.2.2⟩
  | ins c fs => exact ⟨h.1, ea.trans h.2.1, ed.trans h.2.2⟩
end

/-- v stands for the persistent data d -/
inductive En (K : PySem.W.Frag) (N : Nm) (R : Hp) : V → D → Prop where
  | non : En K N R .non .non
  | bl (b : Bool) : En K N R (.bl b) (.bl b)
  | int (i : Int) : En K N R (.int i) (.int i)
  | str (x : Str) : En K N R (.str x) (.str x)
  | bx {a : Addr} {k : BK} {xs : List V} {ds : List D} (h : At K N R a k xs) (l : xs.length = ds.length)
      (c : ∀ (j : Nat) x d, xs[j]? = some x → ds[j]? = some d → En K N R x d) : En K N R (.ref a) (.bx false k ds)
/-- v stands for the data d; f: the addresses of what is own in it -/
inductive Ow (K : PySem.W.Frag) (N : Nm) (R H : Hp) : V → D → (Addr → Prop) → Prop where
  | p {v : V} {d : D} {f : Addr → Prop} (h : En K N R v d) (hf : ∀ b, ¬ f b) : Ow K N R H v d f
  | bx {a dx : Addr} {k : BK} {xs : List V} {ds : List D} {f : Addr → Prop} (F : Nat → Addr → Prop) (h : AtO N H a dx k xs) (l : xs.length = ds.length)
      (c : ∀ (j : Nat) x d, xs[j]? = some x → ds[j]? = some d → Ow K N R H x d (F j)) (hf : ∀ b, f b ↔ b = a ∨ b = dx ∨ ∃ j, j < ds.length ∧ F j b)
      (na : ∀ j, j < ds.length → ¬ F j a ∧ ¬ F j dx) (dj : ∀ i j b, i < ds.length → j < ds.length → F i b → F j b → i = j) : Ow K N R H (.ref a) (.bx true k ds) f

section
variable {K : PySem.W.Frag} {N : Nm} {R R' H H' G : Hp} {v : V} {d : D} {f : Addr → Prop}
theorem En.mono (h : En K N R v d) (e : LeR R R') : En K N R' v d := by
  induction h with
  | non => exact .non
  | bl b => exact .bl b
  | int i => exact .int i
  | str x => exact .str x
  | bx h l c ih => exact .bx (h.mono e) l fun j x d h1 h2 => ih j x d h1 h2
theorem Ow.mono (h : Ow K N R H v d f) (e : LeR R R') (k : ∀ b, f b → H' b = H b) : Ow K N R' H' v d f := by
  induction h with
  | p h hf => exact .p (h.mono e) hf
  | @bx a dx kk xs ds f F h l c hf na dj ih =>
    refine .bx F (h.mono (k a ((hf a).mpr (.inl rfl))) (k dx ((hf dx).mpr (.inr (.inl rfl))))) l (fun j x d h1 h2 => ih j x d h1 h2 fun b hb => k b ((hf b).mpr (.inr (.inr ⟨j, ?_, hb⟩)))) hf na dj
    exact (List.getElem?_eq_some_iff.mp h2).1
theorem Ow.some (h : Ow K N R H v d f) : ∀ b, f b → ∃ o, H b = some o := by
  induction h with
  | p h hf => exact fun b hb => absurd hb (hf b)
  | @bx a dx kk xs ds f F h l c hf na dj ih =>
    intro b hb
    rcases (hf b).mp hb with rfl | rfl | ⟨j, hj, hb⟩
    · exact h.a
    · exact h.dx
    · have e1 : ds[j]? = Option.some ds[j] := by simp [hj]
      have e2 : xs[j]? = Option.some (xs[j]'(by omega)) := by simp [l, hj]
      exact ih j _ _ e2 e1 b hb
theorem Ow.imp {f' : Addr → Prop} (h : Ow K N R H v d f) (e : ∀ b, f b ↔ f' b) : Ow K N R H v d f' := by
  cases h with
  | p h hf => exact .p h fun b hb => hf b ((e b).mpr hb)
  | bx F h l c hf na dj => exact .bx F h l c (fun b => (e b).symm.trans (hf b)) na dj
/-- frozen -/
theorem Ow.fz (h : Ow K N R H v d f) (e : LeR R R') (k : ∀ b, f b → R' b = H b) : En K N R' v (fz d) := by
  induction h with
  | @p v d f h hf =>
    have : ∀ {v d}, En K N R v d → En K N R' v (DL.fz d) := by
      intro v d h
      induction h with
      | non => exact .non
      | bl b => exact .bl b
      | int i => exact .int i
      | str x => exact .str x
      | bx h l c ih =>
        refine .bx (h.mono e) (by rw [fzs_map]; simpa using l) fun j x d h1 h2 => ?_
        rw [fzs_map, List.getElem?_map] at h2
        obtain ⟨d', h3, rfl⟩ := Option.map_eq_some_iff.mp h2
        exact ih j x d' h1 h3
    exact this h
  | @bx a dx kk xs ds f F h l c hf na dj ih =>
    refine .bx (h.at (k a ((hf a).mpr (.inl rfl)))) (by rw [fzs_map]; simpa using l) fun j x d h1 h2 => ?_
    rw [fzs_map, List.getElem?_map] at h2
    obtain ⟨d', h3, rfl⟩ := Option.map_eq_some_iff.mp h2
    exact ih j x d' h1 h3 fun b hb => k b ((hf b).mpr (.inr (.inr ⟨j, (List.getElem?_eq_some_iff.mp h3).1, hb⟩)))

/-- the cell i is known -/
def Liv (S : List (Option D)) (i : Nat) : Prop := ∃ d, S[i]? = some (some d)
structure OwnBy (K : PySem.W.Frag) (N : Nm) (G R H : Hp) (L : List (Option V)) (S : List (Option D)) (F : Nat → Addr → Prop) : Prop where
  at_ : ∀ i d, S[i]? = some (some d) → ∃ v, L[i]? = some (some v) ∧ Ow K N R H v d (F i)
  dj : ∀ i j b, Liv S i → Liv S j → F i b → F j b → i = j
  fr : ∀ i b, Liv S i → F i b → R b = none ∧ G b = none
/-- the cells L stand for S: R what is persistent, G what is guarded for others -/
structure Rel (K : PySem.W.Frag) (N : Nm) (G R H : Hp) (L : List (Option V)) (S : List (Option D)) : Prop where
  len : L.length = S.length
  r : Ex R H
  g : Ex G H
  rg : ∀ a o, G a = some o → R a = none
  own : ∃ F, OwnBy K N G R H L S F

variable {L L' A B : List (Option V)} {S S' DA DB : List (Option D)}
theorem Rel.re (h : Rel K N G R H L S) (len : L'.length = S'.length) (π : Nat → Nat) (hπ : ∀ i d, S'[i]? = some (some d) → S[π i]? = some (some d) ∧ L'[i]? = L[π i]?)
    (inj : ∀ i j, Liv S' i → Liv S' j → π i = π j → i = j) : Rel K N G R H L' S' := by
  obtain ⟨F, o⟩ := h.own
  have lv : ∀ i, Liv S' i → Liv S (π i) := fun i ⟨d, e⟩ => ⟨d, (hπ i d e).1⟩
  refine ⟨len, h.r, h.g, h.rg, fun i => F (π i), fun i d e => ?_, fun i j b hi hj h1 h2 => inj i j hi hj (o.dj _ _ b (lv i hi) (lv j hj) h1 h2), fun i b hi hb => o.fr _ b (lv i hi) hb⟩
  obtain ⟨h1, h2⟩ := hπ i d e
  obtain ⟨v, h3, h4⟩ := o.at_ _ _ h1
  exact ⟨v, h2.trans h3, h4⟩
theorem Rel.grow (h : Rel K N G R H L S) (e : Ex R R') (e2 : Ex R' H') (keep : ∀ a o, H a = some o → H' a = some o) (nw : ∀ a o, R' a = some o → R a = some o ∨ H a = none) : Rel K N G R' H' L S := by
  obtain ⟨F, o⟩ := h.own
  refine ⟨h.len, e2, h.g.trans keep, fun a u hg => ?_, F, fun i d hd => ?_, o.dj, fun i b hi hb => ?_⟩
  · cases q : R' a with
    | none => rfl
    | some u' =>
      rcases nw a u' q with q' | q'
      · rw [h.rg a u hg] at q'; cases q'
      · rw [h.g a u hg] at q'; cases q'
  · obtain ⟨v, h1, h2⟩ := o.at_ i d hd
    refine ⟨v, h1, h2.mono e.le fun b hb => ?_⟩
    obtain ⟨u, hu⟩ := h2.some b hb
    rw [hu, keep b u hu]
  · obtain ⟨h1, h2⟩ := o.fr i b hi hb
    refine ⟨?_, h2⟩
    obtain ⟨d, hd⟩ := hi
    obtain ⟨v, _, h4⟩ := o.at_ i d hd
    obtain ⟨u, hu⟩ := h4.some b hb
    cases q : R' b with
    | none => rfl
    | some u' =>
      rcases nw b u' q with q' | q'
      · rw [h1] at q'; cases q'
      · rw [hu] at q'; cases q'
/-- a new persistent object -/
theorem Rel.newP {p : Addr} {o : HO} (h : Rel K N G R H L S) (hp : H p = none) : Rel K N G (upd R p o) (upd H p o) L S := by
  have rp : R p = none := h.r.none hp
  refine h.grow (Ex.new rp) (fun a u e => ?_) (Ex.new hp) fun a u e => ?_
  · by_cases ha : a = p
    · subst ha; rw [upd_same] at e; cases e; exact upd_same
    · rw [upd_ne ha] at e; rw [upd_ne ha]; exact h.r a u e
  · by_cases ha : a = p
    · exact .inr (ha ▸ hp)
    · rw [upd_ne ha] at e; exact .inl e
/-- a new object of which nothing is known -/
theorem Rel.newX {p : Addr} {o : HO} (h : Rel K N G R H L S) (hp : H p = none) : Rel K N G R (upd H p o) L S :=
  h.grow (Ex.refl R) (h.r.trans (Ex.new hp)) (Ex.new hp) fun _ _ e => .inl e
theorem liv_app {i : Nat} : Liv (DB ++ DA) (i + DB.length) ↔ Liv DA i := by
  unfold Liv
  rw [List.getElem?_append_right (by omega), Nat.add_sub_cancel]
theorem liv_appl {i : Nat} (h : i < DB.length) : Liv (DB ++ DA) i ↔ Liv DB i := by
  unfold Liv
  rw [List.getElem?_append_left h]
/-- THE FRAME: the cells B are set aside while the others are worked at -/
theorem Rel.frame (h : Rel K N G R H (B ++ A) (DB ++ DA)) (lb : B.length = DB.length) :
    ∃ G', Ex G G' ∧ Rel K N G' R H A DA ∧ ∀ R' H' A' DA', Ex R R' → Rel K N G' R' H' A' DA' → Rel K N G R' H' (B ++ A') (DB ++ DA') := by
  classical
  obtain ⟨F, o⟩ := h.own
  let fp : Addr → Prop := fun b => ∃ i, i < B.length ∧ Liv (DB ++ DA) i ∧ F i b
  have hfp : ∀ b, fp b → ∃ u, H b = some u := fun b ⟨i, _, hl, hb⟩ => by
    obtain ⟨d, hd⟩ := hl
    obtain ⟨v, _, h4⟩ := o.at_ i d hd
    exact h4.some b hb
  have hfr : ∀ b, fp b → R b = none ∧ G b = none := fun b ⟨i, _, hl, hb⟩ => o.fr i b hl hb
  let G' : Hp := fun b => if fp b then H b else G b
  have gy : ∀ b, fp b → G' b = H b := fun b hb => if_pos hb
  have gn : ∀ b, ¬ fp b → G' b = G b := fun b hb => if_neg hb
  have eg : Ex G G' := fun a u e => by
    by_cases hb : fp a
    · rw [(hfr a hb).2] at e; cases e
    · rw [gn a hb]; exact e
  refine ⟨G', eg, ⟨?_, h.r, fun a u e => ?_, fun a u e => ?_, fun i => F (i + B.length), fun i d hd => ?_, fun i j b hi hj h1 h2 => ?_, fun i b hi hb => ?_⟩, fun R' H' A' DA' eR h' => ?_⟩
  · have := h.len
    rw [List.length_append, List.length_append] at this
    omega
  · by_cases hb : fp a
    · rw [gy a hb] at e; exact e
    · rw [gn a hb] at e; exact h.g a u e
  · by_cases hb : fp a
    · exact (hfr a hb).1
    · rw [gn a hb] at e; exact h.rg a u e
  · have e : (DB ++ DA)[i + B.length]? = some (some d) := by
      rw [List.getElem?_append_right (by omega), lb, Nat.add_sub_cancel]; exact hd
    obtain ⟨v, h1, h2⟩ := o.at_ _ _ e
    rw [List.getElem?_append_right (by omega), Nat.add_sub_cancel] at h1
    exact ⟨v, h1, h2⟩
  · have := o.dj (i + B.length) (j + B.length) b (by rw [lb]; exact liv_app.mpr hi) (by rw [lb]; exact liv_app.mpr hj) h1 h2
    omega
  · have hl : Liv (DB ++ DA) (i + B.length) := by rw [lb]; exact liv_app.mpr hi
    obtain ⟨h1, h2⟩ := o.fr _ b hl hb
    refine ⟨h1, ?_⟩
    by_cases hq : fp b
    · obtain ⟨j, hj, hlj, hbj⟩ := hq
      have := o.dj _ _ b hl hlj hb hbj
      omega
    · rw [gn b hq]; exact h2
  · obtain ⟨F2, o2⟩ := h'.own
    have lvB : ∀ {i : Nat} {DX : List (Option D)}, i < B.length → Liv (DB ++ DX) i → Liv (DB ++ DA) i := fun {i DX} hi hl => (liv_appl (by omega)).mpr ((liv_appl (by omega)).mp hl)
    have lvA : ∀ {i : Nat}, ¬ i < B.length → Liv (DB ++ DA') i → Liv DA' (i - B.length) := fun {i} hi hl => by
      refine (liv_app (DB := DB)).mp ?_
      rw [← lb, Nat.sub_add_cancel (by omega)]; exact hl
    refine ⟨?_, h'.r, fun a u e => h'.g a u (eg a u e), fun a u e => h'.rg a u (eg a u e), fun i => if i < B.length then F i else F2 (i - B.length), fun i d hd => ?_, fun i j b hi hj h1 h2 => ?_, fun i b hi hb => ?_⟩
    · rw [List.length_append, List.length_append, h'.len, lb]
    · by_cases hi : i < B.length
      · rw [List.getElem?_append_left (by omega)] at hd
        have hd' : (DB ++ DA)[i]? = some (some d) := by rw [List.getElem?_append_left (by omega)]; exact hd
        obtain ⟨v, h1, h2⟩ := o.at_ i d hd'
        rw [List.getElem?_append_left hi] at h1
        refine ⟨v, by rw [List.getElem?_append_left hi]; exact h1, ?_⟩
        simp only [if_pos hi]
        refine h2.mono eR.le fun b hb => ?_
        have hq : fp b := ⟨i, hi, ⟨d, hd'⟩, hb⟩
        obtain ⟨u, hu⟩ := hfp b hq
        rw [hu]
        exact h'.g b u (by rw [gy b hq]; exact hu)
      · rw [List.getElem?_append_right (by omega)] at hd
        obtain ⟨v, h1, h2⟩ := o2.at_ _ d hd
        refine ⟨v, by rw [List.getElem?_append_right (by omega), lb]; exact h1, ?_⟩
        simp only [if_neg hi]
        rw [lb]
        exact h2
    · have cross : ∀ i j, i < B.length → ¬ j < B.length → Liv (DB ++ DA') i → Liv (DB ++ DA') j → F i b → ¬ F2 (j - B.length) b := fun i j hi hj hli hlj h1 h2 => by
        have hq : fp b := ⟨i, hi, lvB hi hli, h1⟩
        obtain ⟨u, hu⟩ := hfp b hq
        have := (o2.fr _ b (lvA hj hlj) h2).2
        rw [gy b hq, hu] at this
        cases this
      by_cases hi' : i < B.length <;> by_cases hj' : j < B.length
      · rw [if_pos hi'] at h1; rw [if_pos hj'] at h2
        exact o.dj i j b (lvB hi' hi) (lvB hj' hj) h1 h2
      · rw [if_pos hi'] at h1; rw [if_neg hj'] at h2
        exact absurd h2 (cross i j hi' hj' hi hj h1)
      · rw [if_neg hi'] at h1; rw [if_pos hj'] at h2
        exact absurd h1 (cross j i hj' hi' hj hi h2)
      · rw [if_neg hi'] at h1; rw [if_neg hj'] at h2
        have := o2.dj _ _ b (lvA hi' hi) (lvA hj' hj) h1 h2
        omega
    · by_cases hi' : i < B.length
      · rw [if_pos hi'] at hb
        have hq : fp b := ⟨i, hi', lvB hi' hi, hb⟩
        obtain ⟨u, hu⟩ := hfp b hq
        exact ⟨h'.rg b u (by rw [gy b hq]; exact hu), (hfr b hq).2⟩
      · rw [if_neg hi'] at hb
        obtain ⟨h1, h2⟩ := o2.fr _ b (lvA hi' hi) hb
        refine ⟨h1, ?_⟩
        by_cases hq : fp b
        · exact (hfr b hq).2
        · rw [← gn b hq]; exact h2
/-- the cell i is frozen -/
theorem Rel.fzAt {i : Nat} {d : D} (h : Rel K N G R H L S) (hd : S[i]? = some (some d)) : ∃ R', Ex R R' ∧ Rel K N G R' H L (S.set i (some (fz d))) := by
  classical
  obtain ⟨F, o⟩ := h.own
  have hi : i < S.length := (List.getElem?_eq_some_iff.mp hd).1
  obtain ⟨v, h1, h2⟩ := o.at_ i d hd
  have lv : Liv S i := ⟨d, hd⟩
  let R' : Hp := fun b => if F i b then H b else R b
  have ry : ∀ b, F i b → R' b = H b := fun b hb => if_pos hb
  have rn : ∀ b, ¬ F i b → R' b = R b := fun b hb => if_neg hb
  have er : Ex R R' := fun a u e => by
    by_cases hb : F i a
    · rw [(o.fr i a lv hb).1] at e; cases e
    · rw [rn a hb]; exact e
  have lv' : ∀ j, Liv (S.set i (some (fz d))) j → Liv S j := fun j ⟨e, he⟩ => by
    by_cases hj : i = j
    · subst hj; exact lv
    · rw [List.getElem?_set_ne hj] at he; exact ⟨e, he⟩
  refine ⟨R', er, by rw [List.length_set]; exact h.len, fun a u e => ?_, h.g, fun a u e => ?_, fun j => if j = i then (fun _ => False) else F j, fun j e he => ?_, fun j k b hj hk h1 h2 => ?_, fun j b hj hb => ?_⟩
  · by_cases hb : F i a
    · rw [ry a hb] at e; exact e
    · rw [rn a hb] at e; exact h.r a u e
  · by_cases hb : F i a
    · rw [(o.fr i a lv hb).2] at e; cases e
    · rw [rn a hb]; exact h.rg a u e
  · by_cases hj : i = j
    · subst hj
      rw [List.getElem?_set_self hi] at he
      cases he
      exact ⟨v, h1, .p (h2.fz er.le ry) fun b hb => by simp at hb⟩
    · rw [List.getElem?_set_ne hj] at he
      obtain ⟨u, h3, h4⟩ := o.at_ j e he
      refine ⟨u, h3, ?_⟩
      simp only [if_neg (Ne.symm hj)]
      exact h4.mono er.le fun _ _ => rfl
  · by_cases hj' : j = i
    · rw [if_pos hj'] at h1; exact h1.elim
    · by_cases hk' : k = i
      · rw [if_pos hk'] at h2; exact h2.elim
      · rw [if_neg hj'] at h1; rw [if_neg hk'] at h2
        exact o.dj j k b (lv' j hj) (lv' k hk) h1 h2
  · by_cases hj' : j = i
    · rw [if_pos hj'] at hb; exact hb.elim
    · rw [if_neg hj'] at hb
      obtain ⟨h3, h4⟩ := o.fr j b (lv' j hj) hb
      refine ⟨?_, h4⟩
      by_cases hq : F i b
      · exact absurd (o.dj j i b (lv' j hj) lv hb hq) hj'
      · rw [rn b hq]; exact h3
end
end DL

set_option maxHeartbeats 4000000
/-! DL2: judgements: a piece of syntax and the heap-free function that it computes. -/
namespace DL
open PySem L2

abbrev S := List (Option D)
/-- an exception: its class, its own attributes -/
structure Xc where
  c : Nat
  fs : List Nat
  ds : List D
inductive Rs (α : Type) where
  | ok (a : α) (s : S) | ex (x : Xc) (s : S) | no
inductive Ro where
  | nx (s : S) | rt (d : D) (s : S) | bk (s : S) | ct (s : S) | ex (x : Xc) (s : S) | no
abbrev DE := S → Rs D
abbrev DT := S → Rs Bool
abbrev DA := S → Rs (List D)
abbrev DC := S → Ro
def Rs.bind {α β : Type} (r : Rs α) (f : α → S → Rs β) : Rs β := match r with
  | .ok a s => f a s
  | .ex x s => .ex x s
  | .no => .no

def XcAt (K : PySem.W.Frag) (N : Nm) (R : Hp) (x : Xc) (cls : Value) (dd : Option Addr) : Prop :=
  cls = .ref (N.cn x.c) ∧ match dd with
    | none => x.fs = [] ∧ x.ds = []
    | some d => ∃ xs : List V, R d = some (.xd ((x.fs.map N.fn).zip xs)) ∧ x.fs.length = xs.length ∧ xs.length = x.ds.length ∧ ∀ (j : Nat) v e, xs[j]? = some v → x.ds[j]? = some e → En K N R v e

section
variable (K : PySem.W.Frag) (N : Nm) (G R : Hp) (σ : L2.St) (W : WX)
/-- what is wanted behind a piece: P of what it gives -/
def Kg {α : Type} (P : α → S → Prop) (r : Rs α) : Prop := match r with
  | .ok a s' => P a s'
  | .ex x s' => ∀ R' H' c dd, Ex R R' → Rel K N G R' H' σ s' → XcAt K N R' x c dd → W c dd σ H'
  | .no => False
abbrev KE (Q : VK) : Rs D → Prop := Kg K N G R σ W fun d s' => ∀ R' H' v, Ex R R' → Rel K N G R' H' (some v :: σ) (some d :: s') → Q v H'
abbrev KT (Q : Bool → Hp → Prop) : Rs Bool → Prop := Kg K N G R σ W fun b s' => ∀ R' H', Ex R R' → Rel K N G R' H' σ s' → Q b H'
/-- what is lent: which argument is which slot -/
abbrev Lends := List (Option Nat)
abbrev KA (ls : Lends) (Q : List V → Hp → Prop) : Rs (List D) → Prop := Kg K N G R σ W fun ds s' => ∀ R' H' vs, Ex R R' → vs.length = ds.length → Rel K N G R' H' (vs.map some ++ σ) (ds.map some ++ s') →
  (∀ (j i : Nat), ls[j]? = some (some i) → ∃ v, vs[j]? = some v ∧ σ[i]? = some (some v)) → Q vs H'
/-- pr: the slots that are never stored anew -/
def KC (pr : Nat → Bool) (Dn : Ends) (r : Ro) : Prop := match r with
  | .nx s' => ∀ R' H' σ', Ex R R' → (∀ i, pr i = true → σ'[i]? = σ[i]?) → Rel K N G R' H' σ' s' → Dn.nx σ' H'
  | .rt d s' => ∀ R' H' σ' v, Ex R R' → (∀ i, pr i = true → σ'[i]? = σ[i]?) → Rel K N G R' H' (some v :: σ') (some d :: s') → Dn.rt v H'
  | .bk s' => ∀ R' H' σ', Ex R R' → (∀ i, pr i = true → σ'[i]? = σ[i]?) → Rel K N G R' H' σ' s' → Dn.bk σ' H'
  | .ct s' => ∀ R' H' σ', Ex R R' → (∀ i, pr i = true → σ'[i]? = σ[i]?) → Rel K N G R' H' σ' s' → Dn.ct σ' H'
  | .ex x s' => ∀ R' H' σ' c dd, Ex R R' → (∀ i, pr i = true → σ'[i]? = σ[i]?) → Rel K N G R' H' σ' s' → XcAt K N R' x c dd → W c dd σ' H'
  | .no => False
end
def SimE (K : PySem.W.Frag) (N : Nm) (W : WX) (te : TE) (m : DE) : Prop := ∀ G R H σ s Q, Rel K N G R H σ s → KE K N G R σ W Q (m s) → te σ H Q
def SimT (K : PySem.W.Frag) (N : Nm) (W : WX) (tt : TT) (m : DT) : Prop := ∀ G R H σ s Q, Rel K N G R H σ s → KT K N G R σ W Q (m s) → tt σ H Q
def SimA (K : PySem.W.Frag) (N : Nm) (W : WX) (ta : TA) (ls : Lends) (m : DA) : Prop := ∀ G R H σ s Q, Rel K N G R H σ s → KA K N G R σ W ls Q (m s) → ta σ H Q
def SimC (K : PySem.W.Frag) (N : Nm) (W : WX) (pr : Nat → Bool) (ts : TS) (m : DC) : Prop := ∀ G R H σ s Dn, Rel K N G R H σ s → KC K N G R σ W pr Dn (m s) → ts Dn σ H

section
variable {K : PySem.W.Frag} {N : Nm} {R R' R1 H H' H1 G G' : Hp} {v x y : V} {d : D} {f : Addr → Prop} {L L' A B σ : List (Option V)} {S' DA DB s s1 : List (Option D)} {W : WX}

/-! ### the relation, step by step -/
theorem Rel.top (h : Rel K N G R H (some v :: L) (some d :: s)) : ∃ f, Ow K N R H v d f ∧ ∀ b, f b → R b = none ∧ G b = none := by
  obtain ⟨F, o⟩ := h.own
  obtain ⟨u, h1, h2⟩ := o.at_ 0 d rfl
  cases h1
  exact ⟨F 0, h2, fun b hb => o.fr 0 b ⟨d, rfl⟩ hb⟩
theorem Rel.pop {x : Option V} {dx : Option D} (h : Rel K N G R H (x :: L) (dx :: s)) : Rel K N G R H L s :=
  h.re (by have := h.len; simpa using this) (fun i => i + 1) (fun i d e => ⟨by simpa using e, by simp⟩) fun i j _ _ e => by omega
theorem Rel.pops : ∀ {B : List (Option V)} {DB : List (Option D)}, Rel K N G R H (B ++ L) (DB ++ s) → B.length = DB.length → Rel K N G R H L s
  | [], [], h, _ => h
  | b :: B, e :: DB, h, l => Rel.pops (B := B) (DB := DB) h.pop (by simpa using l)
theorem Rel.push (h : Rel K N G R H L s) (e : En K N R v d) : Rel K N G R H (some v :: L) (some d :: s) := by
  obtain ⟨F, o⟩ := h.own
  refine ⟨by simp [h.len], h.r, h.g, h.rg, fun i => match i with | 0 => fun _ => False | i + 1 => F i, fun i d' hd => ?_, fun i j b hi hj h1 h2 => ?_, fun i b hi hb => ?_⟩
  · cases i with
    | zero => cases hd; exact ⟨v, rfl, .p e fun _ z => z⟩
    | succ i => exact o.at_ i d' hd
  · cases i with
    | zero => exact h1.elim
    | succ i =>
      cases j with
      | zero => exact h2.elim
      | succ j =>
        have := o.dj i j b hi hj h1 h2
        omega
  · cases i with
    | zero => exact hb.elim
    | succ i => exact o.fr i b hi hb
theorem Rel.dead {x : Option V} (h : Rel K N G R H L s) : Rel K N G R H (x :: L) (none :: s) :=
  h.re (by simp [h.len]) (fun i => i - 1) (fun i d e => by
    cases i with
    | zero => cases e
    | succ i => exact ⟨e, rfl⟩) fun i j ⟨d, hi⟩ ⟨d', hj⟩ e => by
    cases i with
    | zero => cases hi
    | succ i =>
      cases j with
      | zero => cases hj
      | succ j => simpa using e
/-- a slot's value comes to the top, the slot is dead -/
theorem Rel.move {i : Nat} (h : Rel K N G R H σ s) (e : s[i]? = some (some d)) : ∃ v, σ[i]? = some (some v) ∧ Rel K N G R H (some v :: σ) (some d :: s.set i none) := by
  obtain ⟨F, o⟩ := h.own
  obtain ⟨v, h1, h2⟩ := o.at_ i d e
  have hi : i < s.length := (List.getElem?_eq_some_iff.mp e).1
  refine ⟨v, h1, h.re (by simp [h.len]) (fun j => match j with | 0 => i | j + 1 => j) (fun j d' hd => ?_) fun j k hj hk ejk => ?_⟩
  · cases j with
    | zero => cases hd; exact ⟨e, h1.symm⟩
    | succ j =>
      have hd : (s.set i none)[j]? = some (some d') := hd
      by_cases hj : i = j
      · subst hj; rw [List.getElem?_set_self hi] at hd; cases hd
      · rw [List.getElem?_set_ne hj] at hd; exact ⟨hd, rfl⟩
  · have nl : ∀ j, Liv (some d :: s.set i none) (j + 1) → j ≠ i := fun j ⟨d', hd⟩ z => by
      subst z
      have hd : (s.set j none)[j]? = some (some d') := hd
      rw [List.getElem?_set_self hi] at hd; cases hd
    cases j with
    | zero =>
      cases k with
      | zero => rfl
      | succ k => exact absurd ejk.symm (nl k hk)
    | succ j =>
      cases k with
      | zero => exact absurd ejk (nl j hj)
      | succ k => have : j = k := ejk; omega
/-- the top goes to a slot -/
theorem Rel.store {i : Nat} (h : Rel K N G R H (some v :: σ) (some d :: s)) (hi : i < s.length) : Rel K N G R H (σ.set i (some v)) (s.set i (some d)) := by
  have hl : σ.length = s.length := by have := h.len; simpa using this
  refine h.re (by simp [hl]) (fun j => if j = i then 0 else j + 1) (fun j d' hd => ?_) fun j k hj hk e => ?_
  · by_cases hj : i = j
    · subst hj
      rw [List.getElem?_set_self hi] at hd; cases hd
      simp only [if_true]
      exact ⟨rfl, by rw [List.getElem?_set_self (by omega)]; rfl⟩
    · rw [List.getElem?_set_ne hj] at hd
      simp only [if_neg (Ne.symm hj)]
      exact ⟨hd, by rw [List.getElem?_set_ne hj]; rfl⟩
  · by_cases h1 : j = i <;> by_cases h2 : k = i <;> simp [h1, h2] at e <;> omega
theorem Rel.kill (h : Rel K N G R H σ s) (i : Nat) : Rel K N G R H σ (s.set i none) :=
  h.re (by simp [h.len]) id (fun j d hd => by
    by_cases hj : i = j
    · subst hj
      by_cases hi : i < s.length
      · rw [List.getElem?_set_self hi] at hd; cases hd
      · rw [List.getElem?_eq_none_iff.mpr (by simp; omega)] at hd; cases hd
    · rw [List.getElem?_set_ne hj] at hd; exact ⟨hd, rfl⟩) fun _ _ _ _ e => e
/-- the slot of a dead cell may hold anything -/
theorem Rel.any {i : Nat} {u : Option V} (h : Rel K N G R H σ s) : Rel K N G R H (σ.set i u) (s.set i none) :=
  h.re (by simp [h.len]) id (fun j d hd => by
    by_cases hj : i = j
    · subst hj
      by_cases hi : i < s.length
      · rw [List.getElem?_set_self hi] at hd; cases hd
      · rw [List.getElem?_eq_none_iff.mpr (by simp; omega)] at hd; cases hd
    · rw [List.getElem?_set_ne hj] at hd
      exact ⟨hd, by rw [List.getElem?_set_ne hj]; rfl⟩) fun _ _ _ _ e => e
theorem Rel.slot {i : Nat} (h : Rel K N G R H σ s) (e : s[i]? = some (some d)) : ∃ v f, σ[i]? = some (some v) ∧ Ow K N R H v d f ∧ ∀ b, f b → R b = none ∧ G b = none := by
  obtain ⟨F, o⟩ := h.own
  obtain ⟨v, h1, h2⟩ := o.at_ i d e
  exact ⟨v, F i, h1, h2, fun b hb => o.fr i b ⟨d, e⟩ hb⟩
theorem AtO.at' {a dx : Addr} {k : BK} {xs : List V} (h : AtO N H a dx k xs) : At K N H a k xs := h.at rfl
/-- a box, as it stands in the heap -/
theorem Ow.box {o : Bool} {k : BK} {ds : List D} (h : Ow K N R H v (.bx o k ds) f) (e : Ex R H) : ∃ a xs, v = .ref a ∧ At K N H a k xs ∧ xs.length = ds.length := by
  cases h with
  | p h hf =>
    cases h with
    | bx h l c => exact ⟨_, _, rfl, h.mono e.le, l⟩
  | bx F h l c hf na dj => exact ⟨_, _, rfl, h.at', l⟩
theorem fz_bx {o : Bool} {k : BK} {ds : List D} : fz (.bx o k ds) = .bx false k (ds.map fz) := by rw [fz, fzs_map]
theorem En.fz (h : En K N R v d) : En K N R v (fz d) := (Ow.p (H := R) (f := fun _ => False) h fun _ z => z).fz (Ex.refl R).le fun _ z => z.elim
/-- read: an own box is frozen -/
def rd : D → D
  | .bx true k ds => .bx false k (fzs ds)
  | d => d
theorem En.rd (h : En K N R v d) : En K N R v (rd d) := by
  cases h with
  | non => exact .non
  | bl b => exact .bl b
  | int i => exact .int i
  | str x => exact .str x
  | bx h l c => exact .bx h l c
theorem Ow.rd (h : Ow K N R H v d f) (e : LeR R R') (k : ∀ b, f b → R' b = H b) : En K N R' v (rd d) := by
  cases h with
  | p h hf => exact (h.mono e).rd
  | @bx a dx kk xs ds f F h l c hf na dj =>
    have := Ow.fz (.bx F h l c hf na dj) e k
    exact this
/-- an item of the box in the cell i, read: it is frozen where it stands -/
theorem Rel.item {i j : Nat} {o : Bool} {k : BK} {ds : List D} (h : Rel K N G R H σ s) (e : s[i]? = some (some (.bx o k ds))) (ej : ds[j]? = some d) :
    ∃ R' a xs v, Ex R R' ∧ Rel K N G R' H σ (s.set i (some (.bx o k (ds.set j (rd d))))) ∧ σ[i]? = some (some (.ref a)) ∧ At K N H a k xs ∧ xs.length = ds.length ∧ xs[j]? = some v ∧ En K N R' v (rd d) := by
  classical
  have hi : i < s.length := (List.getElem?_eq_some_iff.mp e).1
  have hj : j < ds.length := (List.getElem?_eq_some_iff.mp ej).1
  obtain ⟨F, ow⟩ := h.own
  obtain ⟨u, h1, h2⟩ := ow.at_ i _ e
  have lv : Liv s i := ⟨_, e⟩
  have lv' : ∀ k' (z : Option D), Liv (s.set i (some (.bx o k (ds.set j (rd d))))) k' → Liv s k' := fun k' _ ⟨q, hq⟩ => by
    by_cases hk : i = k'
    · subst hk; exact lv
    · rw [List.getElem?_set_ne hk] at hq; exact ⟨q, hq⟩
  cases h2 with
  | p h3 hf =>
    cases h3 with
    | @bx a _ xs _ h3 l c =>
      have ev : xs[j]? = some (xs[j]'(by omega)) := by simp [l, hj]
      refine ⟨R, a, xs, _, Ex.refl R, ⟨by simp [h.len], h.r, h.g, h.rg, F, fun i' d' hd => ?_, fun i' j' b hi' hj' => ow.dj i' j' b (lv' _ none hi') (lv' _ none hj'), fun i' b hi' => ow.fr i' b (lv' _ none hi')⟩, h1, h3.mono h.r.le, l, ev, (c j _ _ ev ej).rd⟩
      by_cases hk : i = i'
      · subst hk
        rw [List.getElem?_set_self hi] at hd; cases hd
        refine ⟨_, h1, .p (.bx h3 (by simpa using l) fun j' x d' hx hd' => ?_) hf⟩
        by_cases hjj : j = j'
        · subst hjj
          rw [List.getElem?_set_self hj] at hd'; cases hd'
          exact (c j x d hx ej).rd
        · rw [List.getElem?_set_ne hjj] at hd'; exact c j' x d' hx hd'
      · rw [List.getElem?_set_ne hk] at hd; exact ow.at_ i' d' hd
  | @bx a dx _ xs _ f F0 h3 l c hf na dj =>
    have ev : xs[j]? = some (xs[j]'(by omega)) := by simp [l, hj]
    have cj := c j _ _ ev ej
    have sub : ∀ b, F0 j b → F i b := fun b hb => (hf b).mpr (.inr (.inr ⟨j, hj, hb⟩))
    let R' : Hp := fun b => if F0 j b then H b else R b
    have ry : ∀ b, F0 j b → R' b = H b := fun b hb => if_pos hb
    have rn : ∀ b, ¬ F0 j b → R' b = R b := fun b hb => if_neg hb
    have er : Ex R R' := fun b q hq => by
      by_cases hb : F0 j b
      · rw [(ow.fr i b lv (sub b hb)).1] at hq; cases hq
      · rw [rn b hb]; exact hq
    let F' : Nat → Addr → Prop := fun m b => F m b ∧ ¬ F0 j b
    refine ⟨R', a, xs, _, er, ⟨by simp [h.len], fun b q hq => ?_, h.g, fun b q hq => ?_, F', fun i' d' hd => ?_, fun i' j' b hi' hj' p q => ow.dj i' j' b (lv' _ none hi') (lv' _ none hj') p.1 q.1, fun i' b hi' hb => ?_⟩, h1, h3.at', l, ev, cj.rd er.le ry⟩
    · by_cases hb : F0 j b
      · rw [ry b hb] at hq; exact hq
      · rw [rn b hb] at hq; exact h.r b q hq
    · by_cases hb : F0 j b
      · rw [(ow.fr i b lv (sub b hb)).2] at hq; cases hq
      · rw [rn b hb]; exact h.rg b q hq
    · by_cases hk : i = i'
      · subst hk
        rw [List.getElem?_set_self hi] at hd; cases hd
        refine ⟨_, h1, .bx (fun m b => F0 m b ∧ m ≠ j) h3 (by simpa using l) (fun m x d' hx hd' => ?_) (fun b => ?_) (fun m hm => ?_) fun m m' b hm hm' p q => ?_⟩
        · by_cases hjj : j = m
          · subst hjj
            rw [List.getElem?_set_self hj] at hd'; cases hd'
            rw [ev] at hx; cases hx
            exact .p (cj.rd er.le ry) fun b hb => hb.2 rfl
          · rw [List.getElem?_set_ne hjj] at hd'
            exact ((c m x d' hx hd').mono er.le fun _ _ => rfl).imp fun b => ⟨fun hb => ⟨hb, fun q => hjj q.symm⟩, fun hb => hb.1⟩
        · rw [List.length_set]
          constructor
          · rintro ⟨hb, nb⟩
            rcases (hf b).mp hb with q | q | ⟨m, hm, q⟩
            · exact .inl q
            · exact .inr (.inl q)
            · exact .inr (.inr ⟨m, hm, q, fun z => nb (z ▸ q)⟩)
          · rintro (q | q | ⟨m, hm, q, nm⟩)
            · exact ⟨(hf b).mpr (.inl q), fun z => (na j hj).1 (q ▸ z)⟩
            · exact ⟨(hf b).mpr (.inr (.inl q)), fun z => (na j hj).2 (q ▸ z)⟩
            · exact ⟨(hf b).mpr (.inr (.inr ⟨m, hm, q⟩)), fun z => nm (dj m j b hm hj q z)⟩
        · rw [List.length_set] at hm
          exact ⟨fun q => (na m hm).1 q.1, fun q => (na m hm).2 q.1⟩
        · rw [List.length_set] at hm hm'
          exact dj m m' b hm hm' p.1 q.1
      · rw [List.getElem?_set_ne hk] at hd
        obtain ⟨v', h4, h5⟩ := ow.at_ i' d' hd
        refine ⟨v', h4, (h5.mono er.le fun _ _ => rfl).imp fun b => ⟨fun hb => ⟨hb, fun q => ?_⟩, fun hb => hb.1⟩⟩
        exact hk (ow.dj i i' b lv ⟨_, hd⟩ (sub b q) hb)
    · obtain ⟨p, q⟩ := ow.fr i' b (lv' _ none hi') hb.1
      exact ⟨by rw [rn b hb.2]; exact p, q⟩

theorem frame1 {dx : D} (h : Rel K N G R H (some x :: A) (some dx :: DA)) :
    ∃ G', Ex G G' ∧ Rel K N G' R H A DA ∧ ∀ R' H' A' DA', Ex R R' → Rel K N G' R' H' A' DA' → Rel K N G R' H' (some x :: A') (some dx :: DA') := by
  obtain ⟨G', e, h1, h2⟩ := Rel.frame (B := [some x]) (DB := [some dx]) (A := A) (DA := DA) h rfl
  exact ⟨G', e, h1, fun R' H' A' DA' e r => h2 R' H' A' DA' e r⟩
theorem Kg.mono {α : Type} {P : α → S → Prop} {r : Rs α} (h : Kg K N G R σ W P r) (e : Ex R R1) : Kg K N G R1 σ W P r := by
  cases r with
  | ok a s' => exact h
  | ex x s' => exact fun R' H' c dd e2 => h R' H' c dd (e.trans e2)
  | no => exact h
theorem Kg.imp {α : Type} {P P' : α → S → Prop} {r : Rs α} (h : Kg K N G R σ W P r) (e : ∀ a s', P a s' → P' a s') : Kg K N G R σ W P' r := by
  cases r with
  | ok a s' => exact e a s' h
  | ex x s' => exact h
  | no => exact h
variable {te ta tb tc : TE} {m ma mb mc : DE}
theorem SimE.bind {α : Type} {P : α → S → Prop} {f : D → S → Rs α} {Q : VK} (h : SimE K N W te m) (rel : Rel K N G R H σ s) (hk : Kg K N G R σ W P ((m s).bind f))
    (fin : ∀ d s' R' H' v, Ex R R' → Rel K N G R' H' (some v :: σ) (some d :: s') → Kg K N G R' σ W P (f d s') → Q v H') : te σ H Q := by
  refine h G R H σ s Q rel ?_
  cases e : m s with
  | ok d s' =>
    rw [e] at hk
    exact fun R' H' v e1 r1 => fin d s' R' H' v e1 r1 (Kg.mono (r := f d s') hk e1)
  | ex x s' => rw [e] at hk; exact hk
  | no => rw [e] at hk; exact hk.elim
/-- a second one, the first one set aside -/
theorem SimE.bind1 {α : Type} {P : α → S → Prop} {f : D → S → Rs α} {Q : VK} {dx : D} (h : SimE K N W te m) (rel : Rel K N G R H (some x :: σ) (some dx :: s)) (hk : Kg K N G R σ W P ((m s).bind f))
    (fin : ∀ d s' R' H' v, Ex R R' → Rel K N G R' H' (some x :: some v :: σ) (some dx :: some d :: s') → Kg K N G R' σ W P (f d s') → Q v H') : te σ H Q := by
  obtain ⟨G', eg, r1, back⟩ := frame1 rel
  refine h G' R H σ s Q r1 ?_
  cases e : m s with
  | ok d s' =>
    rw [e] at hk
    exact fun R' H' v e1 r2 => fin d s' R' H' v e1 (back R' H' _ _ e1 r2) (Kg.mono (r := f d s') hk e1)
  | ex y s' =>
    rw [e] at hk
    exact fun R' H' c dd e1 r2 => hk R' H' c dd e1 (back R' H' _ _ e1 r2).pop
  | no => rw [e] at hk; exact hk.elim
theorem SimE.bin {α : Type} {P : α → S → Prop} {f : D → D → S → Rs α} {Rr : V → V → Hp → Prop} (ha : SimE K N W ta ma) (hb : SimE K N W tb mb) (rel : Rel K N G R H σ s)
    (hk : Kg K N G R σ W P ((ma s).bind fun da s1 => (mb s1).bind fun db s2 => f da db s2))
    (fin : ∀ da db s2 R2 H2 x y, Ex R R2 → Rel K N G R2 H2 (some x :: some y :: σ) (some da :: some db :: s2) → Kg K N G R2 σ W P (f da db s2) → Rr x y H2) :
    ta σ H fun x H1 => tb σ H1 fun y H2 => Rr x y H2 :=
  ha.bind rel hk fun da s1 R1 H1 x e1 r1 hk1 => hb.bind1 r1 hk1 fun db s2 R2 H2 y e2 r2 hk2 => fin da db s2 R2 H2 x y (e1.trans e2) r2 hk2
end
end DL

set_option maxHeartbeats 4000000
/-! DL3: expressions. -/
namespace DL
open PySem L2

def SE (N : Nm) (W : WX) (X : Cx) (e : Expr) (m : DE) : Prop := ∃ te, PE X e te ∧ SimE X.K N W te m
def ST (N : Nm) (W : WX) (X : Cx) (e : Expr) (m : DT) : Prop := ∃ tt, PT X e tt ∧ SimT X.K N W tt m
def SW (N : Nm) (W : WX) (X : Cx) (e : Expr) (m : DT) : Prop := ∃ tt, PW X e tt ∧ SimT X.K N W tt m
def SA (N : Nm) (W : WX) (X : Cx) (es : List Expr) (ls : Lends) (m : DA) : Prop := ∃ ta, PA X es ta ∧ SimA X.K N W ta ls m

/-! ### the functions without a heap -/
def dC (d : D) : DE := fun s => .ok d s
/-- a name, read and kept: what is own is frozen -/
def dVar (i : Nat) : DE := fun s => match s[i]? with
  | some (some d) => .ok (rd d) (s.set i (some (rd d)))
  | _ => .no
/-- a name, read for the last time -/
def dMv (i : Nat) : DE := fun s => match s[i]? with
  | some (some d) => .ok d (s.set i none)
  | _ => .no
def o2r (o : Option D) (s : S) : Rs D := match o with
  | some d => .ok d s
  | none => .no
def dOp (f : D → D → Option D) (ma mb : DE) : DE := fun s => (ma s).bind fun a s1 => (mb s1).bind fun b s2 => o2r (f a b) s2
def dUn (f : D → Option D) (ma : DE) : DE := fun s => (ma s).bind fun a s1 => o2r (f a) s1
def fI (g : Int → Int → Option D) : D → D → Option D
  | .int i, .int j => g i j
  | _, _ => none
/-- a bool as a test -/
def dB (m : DE) : DT := fun s => (m s).bind fun d s1 => match d with
  | .bl b => .ok b s1
  | _ => .no
def dNot (t : DT) : DT := fun s => (t s).bind fun b s1 => .ok (!b) s1
def dAnd (t u : DT) : DT := fun s => (t s).bind fun b s1 => if b = true then u s1 else .ok false s1
def dOr (t u : DT) : DT := fun s => (t s).bind fun b s1 => if b = true then .ok true s1 else u s1
def dAndV (ma mb : DE) : DE := fun s => (ma s).bind fun d s1 => match d with
  | .bl true => mb s1
  | .bl false => .ok (.bl false) s1
  | _ => .no
def dOrV (ma mb : DE) : DE := fun s => (ma s).bind fun d s1 => match d with
  | .bl false => mb s1
  | .bl true => .ok (.bl true) s1
  | _ => .no
def dNotV (ma : DE) : DE := fun s => (ma s).bind fun d s1 => match d with
  | .bl b => .ok (.bl (!b)) s1
  | _ => .no
def dIfE (t : DT) (ma mb : DE) : DE := fun s => (t s).bind fun b s1 => if b = true then ma s1 else mb s1
def dNil : DA := fun s => .ok [] s
def dCons (m : DE) (ms : DA) : DA := fun s => (m s).bind fun d s1 => (ms s1).bind fun ds s2 => .ok (d :: ds) s2
def lim : Nat := 16777216
theorem lim_eq : lim = sizeLine := by decide
def dTup (ms : DA) : DE := fun s => (ms s).bind fun ds s1 => if ds.length ≤ lim then .ok (dT (ds.map rd)) s1 else .no
def dLst (ms : DA) : DE := fun s => (ms s).bind fun ds s1 => if ds.length ≤ lim then .ok (mL ds) s1 else .no
/-- x < y < z -/
def dChain (f g : D → D → Option D) (ma mb mc : DE) : DE := fun s => (ma s).bind fun a s1 => (mb s1).bind fun b s2 => match f a b with
  | some (.bl true) => (match fz b with
    | .int j => (mc s2).bind fun c s3 => o2r (g (.int j) c) s3
    | _ => .no)
  | some (.bl false) => .ok (.bl false) s2
  | _ => .no
/-- an item of the box in slot i -/
def pick (s : S) (i j : Nat) : Rs D := match s[i]? with
  | some (some (.bx o k ds)) => (match ds[j]? with
    | some (.bx true k' es) => .ok (.bx false k' (fzs es)) (s.set i (some (.bx o k (ds.set j (.bx false k' (fzs es))))))
    | some d => .ok d s
    | none => .no)
  | _ => .no
def keyOf : D → Option Key
  | .int i => some (.inl i)
  | .str x => some (.inr x)
  | _ => none
/-- the place of an item -/
def place (k : BK) (n : Nat) (d : D) : Option Nat := match k with
  | .tup => (match d with
    | .int i => ixN n i
    | _ => none)
  | .lst => (match d with
    | .int i => ixN n i
    | _ => none)
  | .scr => (match d with
    | .int i => ixN n i
    | _ => none)
  | .dct ks => (keyOf d).bind fun k => (ks.findIdx? fun z => decide (z = k))
  | _ => none
/-- x[e], x in slot i -/
def dSubN (i : Nat) (m : DE) : DE := fun s => (m s).bind fun d s1 => match s1[i]? with
  | some (some (.bx o k ds)) => (match place k ds.length d with
    | some j => pick s1 i j
    | none => .no)
  | some (some (.str z)) => (match d with
    | .int n => if z.length ≤ lim then (match atI z.cps.toList n with
      | some c => .ok (.str ⟨#[c]⟩) s1
      | none => .no) else .no
    | _ => .no)
  | _ => .no
/-- e[e] -/
def subV (d e : D) : Option D := match d with
  | .bx o k ds => (place k ds.length e).bind fun j => (ds[j]?).map rd
  | .str z => (match e with
    | .int n => if z.length ≤ lim then (atI z.cps.toList n).map fun c => .str ⟨#[c]⟩ else none
    | _ => none)
  | _ => none

section
variable {K : PySem.W.Frag} {N : Nm} {R R' R1 H H' H1 G G' : Hp} {v x y : V} {d : D} {f : Addr → Prop} {L L' A B σ : List (Option V)} {s s1 : List (Option D)} {W : WX}
variable {te ta tb tc : TE} {m ma mb mc : DE} {tt tu : TT} {n t u : DT} {tl : TA} {ls : Lends} {ms : DA}

/-! ### they are what the readings compute -/
theorem simC (e : ∀ R, En K N R v d) : SimE K N W (tC v) (dC d) := fun G R H σ s Q rel hk => hk R H v (Ex.refl R) (rel.push (e R))
theorem Rel.read {i : Nat} (h : Rel K N G R H σ s) (e : s[i]? = some (some d)) : ∃ R' v, Ex R R' ∧ σ[i]? = some (some v) ∧ En K N R' v (rd d) ∧ Rel K N G R' H σ (s.set i (some (rd d))) := by
  by_cases ho : rd d = fz d
  · obtain ⟨R', e1, h1⟩ := h.fzAt e
    have hi : i < s.length := (List.getElem?_eq_some_iff.mp e).1
    obtain ⟨v, f, h2, h3, _⟩ := h1.slot (i := i) (d := fz d) (by rw [List.getElem?_set_self hi])
    refine ⟨R', v, e1, h2, ?_, by rw [ho]; exact h1⟩
    rw [ho]
    cases d with
    | bx o k ds =>
      cases h3 with
      | p h _ => exact h
    | _ => cases h3 with
      | p h _ => exact h
  · obtain ⟨v, f, h2, h3, _⟩ := h.slot e
    cases d with
    | bx o k ds =>
      cases o with
      | true => exact absurd rfl ho
      | false =>
        cases h3 with
        | p h3 _ =>
          refine ⟨R, v, Ex.refl R, h2, h3, ?_⟩
          have hi : i < s.length := (List.getElem?_eq_some_iff.mp e).1
          have : s.set i (some (rd (.bx false k ds))) = s := by
            have e2 : s[i] = some (.bx false k ds) := (List.getElem?_eq_some_iff.mp e).2
            show s.set i (some (.bx false k ds)) = s
            rw [← e2, List.set_getElem_self]
          rw [this]
          exact h
    | _ => exact absurd rfl ho
theorem sim_var (i : Nat) : SimE K N W (tVar i) (dVar i) := fun G R H σ s Q rel hk => by
  unfold dVar at hk
  cases e : s[i]? with
  | none => rw [e] at hk; exact hk.elim
  | some o =>
    cases o with
    | none => rw [e] at hk; exact hk.elim
    | some d =>
      rw [e] at hk
      obtain ⟨R', v, e1, h1, h2, h3⟩ := rel.read e
      exact ⟨v, h1, hk R' H v e1 (h3.push h2)⟩
theorem sim_mv (i : Nat) : SimE K N W (tVar i) (dMv i) := fun G R H σ s Q rel hk => by
  unfold dMv at hk
  cases e : s[i]? with
  | none => rw [e] at hk; exact hk.elim
  | some o =>
    cases o with
    | none => rw [e] at hk; exact hk.elim
    | some d =>
      rw [e] at hk
      obtain ⟨v, h1, h2⟩ := rel.move e
      exact ⟨v, h1, hk R H v (Ex.refl R) h2⟩

/-- a two-place operation by values -/
def OpSim (K : PySem.W.Frag) (N : Nm) (r : R2) (f : D → D → Option D) : Prop := ∀ G R H x y a b (L : List (Option V)) (s : S), Rel K N G R H (some x :: some y :: L) (some a :: some b :: s) → ∀ dz, f a b = some dz → ∀ Q : VK,
  (∀ R' H' z, Ex R R' → Rel K N G R' H' (some z :: L) (some dz :: s) → Q z H') → r x y H Q
def UnSim (K : PySem.W.Frag) (N : Nm) (r : V → Hp → VK → Prop) (f : D → Option D) : Prop := ∀ G R H x a (L : List (Option V)) (s : S), Rel K N G R H (some x :: L) (some a :: s) → ∀ dz, f a = some dz → ∀ Q : VK,
  (∀ R' H' z, Ex R R' → Rel K N G R' H' (some z :: L) (some dz :: s) → Q z H') → r x H Q
theorem o2r_some {o : Option D} {P : D → S → Prop} (hk : Kg K N G R σ W P (o2r o s)) : ∃ d, o = some d ∧ P d s := by
  cases o with
  | none => exact hk.elim
  | some d => exact ⟨d, rfl, hk⟩
theorem sim_op {r : R2} {f : D → D → Option D} (hr : OpSim K N r f) (ha : SimE K N W ta ma) (hb : SimE K N W tb mb) : SimE K N W (tOp r ta tb) (dOp f ma mb) := fun G R H σ s Q rel hk =>
  ha.bin hb rel hk fun da db s2 R2 H2 x y e2 r2 hk2 => by
    obtain ⟨dz, h1, h2⟩ := o2r_some hk2
    exact hr G R2 H2 x y da db σ s2 r2 dz h1 Q fun R' H' z e3 r3 => h2 R' H' z (e2.trans e3) r3
theorem sim_un {r : V → Hp → VK → Prop} {f : D → Option D} (hr : UnSim K N r f) (ha : SimE K N W ta ma) : SimE K N W (tUn r ta) (dUn f ma) := fun G R H σ s Q rel hk =>
  ha.bind rel hk fun da s2 R2 H2 x e2 r2 hk2 => by
    obtain ⟨dz, h1, h2⟩ := o2r_some hk2
    exact hr G R2 H2 x da σ s2 r2 dz h1 Q fun R' H' z e3 r3 => h2 R' H' z (e2.trans e3) r3
theorem OpSim.or {r r' : R2} {f g : D → D → Option D} (h : OpSim K N r f) (h' : OpSim K N r' g) : OpSim K N (fun x y H Q => r x y H Q ∨ r' x y H Q) (fun a b => (f a b).orElse fun _ => g a b) := fun G R H x y a b L s rel dz e Q hQ => by
  cases e1 : f a b with
  | some d =>
    simp only [e1, Option.orElse_some] at e
    exact .inl (h G R H x y a b L s rel dz (by rw [e1, e]) Q hQ)
  | none =>
    simp only [e1, Option.orElse_none] at e
    exact .inr (h' G R H x y a b L s rel dz e Q hQ)
theorem ow_int {i : Int} (h : Ow K N R H v (.int i) f) : v = .int i := by cases h with | p h _ => cases h; rfl
theorem ow_bl {b : Bool} (h : Ow K N R H v (.bl b) f) : v = .bl b := by cases h with | p h _ => cases h; rfl
theorem ow_str {z : Str} (h : Ow K N R H v (.str z) f) : v = .str z := by cases h with | p h _ => cases h; rfl
theorem ow_non (h : Ow K N R H v .non f) : v = .non := by cases h with | p h _ => cases h; rfl
theorem Rel.top2 {dx dy : D} (h : Rel K N G R H (some x :: some y :: L) (some dx :: some dy :: s)) : (∃ f, Ow K N R H x dx f ∧ ∀ b, f b → R b = none ∧ G b = none) ∧ ∃ f, Ow K N R H y dy f ∧ ∀ b, f b → R b = none ∧ G b = none := ⟨h.top, h.pop.top⟩
theorem os_I {C : Int → Int → Prop} {c : Int → Int → Bool} {p : Int → Int → Int} (hC : ∀ i j, c i j = true → C i j) : OpSim K N (rI C fun i j => .int (p i j)) (fI fun i j => if c i j = true then some (.int (p i j)) else none) := fun G R H x y a b L s rel dz e Q hQ => by
  obtain ⟨⟨f1, h1, _⟩, f2, h2, _⟩ := rel.top2
  cases a <;> try (cases e; done)
  cases b <;> try (cases e; done)
  rename_i i j
  have e : (if c i j = true then some (D.int (p i j)) else none) = some dz := e
  by_cases hc : c i j = true
  · rw [if_pos hc] at e; cases e
    exact ⟨i, j, ow_int h1, ow_int h2, hC i j hc, hQ R H _ (Ex.refl R) (rel.pop.pop.push (.int _))⟩
  · rw [if_neg hc] at e; cases e
theorem os_I0 {p : Int → Int → Int} : OpSim K N (rI0 fun i j => .int (p i j)) (fI fun i j => some (.int (p i j))) := fun G R H x y a b L s rel dz e Q hQ => by
  obtain ⟨⟨f1, h1, _⟩, f2, h2, _⟩ := rel.top2
  cases a <;> try (cases e; done)
  cases b <;> try (cases e; done)
  rename_i i j
  cases e
  exact ⟨i, j, ow_int h1, ow_int h2, hQ R H _ (Ex.refl R) (rel.pop.pop.push (.int _))⟩
theorem os_B0 {p : Int → Int → Bool} : OpSim K N (rI0 fun i j => .bl (p i j)) (fI fun i j => some (.bl (p i j))) := fun G R H x y a b L s rel dz e Q hQ => by
  obtain ⟨⟨f1, h1, _⟩, f2, h2, _⟩ := rel.top2
  cases a <;> try (cases e; done)
  cases b <;> try (cases e; done)
  rename_i i j
  cases e
  exact ⟨i, j, ow_int h1, ow_int h2, hQ R H _ (Ex.refl R) (rel.pop.pop.push (.bl _))⟩
theorem sim_B (h : SimE K N W te m) : SimT K N W (tB te) (dB m) := fun G R H σ s Q rel hk =>
  h.bind rel hk fun d s' R' H' v e r hk2 => by
    obtain ⟨f, h1, _⟩ := r.top
    cases d <;> try (exact hk2.elim)
    rename_i b
    exact ⟨b, ow_bl h1, hk2 R' H' e r.pop⟩
theorem SimT.bind {α : Type} {P : α → S → Prop} {f : Bool → S → Rs α} {Q : Bool → Hp → Prop} (h : SimT K N W tt t) (rel : Rel K N G R H σ s) (hk : Kg K N G R σ W P ((t s).bind f))
    (fin : ∀ d s' R' H', Ex R R' → Rel K N G R' H' σ s' → Kg K N G R' σ W P (f d s') → Q d H') : tt σ H Q := by
  refine h G R H σ s Q rel ?_
  cases e : t s with
  | ok d s' =>
    rw [e] at hk
    exact fun R' H' e1 r1 => fin d s' R' H' e1 r1 (Kg.mono (r := f d s') hk e1)
  | ex x s' => rw [e] at hk; exact hk
  | no => rw [e] at hk; exact hk.elim
theorem sim_not (h : SimT K N W tt t) : SimT K N W (tNot tt) (dNot t) := fun G R H σ s Q rel hk => h.bind rel hk fun d s' R' H' e r hk2 => hk2 R' H' e r
theorem Kg.up {α : Type} {P : α → S → Prop} {r : Rs α} {P' : α → S → Prop} (h : Kg K N G R σ W P r) (e : ∀ a s', P a s' → P' a s') : Kg K N G R σ W P' r := h.imp e
theorem sim_and (h : SimT K N W tt t) (h' : SimT K N W tu u) : SimT K N W (tAnd tt tu) (dAnd t u) := fun G R H σ s Q rel hk => h.bind rel hk fun d s' R' H' e r hk2 => by
  cases d with
  | true => exact h' G R' H' σ s' Q r (Kg.imp hk2 fun a s2 p R2 H2 e2 => p R2 H2 (e.trans e2))
  | false => exact hk2 R' H' e r
theorem sim_or (h : SimT K N W tt t) (h' : SimT K N W tu u) : SimT K N W (tOr tt tu) (dOr t u) := fun G R H σ s Q rel hk => h.bind rel hk fun d s' R' H' e r hk2 => by
  cases d with
  | false => exact h' G R' H' σ s' Q r (Kg.imp hk2 fun a s2 p R2 H2 e2 => p R2 H2 (e.trans e2))
  | true => exact hk2 R' H' e r
theorem sim_andV (h : SimE K N W ta ma) (h' : SimE K N W tb mb) : SimE K N W (tAndV ta tb) (dAndV ma mb) := fun G R H σ s Q rel hk => h.bind rel hk fun d s' R' H' v e r hk2 => by
  obtain ⟨f, h1, _⟩ := r.top
  cases d <;> try (exact hk2.elim)
  rename_i b
  refine ⟨b, ow_bl h1, ?_⟩
  cases b with
  | true => exact h' G R' H' σ s' Q r.pop (Kg.imp hk2 fun a s2 p R2 H2 v2 e2 => p R2 H2 v2 (e.trans e2))
  | false => exact hk2 R' H' _ e (r.pop.push (.bl false))
theorem sim_orV (h : SimE K N W ta ma) (h' : SimE K N W tb mb) : SimE K N W (tOrV ta tb) (dOrV ma mb) := fun G R H σ s Q rel hk => h.bind rel hk fun d s' R' H' v e r hk2 => by
  obtain ⟨f, h1, _⟩ := r.top
  cases d <;> try (exact hk2.elim)
  rename_i b
  refine ⟨b, ow_bl h1, ?_⟩
  cases b with
  | false => exact h' G R' H' σ s' Q r.pop (Kg.imp hk2 fun a s2 p R2 H2 v2 e2 => p R2 H2 v2 (e.trans e2))
  | true => exact hk2 R' H' _ e (r.pop.push (.bl true))
theorem sim_notV (h : SimE K N W ta ma) : SimE K N W (tNotV ta) (dNotV ma) := fun G R H σ s Q rel hk => h.bind rel hk fun d s' R' H' v e r hk2 => by
  obtain ⟨f, h1, _⟩ := r.top
  cases d <;> try (exact hk2.elim)
  rename_i b
  exact ⟨b, ow_bl h1, hk2 R' H' _ e (r.pop.push (.bl _))⟩
theorem sim_ifE (h : SimT K N W tt t) (ha : SimE K N W ta ma) (hb : SimE K N W tb mb) : SimE K N W (tIf tt ta tb) (dIfE t ma mb) := fun G R H σ s Q rel hk => h.bind rel hk fun d s' R' H' e r hk2 => by
  cases d with
  | true => exact ha G R' H' σ s' Q r (Kg.imp hk2 fun a s2 p R2 H2 v2 e2 => p R2 H2 v2 (e.trans e2))
  | false => exact hb G R' H' σ s' Q r (Kg.imp hk2 fun a s2 p R2 H2 v2 e2 => p R2 H2 v2 (e.trans e2))

/-! ### arguments -/
theorem sim_nil : SimA K N W tNil [] dNil := fun G R H σ s Q rel hk => hk R H [] (Ex.refl R) rfl rel fun j i h => by cases h
/-- L: whether the first one is a slot that is lent -/
theorem SimA.bind {α : Type} {P : α → S → Prop} {f : List D → S → Rs α} {Q : List V → Hp → Prop} (h : SimA K N W tl ls ms) (rel : Rel K N G R H σ s) (hk : Kg K N G R σ W P ((ms s).bind f))
    (fin : ∀ ds s' R' H' vs, Ex R R' → vs.length = ds.length → Rel K N G R' H' (vs.map some ++ σ) (ds.map some ++ s') → (∀ (j i : Nat), ls[j]? = some (some i) → ∃ v, vs[j]? = some v ∧ σ[i]? = some (some v)) → Kg K N G R' σ W P (f ds s') → Q vs H') : tl σ H Q := by
  refine h G R H σ s Q rel ?_
  cases e : ms s with
  | ok d s' =>
    rw [e] at hk
    exact fun R' H' vs e1 l r1 hl => fin d s' R' H' vs e1 l r1 hl (Kg.mono (r := f d s') hk e1)
  | ex x s' => rw [e] at hk; exact hk
  | no => rw [e] at hk; exact hk.elim
theorem sim_cons' {o : Option Nat} (h : SimE K N W te m) (ho : ∀ i, o = some i → te = tVar i) (hr : SimA K N W tl ls ms) : SimA K N W (tCons te tl) (o :: ls) (dCons m ms) := fun G R H σ s Q rel hk => by
  have hk' : Kg K N G R σ W _ ((m s).bind fun d s1 => (ms s1).bind fun ds s2 => .ok (d :: ds) s2) := hk
  have key : ∀ d s' R' H' v, Ex R R' → Rel K N G R' H' (some v :: σ) (some d :: s') → Kg K N G R' σ W (fun ds s' => ∀ R' H' vs, Ex R R' → vs.length = ds.length → Rel K N G R' H' (vs.map some ++ σ) (ds.map some ++ s') →
      (∀ (j i : Nat), (o :: ls)[j]? = some (some i) → ∃ v, vs[j]? = some v ∧ σ[i]? = some (some v)) → Q vs H') ((ms s').bind fun ds s2 => .ok (d :: ds) s2) → (∀ i, o = some i → σ[i]? = some (some v)) → tl σ H' fun vs H2 => Q (v :: vs) H2 := by
    intro d s' R' H' v e r hk2 hv
    obtain ⟨G', eg, r1, back⟩ := frame1 r
    refine hr G' R' H' σ s' _ r1 ?_
    cases e2 : ms s' with
    | ok ds s2 =>
      rw [e2] at hk2
      intro R2 H2 vs e3 l r2 hl
      refine hk2 R2 H2 (v :: vs) (e.trans e3) (by simp [l]) (back R2 H2 _ _ e3 r2) fun j i hj => ?_
      cases j with
      | zero => exact ⟨v, rfl, hv i (by simpa using hj)⟩
      | succ j => exact hl j i hj
    | ex x s2 =>
      rw [e2] at hk2
      exact fun R2 H2 c dd e3 r2 => hk2 R2 H2 c dd e3 (back R2 H2 _ _ e3 r2).pop
    | no => rw [e2] at hk2; exact hk2.elim
  cases o with
  | none => exact h.bind rel hk' fun d s' R' H' v e r hk2 => key d s' R' H' v e r hk2 fun i z => nomatch z
  | some i =>
    have et := ho i rfl
    subst et
    -- the slot's own value
    obtain ⟨v0, hv0⟩ : ∃ v0, tVar i σ H (fun v H1 => v = v0) → True := ⟨.non, fun _ => trivial⟩
    have hq : ∀ v, σ[i]? = some (some v) → tVar i σ H (fun v' H1 => v' = v ∧ tl σ H1 fun vs H2 => Q (v' :: vs) H2) → tVar i σ H (fun v' H1 => tl σ H1 fun vs H2 => Q (v' :: vs) H2) := fun v _ ⟨v', h1, _, h2⟩ => ⟨v', h1, h2⟩
    have main : ∃ v, σ[i]? = some (some v) := by
      cases e : σ[i]? with
      | none =>
        have := h.bind (Q := fun _ _ => True) rel hk' fun _ _ _ _ _ _ _ _ => trivial
        obtain ⟨v, h1, _⟩ := this
        rw [e] at h1; cases h1
      | some o =>
        cases o with
        | none =>
          have := h.bind (Q := fun _ _ => True) rel hk' fun _ _ _ _ _ _ _ _ => trivial
          obtain ⟨v, h1, _⟩ := this
          rw [e] at h1; cases h1
        | some v => exact ⟨v, rfl⟩
    obtain ⟨v, hv⟩ := main
    have : tVar i σ H (fun v' H1 => v' = v → tl σ H1 fun vs H2 => Q (v' :: vs) H2) := h.bind rel hk' fun d s' R' H' v' e r hk2 hvv => key d s' R' H' v' e r hk2 fun i' z => by
      cases z; rw [hvv]; exact hv
    obtain ⟨v', h1, h2⟩ := this
    rw [hv] at h1; cases h1
    exact ⟨v, hv, h2 rfl⟩
theorem sim_cons (h : SimE K N W te m) (hr : SimA K N W tl ls ms) : SimA K N W (tCons te tl) (none :: ls) (dCons m ms) := sim_cons' h (fun _ z => nomatch z) hr
theorem sim_lend (i : Nat) (hr : SimA K N W tl ls ms) : SimA K N W (tCons (tVar i) tl) (some i :: ls) (dCons (dMv i) ms) := sim_cons' (sim_mv i) (fun _ z => by cases z; rfl) hr
end
end DL

set_option maxHeartbeats 4000000
/-! DL4: displays, calls of defs, statements, defs. -/
namespace DL
open PySem L2
section
variable {K : PySem.W.Frag} {N : Nm} {R R' R1 H H' H1 G G' : Hp} {v x y : V} {d : D} {f : Addr → Prop} {L L' A B σ : List (Option V)} {s s1 : List (Option D)} {W : WX}
variable {te ta tb tc : TE} {m ma mb mc : DE} {tt tu : TT} {n t u : DT} {tl : TA} {ls : Lends} {ms : DA}

theorem en_of {d : D} (h : Ow K N R H v (fz d) f) : En K N R v (fz d) := by
  cases d <;> (cases h with | p h _ => exact h)
theorem Rel.fzAll : ∀ (xs : List V) (ds : List D) {R : Hp}, xs.length = ds.length → Rel K N G R H (xs.map some ++ L) (ds.map some ++ s) →
    ∃ R', Ex R R' ∧ Rel K N G R' H L s ∧ ∀ (j : Nat) x d, xs[j]? = some x → ds[j]? = some d → En K N R' x (fz d)
  | [], [], R, _, h => ⟨R, Ex.refl R, h, fun j x d z => by simp at z⟩
  | x :: xs, d :: ds, R, l, h => by
    obtain ⟨R1, e1, h1⟩ := Rel.fzAt (i := 0) (d := d) h rfl
    have h1 : Rel K N G R1 H (some x :: (xs.map some ++ L)) (some (fz d) :: (ds.map some ++ s)) := h1
    obtain ⟨f, h2, _⟩ := h1.top
    obtain ⟨R2, e2, h3, h4⟩ := Rel.fzAll xs ds (by simpa using l) h1.pop
    refine ⟨R2, e1.trans e2, h3, fun j x' d' hx hd => ?_⟩
    cases j with
    | zero => cases hx; cases hd; exact (en_of h2).mono e2.le
    | succ j => exact h4 j x' d' hx hd
theorem Rel.rdAll : ∀ (xs : List V) (ds : List D) {R : Hp}, xs.length = ds.length → Rel K N G R H (xs.map some ++ L) (ds.map some ++ s) →
    ∃ R', Ex R R' ∧ Rel K N G R' H L s ∧ ∀ (j : Nat) x d, xs[j]? = some x → ds[j]? = some d → En K N R' x (rd d)
  | [], [], R, _, h => ⟨R, Ex.refl R, h, fun j x d z => by simp at z⟩
  | x :: xs, d :: ds, R, l, h => by
    obtain ⟨R1, v, e1, h0, h2, h1⟩ := Rel.read (i := 0) (d := d) h rfl
    cases h0
    have h1 : Rel K N G R1 H (some x :: (xs.map some ++ L)) (some (rd d) :: (ds.map some ++ s)) := h1
    obtain ⟨R2, e2, h3, h4⟩ := Rel.rdAll xs ds (by simpa using l) h1.pop
    refine ⟨R2, e1.trans e2, h3, fun j x' d' hx hd => ?_⟩
    cases j with
    | zero => cases hx; cases hd; exact h2.mono e2.le
    | succ j => exact h4 j x' d' hx hd
/-- a new own box, of what lies on top -/
theorem Rel.box {xs : List V} {ds : List D} {k : BK} {p dx : Addr} (h : Rel K N G R H (xs.map some ++ L) (ds.map some ++ s)) (l : xs.length = ds.length) (hp : H p = none) (hdx : H dx = none)
    (keep : Ex H H') (at_ : AtO N H' p dx k xs) : Rel K N G R H' (some (.ref p) :: L) (some (.bx true k ds) :: s) := by
  obtain ⟨F, o⟩ := h.own
  have lv : ∀ j, j < ds.length → Liv (ds.map some ++ s) j := fun j hj => ⟨ds[j], by rw [List.getElem?_append_left (by simpa using hj)]; simp [hj]⟩
  have lv2 : ∀ i, Liv s i → Liv (ds.map some ++ s) (i + ds.length) := fun i ⟨d, e⟩ => ⟨d, by rw [List.getElem?_append_right (by simp)]; simpa using e⟩
  have nw : ∀ i b, Liv (ds.map some ++ s) i → F i b → b ≠ p ∧ b ≠ dx := fun i b ⟨d, e⟩ hb => by
    obtain ⟨v, _, h4⟩ := o.at_ i d e
    obtain ⟨u, hu⟩ := h4.some b hb
    exact ⟨fun z => (by rw [z, hp] at hu; cases hu), fun z => (by rw [z, hdx] at hu; cases hu)⟩
  have hl : L.length = s.length := by have := h.len; simp [l] at this; omega
  refine ⟨by simp [hl], h.r.trans keep, h.g.trans keep, h.rg, fun i => match i with | 0 => fun b => b = p ∨ b = dx ∨ ∃ j, j < ds.length ∧ F j b | i + 1 => F (i + ds.length), fun i d hd => ?_, fun i j b hi hj h1 h2 => ?_, fun i b hi hb => ?_⟩
  · cases i with
    | zero =>
      cases hd
      refine ⟨_, rfl, .bx F at_ l (fun j x d hx hd => ?_) (fun b => Iff.rfl) (fun j hj => ⟨fun z => (nw j p (lv j hj) z).1 rfl, fun z => (nw j dx (lv j hj) z).2 rfl⟩) fun i j b hi hj h1 h2 => o.dj i j b (lv i hi) (lv j hj) h1 h2⟩
      have hj : j < ds.length := (List.getElem?_eq_some_iff.mp hd).1
      obtain ⟨v, h1, h2⟩ := o.at_ j d (by rw [List.getElem?_append_left (by simpa using hj)]; simp [hd])
      rw [List.getElem?_append_left (by simpa [l] using hj)] at h1
      have : v = x := by simpa [hx] using h1.symm
      subst this
      refine h2.mono (Ex.refl R).le fun b hb => ?_
      obtain ⟨u, hu⟩ := h2.some b hb
      rw [hu, keep b u hu]
    | succ i =>
      have hd : s[i]? = some (some d) := hd
      obtain ⟨v, h1, h2⟩ := o.at_ (i + ds.length) d (by rw [List.getElem?_append_right (by simp)]; simpa using hd)
      refine ⟨v, by rw [List.getElem?_append_right (by simp [l])] at h1; simpa [l] using h1, h2.mono (Ex.refl R).le fun b hb => ?_⟩
      obtain ⟨u, hu⟩ := h2.some b hb
      rw [hu, keep b u hu]
  · have cross : ∀ i, Liv s i → (b = p ∨ b = dx ∨ ∃ j, j < ds.length ∧ F j b) → ¬ F (i + ds.length) b := fun i hi hz hF => by
      rcases hz with z | z | ⟨j, hj, z⟩
      · exact (nw _ b (lv2 i hi) hF).1 z
      · exact (nw _ b (lv2 i hi) hF).2 z
      · have := o.dj j _ b (lv j hj) (lv2 i hi) z hF
        omega
    cases i with
    | zero =>
      cases j with
      | zero => rfl
      | succ j => exact absurd h2 (cross j hj h1)
    | succ i =>
      cases j with
      | zero => exact absurd h1 (cross i hi h2)
      | succ j =>
        have := o.dj _ _ b (lv2 i hi) (lv2 j hj) h1 h2
        omega
  · cases i with
    | zero =>
      rcases hb with z | z | ⟨j, hj, z⟩
      · subst z
        exact ⟨h.r.none hp, h.g.none hp⟩
      · subst z
        exact ⟨h.r.none hdx, h.g.none hdx⟩
      · exact o.fr j b (lv j hj) z
    | succ i => exact o.fr _ b (lv2 i hi) hb
theorem Rel.newL {xs : List V} {ds : List D} {p : Addr} (h : Rel K N G R H (xs.map some ++ L) (ds.map some ++ s)) (l : xs.length = ds.length) (hp : H p = none) : Rel K N G R (upd H p (.lst xs)) (some (.ref p) :: L) (some (mL ds) :: s) :=
  h.box l hp hp (Ex.new hp) ⟨rfl, upd_same⟩
/-- a new tuple of persistent things -/
theorem Rel.newT {xs : List V} {ds : List D} {p : Addr} (h : Rel K N G R H (xs.map some ++ L) (ds.map some ++ s)) (l : xs.length = ds.length) (hp : H p = none) :
    ∃ R', Ex R R' ∧ Rel K N G R' (upd H p (.tup xs)) (some (.ref p) :: L) (some (dT (ds.map rd)) :: s) := by
  obtain ⟨R1, e1, h1, h2⟩ := Rel.rdAll xs ds l h
  have rp : R1 p = none := h1.r.none hp
  refine ⟨upd R1 p (.tup xs), e1.trans (Ex.new rp), (h1.newP hp).push (.bx (Or.inl (Or.inl upd_same)) (by simpa using l) fun j x d hx hd => ?_)⟩
  rw [List.getElem?_map] at hd
  obtain ⟨d', hd', rfl⟩ := Option.map_eq_some_iff.mp hd
  exact (h2 j x d' hx hd').mono (Ex.new rp).le
theorem sim_tup (h : SimA K N W tl ls ms) : SimE K N W (tTup tl) (dTup ms) := fun G R H σ s Q rel hk =>
  h.bind rel hk fun ds s' R' H' vs e l r _ hk2 => by
    by_cases hz : ds.length ≤ lim
    · rw [if_pos hz] at hk2
      refine ⟨by rw [l]; exact hz, fun p hp => ?_⟩
      obtain ⟨R2, e2, r2⟩ := r.newT l hp
      exact hk2 R2 _ _ (e.trans e2) r2
    · rw [if_neg hz] at hk2; exact hk2.elim
theorem sim_lst (h : SimA K N W tl ls ms) : SimE K N W (tLst tl) (dLst ms) := fun G R H σ s Q rel hk =>
  h.bind rel hk fun ds s' R' H' vs e l r _ hk2 => by
    by_cases hz : ds.length ≤ lim
    · rw [if_pos hz] at hk2
      exact ⟨by rw [l]; exact hz, fun p hp => hk2 R' _ _ e (r.newL l hp)⟩
    · rw [if_neg hz] at hk2; exact hk2.elim

/-! ### calls of defs -/
/-- what was lent comes back -/
def gb : Lends → S → S → S
  | some i :: ls, p :: ps, s => gb ls ps (s.set i p)
  | none :: ls, _ :: ps, s => gb ls ps s
  | _, _, s => s
/-- the promise of a def: it computes F -/
def SpD (K : PySem.W.Frag) (N : Nm) (n : Nat) (F : List D → Rs D) : Sp := fun vs H Q E => vs.length = n ∧ ∃ G R ds, ds.length = n ∧ Rel K N G R H (vs.map some) (ds.map some) ∧ match F ds with
  | .ok d ps => ∀ R' H' v, Ex R R' → Rel K N G R' H' (some v :: vs.map some) (some d :: ps) → Q v H'
  | .ex x ps => ∀ R' H' c dd, Ex R R' → Rel K N G R' H' (vs.map some) ps → XcAt K N R' x c dd → E c dd H'
  | .no => False
def dCall (n : Nat) (F : List D → Rs D) (ls : Lends) (ms : DA) : DE := fun s => (ms s).bind fun ds s1 => if ds.length = n then (match F ds with
  | .ok d ps => .ok d (gb ls ps s1)
  | .ex x ps => .ex x (gb ls ps s1)
  | .no => .no) else .no
theorem Rel.gb : ∀ (vs : List V) (ps : S) (ls : Lends) {s : S}, vs.length = ps.length → (∀ (j i : Nat), ls[j]? = some (some i) → ∃ v, vs[j]? = some v ∧ σ[i]? = some (some v)) →
    Rel K N G R H (vs.map some ++ σ) (ps ++ s) → Rel K N G R H σ (gb ls ps s)
  | [], [], ls, s, _, _, h => by
    have : DL.gb ls [] s = s := by
      cases ls with
      | nil => rfl
      | cons o ls => cases o <;> rfl
    rw [this]; exact h
  | v :: vs, p :: ps, [], s, l, hl, h => by
    show Rel K N G R H σ s
    exact Rel.pops (B := (v :: vs).map some) (DB := p :: ps) h (by simpa using l)
  | v :: vs, p :: ps, none :: ls, s, l, hl, h => Rel.gb vs ps ls (by simpa using l) (fun j i hj => hl (j + 1) i hj) (Rel.pop h)
  | v :: vs, p :: ps, some i :: ls, s, l, hl, h => by
    have l' : vs.length = ps.length := by simpa using l
    refine Rel.gb vs ps ls l' (fun j i hj => hl (j + 1) i hj) ?_
    obtain ⟨v', h1, h2⟩ := hl 0 i rfl
    cases h1
    have hi : i < σ.length := (List.getElem?_eq_some_iff.mp h2).1
    have e1 : ps ++ s.set i p = (ps ++ s).set (ps.length + i) p := by
      rw [List.set_append_right _ _ (by omega), Nat.add_sub_cancel_left]
    have e2 : (vs.map some ++ σ).set (ps.length + i) (some v) = vs.map some ++ σ := by
      rw [List.set_append_right _ _ (by simp [l']), List.length_map, l', Nat.add_sub_cancel_left]
      congr 1
      have e3 : σ[i] = some v := (List.getElem?_eq_some_iff.mp h2).2
      rw [← e3, List.set_getElem_self]
    rw [e1]
    cases p with
    | none => exact (Rel.pop h).kill _
    | some d =>
      have hs : ps.length + i < (ps ++ s).length := by
        have := h.len
        simp at this ⊢
        omega
      have := Rel.store (σ := vs.map some ++ σ) (v := v) (d := d) h hs
      rw [e2] at this
      exact this
theorem Rel.rot {A B : List (Option V)} {DA DB : List (Option D)} (h : Rel K N G R H (A ++ B) (DA ++ DB)) (l : A.length = DA.length) : Rel K N G R H (B ++ A) (DB ++ DA) := by
  have hl : B.length = DB.length := by have := h.len; simp [l] at this; omega
  refine h.re (by simp [l, hl]) (fun i => if i < B.length then i + A.length else i - B.length) (fun i d hd => ?_) fun i j hi hj e => ?_
  · by_cases hi : i < B.length
    · rw [List.getElem?_append_left (by omega)] at hd
      simp only [if_pos hi]
      rw [List.getElem?_append_left hi, List.getElem?_append_right (by omega), List.getElem?_append_right (by omega)]
      simp [l, hd]
    · rw [List.getElem?_append_right (by omega)] at hd
      have hi2 : i - B.length < A.length := by
        have := (List.getElem?_eq_some_iff.mp hd).1
        omega
      simp only [if_neg hi]
      refine ⟨?_, ?_⟩
      · rw [List.getElem?_append_left (by omega), hl]; exact hd
      · rw [List.getElem?_append_right (by omega), List.getElem?_append_left hi2]
  · have b : ∀ i, Liv (DB ++ DA) i → i < B.length + A.length := fun i ⟨d, hd⟩ => by
      have := (List.getElem?_eq_some_iff.mp hd).1
      simp at this
      omega
    have := b i hi
    have := b j hj
    by_cases h1 : i < B.length <;> by_cases h2 : j < B.length <;> simp [h1, h2] at e <;> omega
theorem sim_call {n : Nat} {F : List D → Rs D} (h : SimA K N W tl ls ms) : SimE K N W (tCallS (SpD K N n F) (WE W) tl) (dCall n F ls ms) := fun G R H σ s Q rel hk =>
  h.bind rel hk fun ds s' R' H' vs e l r hl hk2 => by
    by_cases hz : ds.length = n
    · rw [if_pos hz] at hk2
      obtain ⟨G', eg, r1, back⟩ := Rel.frame (r.rot (by simp [l])) (by have := r.len; simp [l] at this; omega)
      refine ⟨by omega, G', R', ds, hz, r1, ?_⟩
      have fin : ∀ R2 H2 ps, Ex R' R2 → Rel K N G' R2 H2 (vs.map some) ps → Rel K N G R2 H2 σ (DL.gb ls ps s') := fun R2 H2 ps e2 r2 => by
        have lp := r2.len
        refine Rel.gb vs ps ls (by simpa using lp) hl ((back R2 H2 _ _ e2 r2).rot ?_)
        have := r.len; simp [l] at this; omega
      cases eF : F ds with
      | ok d ps =>
        rw [eF] at hk2
        intro R2 H2 v e2 r2
        refine hk2 R2 H2 v (e.trans e2) ?_
        have lp := r2.len
        have r3 := back R2 H2 _ _ e2 r2
        have hls : σ.length = s'.length := by have := r.len; simp [l] at this; omega
        have r4 : Rel K N G R2 H2 (some v :: (vs.map some ++ σ)) (some d :: (ps ++ s')) := r3.rot hls
        obtain ⟨G2, eg2, r5, back2⟩ := frame1 r4
        exact back2 R2 H2 _ _ (Ex.refl R2) (Rel.gb vs ps ls (by simpa using lp) hl r5)
      | ex x ps =>
        rw [eF] at hk2
        exact fun R2 H2 c dd e2 r2 hx => hk2 R2 H2 c dd e2 (fin R2 H2 ps e2 r2) hx
      | no => rw [eF] at hk2; exact hk2.elim
    · rw [if_neg hz] at hk2; exact hk2.elim

/-! ### statements -/
def rb {α : Type} (r : Rs α) (f : α → S → Ro) : Ro := match r with
  | .ok a s => f a s
  | .ex x s => .ex x s
  | .no => .no
def dSkip : DC := fun s => .nx s
def dSeq (a b : DC) : DC := fun s => match a s with
  | .nx s1 => b s1
  | r => r
def dAsg (i : Nat) (m : DE) : DC := fun s => rb (m s) fun d s1 => if i < s1.length then .nx (s1.set i (some d)) else .no
def dExpr (m : DE) : DC := fun s => rb (m s) fun _ s1 => .nx s1
def dRet (m : DE) : DC := fun s => rb (m s) fun d s1 => .rt d s1
def dIf (t : DT) (a b : DC) : DC := fun s => rb (t s) fun c s1 => if c = true then a s1 else b s1
def dBrk : DC := fun s => .bk s
def dCnt : DC := fun s => .ct s

variable {pr : Nat → Bool} {Dn : Ends} {ts tv : TS} {a b : DC}
theorem KC.mono {r : Ro} (h : KC K N G R σ W pr Dn r) (e : Ex R R1) : KC K N G R1 σ W pr Dn r := by
  cases r with
  | nx s' => exact fun R' H' σ' e1 p r1 => h R' H' σ' (e.trans e1) p r1
  | rt d s' => exact fun R' H' σ' v e1 p r1 => h R' H' σ' v (e.trans e1) p r1
  | bk s' => exact fun R' H' σ' e1 p r1 => h R' H' σ' (e.trans e1) p r1
  | ct s' => exact fun R' H' σ' e1 p r1 => h R' H' σ' (e.trans e1) p r1
  | ex x s' => exact fun R' H' σ' c dd e1 p r1 hx => h R' H' σ' c dd (e.trans e1) p r1 hx
  | no => exact h
theorem KC.at {r : Ro} {σ1 : L2.St} (h : KC K N G R σ W pr Dn r) (e : ∀ i, pr i = true → σ1[i]? = σ[i]?) : KC K N G R σ1 W pr Dn r := by
  cases r with
  | nx s' => exact fun R' H' σ' e1 p r1 => h R' H' σ' e1 (fun i hi => (p i hi).trans (e i hi)) r1
  | rt d s' => exact fun R' H' σ' v e1 p r1 => h R' H' σ' v e1 (fun i hi => (p i hi).trans (e i hi)) r1
  | bk s' => exact fun R' H' σ' e1 p r1 => h R' H' σ' e1 (fun i hi => (p i hi).trans (e i hi)) r1
  | ct s' => exact fun R' H' σ' e1 p r1 => h R' H' σ' e1 (fun i hi => (p i hi).trans (e i hi)) r1
  | ex x s' => exact fun R' H' σ' c dd e1 p r1 hx => h R' H' σ' c dd e1 (fun i hi => (p i hi).trans (e i hi)) r1 hx
  | no => exact h
theorem SimE.bindC {f : D → S → Ro} {Q : VK} (h : SimE K N W te m) (rel : Rel K N G R H σ s) (hk : KC K N G R σ W pr Dn (rb (m s) f))
    (fin : ∀ d s' R' H' v, Ex R R' → Rel K N G R' H' (some v :: σ) (some d :: s') → KC K N G R' σ W pr Dn (f d s') → Q v H') : te σ H Q := by
  refine h G R H σ s Q rel ?_
  cases e : m s with
  | ok d s' =>
    rw [e] at hk
    exact fun R' H' v e1 r1 => fin d s' R' H' v e1 r1 (KC.mono (r := f d s') hk e1)
  | ex x s' => rw [e] at hk; exact fun R' H' c dd e1 r1 hx => hk R' H' σ c dd e1 (fun _ _ => rfl) r1 hx
  | no => rw [e] at hk; exact hk.elim
theorem SimT.bindC {f : Bool → S → Ro} {Q : Bool → Hp → Prop} (h : SimT K N W tt t) (rel : Rel K N G R H σ s) (hk : KC K N G R σ W pr Dn (rb (t s) f))
    (fin : ∀ d s' R' H', Ex R R' → Rel K N G R' H' σ s' → KC K N G R' σ W pr Dn (f d s') → Q d H') : tt σ H Q := by
  refine h G R H σ s Q rel ?_
  cases e : t s with
  | ok d s' =>
    rw [e] at hk
    exact fun R' H' e1 r1 => fin d s' R' H' e1 r1 (KC.mono (r := f d s') hk e1)
  | ex x s' => rw [e] at hk; exact fun R' H' c dd e1 r1 hx => hk R' H' σ c dd e1 (fun _ _ => rfl) r1 hx
  | no => rw [e] at hk; exact hk.elim
theorem sim_skip : SimC K N W pr tNext dSkip := fun G R H σ s Dn rel hk => hk R H σ (Ex.refl R) (fun _ _ => rfl) rel
theorem sim_brk : SimC K N W pr tBreak dBrk := fun G R H σ s Dn rel hk => hk R H σ (Ex.refl R) (fun _ _ => rfl) rel
theorem sim_cnt : SimC K N W pr tCont dCnt := fun G R H σ s Dn rel hk => hk R H σ (Ex.refl R) (fun _ _ => rfl) rel
theorem sim_seq (h : SimC K N W pr ts a) (h' : SimC K N W pr tv b) : SimC K N W pr (tSeq ts tv) (dSeq a b) := fun G R H σ s Dn rel hk => by
  refine h G R H σ s _ rel ?_
  unfold dSeq at hk
  cases e : a s with
  | nx s1 =>
    rw [e] at hk
    exact fun R' H' σ' e1 p r1 => h' G R' H' σ' s1 Dn r1 ((KC.mono (r := b s1) hk e1).at p)
  | rt d s1 => rw [e] at hk; exact hk
  | bk s1 => rw [e] at hk; exact hk
  | ct s1 => rw [e] at hk; exact hk
  | ex x s1 => rw [e] at hk; exact hk
  | no => rw [e] at hk; exact hk
theorem set_keep {i j : Nat} {o : Option V} (h : pr i = false) (hj : pr j = true) : (σ.set i o)[j]? = σ[j]? := by
  rw [List.getElem?_set_ne]
  intro z; subst z; rw [h] at hj; cases hj
theorem sim_asg {i : Nat} (hp : pr i = false) (h : SimE K N W te m) : SimC K N W pr (tAsg te (gName i)) (dAsg i m) := fun G R H σ s Dn rel hk =>
  h.bindC rel hk fun d s' R' H' v e r hk2 => by
    by_cases hi : i < s'.length
    · rw [if_pos hi] at hk2
      exact hk2 R' H' _ (Ex.refl R') (fun j hj => set_keep hp hj) (r.store hi)
    · rw [if_neg hi] at hk2; exact hk2.elim
theorem sim_expr (h : SimE K N W te m) : SimC K N W pr (tDrop te) (dExpr m) := fun G R H σ s Dn rel hk =>
  h.bindC rel hk fun d s' R' H' v e r hk2 => hk2 R' H' σ (Ex.refl R') (fun _ _ => rfl) r.pop
theorem sim_ret (h : SimE K N W te m) : SimC K N W pr (tRet te) (dRet m) := fun G R H σ s Dn rel hk =>
  h.bindC rel hk fun d s' R' H' v e r hk2 => hk2 R' H' σ v (Ex.refl R') (fun _ _ => rfl) r
theorem sim_retN : SimC K N W pr tRetN (dRet (dC .non)) := fun G R H σ s Dn rel hk => hk R H σ .non (Ex.refl R) (fun _ _ => rfl) (rel.push .non)
theorem sim_if (h : SimT K N W tt t) (ha : SimC K N W pr ts a) (hb : SimC K N W pr tv b) : SimC K N W pr (tIfS tt ts tv) (dIf t a b) := fun G R H σ s Dn rel hk =>
  h.bindC rel hk fun d s' R' H' e r hk2 => by
    cases d with
    | true => exact ha G R' H' σ s' Dn r hk2
    | false => exact hb G R' H' σ s' Dn r hk2
end

/-! ### judgements of statements -/
def SS (N : Nm) (W : WX) (pr : Nat → Bool) (X : Cx) (st : Stmt) (m : DC) : Prop := ∃ ts, PS X st ts ∧ SimC X.K N W pr ts m
def SSs (N : Nm) (W : WX) (pr : Nat → Bool) (X : Cx) (st : List Stmt) (m : DC) : Prop := ∃ ts, PSs X st ts ∧ SimC X.K N W pr ts m

/-! ### a def -/
def msk : List Bool → S → S
  | b :: bs, x :: s => (if b = true then x else none) :: msk bs s
  | b :: bs, [] => none :: msk bs []
  | [], _ => []
def prOf (pm : List Bool) (i : Nat) : Bool := pm.getD i false
def fnOf (pm : List Bool) (k : Nat) (body : DC) : List D → Rs D := fun ds => if ds.length = pm.length then (match body (ds.map some ++ List.replicate k none) with
  | .nx s' => .ok .non (msk pm s')
  | .rt d s' => .ok d (msk pm s')
  | .ex x s' => .ex x (msk pm s')
  | _ => .no) else .no
theorem msk_len : ∀ (pm : List Bool) (s : S), (msk pm s).length = pm.length
  | [], [] => rfl
  | [], _ :: _ => rfl
  | b :: bs, x :: s => by
    show (msk bs s).length + 1 = _
    rw [msk_len bs s]
    rfl
  | b :: bs, [] => by
    show (msk bs []).length + 1 = _
    rw [msk_len bs []]
    rfl
theorem msk_at : ∀ (pm : List Bool) (s : S) (i : Nat) (d : D), (msk pm s)[i]? = some (some d) → prOf pm i = true ∧ s[i]? = some (some d)
  | [], [], i, d, h => by cases h
  | [], _ :: _, i, d, h => by cases h
  | b :: bs, [], 0, d, h => by cases h
  | b :: bs, [], i + 1, d, h => by
    obtain ⟨h1, h2⟩ := msk_at bs [] i d h
    cases h2
  | b :: bs, x :: s, 0, d, h => by
    have h : some (if b = true then x else none) = some (some d) := h
    cases b with
    | true => exact ⟨rfl, by simpa using h⟩
    | false => simp at h
  | b :: bs, x :: s, i + 1, d, h => by
    obtain ⟨h1, h2⟩ := msk_at bs s i d h
    exact ⟨by simpa [prOf] using h1, h2⟩
section
variable {P : Program} {w : World} {K : PySem.W.Frag} {mg : Str → Option Value} {base : Heap} {N : Nm}
theorem def_ok {x qual : Str} {st : Stmt} {f : Addr} {fd : FuncData} {Ns ps : List Str} {k e : Nat} {pm : List Bool} {body : DC} (F : Fun K x qual st f fd) (Sc : FnScope Ns ps (defScope st)) (hpm : pm.length = ps.length) (hk : Ns.length - ps.length = e)
    (hb : ∀ (cdv : Value) (A : Around) (outer : List Env) (s : Shared) (H : Hp) (E : XK), Room k (A.deeper (PyProof.Rows.envOfC qual (defScope st) s.heap.objs.size f cdv)) →
      SSs N (fun c d _ H => E c d H) (prOf pm) (cxOf (L2.CX P w) P w K mg base Ns qual (defScope st) f cdv A outer s H E) (defBody st) body) :
    FnOk P w K mg base (L2.CX P w) (k + 1) f fd ps (SpD K N ps.length (fnOf pm e body)) := by
  refine F.okX Sc (fun vs H Q E h => h.1) fun cdv A outer s H vs Q E hr h => ?_
  obtain ⟨ts, h1, h2⟩ := hb cdv A outer s H E hr
  refine ⟨ts, h1, ?_⟩
  obtain ⟨lv, G, R, ds, ld, rel, hk2⟩ := h
  have est : start Ns vs = vs.map some ++ List.replicate e none := by
    show vs.map some ++ List.replicate (Ns.length - vs.length) none = _
    rw [lv, hk]
  have rep : ∀ (n : Nat) (L : List (Option V)) (S : List (Option D)), Rel K N G R H L S → Rel K N G R H (L ++ List.replicate n none) (S ++ List.replicate n none) := fun n L S r => by
    refine r.re (by simp [r.len]) id (fun i d hd => ?_) fun _ _ _ _ z => z
    by_cases hi : i < S.length
    · rw [List.getElem?_append_left hi] at hd
      exact ⟨hd, by rw [List.getElem?_append_left (by rw [r.len]; exact hi)]; rfl⟩
    · rw [List.getElem?_append_right (by omega)] at hd
      rw [List.getElem?_replicate] at hd
      split at hd <;> cases hd
  have hlen : ds.length = pm.length := by omega
  unfold fnOf at hk2
  rw [if_pos hlen] at hk2
  have back : ∀ G R' H' σ' s', (∀ i, prOf pm i = true → σ'[i]? = (start Ns vs)[i]?) → Rel K N G R' H' σ' s' → Rel K N G R' H' (vs.map some) (msk pm s') := fun G R' H' σ' s' p r => by
    refine r.re (by rw [msk_len]; simp; omega) id (fun i d hd => ?_) fun _ _ _ _ z => z
    obtain ⟨h3, h4⟩ := msk_at pm s' i d hd
    have hi : i < pm.length := by
      have := (List.getElem?_eq_some_iff.mp hd).1
      rw [msk_len] at this
      exact this
    refine ⟨h4, ?_⟩
    show (vs.map some)[i]? = σ'[i]?
    rw [p i h3, est, List.getElem?_append_left (by simp; omega)]
  refine h2 G R H (start Ns vs) (ds.map some ++ List.replicate e none) _ (by rw [est]; exact rep e _ _ rel) ?_
  cases eb : body (ds.map some ++ List.replicate e none) with
  | nx s' =>
    rw [eb] at hk2
    exact fun R' H' σ' e1 p r1 => hk2 R' H' .non e1 ((back _ R' H' σ' s' p r1).push .non)
  | rt d s' =>
    rw [eb] at hk2
    refine fun R' H' σ' v e1 p r1 => hk2 R' H' v e1 ?_
    obtain ⟨G2, eg2, r5, back2⟩ := frame1 r1
    exact back2 R' H' _ _ (Ex.refl R') (back _ R' H' σ' s' p r5)
  | ex x s' =>
    rw [eb] at hk2
    exact fun R' H' σ' c dd e1 p r1 hx => hk2 R' H' c dd e1 (back _ R' H' σ' s' p r1) hx
  | bk s' => rw [eb] at hk2; exact hk2.elim
  | ct s' => rw [eb] at hk2; exact hk2.elim
  | no => rw [eb] at hk2; exact hk2.elim
end
end DL

set_option maxHeartbeats 4000000
/-! DL5: loops, comprehensions, subscripts. -/
namespace DL
open PySem L2

/-! ### what is walked -/
/-- J yields ds, one by one -/
def Yl (K : PySem.W.Frag) (N : Nm) (J : It) (R : Hp) (ds : List D) : Prop := ∀ (i : Nat) Rc G H' (L : List (Option V)) (S : List (Option D)), Ex R Rc → Rel K N G Rc H' L S →
  (∀ d, ds[i]? = some d → J.go i H' ∧ ∀ x H'', J.yld i H' x H'' → ∃ R'', Ex Rc R'' ∧ Rel K N G R'' H'' (some x :: L) (some d :: S)) ∧ (ds.length ≤ i → J.stop i H')
def SimI (K : PySem.W.Frag) (N : Nm) (W : WX) (wi : TI) (m : DA) : Prop := ∀ G R H σ s (Q : It → Hp → Prop), Rel K N G R H σ s →
  Kg K N G R σ W (fun ds s' => ∀ R' H' J, Ex R R' → Rel K N G R' H' σ s' → Yl K N J R' ds → Q J H') (m s) → wi σ H Q
def SI (N : Nm) (W : WX) (X : Cx) (tg iter : Expr) (m : DA) : Prop := ∃ wi, PI X tg iter wi ∧ SimI X.K N W wi m
abbrev DG := D → S → Option S
def SimG (K : PySem.W.Frag) (N : Nm) (pr : Nat → Bool) (g : TG) (t : DG) : Prop := ∀ G R H σ s x d s', Rel K N G R H (some x :: σ) (some d :: s) → t d s = some s' → ∀ Q : L2.St → Hp → Prop,
  (∀ R' σ', Ex R R' → (∀ i, pr i = true → σ'[i]? = σ[i]?) → Rel K N G R' H σ' s' → Q σ' H) → g x σ H Q
def SG (N : Nm) (pr : Nat → Bool) (X : Cx) (tg : Expr) (t : DG) : Prop := ∃ g, PG X tg g ∧ SimG X.K N pr g t
def gNm (i : Nat) : DG := fun d s => if i < s.length then some (s.set i (some d)) else none

def dForL (t : DG) (body : DC) : List D → DC
  | [], s => .nx s
  | d :: ds, s => match t d s with
    | none => .no
    | some s1 => match body s1 with
      | .nx s2 => dForL t body ds s2
      | .ct s2 => dForL t body ds s2
      | .bk s2 => .nx s2
      | .rt d s2 => .rt d s2
      | .ex x s2 => .ex x s2
      | .no => .no
def dFor (m : DA) (t : DG) (body : DC) : DC := fun s => rb (m s) fun ds s1 => dForL t body ds s1
def dWhN (t : DT) (body : DC) : Nat → DC
  | 0, _ => .no
  | n + 1, s => match t s with
    | .ok true s1 => (match body s1 with
      | .nx s2 => dWhN t body n s2
      | .ct s2 => dWhN t body n s2
      | .bk s2 => .nx s2
      | .rt d s2 => .rt d s2
      | .ex x s2 => .ex x s2
      | .no => .no)
    | .ok false s1 => .nx s1
    | .ex x s1 => .ex x s1
    | .no => .no
open Classical in
noncomputable def dWh (t : DT) (body : DC) : DC := fun s => if h : ∃ n, dWhN t body n s ≠ .no then dWhN t body (Classical.choose h) s else .no
theorem dWhN_mono {t : DT} {body : DC} : ∀ {n k : Nat} {s : S}, dWhN t body n s ≠ .no → dWhN t body (n + k) s = dWhN t body n s
  | 0, k, s, h => absurd rfl h
  | n + 1, k, s, h => by
    have e : n + 1 + k = (n + k) + 1 := by omega
    rw [e]
    unfold dWhN at h ⊢
    cases e1 : t s with
    | ok b s1 =>
      rw [e1] at h
      cases b with
      | true =>
        simp only at h ⊢
        cases e2 : body s1 with
        | nx s2 => rw [e2] at h; exact dWhN_mono h
        | ct s2 => rw [e2] at h; exact dWhN_mono h
        | bk s2 => rfl
        | rt d s2 => rfl
        | ex x s2 => rfl
        | no => rfl
      | false => rfl
    | ex x s1 => rfl
    | no => rfl
theorem dWh_eq {t : DT} {body : DC} {n : Nat} {s : S} {r : Ro} (h : dWhN t body n s = r) (hr : r ≠ .no) : dWh t body s = r := by
  have hx : ∃ n, dWhN t body n s ≠ .no := ⟨n, by rw [h]; exact hr⟩
  unfold dWh
  rw [dif_pos hx]
  have h1 := Classical.choose_spec hx
  have h2 : dWhN t body n s ≠ .no := by rw [h]; exact hr
  rw [← dWhN_mono (k := n) h1, Nat.add_comm, dWhN_mono h2, h]

section
variable {K : PySem.W.Frag} {N : Nm} {R R' R1 H H' H1 G G' : Hp} {v x y : V} {d : D} {f : Addr → Prop} {L L' A B σ : List (Option V)} {s s1 : List (Option D)} {W : WX}
variable {te ta tb tc : TE} {m ma mb mc : DE} {tt tu : TT} {n t u : DT} {tl : TA} {ls : Lends} {ms : DA}
variable {pr : Nat → Bool} {Dn : Ends} {ts tv : TS} {a b : DC} {wi : TI} {g : TG} {tg : DG}

theorem sim_gName {i : Nat} (hp : pr i = false) : SimG K N pr (gName i) (gNm i) := fun G R H σ s x d s' rel e Q hQ => by
  unfold gNm at e
  by_cases hi : i < s.length
  · rw [if_pos hi] at e; cases e
    exact hQ R _ (Ex.refl R) (fun j hj => set_keep hp hj) (rel.store hi)
  · rw [if_neg hi] at e; cases e
theorem sim_for (hi : SimI K N W wi ms) (hg : SimG K N pr g tg) (hb : SimC K N W pr ts b) : SimC K N W pr (tFor wi g ts) (dFor ms tg b) := fun G R H σ s Dn rel hk => by
  refine hi G R H σ s _ rel ?_
  unfold dFor at hk
  cases e : ms s with
  | ex x s' => rw [e] at hk; exact fun R' H' c dd e1 r1 hx => hk R' H' σ c dd e1 (fun _ _ => rfl) r1 hx
  | no => rw [e] at hk; exact hk.elim
  | ok ds s1 =>
    rw [e] at hk
    intro R1 H1 J e1 r1 hy
    have hk : KC K N G R σ W pr Dn (dForL tg b ds s1) := hk
    refine ⟨fun i mm σi Hi => mm = ds.length - i ∧ i ≤ ds.length ∧ ∃ Rc si, Ex R1 Rc ∧ (∀ j, pr j = true → σi[j]? = σ[j]?) ∧ Rel K N G Rc Hi σi si ∧ KC K N G Rc σi W pr Dn (dForL tg b (ds.drop i) si),
      ⟨ds.length, by simp, by simp, R1, s1, Ex.refl R1, fun _ _ => rfl, r1, KC.mono hk e1⟩, ?_⟩
    rintro i mm σi Hi ⟨rfl, hle, Rc, si, ec, kp, rc, hkc⟩
    obtain ⟨y1, y2⟩ := hy i Rc G Hi σi si ec rc
    by_cases hlt : i < ds.length
    · right
      have ed : ds[i]? = some ds[i] := by simp [hlt]
      obtain ⟨hgo, hyl⟩ := y1 _ ed
      refine ⟨hgo, fun σ' H' => i + 1 ≤ ds.length ∧ ∃ Rc si, Ex R1 Rc ∧ (∀ j, pr j = true → σ'[j]? = σ[j]?) ∧ Rel K N G Rc H' σ' si ∧ KC K N G Rc σ' W pr Dn (dForL tg b (ds.drop (i + 1)) si),
        fun σ' H' hN => ⟨ds.length - (i + 1), by omega, rfl, hN⟩, fun x H2 hyx => ?_⟩
      obtain ⟨R2, e2, r2⟩ := hyl x H2 hyx
      rw [List.drop_eq_getElem_cons hlt] at hkc
      unfold dForL at hkc
      cases et : tg ds[i] si with
      | none => rw [et] at hkc; exact hkc.elim
      | some s2 =>
        rw [et] at hkc
        simp only at hkc
        refine hg G R2 H2 σi si x _ s2 r2 et _ fun R3 σ3 e3 k3 r3 => ?_
        refine hb G R3 H2 σ3 s2 _ r3 ?_
        have e03 : Ex Rc R3 := e2.trans e3
        cases eb : b s2 with
        | nx s4 =>
          rw [eb] at hkc
          exact fun R' H' σ' e4 k4 r4 => ⟨by omega, R', s4, ec.trans (e03.trans e4), fun j hj => ((k4 j hj).trans (k3 j hj)).trans (kp j hj), r4, (KC.mono hkc (e03.trans e4)).at fun j hj => (k4 j hj).trans (k3 j hj)⟩
        | ct s4 =>
          rw [eb] at hkc
          exact fun R' H' σ' e4 k4 r4 => ⟨by omega, R', s4, ec.trans (e03.trans e4), fun j hj => ((k4 j hj).trans (k3 j hj)).trans (kp j hj), r4, (KC.mono hkc (e03.trans e4)).at fun j hj => (k4 j hj).trans (k3 j hj)⟩
        | bk s4 =>
          rw [eb] at hkc
          exact fun R' H' σ' e4 k4 r4 => hkc R' H' σ' (e03.trans e4) (fun j hj => (k4 j hj).trans (k3 j hj)) r4
        | rt d s4 =>
          rw [eb] at hkc
          exact fun R' H' σ' v e4 k4 r4 => hkc R' H' σ' v (e03.trans e4) (fun j hj => (k4 j hj).trans (k3 j hj)) r4
        | ex x s4 =>
          rw [eb] at hkc
          exact fun R' H' σ' c dd e4 k4 r4 hx => hkc R' H' σ' c dd (e03.trans e4) (fun j hj => (k4 j hj).trans (k3 j hj)) r4 hx
        | no => rw [eb] at hkc; exact hkc.elim
    · left
      have hii : i = ds.length := by omega
      refine ⟨y2 (by omega), ?_⟩
      rw [hii, List.drop_length] at hkc
      exact hkc Rc Hi σi (Ex.refl Rc) (fun _ _ => rfl) rc
theorem sim_while (ht : SimT K N W tt t) (hb : SimC K N W pr ts b) : SimC K N W pr (tWhile tt ts) (dWh t b) := fun G R H σ s Dn rel hk => by
  unfold dWh at hk
  split at hk
  · rename_i hx
    obtain ⟨n0, hn0⟩ : ∃ n0, KC K N G R σ W pr Dn (dWhN t b n0 s) := ⟨_, hk⟩
    refine ⟨fun mm σi Hi => ∃ Rc si, Ex R Rc ∧ (∀ j, pr j = true → σi[j]? = σ[j]?) ∧ Rel K N G Rc Hi σi si ∧ KC K N G Rc σi W pr Dn (dWhN t b mm si), ⟨n0, R, s, Ex.refl R, fun _ _ => rfl, rel, hn0⟩, ?_⟩
    rintro mm σi Hi ⟨Rc, si, ec, kp, rc, hkc⟩
    cases mm with
    | zero => exact hkc.elim
    | succ mm =>
      unfold dWhN at hkc
      refine ht G Rc Hi σi si _ rc ?_
      cases et : t si with
      | ex x s1 => rw [et] at hkc; exact fun R' H' c dd e1 r1 hx => hkc R' H' σi c dd e1 (fun _ _ => rfl) r1 hx
      | no => rw [et] at hkc; exact hkc.elim
      | ok bb s2 =>
        rw [et] at hkc
        intro R3 H3 e3 r3
        cases bb with
        | false => exact hkc R3 H3 σi e3 (fun _ _ => rfl) r3
        | true =>
          refine ⟨fun σ' H' => ∃ Rc si, Ex R Rc ∧ (∀ j, pr j = true → σ'[j]? = σ[j]?) ∧ Rel K N G Rc H' σ' si ∧ KC K N G Rc σ' W pr Dn (dWhN t b mm si), fun σ' H' hN => ⟨mm, Nat.lt_succ_self _, hN⟩, ?_⟩
          refine hb G R3 H3 σi s2 _ r3 ?_
          simp only at hkc
          cases eb : b s2 with
          | nx s4 =>
            rw [eb] at hkc
            exact fun R' H' σ' e4 k4 r4 => ⟨R', s4, ec.trans (e3.trans e4), fun j hj => (k4 j hj).trans (kp j hj), r4, (KC.mono hkc (e3.trans e4)).at k4⟩
          | ct s4 =>
            rw [eb] at hkc
            exact fun R' H' σ' e4 k4 r4 => ⟨R', s4, ec.trans (e3.trans e4), fun j hj => (k4 j hj).trans (kp j hj), r4, (KC.mono hkc (e3.trans e4)).at k4⟩
          | bk s4 =>
            rw [eb] at hkc
            exact fun R' H' σ' e4 k4 r4 => hkc R' H' σ' (e3.trans e4) k4 r4
          | rt d s4 =>
            rw [eb] at hkc
            exact fun R' H' σ' v e4 k4 r4 => hkc R' H' σ' v (e3.trans e4) k4 r4
          | ex x s4 =>
            rw [eb] at hkc
            exact fun R' H' σ' c dd e4 k4 r4 hx => hkc R' H' σ' c dd (e3.trans e4) k4 r4 hx
          | no => rw [eb] at hkc; exact hkc.elim
  · exact hk.elim

/-! ### comprehensions -/
theorem wipe_get : ∀ (vs : List Nat) (σ : L2.St) (i : Nat), (wipe σ vs)[i]? = if i ∈ vs then (σ[i]?).map (fun _ => none) else σ[i]?
  | [], σ, i => by simp [wipe]
  | v :: vs, σ, i => by
    unfold wipe
    by_cases h : v = i
    · subst h
      by_cases hl : v < (wipe σ vs).length
      · rw [List.getElem?_set_self hl, if_pos (by simp)]
        rw [wipe_length] at hl
        simp [hl]
      · rw [List.getElem?_eq_none_iff.mpr (by simp; omega), if_pos (by simp)]
        rw [wipe_length] at hl
        simp [List.getElem?_eq_none_iff.mpr (show σ.length ≤ v by omega)]
    · rw [List.getElem?_set_ne h, wipe_get vs σ i]
      have e : (i ∈ v :: vs) = (i ∈ vs) := by simp [Ne.symm h]
      simp only [e]
end
def wipeD (s : S) : List Nat → S
  | [] => s
  | v :: vs => (wipeD s vs).set v none
theorem wipeD_len : ∀ (vs : List Nat) (s : S), (wipeD s vs).length = s.length
  | [], s => rfl
  | v :: vs, s => by unfold wipeD; rw [List.length_set, wipeD_len vs s]
theorem wipeD_live : ∀ (vs : List Nat) (s : S) (i : Nat) (d : D), (wipeD s vs)[i]? = some (some d) → i ∉ vs ∧ s[i]? = some (some d)
  | [], s, i, d, h => ⟨by simp, h⟩
  | v :: vs, s, i, d, h => by
    unfold wipeD at h
    by_cases hv : v = i
    · subst hv
      by_cases hl : v < (wipeD s vs).length
      · rw [List.getElem?_set_self hl] at h; cases h
      · rw [List.getElem?_eq_none_iff.mpr (by simp; omega)] at h; cases h
    · rw [List.getElem?_set_ne hv] at h
      obtain ⟨h1, h2⟩ := wipeD_live vs s i d h
      exact ⟨by simp [h1, Ne.symm hv], h2⟩
/-- items one by one: the list so far, the slots -/
def dCompL (vs : List Nat) (t : DG) (test : DT) (elt : DE) : List D → List D → S → Rs (List D)
  | [], acc, s => .ok acc s
  | d :: ds, acc, s => match t d s with
    | none => .no
    | some s1 => match test s1 with
      | .ok true s2 => (match elt s2 with
        | .ok e s3 => if acc.length < lim then dCompL vs t test elt ds (acc ++ [e]) (wipeD s3 vs) else .no
        | _ => .no)
      | .ok false s2 => dCompL vs t test elt ds acc (wipeD s2 vs)
      | _ => .no
def dComp (ms : DA) (vs : List Nat) (t : DG) (test : DT) (elt : DE) : DE := fun s => (ms s).bind fun ds s1 => (dCompL vs t test elt ds [] (wipeD s1 vs)).bind fun acc s2 => .ok (mL acc) (wipeD s2 vs)
def dYes : DT := fun s => .ok true s
/-- no exception -/
abbrev W0 : WX := fun _ _ _ _ => False
def GW (g : TG) (vs : List Nat) : Prop := ∀ x (σ : L2.St) H (Q : L2.St → Hp → Prop), (g x (wipe σ vs) H fun σ2 H2 => wipe σ2 vs = wipe σ vs → Q σ2 H2) → g x (wipe σ vs) H fun σ2 H2 => wipe σ2 vs = wipe σ vs ∧ Q σ2 H2
theorem wipe_set {σ : L2.St} {j : Nat} {vs : List Nat} {x : Option V} (h : j ∈ vs) : wipe ((wipe σ vs).set j x) vs = wipe σ vs := by
  refine List.ext_getElem? fun i => ?_
  rw [wipe_get, wipe_get]
  by_cases hi : i ∈ vs
  · rw [if_pos hi, if_pos hi]
    by_cases hl : i < σ.length
    · have : i < ((wipe σ vs).set j x).length := by rw [List.length_set, wipe_length]; exact hl
      simp [hl, this, wipe_length]
    · have : ¬ i < ((wipe σ vs).set j x).length := by rw [List.length_set, wipe_length]; exact hl
      rw [List.getElem?_eq_none_iff.mpr (by omega), List.getElem?_eq_none_iff.mpr (by omega)]
  · rw [if_neg hi, if_neg hi, List.getElem?_set_ne (show j ≠ i from fun z => hi (z ▸ h)), wipe_get, if_neg hi]
theorem gw_name {j : Nat} {vs : List Nat} (h : j ∈ vs) : GW (gName j) vs := fun x σ H Q hq => ⟨wipe_set h, hq (wipe_set h)⟩
section
variable {K : PySem.W.Frag} {N : Nm} {R R' R1 H H' H1 G G' : Hp} {v x y : V} {d : D} {f : Addr → Prop} {L L' A B σ : List (Option V)} {s s1 : List (Option D)} {W : WX}
variable {te ta tb tc : TE} {m ma mb mc : DE} {tt tu : TT} {n t u : DT} {tl : TA} {ls : Lends} {ms : DA}
variable {pr : Nat → Bool} {Dn : Ends} {ts tv : TS} {a b : DC} {wi : TI} {g : TG} {tg : DG}
theorem Rel.wipe {vs : List Nat} (h : Rel K N G R H σ s) : Rel K N G R H (wipe σ vs) (wipeD s vs) :=
  h.re (by rw [wipe_length, wipeD_len]; exact h.len) id (fun i d hd => by
    obtain ⟨h1, h2⟩ := wipeD_live vs s i d hd
    exact ⟨h2, by rw [wipe_get, if_neg h1]; rfl⟩) fun _ _ _ _ e => e
theorem Rel.unwipe {vs : List Nat} (h : Rel K N G R H (L2.wipe σ vs) s) : Rel K N G R H σ (wipeD s vs) :=
  h.re (by rw [wipeD_len, ← h.len, wipe_length]) id (fun i d hd => by
    obtain ⟨h1, h2⟩ := wipeD_live vs s i d hd
    exact ⟨h2, by show σ[i]? = (L2.wipe σ vs)[i]?; rw [wipe_get, if_neg h1]⟩) fun _ _ _ _ e => e
/-- an item is appended to the own list on top -/
theorem Rel.app {p : Addr} {ds : List D} {e : D} (h : Rel K N G R H (some (.ref p) :: some y :: L) (some (mL ds) :: some e :: s)) :
    ∃ xs, H p = some (.lst xs) ∧ xs.length = ds.length ∧ Rel K N G R (upd H p (.lst (xs ++ [y]))) (some (.ref p) :: L) (some (mL (ds ++ [e])) :: s) := by
  obtain ⟨F, o⟩ := h.own
  obtain ⟨v, h1, h2⟩ := o.at_ 0 _ rfl
  cases h1
  obtain ⟨v, h1, h4⟩ := o.at_ 1 _ rfl
  cases h1
  have lv0 : Liv (some (mL ds) :: some e :: s) 0 := ⟨_, rfl⟩
  have lv1 : Liv (some (mL ds) :: some e :: s) 1 := ⟨_, rfl⟩
  have lvi : ∀ i, Liv s i → Liv (some (mL ds) :: some e :: s) (i + 2) := fun i ⟨d, e⟩ => ⟨d, e⟩
  cases h2 with
  | p h3 _ => cases h3
  | @bx a dx _ xs _ f F0 at_ l c hf na dj =>
    obtain ⟨hdx, hp⟩ := at_
    subst hdx
    have own0 : ∀ b, F 0 b ↔ b = dx ∨ ∃ j, j < ds.length ∧ F0 j b := fun b => (hf b).trans ⟨fun h => by rcases h with h | h | h; exact .inl h; exact .inl h; exact .inr h, fun h => by rcases h with h | h; exact .inl h; exact .inr (.inr h)⟩
    have np : ∀ i b, i ≠ 0 → Liv (some (mL ds) :: some e :: s) i → F i b → b ≠ dx := fun i b hi hl hb z => hi (o.dj i 0 b hl lv0 hb ((own0 b).mpr (.inl z)))
    have keep : ∀ b, b ≠ dx → (upd H dx (.lst (xs ++ [y]))) b = H b := fun b hb => upd_ne hb
    have rp : R dx = none := (o.fr 0 dx lv0 ((own0 dx).mpr (.inl rfl))).1
    have gp : G dx = none := (o.fr 0 dx lv0 ((own0 dx).mpr (.inl rfl))).2
    refine ⟨xs, hp, l, ⟨by have := h.len; simpa using this, fun q u hq => ?_, fun q u hq => ?_, h.rg, fun i => match i with | 0 => fun b => b = dx ∨ (∃ j, j < ds.length ∧ F0 j b) ∨ F 1 b | i + 1 => F (i + 2), fun i d hd => ?_, fun i j b hi hj p q => ?_, fun i b hi hb => ?_⟩⟩
    · rw [keep q fun z => by rw [z, rp] at hq; cases hq]
      exact h.r q u hq
    · rw [keep q fun z => by rw [z, gp] at hq; cases hq]
      exact h.g q u hq
    · cases i with
      | zero =>
        cases hd
        refine ⟨_, rfl, .bx (fun j b => if j < ds.length then F0 j b else F 1 b) ⟨rfl, upd_same⟩ (by simp [l]) (fun j x d hx hd => ?_) (fun b => ?_) (fun j hj => ?_) fun i j b hi hj p q => ?_⟩
        · by_cases hj : j < ds.length
          · rw [List.getElem?_append_left hj] at hd
            rw [List.getElem?_append_left (by omega)] at hx
            simp only [if_pos hj]
            refine (c j x d hx hd).mono (Ex.refl R).le fun b hb => keep b fun z => (na j hj).1 (z ▸ hb)
          · rw [List.getElem?_append_right (by omega)] at hd
            rw [List.getElem?_append_right (by omega)] at hx
            have hj2 : j - ds.length = 0 := by
              have := (List.getElem?_eq_some_iff.mp hd).1
              simp at this; omega
            rw [hj2] at hd
            rw [l, hj2] at hx
            cases hd; cases hx
            simp only [if_neg hj]
            exact h4.mono (Ex.refl R).le fun b hb => keep b (np 1 b (by decide) lv1 hb)
        · simp only [List.length_append, List.length_singleton]
          constructor
          · rintro (z | ⟨j, hj, z⟩ | z)
            · exact .inl z
            · exact .inr (.inr ⟨j, by omega, by rw [if_pos hj]; exact z⟩)
            · exact .inr (.inr ⟨ds.length, by omega, by rw [if_neg (by omega)]; exact z⟩)
          · rintro (z | z | ⟨j, hj, z⟩)
            · exact .inl z
            · exact .inl z
            · by_cases hjj : j < ds.length
              · rw [if_pos hjj] at z; exact .inr (.inl ⟨j, hjj, z⟩)
              · rw [if_neg hjj] at z; exact .inr (.inr z)
        · by_cases hjj : j < ds.length
          · simp only [if_pos hjj]; exact na j hjj
          · simp only [if_neg hjj]; exact ⟨fun z => np 1 _ (by decide) lv1 z rfl, fun z => np 1 _ (by decide) lv1 z rfl⟩
        · have cr : ∀ j b, j < ds.length → F0 j b → ¬ F 1 b := fun j b hj z z1 => by
            have := o.dj 0 1 b lv0 lv1 ((own0 b).mpr (.inr ⟨j, hj, z⟩)) z1
            omega
          simp only [List.length_append, List.length_singleton] at hi hj
          by_cases h5 : i < ds.length <;> by_cases h6 : j < ds.length
          · rw [if_pos h5] at p; rw [if_pos h6] at q; exact dj i j b h5 h6 p q
          · rw [if_pos h5] at p; rw [if_neg h6] at q; exact absurd q (cr i b h5 p)
          · rw [if_neg h5] at p; rw [if_pos h6] at q; exact absurd p (cr j b h6 q)
          · omega
      | succ i =>
        obtain ⟨v', h5, h6⟩ := o.at_ (i + 2) d hd
        exact ⟨v', h5, h6.mono (Ex.refl R).le fun b hb => keep b (np (i + 2) b (by omega) (lvi i ⟨_, hd⟩) hb)⟩
    · have cr : ∀ i, Liv s i → (b = dx ∨ (∃ j, j < ds.length ∧ F0 j b) ∨ F 1 b) → ¬ F (i + 2) b := fun i hi z z2 => by
        rcases z with z | z | z
        · exact np (i + 2) b (by omega) (lvi i hi) z2 z
        · have := o.dj 0 (i + 2) b lv0 (lvi i hi) ((own0 b).mpr (.inr z)) z2
          omega
        · have := o.dj 1 (i + 2) b lv1 (lvi i hi) z z2
          omega
      cases i with
      | zero =>
        cases j with
        | zero => rfl
        | succ j => exact absurd q (cr j hj p)
      | succ i =>
        cases j with
        | zero => exact absurd p (cr i hi q)
        | succ j =>
          have := o.dj _ _ b (lvi i hi) (lvi j hj) p q
          omega
    · cases i with
      | zero =>
        rcases hb with z | z | z
        · subst z; exact ⟨rp, gp⟩
        · exact o.fr 0 b lv0 ((own0 b).mpr (.inr z))
        · exact o.fr 1 b lv1 z
      | succ i => exact o.fr (i + 2) b (lvi i hi) hb
theorem sim_comp {vs : List Nat} (hi : SimI K N W wi ms) (hg : SimG K N (fun _ => false) g tg) (hw : GW g vs) (ht : SimT K N W0 tt t) (he : SimE K N W0 te m) : SimE K N W (tLc wi g tt te vs) (dComp ms vs tg t m) := fun G R H σ s Q rel hk => by
  refine hi G R H σ s _ rel ?_
  unfold dComp at hk
  cases e : ms s with
  | ex x s' => rw [e] at hk; exact hk
  | no => rw [e] at hk; exact hk.elim
  | ok ds s1 =>
    rw [e] at hk
    intro R1 H1 J e1 r1 hy p hp
    have hk : KE K N G R σ W Q ((dCompL vs tg t m ds [] (wipeD s1 vs)).bind fun acc s2 => .ok (mL acc) (wipeD s2 vs)) := hk
    have hfirst : Rel K N G R1 (upd H1 p (.lst [])) (some (.ref p) :: L2.wipe σ vs) (some (mL []) :: wipeD s1 vs) :=
      Rel.newL (xs := []) (ds := []) (r1.wipe) rfl hp
    refine ⟨fun i mm Hi => mm = ds.length - i ∧ i ≤ ds.length ∧ ∃ Rc si acc, Ex R1 Rc ∧ Rel K N G Rc Hi (some (.ref p) :: L2.wipe σ vs) (some (mL acc) :: si) ∧
      KE K N G R σ W Q ((dCompL vs tg t m (ds.drop i) acc si).bind fun acc s2 => .ok (mL acc) (wipeD s2 vs)), ⟨ds.length, by simp, by simp, R1, _, [], Ex.refl R1, hfirst, hk⟩, ?_⟩
    rintro i mm Hi ⟨rfl, hle, Rc, si, acc, ec, rc, hkc⟩
    obtain ⟨G', eg, rc2, back⟩ := frame1 rc
    obtain ⟨y1, y2⟩ := hy i Rc G' Hi _ _ ec rc2
    by_cases hlt : i < ds.length
    · right
      have ed : ds[i]? = some ds[i] := by simp [hlt]
      obtain ⟨hgo, hyl⟩ := y1 _ ed
      refine ⟨hgo, fun H' => i + 1 ≤ ds.length ∧ ∃ Rc si acc, Ex R1 Rc ∧ Rel K N G Rc H' (some (.ref p) :: L2.wipe σ vs) (some (mL acc) :: si) ∧ KE K N G R σ W Q ((dCompL vs tg t m (ds.drop (i + 1)) acc si).bind fun acc s2 => .ok (mL acc) (wipeD s2 vs)),
        fun H' hN => ⟨ds.length - (i + 1), by omega, rfl, hN⟩, fun x H2 hyx => ?_⟩
      obtain ⟨R2, e2, r2⟩ := hyl x H2 hyx
      rw [List.drop_eq_getElem_cons hlt] at hkc
      unfold dCompL at hkc
      cases et : tg ds[i] si with
      | none => rw [et] at hkc; exact hkc.elim
      | some s2 =>
        rw [et] at hkc
        simp only at hkc
        refine hw x σ H2 _ (hg G' R2 H2 _ si x _ s2 r2 et _ fun R3 σ3 e3 k3 r3 => ?_)
        intro ew
        refine ht G' R3 H2 σ3 s2 _ r3 ?_
        cases eb : t s2 with
        | ex x s4 => rw [eb] at hkc; exact hkc.elim
        | no => rw [eb] at hkc; exact hkc.elim
        | ok bb s4 =>
          rw [eb] at hkc
          intro R5 H5 e5 r5
          cases bb with
          | false =>
            have r6 := back R5 H5 _ _ ((e2.trans e3).trans e5) (r5.wipe (vs := vs))
            rw [ew] at r6
            exact ⟨by omega, R5, _, acc, ec.trans ((e2.trans e3).trans e5), r6, hkc⟩
          | true =>
            simp only at hkc
            show te σ3 H5 _
            refine he G' R5 H5 σ3 s4 _ r5 ?_
            cases em : m s4 with
            | ex x s5 => rw [em] at hkc; exact hkc.elim
            | no => rw [em] at hkc; exact hkc.elim
            | ok e0 s5 =>
              rw [em] at hkc
              simp only at hkc
              intro R6 H6 y e6 r6
              by_cases hz : acc.length < lim
              · rw [if_pos hz] at hkc
                have e06 : Ex Rc R6 := ((e2.trans e3).trans e5).trans e6
                obtain ⟨xs, h1, h2, h3⟩ := Rel.app (back R6 H6 _ _ e06 r6)
                obtain ⟨G2, eg2, r7, back2⟩ := frame1 h3
                have r8 := back2 R6 _ _ _ (Ex.refl R6) (r7.wipe (vs := vs))
                rw [ew] at r8
                exact ⟨xs, h1, by rw [h2]; exact hz, by omega, R6, _, _, ec.trans e06, r8, hkc⟩
              · rw [if_neg hz] at hkc; exact hkc.elim
    · left
      have hii : i = ds.length := by omega
      refine ⟨y2 (by omega), ?_⟩
      rw [hii, List.drop_length] at hkc
      have hkc : ∀ R' H' v, Ex R R' → Rel K N G R' H' (some v :: σ) (some (mL acc) :: wipeD si vs) → Q v H' := hkc
      refine hkc Rc Hi _ (e1.trans ec) ?_
      exact back Rc Hi _ _ (Ex.refl Rc) rc2.unwipe
end
end DL

set_option maxHeartbeats 4000000
/-! DL6: operations by values. -/
namespace DL
open PySem L2
/-- v is read as d -/
def Vw (K : PySem.W.Frag) (N : Nm) (H : Hp) (v : V) (d : D) : Prop := ∃ R f, Ex R H ∧ Ow K N R H v d f
section
variable {K : PySem.W.Frag} {N : Nm} {R R' R1 H H' H1 G G' : Hp} {v x y : V} {d e : D} {f : Addr → Prop} {L L' A B σ : List (Option V)} {s s1 : List (Option D)} {W : WX}
variable {te ta tb tc : TE} {m ma mb mc : DE} {tt tu : TT} {n t u : DT} {tl : TA} {ls : Lends} {ms : DA}

theorem Rel.vw (h : Rel K N G R H (some v :: L) (some d :: s)) : Vw K N H v d := by
  obtain ⟨f, h1, _⟩ := h.top
  exact ⟨R, f, h.r, h1⟩
theorem Rel.vwAt {i : Nat} (h : Rel K N G R H σ s) (e : s[i]? = some (some d)) : ∃ v, σ[i]? = some (some v) ∧ Vw K N H v d := by
  obtain ⟨v, f, h1, h2, _⟩ := h.slot e
  exact ⟨v, h1, R, f, h.r, h2⟩
theorem Vw.int {i : Int} (h : Vw K N H v (.int i)) : v = .int i := let ⟨_, _, _, h⟩ := h; ow_int h
theorem Vw.bl {b : Bool} (h : Vw K N H v (.bl b)) : v = .bl b := let ⟨_, _, _, h⟩ := h; ow_bl h
theorem Vw.str {z : Str} (h : Vw K N H v (.str z)) : v = .str z := let ⟨_, _, _, h⟩ := h; ow_str h
theorem Vw.non (h : Vw K N H v .non) : v = .non := let ⟨_, _, _, h⟩ := h; ow_non h
theorem Vw.bx {o : Bool} {k : BK} {ds : List D} (h : Vw K N H v (.bx o k ds)) : ∃ a xs, v = .ref a ∧ At K N H a k xs ∧ xs.length = ds.length ∧ ∀ (j : Nat) x d, xs[j]? = some x → ds[j]? = some d → Vw K N H x d := by
  obtain ⟨R, f, hr, h⟩ := h
  cases h with
  | p h hf =>
    cases h with
    | bx h l c => exact ⟨_, _, rfl, h.mono hr.le, l, fun j x d hx hd => ⟨R, fun _ => False, hr, .p (c j x d hx hd) fun _ z => z⟩⟩
  | bx F h l c hf na dj => exact ⟨_, _, rfl, h.at', l, fun j x d hx hd => ⟨R, _, hr, c j x d hx hd⟩⟩
/-- flat data as a value -/
def sv : D → Option V
  | .non => some .non
  | .bl b => some (.bl b)
  | .int i => some (.int i)
  | .str x => some (.str x)
  | _ => none
def svs : List D → Option (List V)
  | [] => some []
  | d :: ds => (sv d).bind fun v => (svs ds).map fun vs => v :: vs
theorem sv_vw {w : V} (h : Vw K N H v d) (e : sv d = some w) : v = w := by
  cases d with
  | non => cases e; exact h.non
  | bl b => cases e; exact h.bl
  | int b => cases e; exact h.int
  | str b => cases e; exact h.str
  | bx o k ds => cases e
theorem sv_en {w : V} (e : sv d = some w) : En K N R w d := by
  cases d with
  | non => cases e; exact .non
  | bl b => cases e; exact .bl _
  | int b => cases e; exact .int _
  | str b => cases e; exact .str _
  | bx o k ds => cases e
theorem sv_flat {w : V} (e : sv d = some w) : flatV w = true := by
  cases d <;> (cases e; try rfl)
theorem svs_vw : ∀ {ds : List D} {xs ws : List V}, svs ds = some ws → xs.length = ds.length → (∀ (j : Nat) x d, xs[j]? = some x → ds[j]? = some d → Vw K N H x d) → xs = ws
  | [], [], ws, e, _, _ => by cases e; rfl
  | d :: ds, x :: xs, ws, e, l, h => by
    unfold svs at e
    cases e1 : sv d with
    | none => rw [e1] at e; cases e
    | some w =>
      rw [e1] at e
      cases e2 : svs ds with
      | none => rw [e2] at e; cases e
      | some ws' =>
        rw [e2] at e
        cases e
        rw [sv_vw (h 0 x d rfl rfl) e1, svs_vw e2 (by simpa using l) fun j x d hx hd => h (j + 1) x d hx hd]
theorem svs_flat : ∀ {ds : List D} {ws : List V}, svs ds = some ws → ws.all flatV = true
  | [], ws, e => by cases e; rfl
  | d :: ds, ws, e => by
    unfold svs at e
    cases e1 : sv d with
    | none => rw [e1] at e; cases e
    | some w =>
      rw [e1] at e
      cases e2 : svs ds with
      | none => rw [e2] at e; cases e
      | some ws' =>
        rw [e2] at e
        cases e
        simp [sv_flat e1, svs_flat e2]
def intsD : List D → Option (List Int)
  | [] => some []
  | .int i :: ds => (intsD ds).map fun is => i :: is
  | _ => none
theorem intsD_vw : ∀ {ds : List D} {xs : List V} {ns : List Int}, intsD ds = some ns → xs.length = ds.length → (∀ (j : Nat) x d, xs[j]? = some x → ds[j]? = some d → Vw K N H x d) → xs = ns.map V.int
  | [], [], ns, e, _, _ => by cases e; rfl
  | .int i :: ds, x :: xs, ns, e, l, h => by
    unfold intsD at e
    cases e2 : intsD ds with
    | none => rw [e2] at e; cases e
    | some ws' =>
      rw [e2] at e
      cases e
      rw [(h 0 x _ rfl rfl).int, intsD_vw e2 (by simpa using l) fun j x d hx hd => h (j + 1) x d hx hd]
      rfl
  | .non :: _, _, _, e, _, _ => by cases e
  | .bl _ :: _, _, _, e, _, _ => by cases e
  | .str _ :: _, _, _, e, _, _ => by cases e
  | .bx _ _ _ :: _, _, _, e, _, _ => by cases e
theorem At.seq {a : Addr} {k : BK} {xs : List V} (h : At K N H a k xs) (hk : k = .lst ∨ k = .scr ∨ k = .tup) : SqL K H a xs ∨ SqT K H a xs := by
  rcases hk with rfl | rfl | rfl
  · exact .inl (.inl (.inl h))
  · exact .inl h
  · exact .inr h

/-! ### read-only operations whose answer is flat -/
def VSim1 (K : PySem.W.Frag) (N : Nm) (r : V → Hp → VK → Prop) (f : D → Option D) : Prop := ∀ H x a dz w, Vw K N H x a → f a = some dz → sv dz = some w → ∀ Q : VK, Q w H → r x H Q
def VSim2 (K : PySem.W.Frag) (N : Nm) (r : R2) (f : D → D → Option D) : Prop := ∀ H x y a b dz w, Vw K N H x a → Vw K N H y b → f a b = some dz → sv dz = some w → ∀ Q : VK, Q w H → r x y H Q
def flat1 (f : D → Option D) : D → Option D := fun a => (f a).bind fun z => (sv z).map fun _ => z
def flat2 (f : D → D → Option D) : D → D → Option D := fun a b => (f a b).bind fun z => (sv z).map fun _ => z
theorem flat_of {o : Option D} {dz : D} (h : (o.bind fun z => (sv z).map fun _ => z) = some dz) : o = some dz ∧ ∃ w, sv dz = some w := by
  cases o with
  | none => cases h
  | some z =>
    have h : ((sv z).map fun _ => z) = some dz := h
    cases e : sv z with
    | none => rw [e] at h; cases h
    | some w => rw [e] at h; cases h; exact ⟨rfl, w, e⟩
theorem VSim1.op {r : V → Hp → VK → Prop} {f : D → Option D} (h : VSim1 K N r f) : UnSim K N r (flat1 f) := fun G R H x a L s rel dz e Q hQ => by
  obtain ⟨h1, w, h2⟩ := flat_of e
  exact h H x a dz w rel.vw h1 h2 Q (hQ R H w (Ex.refl R) (rel.pop.push (sv_en h2)))
theorem VSim2.op {r : R2} {f : D → D → Option D} (h : VSim2 K N r f) : OpSim K N r (flat2 f) := fun G R H x y a b L s rel dz e Q hQ => by
  obtain ⟨h1, w, h2⟩ := flat_of e
  exact h H x y a b dz w rel.vw rel.pop.vw h1 h2 Q (hQ R H w (Ex.refl R) (rel.pop.pop.push (sv_en h2)))
/-- the right one is a slot, looked at -/
def dOpS (f : D → D → Option D) (ma : DE) (i : Nat) : DE := fun s => (ma s).bind fun a s1 => match s1[i]? with
  | some (some b) => o2r (flat2 f a b) s1
  | _ => .no
/-- the left one is a slot, looked at -/
def dOpL (f : D → D → Option D) (i : Nat) (mb : DE) : DE := fun s => match s[i]? with
  | some (some _) => (mb s).bind fun b s1 => (match s1[i]? with
    | some (some a) => o2r (flat2 f a b) s1
    | _ => .no)
  | _ => .no
def dUnS (f : D → Option D) (i : Nat) : DE := fun s => match s[i]? with
  | some (some a) => o2r (flat1 f a) s
  | _ => .no
theorem sim_opS {r : R2} {f : D → D → Option D} {i : Nat} (h : VSim2 K N r f) (ha : SimE K N W ta ma) : SimE K N W (tOp r ta (tVar i)) (dOpS f ma i) := fun G R H σ s Q rel hk =>
  ha.bind rel hk fun da s1 R1 H1 x e1 r1 hk1 => by
    cases e : s1[i]? with
    | none => rw [e] at hk1; exact hk1.elim
    | some o =>
      cases o with
      | none => rw [e] at hk1; exact hk1.elim
      | some b =>
        rw [e] at hk1
        obtain ⟨dz, h1, h2⟩ := o2r_some hk1
        obtain ⟨h3, w, h4⟩ := flat_of h1
        obtain ⟨y, h5, h6⟩ := r1.pop.vwAt e
        exact ⟨y, h5, h H1 x y da b dz w r1.vw h6 h3 h4 Q (h2 R1 H1 w e1 (r1.pop.push (sv_en h4)))⟩
theorem sim_opL {r : R2} {f : D → D → Option D} {i : Nat} (h : VSim2 K N r f) (hb : SimE K N W tb mb) : SimE K N W (tOp r (tVar i) tb) (dOpL f i mb) := fun G R H σ s Q rel hk => by
  unfold dOpL at hk
  cases e0 : s[i]? with
  | none => rw [e0] at hk; exact hk.elim
  | some o0 =>
    cases o0 with
    | none => rw [e0] at hk; exact hk.elim
    | some d0 =>
      rw [e0] at hk
      obtain ⟨x, hx, _⟩ := rel.vwAt e0
      refine ⟨x, hx, hb.bind rel hk fun db s1 R1 H1 y e1 r1 hk1 => ?_⟩
      cases e : s1[i]? with
      | none => rw [e] at hk1; exact hk1.elim
      | some o =>
        cases o with
        | none => rw [e] at hk1; exact hk1.elim
        | some b =>
          rw [e] at hk1
          obtain ⟨dz, h1, h2⟩ := o2r_some hk1
          obtain ⟨h3, w, h4⟩ := flat_of h1
          obtain ⟨x', h5, h6⟩ := r1.pop.vwAt e
          rw [hx] at h5; cases h5
          exact h H1 x y b db dz w h6 r1.vw h3 h4 Q (h2 R1 H1 w e1 (r1.pop.push (sv_en h4)))
theorem sim_unS {r : V → Hp → VK → Prop} {f : D → Option D} {i : Nat} (h : VSim1 K N r f) : SimE K N W (tUn r (tVar i)) (dUnS f i) := fun G R H σ s Q rel hk => by
  unfold dUnS at hk
  cases e : s[i]? with
  | none => rw [e] at hk; exact hk.elim
  | some o =>
    cases o with
    | none => rw [e] at hk; exact hk.elim
    | some b =>
      rw [e] at hk
      obtain ⟨dz, h1, h2⟩ := o2r_some hk
      obtain ⟨h3, w, h4⟩ := flat_of h1
      obtain ⟨y, h5, h6⟩ := rel.vwAt e
      exact ⟨y, h5, h H y b dz w h6 h3 h4 Q (h2 R H w (Ex.refl R) (rel.push (sv_en h4)))⟩
/-! ### calls of built-ins by values -/
def CallSim (K : PySem.W.Frag) (N : Nm) (r : List V → Hp → VK → Prop) (f : List D → Option D) : Prop := ∀ G R H vs ds (L : List (Option V)) (s : S), vs.length = ds.length → Rel K N G R H (vs.map some ++ L) (ds.map some ++ s) → ∀ dz, f ds = some dz → ∀ Q : VK,
  (∀ R' H' z, Ex R R' → Rel K N G R' H' (some z :: L) (some dz :: s) → Q z H') → r vs H Q
def dCB (f : List D → Option D) (ms : DA) : DE := fun s => (ms s).bind fun ds s1 => o2r (f ds) s1
theorem sim_cb {r : List V → Hp → VK → Prop} {f : List D → Option D} (hr : CallSim K N r f) (h : SimA K N W tl ls ms) : SimE K N W (tCB r tl) (dCB f ms) := fun G R H σ s Q rel hk =>
  h.bind rel hk fun ds s' R' H' vs e l r _ hk2 => by
    obtain ⟨dz, h1, h2⟩ := o2r_some hk2
    exact hr G R' H' vs ds σ s' l r dz h1 Q fun R2 H2 z e2 r2 => h2 R2 H2 z (e.trans e2) r2
theorem CallSim.or {r r' : List V → Hp → VK → Prop} {f g : List D → Option D} (h : CallSim K N r f) (h' : CallSim K N r' g) : CallSim K N (fun xs H Q => r xs H Q ∨ r' xs H Q) (fun a => (f a).orElse fun _ => g a) := fun G R H vs ds L s l rel dz e Q hQ => by
  cases e1 : f ds with
  | some d =>
    simp only [e1, Option.orElse_some] at e
    exact .inl (h G R H vs ds L s l rel dz (by rw [e1, e]) Q hQ)
  | none =>
    simp only [e1, Option.orElse_none] at e
    exact .inr (h' G R H vs ds L s l rel dz e Q hQ)
def f1 (f : D → Option D) : List D → Option D
  | [d] => f d
  | _ => none
def f2 (f : D → D → Option D) : List D → Option D
  | [d, e] => f d e
  | _ => none
/-- one argument, read only, a flat answer -/
theorem cs_1 {r : List V → Hp → VK → Prop} {f : D → Option D} (h : VSim1 K N (fun x H Q => r [x] H Q) f) : CallSim K N r (f1 (flat1 f)) := fun G R H vs ds L s l rel dz e Q hQ => by
  cases ds with
  | nil => cases e
  | cons a ds =>
    cases ds with
    | cons b ds => cases e
    | nil =>
      cases vs with
      | nil => cases l
      | cons v vs =>
        cases vs with
        | cons w vs => simp at l
        | nil => exact h.op G R H v a L s rel dz e Q hQ
theorem cs_2 {r : List V → Hp → VK → Prop} {f : D → D → Option D} (h : VSim2 K N (fun x y H Q => r [x, y] H Q) f) : CallSim K N r (f2 (flat2 f)) := fun G R H vs ds L s l rel dz e Q hQ => by
  match ds, vs, l, rel, e with
  | [a, b], [v, w], _, rel, e => exact h.op G R H v w a b L s rel dz e Q hQ
/-- a built-in of one argument that is a slot, looked at -/
theorem sim_cbS {r : List V → Hp → VK → Prop} {f : D → Option D} {i : Nat} (h : VSim1 K N (fun x H Q => r [x] H Q) f) : SimE K N W (tCB r (tCons (tVar i) tNil)) (dUnS f i) := fun G R H σ s Q rel hk => sim_unS (r := fun x H Q => r [x] H Q) h G R H σ s Q rel hk

/-! ### len, abs, int, sums, least and greatest -/
def lenD : D → Option D
  | .bx _ (.ins _ _) _ => none
  | .bx _ _ ds => some (.int ds.length)
  | .str z => if z.length ≤ lim then some (.int z.length) else none
  | _ => none
def rLenA (K : PySem.W.Frag) : List V → Hp → VK → Prop := fun xs H Q => (∃ x n, xs = [x] ∧ LenV K x H n ∧ Q (.int n) H) ∨ ∃ a kvs, xs = [V.ref a] ∧ Rd H a (.dK kvs) ∧ Q (.int kvs.length) H
theorem vs_len : VSim1 K N (fun x H Q => rLenA K [x] H Q) lenD := fun H x a dz w hv e ew Q hQ => by
  cases a with
  | bx o k ds =>
    obtain ⟨p, xs, rfl, hat, l, _⟩ := hv.bx
    cases k with
    | tup =>
      cases e; cases ew
      rw [← l] at hQ
      exact .inl ⟨_, xs.length, rfl, .inr ⟨xs, hat, rfl⟩, hQ⟩
    | lst =>
      cases e; cases ew
      rw [← l] at hQ
      exact .inl ⟨_, xs.length, rfl, .inl ⟨xs, .inl (.inl hat), rfl⟩, hQ⟩
    | scr =>
      cases e; cases ew
      rw [← l] at hQ
      exact .inl ⟨_, xs.length, rfl, .inl ⟨xs, hat, rfl⟩, hQ⟩
    | dct ks =>
      cases e; cases ew
      have : (ks.zip xs).length = ds.length := by rw [List.length_zip, hat.1, Nat.min_self, l]
      rw [← this] at hQ
      exact .inr ⟨p, _, rfl, hat.2.1, hQ⟩
    | ins c fs => cases e
  | str z =>
    have e : (if z.length ≤ lim then some (D.int z.length) else none) = some dz := e
    by_cases hz : z.length ≤ lim
    · rw [if_pos hz] at e; cases e; cases ew
      rw [hv.str]
      exact .inl ⟨_, z.length, rfl, ⟨hz, rfl⟩, hQ⟩
    · rw [if_neg hz] at e; cases e
  | non => cases e
  | bl b => cases e
  | int i => cases e
end
end DL

set_option maxHeartbeats 4000000
/-! DL7: the rules for expressions. -/
namespace DL
open PySem L2
section
variable {K : PySem.W.Frag} {N : Nm} {R R' R1 H H' H1 G G' : Hp} {v x y : V} {d e : D} {f : Addr → Prop} {L L' A B σ : List (Option V)} {s s1 : List (Option D)} {W : WX}
variable {te ta tb tc : TE} {m ma mb mc : DE} {tt tu : TT} {n t u : DT} {tl : TA} {ls : Lends} {ms : DA}

/-! ### a box opened: its items -/
theorem Rel.opn {o : Bool} {k : BK} {ds : List D} {x : V} (h : Rel K N G R H (some x :: L) (some (.bx o k ds) :: s)) :
    ∃ a xs, x = .ref a ∧ At K N H a k xs ∧ xs.length = ds.length ∧ Rel K N G R H (xs.map some ++ L) (ds.map some ++ s) := by
  obtain ⟨F, ow⟩ := h.own
  obtain ⟨v, h1, h2⟩ := ow.at_ 0 _ rfl
  cases h1
  have hl : L.length = s.length := by have := h.len; simpa using this
  have pers : ∀ xs : List V, xs.length = ds.length → (∀ (j : Nat) x d, xs[j]? = some x → ds[j]? = some d → En K N R x d) → Rel K N G R H (xs.map some ++ L) (ds.map some ++ s) := by
    intro xs l c
    have base := h.pop
    clear h ow h2
    induction ds generalizing xs with
    | nil => cases xs with
      | nil => exact base
      | cons _ _ => simp at l
    | cons d ds ih => cases xs with
      | nil => simp at l
      | cons x xs =>
        have := ih xs (by simpa using l) fun j x d hx hd => c (j + 1) x d hx hd
        exact this.push (c 0 x d rfl rfl)
  cases h2 with
  | p h2 hf => cases h2 with
    | bx h3 l c => exact ⟨_, _, rfl, h3.mono h.r.le, l, pers _ l c⟩
  | @bx a dx _ xs _ f F0 h3 l c hf na dj =>
    refine ⟨a, xs, rfl, h3.at', l, ⟨by simp [l, hl], h.r, h.g, h.rg, fun i => if i < ds.length then F0 i else F (i - ds.length + 1), fun i d hd => ?_, fun i j b hi hj p q => ?_, fun i b hi hb => ?_⟩⟩
    · by_cases hi : i < ds.length
      · rw [List.getElem?_append_left (by simpa using hi)] at hd
        have hd' : ds[i]? = some d := by
          rw [List.getElem?_map] at hd
          obtain ⟨d', h4, h5⟩ := Option.map_eq_some_iff.mp hd
          cases h5; exact h4
        have hx : xs[i]? = some (xs[i]'(by omega)) := by simp [l, hi]
        refine ⟨xs[i]'(by omega), by rw [List.getElem?_append_left (by simpa [l] using hi)]; simp [l, hi], ?_⟩
        simp only [if_pos hi]
        exact c i _ _ hx hd'
      · rw [List.getElem?_append_right (by simp; omega)] at hd
        rw [List.length_map] at hd
        obtain ⟨v, h4, h5⟩ := ow.at_ (i - ds.length + 1) d hd
        refine ⟨v, ?_, by simp only [if_neg hi]; exact h5⟩
        rw [List.getElem?_append_right (by simp [l]; omega), List.length_map, l]
        exact h4
    · have lv : ∀ i, ¬ i < ds.length → Liv (ds.map some ++ s) i → Liv (some (D.bx true k ds) :: s) (i - ds.length + 1) := fun i hi ⟨d, hd⟩ => by
        rw [List.getElem?_append_right (by simp; omega), List.length_map] at hd
        exact ⟨d, hd⟩
      have l0 : Liv (some (D.bx true k ds) :: s) 0 := ⟨_, rfl⟩
      have sub : ∀ i, i < ds.length → F0 i b → F 0 b := fun i hi hb => (hf b).mpr (.inr (.inr ⟨i, hi, hb⟩))
      by_cases h5 : i < ds.length <;> by_cases h6 : j < ds.length
      · rw [if_pos h5] at p; rw [if_pos h6] at q; exact dj i j b h5 h6 p q
      · rw [if_pos h5] at p; rw [if_neg h6] at q
        have := ow.dj 0 _ b l0 (lv j h6 hj) (sub i h5 p) q
        omega
      · rw [if_neg h5] at p; rw [if_pos h6] at q
        have := ow.dj 0 _ b l0 (lv i h5 hi) (sub j h6 q) p
        omega
      · rw [if_neg h5] at p; rw [if_neg h6] at q
        have := ow.dj _ _ b (lv i h5 hi) (lv j h6 hj) p q
        omega
    · by_cases hi' : i < ds.length
      · rw [if_pos hi'] at hb
        exact ow.fr 0 b ⟨_, rfl⟩ ((hf b).mpr (.inr (.inr ⟨i, hi', hb⟩)))
      · rw [if_neg hi'] at hb
        obtain ⟨d, hd⟩ := hi
        rw [List.getElem?_append_right (by simp; omega), List.length_map] at hd
        exact ow.fr (i - ds.length + 1) b ⟨d, hd⟩ hb
theorem Rel.opn2 {o o' : Bool} {k k' : BK} {ds es : List D} {x y : V} (h : Rel K N G R H (some x :: some y :: L) (some (.bx o k ds) :: some (.bx o' k' es) :: s)) :
    ∃ a xs b ys, x = .ref a ∧ At K N H a k xs ∧ xs.length = ds.length ∧ y = .ref b ∧ At K N H b k' ys ∧ ys.length = es.length ∧ Rel K N G R H ((xs ++ ys).map some ++ L) ((ds ++ es).map some ++ s) := by
  obtain ⟨a, xs, h1, h2, h3, h4⟩ := h.opn
  obtain ⟨G', eg, h5, back⟩ := Rel.frame (B := xs.map some) (DB := ds.map some) h4 (by simp [h3])
  obtain ⟨b, ys, h6, h7, h8, h9⟩ := h5.opn
  refine ⟨a, xs, b, ys, h1, h2, h3, h6, h7, h8, ?_⟩
  have := back R H _ _ (Ex.refl R) h9
  simpa [List.map_append, List.append_assoc] using this

/-! ### arithmetic -/
def fAdd (a b : D) : Option D := match a with
  | .int i => (match b with
    | .int j => some (.int (i + j))
    | _ => none)
  | .str x => (match b with
    | .str y => if x.length + y.length ≤ lim then some (.str (x ++ y)) else none
    | _ => none)
  | .bx o k as => (match b with
    | .bx o' k' bs => (match k with
      | .lst => (match k' with
        | .lst => if as.length + bs.length ≤ lim then some (mL (as ++ bs)) else none
        | _ => none)
      | .tup => (match k' with
        | .tup => if as.length + bs.length ≤ lim then some (dT (as ++ bs)) else none
        | _ => none)
      | _ => none)
    | _ => none)
  | _ => none
def mulG (i j : Int) : Bool := decide (i.natAbs.log2 + j.natAbs.log2 < 1000000)
def divG (j : Int) : Bool := decide (0 < j) && decide (j.natAbs.log2 < 9000)
def fMul (a b : D) : Option D := match a with
  | .int i => (match b with
    | .int j => if mulG i j = true then some (.int (i * j)) else none
    | _ => none)
  | _ => none
def fSub : D → D → Option D := fI fun i j => some (.int (i - j))
def fDiv : D → D → Option D := fI fun i j => if divG j = true then some (.int (i / j)) else none
def fMod : D → D → Option D := fI fun i j => if decide (0 < j) = true then some (.int (i % j)) else none
def powG (i j : Int) : Bool := decide (0 ≤ j) && decide (j ≤ 1000) && decide (i.natAbs < 2 ^ 64)
def fPow : D → D → Option D := fI fun i j => if powG i j = true then some (.int (i ^ j.toNat)) else none
abbrev rAddA (K : PySem.W.Frag) : R2 := fun x y H Q => (rI0 fun i j => .int (i + j)) x y H Q ∨ ((∃ i j, x = .str i ∧ y = .str j ∧ i.length + j.length ≤ sizeLine ∧ Q (.str (i ++ j)) H) ∨ (rCat x y H Q ∨ rCatA K x y H Q))
theorem op_addA {X : Cx} : OpR X (binaryOp .Add) (rAddA X.K) := op_add.or (op_add_str.or (op_cat.or op_catA))
theorem en_tup {o : Bool} {ds : List D} (h : Ow K N R H v (.bx o .tup ds) f) : En K N R v (dT ds) := by
  cases h with
  | p h _ => cases h with
    | bx h l c => exact .bx h l c
  | bx F h l c hf na dj => exact h.elim
theorem En.rd_eq (h : En K N R v d) : DL.rd d = d := by cases h <;> rfl
theorem En.rds {k : BK} {ds : List D} (h : En K N R v (.bx false k ds)) : ds.map DL.rd = ds := by
  cases h with
  | @bx a _ xs _ h l c =>
    refine List.ext_getElem? fun j => ?_
    rw [List.getElem?_map]
    cases e : ds[j]? with
    | none => rfl
    | some d =>
      have hj : j < ds.length := (List.getElem?_eq_some_iff.mp e).1
      have hx : xs[j]? = some (xs[j]'(by omega)) := by simp [l, hj]
      show some (DL.rd d) = some d
      rw [(c j _ d hx e).rd_eq]
theorem os_add : OpSim K N (rAddA K) fAdd := fun G R H x y a b L s rel dz e Q hQ => by
  cases a with
  | non => cases e
  | bl _ => cases e
  | int i =>
    cases b with
    | int j =>
      cases e
      exact .inl ⟨i, j, rel.vw.int, rel.pop.vw.int, hQ R H _ (Ex.refl R) (rel.pop.pop.push (.int _))⟩
    | _ => cases e
  | str i =>
    cases b with
    | str j =>
      have e : (if i.length + j.length ≤ lim then some (D.str (i ++ j)) else none) = some dz := e
      by_cases hz : i.length + j.length ≤ lim
      · rw [if_pos hz] at e; cases e
        exact .inr (.inl ⟨i, j, rel.vw.str, rel.pop.vw.str, hz, hQ R H _ (Ex.refl R) (rel.pop.pop.push (.str _))⟩)
      · rw [if_neg hz] at e; cases e
    | _ => cases e
  | bx o k as =>
    cases b with
    | bx o' k' bs =>
      obtain ⟨p, xs, q, ys, hx, h2, h3, hy, h5, h6, h7⟩ := rel.opn2
      subst hx hy
      cases k with
      | lst =>
        cases k' with
        | lst =>
          have e : (if as.length + bs.length ≤ lim then some (mL (as ++ bs)) else none) = some dz := e
          by_cases hz : as.length + bs.length ≤ lim
          · rw [if_pos hz] at e; cases e
            exact .inr (.inr (.inl ⟨p, q, xs, ys, rfl, rfl, h2, h5, by rw [h3, h6]; exact hz, fun z hz => hQ R _ _ (Ex.refl R) (h7.newL (by simp [h3, h6]) hz)⟩))
          · rw [if_neg hz] at e; cases e
        | _ => cases e
      | tup =>
        cases k' with
        | tup =>
          have e : (if as.length + bs.length ≤ lim then some (dT (as ++ bs)) else none) = some dz := e
          by_cases hz : as.length + bs.length ≤ lim
          · rw [if_pos hz] at e; cases e
            obtain ⟨f1, g1, _⟩ := rel.top
            obtain ⟨f2, g2, _⟩ := rel.pop.top
            have e1 := en_tup g1
            have e2 := en_tup g2
            refine .inr (.inr (.inr ⟨p, q, xs, ys, rfl, rfl, h2, h5, by rw [h3, h6]; exact hz, fun z => ?_, fun z1 z2 => ?_, fun z1 z2 t ht => ?_⟩))
            · have : as = [] := by
                rw [z] at h3
                cases as with
                | nil => rfl
                | cons _ _ => simp at h3
              rw [this, List.nil_append] at hQ
              exact hQ R H _ (Ex.refl R) (rel.pop.pop.push e2)
            · have : bs = [] := by
                rw [z2] at h6
                cases bs with
                | nil => rfl
                | cons _ _ => simp at h6
              rw [this, List.append_nil] at hQ
              exact hQ R H _ (Ex.refl R) (rel.pop.pop.push e1)
            · obtain ⟨R2, e3, r3⟩ := h7.newT (by simp [h3, h6]) ht
              have em : (as ++ bs).map rd = as ++ bs := by rw [List.map_append, e1.rds, e2.rds]
              rw [em] at r3
              exact hQ R2 _ _ e3 r3
          · rw [if_neg hz] at e; cases e
        | _ => cases e
      | _ => cases e
    | _ => cases e
theorem mul_ok {i j : Int} {a b : Nat} (ha : i.natAbs < 2 ^ a) (hb : j.natAbs < 2 ^ b) (h0 : 0 < a) (h1 : 0 < b) (h : a + b ≤ 1000000) : mulG i j = true := by
  have h' : i.natAbs.log2 + j.natAbs.log2 < 1000000 := wide_mul ha hb h0 h1 h
  unfold mulG
  exact decide_eq_true h'
theorem mulG_ok {i j : Int} (h : mulG i j = true) : CMulW i j := by
  unfold mulG at h
  have h' : i.natAbs.log2 + j.natAbs.log2 < 1000000 := of_decide_eq_true h
  exact h'
theorem div_ok {j : Int} {b : Nat} (h : 0 < j) (hb : j.natAbs < 2 ^ b) (h0 : 0 < b) (h9 : b ≤ 9000) : divG j = true := by
  have := wide_div (i := 0) h hb h0 h9
  unfold divG
  rw [decide_eq_true h, decide_eq_true this.2]
  rfl
theorem os_mul : OpSim K N (rI CMulW fun i j => .int (i * j)) fMul := fun G R H x y a b L s rel dz e Q hQ => by
  cases a with
  | int i =>
    cases b with
    | int j =>
      have e : (if mulG i j = true then some (D.int (i * j)) else none) = some dz := e
      by_cases hc : mulG i j = true
      · rw [if_pos hc] at e; cases e
        exact ⟨i, j, rel.vw.int, rel.pop.vw.int, mulG_ok hc, hQ R H _ (Ex.refl R) (rel.pop.pop.push (.int _))⟩
      · rw [if_neg hc] at e; cases e
    | _ => cases e
  | _ => cases e
theorem os_sub : OpSim K N (rI0 fun i j => .int (i - j)) fSub := os_I0
theorem os_div : OpSim K N (rI CDivW fun i j => .int (i / j)) fDiv := os_I (c := fun _ j => divG j) fun i j h => by
  simp only [divG, Bool.and_eq_true, decide_eq_true_eq] at h
  exact h
theorem os_mod : OpSim K N (rI (fun _ j => 0 < j) fun i j => .int (i % j)) fMod := os_I (c := fun _ j => decide (0 < j)) fun i j h => of_decide_eq_true h
theorem os_pow : OpSim K N (rI CPow fun i j => .int (i ^ j.toNat)) fPow := os_I (c := powG) fun i j h => by
  simp only [powG, Bool.and_eq_true, decide_eq_true_eq] at h
  obtain ⟨⟨h1, h2⟩, h3⟩ := h
  exact ⟨h1, by omega, h3⟩

/-! ### comparisons -/
def cmpF (p : Int → Int → Bool) (q : Str → Str → Bool) (a b : D) : Option D := match a with
  | .int i => (match b with
    | .int j => some (.bl (p i j))
    | _ => none)
  | .str i => (match b with
    | .str j => some (.bl (q i j))
    | _ => none)
  | _ => none
def strLt (a b : Str) : Bool := decide (a.cps.toList < b.cps.toList)
def fLt := cmpF (fun i j => decide (i < j)) strLt
def fLe := cmpF (fun i j => decide (i ≤ j)) (fun a b => !strLt b a)
def fGt := cmpF (fun i j => decide (j < i)) (fun a b => strLt b a)
def fGe := cmpF (fun i j => decide (j ≤ i)) (fun a b => !strLt a b)
abbrev rCmp (p : Int → Int → Bool) (q : Str → Str → Bool) : R2 := fun x y H Q => (rI0 fun i j => .bl (p i j)) x y H Q ∨ ∃ i j, x = .str i ∧ y = .str j ∧ Q (.bl (q i j)) H
theorem op_ltA {X : Cx} : OpR X (compareOp .Lt) (rCmp (fun i j => decide (i < j)) strLt) := op_lt.or op_lt_str
theorem op_leA {X : Cx} : OpR X (compareOp .LtE) (rCmp (fun i j => decide (i ≤ j)) (fun a b => !strLt b a)) := op_le.or op_le_str
theorem op_gtA {X : Cx} : OpR X (compareOp .Gt) (rCmp (fun i j => decide (j < i)) (fun a b => strLt b a)) := op_gt.or op_gt_str
theorem op_geA {X : Cx} : OpR X (compareOp .GtE) (rCmp (fun i j => decide (j ≤ i)) (fun a b => !strLt a b)) := op_ge.or op_ge_str
theorem vs_cmp {p : Int → Int → Bool} {q : Str → Str → Bool} : VSim2 K N (rCmp p q) (cmpF p q) := fun H x y a b dz w ha hb e ew Q hQ => by
  cases a with
  | int i =>
    cases b with
    | int j => cases e; cases ew; exact .inl ⟨i, j, ha.int, hb.int, hQ⟩
    | _ => cases e
  | str i =>
    cases b with
    | str j => cases e; cases ew; exact .inr ⟨i, j, ha.str, hb.str, hQ⟩
    | _ => cases e
  | _ => cases e
/-- == of data -/
def toP : D → Option PyData
  | .non => some .none
  | .bl b => some (.bool b)
  | .int i => some (.int i)
  | .str x => some (.str x)
  | .bx _ .tup ds => (toPs ds).map .tuple
  | .bx _ .lst ds => (toPs ds).map .list
  | .bx _ _ _ => none
where toPs : List D → Option (List PyData)
  | [] => some []
  | d :: ds => (toP d).bind fun p => (toPs ds).map fun ps => p :: ps
mutual
theorem dp_of : ∀ {d : D} {v : V} {p : PyData}, toP d = some p → Vw K N H v d → Dp K H v p
  | .non, v, p, e, h => by cases e; rw [h.non]; exact .non
  | .bl b, v, p, e, h => by cases e; rw [h.bl]; exact .bl b
  | .int i, v, p, e, h => by cases e; rw [h.int]; exact .int i
  | .str x, v, p, e, h => by cases e; rw [h.str]; exact .str x
  | .bx o .tup ds, v, p, e, h => by
    obtain ⟨a, xs, rfl, hat, l, c⟩ := h.bx
    have e : (toP.toPs ds).map PyData.tuple = some p := e
    obtain ⟨ps, e2, rfl⟩ := Option.map_eq_some_iff.mp e
    exact .tup hat (dps_of e2 l c)
  | .bx o .lst ds, v, p, e, h => by
    obtain ⟨a, xs, rfl, hat, l, c⟩ := h.bx
    have e : (toP.toPs ds).map PyData.list = some p := e
    obtain ⟨ps, e2, rfl⟩ := Option.map_eq_some_iff.mp e
    exact .lst (.inl (.inl hat)) (dps_of e2 l c)
  | .bx o .scr ds, v, p, e, h => by cases e
  | .bx o (.dct _) ds, v, p, e, h => by cases e
  | .bx o (.ins _ _) ds, v, p, e, h => by cases e
theorem dps_of : ∀ {ds : List D} {xs : List V} {ps : List PyData}, toP.toPs ds = some ps → xs.length = ds.length → (∀ (j : Nat) x d, xs[j]? = some x → ds[j]? = some d → Vw K N H x d) → DpAll K H xs ps
  | [], [], ps, e, _, _ => by cases e; exact .nil
  | d :: ds, x :: xs, ps, e, l, c => by
    unfold toP.toPs at e
    cases e1 : toP d with
    | none => rw [e1] at e; cases e
    | some p =>
      rw [e1] at e
      cases e2 : toP.toPs ds with
      | none => rw [e2] at e; cases e
      | some ps' =>
        rw [e2] at e; cases e
        exact .cons (dp_of e1 (c 0 x d rfl rfl)) (dps_of e2 (by simpa using l) fun j x d hx hd => c (j + 1) x d hx hd)
end
def eqB (a b : D) : Option Bool := match toP a with
  | some p => (match toP b with
    | some q => if (SeqAt.shaped p && SeqAt.shaped q) = true then some (PyData.eqv p q) else none
    | none => none)
  | none => none
def fEq (a b : D) : Option D := (eqB a b).map .bl
def fNe (a b : D) : Option D := (eqB a b).map fun z => .bl (!z)
theorem vs_eq : VSim2 K N (rEqD K) fEq := fun H x y a b dz w ha hb e ew Q hQ => by
  unfold fEq eqB at e
  cases e1 : toP a with
  | none => rw [e1] at e; cases e
  | some p =>
    rw [e1] at e
    cases e2 : toP b with
    | none => rw [e2] at e; cases e
    | some q =>
      rw [e2] at e
      simp only at e
      split at e
      · rename_i hs
        obtain ⟨h1, h2⟩ := Bool.and_eq_true_iff.mp hs
        cases e; cases ew
        exact ⟨p, q, dp_of e1 ha, dp_of e2 hb, h1, h2, hQ⟩
      · cases e
theorem vs_ne : VSim2 K N (rNeD K) fNe := fun H x y a b dz w ha hb e ew Q hQ => by
  unfold fNe eqB at e
  cases e1 : toP a with
  | none => rw [e1] at e; cases e
  | some p =>
    rw [e1] at e
    cases e2 : toP b with
    | none => rw [e2] at e; cases e
    | some q =>
      rw [e2] at e
      simp only at e
      split at e
      · rename_i hs
        obtain ⟨h1, h2⟩ := Bool.and_eq_true_iff.mp hs
        cases e; cases ew
        exact ⟨p, q, dp_of e1 ha, dp_of e2 hb, h1, h2, hQ⟩
      · cases e
end
end DL

set_option maxHeartbeats 4000000
/-! DL8: own boxes change; items. -/
namespace DL
open PySem L2
section
variable {K : PySem.W.Frag} {N : Nm} {R R' R1 H H' H1 G G' : Hp} {v x y : V} {d e : D} {f : Addr → Prop} {L L' A B σ : List (Option V)} {s s1 : List (Option D)} {W : WX}
variable {te ta tb tc : TE} {m ma mb mc : DE} {tt tu : TT} {n t u : DT} {tl : TA} {ls : Lends} {ms : DA}

theorem Ow.own {o : Bool} {k : BK} {ds : List D} {a : Addr} (h : Ow K N R H (.ref a) (.bx true k ds) f) : ∃ dx xs, AtO N H a dx k xs ∧ xs.length = ds.length := by
  cases h with
  | p h _ => cases h
  | bx F h l c hf na dj => exact ⟨_, _, h, l⟩
/-- an own box on top takes a new content: each item an old one, or the second cell -/
theorem Rel.mut {p dx : Addr} {k k' : BK} {ds ds' : List D} {xs xs' : List V} (h : Rel K N G R H (some (.ref p) :: some y :: L) (some (.bx true k ds) :: some e :: s)) (at_ : AtO N H p dx k xs)
    (ne : AtO N H' p dx k' xs') (keep : ∀ b, b ≠ p → b ≠ dx → H' b = H b) (l' : xs'.length = ds'.length) (src : Nat → Option Nat)
    (hs : ∀ (j : Nat) d, ds'[j]? = some d → (∃ j0, src j = some j0 ∧ ds[j0]? = some d ∧ xs'[j]? = xs[j0]?) ∨ (src j = none ∧ d = e ∧ xs'[j]? = some y))
    (inj : ∀ i j, i < ds'.length → j < ds'.length → src i = src j → i = j)
    (uni : ∀ (xs2 : List V) (dx2 : Addr), AtO N H p dx2 k xs2 → xs2 = xs ∧ dx2 = dx) : Rel K N G R H' (some (.ref p) :: L) (some (.bx true k' ds') :: s) := by
  obtain ⟨F, o⟩ := h.own
  obtain ⟨v, h1, h2⟩ := o.at_ 0 _ rfl
  cases h1
  obtain ⟨v, h1, h4⟩ := o.at_ 1 _ rfl
  cases h1
  have lv0 : Liv (some (D.bx true k ds) :: some e :: s) 0 := ⟨_, rfl⟩
  have lv1 : Liv (some (D.bx true k ds) :: some e :: s) 1 := ⟨_, rfl⟩
  have lvi : ∀ i, Liv s i → Liv (some (D.bx true k ds) :: some e :: s) (i + 2) := fun i ⟨d, e⟩ => ⟨d, e⟩
  cases h2 with
  | p h3 _ => cases h3
  | @bx a dx0 _ xs0 _ f F0 at0 l c hf na dj =>
    obtain ⟨rfl, rfl⟩ := uni _ _ at0
    have np : ∀ i b, i ≠ 0 → Liv (some (D.bx true k ds) :: some e :: s) i → F i b → b ≠ p ∧ b ≠ dx0 := fun i b hi hl hb =>
      ⟨fun z => hi (o.dj i 0 b hl lv0 hb ((hf b).mpr (.inl z))), fun z => hi (o.dj i 0 b hl lv0 hb ((hf b).mpr (.inr (.inl z))))⟩
    have fr0 : ∀ b, F 0 b → R b = none ∧ G b = none := fun b hb => o.fr 0 b lv0 hb
    have fp := fr0 p ((hf p).mpr (.inl rfl))
    have fd := fr0 dx0 ((hf dx0).mpr (.inr (.inl rfl)))
    let FS : Nat → Addr → Prop := fun j b => match src j with | some j0 => F0 j0 b | none => F 1 b
    have lt : ∀ j, j < ds'.length → ∀ j0, src j = some j0 → j0 < ds.length := fun j hj j0 hj0 => by
      have e1 : ds'[j]? = some ds'[j] := by simp [hj]
      rcases hs j _ e1 with ⟨j1, h5, h6, _⟩ | ⟨h5, _⟩
      · rw [hj0] at h5; cases h5
        exact (List.getElem?_eq_some_iff.mp h6).1
      · rw [hj0] at h5; cases h5
    refine ⟨by have := h.len; simpa using this, fun q u hq => ?_, fun q u hq => ?_, h.rg, fun i => match i with | 0 => fun b => b = p ∨ b = dx0 ∨ ∃ j, j < ds'.length ∧ FS j b | i + 1 => F (i + 2), fun i d hd => ?_, fun i j b hi hj pp qq => ?_, fun i b hi hb => ?_⟩
    · rw [keep q (fun z => by rw [z, fp.1] at hq; cases hq) fun z => by rw [z, fd.1] at hq; cases hq]
      exact h.r q u hq
    · rw [keep q (fun z => by rw [z, fp.2] at hq; cases hq) fun z => by rw [z, fd.2] at hq; cases hq]
      exact h.g q u hq
    · cases i with
      | zero =>
        cases hd
        refine ⟨_, rfl, .bx FS ne l' (fun j x d hx hd => ?_) (fun b => Iff.rfl) (fun j hj => ?_) fun i j b hi hj pp qq => ?_⟩
        · rcases hs j d hd with ⟨j0, h5, h6, h7⟩ | ⟨h5, h6, h7⟩
          · rw [hx] at h7
            have hj0 : j0 < ds.length := (List.getElem?_eq_some_iff.mp h6).1
            have := (c j0 x d h7.symm h6).mono (Ex.refl R).le (H' := H') fun b hb => keep b (fun z => (na j0 hj0).1 (z ▸ hb)) fun z => (na j0 hj0).2 (z ▸ hb)
            exact this.imp fun b => by show F0 j0 b ↔ (match src j with | some j0 => F0 j0 b | none => F 1 b); rw [h5]
          · rw [hx] at h7; cases h7; subst h6
            have := h4.mono (Ex.refl R).le (H' := H') fun b hb => keep b (np 1 b (by decide) lv1 hb).1 (np 1 b (by decide) lv1 hb).2
            exact this.imp fun b => by show F 1 b ↔ (match src j with | some j0 => F0 j0 b | none => F 1 b); rw [h5]
        · cases e1 : src j with
          | some j0 =>
            have := na j0 (lt j hj j0 e1)
            show ¬ (match src j with | some j0 => F0 j0 p | none => F 1 p) ∧ ¬ (match src j with | some j0 => F0 j0 dx0 | none => F 1 dx0)
            rw [e1]
            exact this
          | none =>
            show ¬ (match src j with | some j0 => F0 j0 p | none => F 1 p) ∧ ¬ (match src j with | some j0 => F0 j0 dx0 | none => F 1 dx0)
            rw [e1]
            exact ⟨fun z => (np 1 _ (by decide) lv1 z).1 rfl, fun z => (np 1 _ (by decide) lv1 z).2 rfl⟩
        · have pp : (match src i with | some j0 => F0 j0 b | none => F 1 b) := pp
          have qq : (match src j with | some j0 => F0 j0 b | none => F 1 b) := qq
          refine inj i j hi hj ?_
          cases e1 : src i with
          | some i0 =>
            rw [e1] at pp
            have hi0 := lt i hi i0 e1
            cases e2 : src j with
            | some j0 =>
              rw [e2] at qq
              rw [dj i0 j0 b hi0 (lt j hj j0 e2) pp qq]
            | none =>
              rw [e2] at qq
              have := o.dj 0 1 b lv0 lv1 ((hf b).mpr (.inr (.inr ⟨i0, hi0, pp⟩))) qq
              omega
          | none =>
            rw [e1] at pp
            cases e2 : src j with
            | some j0 =>
              rw [e2] at qq
              have := o.dj 0 1 b lv0 lv1 ((hf b).mpr (.inr (.inr ⟨j0, lt j hj j0 e2, qq⟩))) pp
              omega
            | none => rfl
      | succ i =>
        obtain ⟨v', h5, h6⟩ := o.at_ (i + 2) d hd
        exact ⟨v', h5, h6.mono (Ex.refl R).le fun b hb => keep b (np (i + 2) b (by omega) (lvi i ⟨_, hd⟩) hb).1 (np (i + 2) b (by omega) (lvi i ⟨_, hd⟩) hb).2⟩
    · have cr : ∀ i, Liv s i → (b = p ∨ b = dx0 ∨ ∃ j, j < ds'.length ∧ FS j b) → ¬ F (i + 2) b := fun i hi z z2 => by
        rcases z with z | z | ⟨j, hj, z⟩
        · exact (np (i + 2) b (by omega) (lvi i hi) z2).1 z
        · exact (np (i + 2) b (by omega) (lvi i hi) z2).2 z
        · have z : (match src j with | some j0 => F0 j0 b | none => F 1 b) := z
          cases e1 : src j with
          | some j0 =>
            rw [e1] at z
            have := o.dj 0 (i + 2) b lv0 (lvi i hi) ((hf b).mpr (.inr (.inr ⟨j0, lt j hj j0 e1, z⟩))) z2
            omega
          | none =>
            rw [e1] at z
            have := o.dj 1 (i + 2) b lv1 (lvi i hi) z z2
            omega
      cases i with
      | zero =>
        cases j with
        | zero => rfl
        | succ j => exact absurd qq (cr j hj pp)
      | succ i =>
        cases j with
        | zero => exact absurd pp (cr i hi qq)
        | succ j =>
          have := o.dj _ _ b (lvi i hi) (lvi j hj) pp qq
          omega
    · cases i with
      | zero =>
        rcases hb with z | z | ⟨j, hj, z⟩
        · subst z; exact fp
        · subst z; exact fd
        · have z : (match src j with | some j0 => F0 j0 b | none => F 1 b) := z
          cases e1 : src j with
          | some j0 => rw [e1] at z; exact fr0 b ((hf b).mpr (.inr (.inr ⟨j0, lt j hj j0 e1, z⟩)))
          | none => rw [e1] at z; exact o.fr 1 b lv1 z
      | succ i => exact o.fr (i + 2) b (lvi i hi) hb
theorem uniL {p dx : Addr} {xs : List V} (h : AtO N H p dx .lst xs) : ∀ (xs2 : List V) (dx2 : Addr), AtO N H p dx2 .lst xs2 → xs2 = xs ∧ dx2 = dx := fun xs2 dx2 h2 => by
  have := h.2.symm.trans h2.2
  cases this
  exact ⟨rfl, h2.1.trans h.1.symm⟩
theorem zip_inj {α β : Type} : ∀ {ks : List α} {xs ys : List β}, ks.length = xs.length → ks.length = ys.length → ks.zip xs = ks.zip ys → xs = ys
  | [], [], [], _, _, _ => rfl
  | k :: ks, x :: xs, y :: ys, h1, h2, h => by
    have h : (k, x) :: ks.zip xs = (k, y) :: ks.zip ys := h
    injection h with h3 h4
    cases h3
    rw [zip_inj (by simpa using h1) (by simpa using h2) h4]
theorem uniD {p dx : Addr} {xs : List V} {ks : List Key} (h : AtO N H p dx (.dct ks) xs) : ∀ (xs2 : List V) (dx2 : Addr), AtO N H p dx2 (.dct ks) xs2 → xs2 = xs ∧ dx2 = dx := fun xs2 dx2 h2 => by
  have := h.2.2.1.symm.trans h2.2.2.1
  injection this with this
  injection this with this
  exact ⟨(zip_inj h.2.1 h2.2.1 this).symm, h2.1.trans h.1.symm⟩
/-- xs[j] = y -/
theorem Rel.setL {p : Addr} {ds : List D} {j : Nat} (h : Rel K N G R H (some (.ref p) :: some y :: L) (some (mL ds) :: some e :: s)) (hj : j < ds.length) :
    ∃ xs, H p = some (.lst xs) ∧ xs.length = ds.length ∧ Rel K N G R (upd H p (.lst (xs.set j y))) (some (.ref p) :: L) (some (mL (ds.set j e)) :: s) := by
  obtain ⟨f, h1, _⟩ := h.top
  obtain ⟨dx, xs, at_, l⟩ := h1.own (o := true)
  refine ⟨xs, at_.2, l, h.mut at_ ⟨at_.1, upd_same⟩ (fun b hb _ => upd_ne hb) (by simp [l]) (fun i => if i = j then none else some i) (fun i d hd => ?_) (fun a b _ _ hab => ?_) (uniL at_)⟩
  · by_cases hi : i = j
    · subst hi
      rw [List.getElem?_set_self hj] at hd; cases hd
      exact .inr ⟨by simp, rfl, by rw [List.getElem?_set_self (by omega)]⟩
    · rw [List.getElem?_set_ne (Ne.symm hi)] at hd
      exact .inl ⟨i, by simp [hi], hd, by rw [List.getElem?_set_ne (Ne.symm hi)]⟩
  · by_cases h1 : a = j <;> by_cases h2 : b = j <;> simp [h1, h2] at hab <;> omega
end
end DL

set_option maxHeartbeats 4000000
/-! DL9: subscripts, stores. -/
namespace L2
open PySem PySem.Spec PyProof.Rows
def dlIxD : R2 := fun x y H Q => ∃ a v, x = .ref a ∧ DGet H a y (some v) ∧ Q v H
theorem dl_ixd {X : Cx} (hu : X.A.units + 1 < cLine) : IxR X dlIxD := by
  intro value slice pins s σ H x y v u Q I rx ry h hs
  obtain ⟨a, w, rfl, g, q⟩ := h
  obtain rfl : v = Value.ref a := rx
  have hT := dict_typeIs I g
  have h₂ : wpAny (model X.prog X.w) X.A (getItem (.ref a) u) (EP X pins σ Q) X.xe s := d_getItem hu I g ry fun w' s3 I3 rw' => ⟨w, H, I3, rw', q⟩
  unfold subscriptTail
  refine wpAny_bind ?_
  rw [getitemInPython_of_ne hT.not_modules]
  refine wpAny_bind (wpAny_specialOf hT PySem.F.slot_dict_getitem.lookup ?_)
  have fin : wpAny (model X.prog X.w) X.A (subscripted slice false (.ref a) u) (fun r s₃ => wpAny (model X.prog X.w) X.A (letTemporaryGo value (.ref a) r >>= fun _ => pure r) (EP X pins σ Q) X.xe s₃) X.xe s := by
    rw [hs]
    exact wpAny_operating (wpAny_mono h₂ (fun r s₃ h₃ => wpAny_bind (wpAny_letTemporaryGo (wpAny_pure h₃))) fun _ _ x => x)
  first
    | exact wpAny_pure (wpAny_bind fin)
    | exact wpAny_bind (wpAny_pure (wpAny_bind fin))
    | exact wpAny_bind fin
def dlIxA (K : PySem.W.Frag) : R2 := fun x y H Q => rIxL K x y H Q ∨ (rIxT K x y H Q ∨ (rIxS x y H Q ∨ dlIxD x y H Q))
theorem dl_ixany {X : Cx} (hu : X.A.units + 1 < cLine) : IxR X (dlIxA X.K) := ix_list.or (ix_tup.or (ix_str.or (dl_ixd hu)))
def dlIn (neg : Bool) : R2 := fun y x H Q => ∃ a o, x = .ref a ∧ DGet H a y o ∧ Q (.bl (if neg then !o.isSome else o.isSome)) H
theorem dl_din {X : Cx} (hu : X.A.units + 1 < cLine) : OpR X (compareOp .In) (dlIn false) := by
  intro pins s σ H x y v u Q I rx ry h
  obtain ⟨a, ov, rfl, g, q⟩ := h
  obtain rfl : u = Value.ref a := ry
  exact d_in hu I g rx fun s3 I3 => ⟨.bl ov.isSome, H, I3, rfl, q⟩
theorem dl_dnotin {X : Cx} (hu : X.A.units + 1 < cLine) : OpR X (compareOp .NotIn) (dlIn true) := by
  intro pins s σ H x y v u Q I rx ry h
  obtain ⟨a, ov, rfl, g, q⟩ := h
  obtain rfl : u = Value.ref a := ry
  exact d_notIn hu I g rx fun s3 I3 => ⟨.bl (!ov.isSome), H, I3, rfl, q⟩
end L2
namespace DL
open PySem L2
section
variable {K : PySem.W.Frag} {N : Nm} {R R' R1 H H' H1 G G' : Hp} {v x y : V} {d e : D} {f : Addr → Prop} {L L' A B σ : List (Option V)} {s s1 : List (Option D)} {W : WX}
variable {te ta tb tc : TE} {m ma mb mc : DE} {tt tu : TT} {n t u : DT} {tl : TA} {ls : Lends} {ms : DA}

/-! ### dicts as keys and values -/
theorem valV_zip : ∀ {ks : List Key} {xs : List V} {k : Key}, ks.length = xs.length → valV (ks.zip xs) k = (ks.findIdx? fun z => decide (z = k)).bind fun j => xs[j]?
  | [], [], k, _ => rfl
  | z :: ks, x :: xs, k, h => by
    by_cases hz : z = k
    · have : valV ((z :: ks).zip (x :: xs)) k = some x := valV_pos (r := ks.zip xs) (p := (z, x)) hz
      rw [this]
      simp [List.findIdx?_cons, hz]
    · have : valV ((z :: ks).zip (x :: xs)) k = valV (ks.zip xs) k := valV_neg (r := ks.zip xs) (p := (z, x)) hz
      rw [this, valV_zip (by simpa using h)]
      simp only [List.findIdx?_cons, decide_eq_false hz]
      cases ks.findIdx? fun z => decide (z = k) <;> rfl
theorem keyOf_kV {k : Key} (h : keyOf d = some k) (hv : Vw K N H v d) : v = kV k := by
  cases d with
  | int i => cases h; rw [hv.int]; rfl
  | str z => cases h; rw [hv.str]; rfl
  | _ => cases h
theorem find_lt {ks : List Key} {k : Key} {j : Nat} (h : (ks.findIdx? fun z => decide (z = k)) = some j) : j < ks.length ∧ ks[j]? = some k := by
  obtain ⟨h1, h2, _⟩ := List.findIdx?_eq_some_iff_getElem.mp h
  exact ⟨h1, by rw [List.getElem?_eq_getElem h1]; exact congrArg some (by simpa using h2)⟩

/-! ### an item by its place -/
theorem rIxA_place {a : Addr} {k : BK} {xs : List V} {j : Nat} {Q : VK} (hat : At K N H a k xs) (hy : Vw K N H y e) (hp : place k xs.length e = some j) (hx : xs[j]? = some v) (q : Q v H) : dlIxA K (.ref a) y H Q := by
  have ix : ∀ n, ixN xs.length n = some j → atI xs n = some v := fun n h => by unfold atI; rw [h]; exact hx
  cases k with
  | tup =>
    cases e with
    | int n => exact .inr (.inl ⟨a, xs, n, v, rfl, hy.int, hat, ix n hp, q⟩)
    | _ => cases hp
  | lst =>
    cases e with
    | int n => exact .inl ⟨a, xs, n, v, rfl, hy.int, .inl (.inl hat), ix n hp, q⟩
    | _ => cases hp
  | scr =>
    cases e with
    | int n => exact .inl ⟨a, xs, n, v, rfl, hy.int, hat, ix n hp, q⟩
    | _ => cases hp
  | dct ks =>
    have hp : ((keyOf e).bind fun k => (ks.findIdx? fun z => decide (z = k))) = some j := hp
    cases ek : keyOf e with
    | none => rw [ek] at hp; cases hp
    | some kk =>
      rw [ek] at hp
      have hp : (ks.findIdx? fun z => decide (z = kk)) = some j := hp
      refine .inr (.inr (.inr ⟨a, v, rfl, .inl ⟨_, kk, hat.2.1, keyOf_kV ek hy, ?_⟩, q⟩))
      rw [valV_zip hat.1, hp]
      exact hx.symm
  | ins c fs => cases hp
theorem place_lt {k : BK} {n j : Nat} (h : place k n e = some j) (hk : ∀ ks, k = .dct ks → ks.length = n) : j < n := by
  cases k with
  | tup => cases e with
    | int i => exact (ixN_seq h).2.1
    | _ => cases h
  | lst => cases e with
    | int i => exact (ixN_seq h).2.1
    | _ => cases h
  | scr => cases e with
    | int i => exact (ixN_seq h).2.1
    | _ => cases h
  | dct ks =>
    have h : ((keyOf e).bind fun k => (ks.findIdx? fun z => decide (z = k))) = some j := h
    cases ek : keyOf e with
    | none => rw [ek] at h; cases h
    | some kk =>
      rw [ek] at h
      rw [← hk ks rfl]
      exact (find_lt h).1
  | ins c fs => cases h
theorem set_same {i j : Nat} {o : Bool} {k : BK} {ds : List D} (h : s[i]? = some (some (.bx o k ds))) (hd : ds[j]? = some d) (hr : rd d = d) : s.set i (some (.bx o k (ds.set j (rd d)))) = s := by
  rw [hr]
  have e1 : ds.set j d = ds := by
    have : ds[j]'((List.getElem?_eq_some_iff.mp hd).1) = d := (List.getElem?_eq_some_iff.mp hd).2
    rw [← this, List.set_getElem_self]
  rw [e1]
  have : s[i]'((List.getElem?_eq_some_iff.mp h).1) = some (.bx o k ds) := (List.getElem?_eq_some_iff.mp h).2
  rw [← this, List.set_getElem_self]
/-- what pick gives -/
theorem Rel.pick {i j : Nat} {o : Bool} {k : BK} {ds : List D} (h : Rel K N G R H σ s) (e : s[i]? = some (some (.bx o k ds))) (hj : j < ds.length) :
    ∃ d s' R' a xs v, DL.pick s i j = .ok d s' ∧ Ex R R' ∧ Rel K N G R' H (some v :: σ) (some d :: s') ∧ σ[i]? = some (some (.ref a)) ∧ At K N H a k xs ∧ xs.length = ds.length ∧ xs[j]? = some v := by
  have ej : ds[j]? = some ds[j] := by simp [hj]
  obtain ⟨R', a, xs, v, e1, h1, h2, h3, h4, h5, h6⟩ := h.item e ej
  cases ed : ds[j] with
  | bx o2 k2 es =>
    cases o2 with
    | true =>
      rw [ed] at h1 h6 ej
      exact ⟨_, _, R', a, xs, v, by unfold DL.pick; rw [e]; simp only [ej]; rfl, e1, h1.push h6, h2, h3, h4, h5⟩
    | false =>
      rw [ed] at h1 h6 ej
      rw [set_same e ej rfl] at h1
      exact ⟨_, _, R', a, xs, v, by unfold DL.pick; rw [e]; simp only [ej]; rfl, e1, h1.push h6, h2, h3, h4, h5⟩
  | non =>
    rw [ed] at h1 h6 ej
    rw [set_same e ej rfl] at h1
    exact ⟨_, _, R', a, xs, v, by unfold DL.pick; rw [e]; simp only [ej]; rfl, e1, h1.push h6, h2, h3, h4, h5⟩
  | bl b =>
    rw [ed] at h1 h6 ej
    rw [set_same e ej rfl] at h1
    exact ⟨_, _, R', a, xs, v, by unfold DL.pick; rw [e]; simp only [ej]; rfl, e1, h1.push h6, h2, h3, h4, h5⟩
  | int b =>
    rw [ed] at h1 h6 ej
    rw [set_same e ej rfl] at h1
    exact ⟨_, _, R', a, xs, v, by unfold DL.pick; rw [e]; simp only [ej]; rfl, e1, h1.push h6, h2, h3, h4, h5⟩
  | str b =>
    rw [ed] at h1 h6 ej
    rw [set_same e ej rfl] at h1
    exact ⟨_, _, R', a, xs, v, by unfold DL.pick; rw [e]; simp only [ej]; rfl, e1, h1.push h6, h2, h3, h4, h5⟩
theorem At.dk {a : Addr} {k : BK} {xs : List V} (h : At K N H a k xs) : ∀ ks, k = .dct ks → ks.length = xs.length := fun ks e => by subst e; exact h.1
/-- x[e], x a slot -/
def dSubS (i : Nat) (mi : DE) : DE := fun s => match s[i]? with
  | some (some _) => dSubN i mi s
  | _ => .no
theorem sim_subS {i : Nat} (hi : SimE K N W tb mb) : SimE K N W (tOp (dlIxA K) (tVar i) tb) (dSubS i mb) := fun G R H σ s Q rel hk => by
  unfold dSubS at hk
  cases e0 : s[i]? with
  | none => rw [e0] at hk; exact hk.elim
  | some o0 =>
    cases o0 with
    | none => rw [e0] at hk; exact hk.elim
    | some d0 =>
      rw [e0] at hk
      have hk : KE K N G R σ W Q (dSubN i mb s) := hk
      unfold dSubN at hk
      obtain ⟨x, hx, _⟩ := rel.vwAt e0
      refine ⟨x, hx, hi.bind rel hk fun db s1 R1 H1 y e1 r1 hk1 => ?_⟩
      cases e : s1[i]? with
      | none => rw [e] at hk1; exact hk1.elim
      | some o =>
        cases o with
        | none => rw [e] at hk1; exact hk1.elim
        | some dd =>
          rw [e] at hk1
          obtain ⟨x', h5, h6⟩ := r1.pop.vwAt e
          rw [hx] at h5; cases h5
          cases dd with
          | bx o k ds =>
            simp only at hk1
            cases ep : place k ds.length db with
            | none => rw [ep] at hk1; exact hk1.elim
            | some j =>
              rw [ep] at hk1
              simp only at hk1
              obtain ⟨a0, xs0, _, hat0, l0, _⟩ := h6.bx
              have hj : j < ds.length := place_lt ep fun ks hks => by rw [hat0.dk ks hks, l0]
              obtain ⟨d, s', R2, a, xs, w, e2, e3, r3, h7, h8, h9, h10⟩ := r1.pop.pick e hj
              rw [e2] at hk1
              rw [hx] at h7; cases h7
              exact rIxA_place h8 r1.vw (by rw [h9]; exact ep) h10 (hk1 R2 H1 w (e1.trans e3) r3)
          | str z =>
            simp only at hk1
            cases db with
            | int n =>
              simp only at hk1
              by_cases hz : z.length ≤ lim
              · rw [if_pos hz] at hk1
                cases ec : atI z.cps.toList n with
                | none => rw [ec] at hk1; exact hk1.elim
                | some c =>
                  rw [ec] at hk1
                  rw [h6.str]
                  exact .inr (.inr (.inl ⟨z, n, c, rfl, r1.vw.int, hz, ec, hk1 R1 H1 _ e1 (r1.pop.push (.str _))⟩))
              · rw [if_neg hz] at hk1; exact hk1.elim
            | _ => exact hk1.elim
          | _ => exact hk1.elim
/-- e[e] -/
theorem os_ix : OpSim K N (dlIxA K) subV := fun G R H x y a b L s rel dz e Q hQ => by
  cases a with
  | bx o k ds =>
    have e : ((place k ds.length b).bind fun j => (ds[j]?).map rd) = some dz := e
    cases ep : place k ds.length b with
    | none => rw [ep] at e; cases e
    | some j =>
      rw [ep] at e
      obtain ⟨d, hd, rfl⟩ := Option.map_eq_some_iff.mp (show (ds[j]?).map rd = some dz from e)
      obtain ⟨R', a, xs, v, e1, h1, h2, h3, h4, h5, h6⟩ := rel.item (i := 0) (j := j) rfl hd
      cases h2
      refine rIxA_place h3 (rel.pop.vw) (by rw [h4]; exact ep) h5 (hQ R' H v e1 ?_)
      have h1 : Rel K N G R' H (some (.ref a) :: some y :: L) (some (.bx o k (ds.set j (rd d))) :: some b :: s) := h1
      exact h1.pop.pop.push h6
  | str z =>
    cases b with
    | int n =>
      have e : (if z.length ≤ lim then (atI z.cps.toList n).map fun c => D.str ⟨#[c]⟩ else none) = some dz := e
      by_cases hz : z.length ≤ lim
      · rw [if_pos hz] at e
        obtain ⟨c, hc, rfl⟩ := Option.map_eq_some_iff.mp e
        exact .inr (.inr (.inl ⟨z, n, c, rel.vw.str, rel.pop.vw.int, hz, hc, hQ R H _ (Ex.refl R) (rel.pop.pop.push (.str _))⟩))
      · rw [if_neg hz] at e; cases e
    | _ => cases e
  | _ => cases e

/-! ### stores into a slot's own box -/
theorem Rel.via {i : Nat} (h : Rel K N G R H (some y :: σ) (some e :: s)) (hi : s[i]? = some (some d)) : ∃ v, σ[i]? = some (some v) ∧ Rel K N G R H (some v :: some y :: σ) (some d :: some e :: s.set i none) ∧
    ∀ R' H' d', Rel K N G R' H' (some v :: σ) (some d' :: s.set i none) → Rel K N G R' H' σ (s.set i (some d')) := by
  obtain ⟨v, h1, h2⟩ := Rel.move (i := i + 1) (d := d) h hi
  have hlt : i < s.length := (List.getElem?_eq_some_iff.mp hi).1
  refine ⟨v, h1, h2, fun R' H' d' r => ?_⟩
  have h3 := Rel.store (i := i) r (by simpa using hlt)
  have h1 : σ[i]? = some (some v) := h1
  have e1 : σ.set i (some v) = σ := by
    have : σ[i]'((List.getElem?_eq_some_iff.mp h1).1) = some v := (List.getElem?_eq_some_iff.mp h1).2
    rw [← this, List.set_getElem_self]
  rw [e1, List.set_set] at h3
  exact h3
def dApp (i : Nat) (m : DE) : DC := fun s => match s[i]? with
  | some (some (.bx true .lst _)) => rb (m s) fun d s1 => (match s1[i]? with
    | some (some (.bx true .lst ds)) => if ds.length < lim then .nx (s1.set i (some (mL (ds ++ [d])))) else .no
    | _ => .no)
  | _ => .no
variable {pr : Nat → Bool}
theorem sim_app {i : Nat} (h : SimE K N W te m) : SimC K N W pr (tDrop (tBM K "list" rAppend (tVar i) (tCons te tNil))) (dApp i m) := fun G R H σ s Dn rel hk => by
  unfold dApp at hk
  split at hk
  · rename_i ds0 e0
    obtain ⟨x, hx, hv⟩ := rel.vwAt e0
    obtain ⟨a0, xs0, rfl, hat0, _, _⟩ := hv.bx
    refine ⟨_, hx, .inl ⟨rfl, xs0, .inl (.inl hat0)⟩, ?_⟩
    refine h.bindC rel hk fun d s1 R1 H1 y e1 r1 hk1 => ?_
    split at hk1
    · rename_i ds e2
      by_cases hz : ds.length < lim
      · rw [if_pos hz] at hk1
        obtain ⟨v, h1, h2, back⟩ := r1.via e2
        rw [hx] at h1; cases h1
        obtain ⟨xs, h3, h4, h5⟩ := Rel.app h2
        exact ⟨a0, xs, y, rfl, rfl, h3, by rw [h4]; exact hz, hk1 R1 _ σ (Ex.refl R1) (fun _ _ => rfl) (back R1 _ _ h5)⟩
      · rw [if_neg hz] at hk1; exact hk1.elim
    · exact hk1.elim
  · exact hk.elim
def putKs (ks : List Key) (k : Key) : List Key := match ks.findIdx? (fun z => decide (z = k)) with
  | some _ => ks
  | none => ks ++ [k]
def putDs (ks : List Key) (ds : List D) (k : Key) (e : D) : List D := match ks.findIdx? (fun z => decide (z = k)) with
  | some j => ds.set j e
  | none => ds ++ [e]
/-- x[k] = e -/
def setAt (s : S) (i : Nat) (k e : D) : Ro := match s[i]? with
  | some (some (.bx true .lst ds)) => (match k with
    | .int n => (match ixN ds.length n with
      | some j => .nx (s.set i (some (mL (ds.set j e))))
      | none => .no)
    | _ => .no)
  | some (some (.bx true (.dct ks) ds)) => (match keyOf k with
    | some kk => if ds.length < lim then .nx (s.set i (some (mD (putKs ks kk) (putDs ks ds kk e)))) else .no
    | none => .no)
  | _ => .no
def dSetS (i : Nat) (mi mv : DE) : DC := fun s => rb (mv s) fun e s1 => match s1[i]? with
  | some (some _) => rb (mi s1) fun k s2 => setAt s2 i k e
  | _ => .no
theorem nodup_find {ks : List Key} {k : Key} (h : (ks.findIdx? fun z => decide (z = k)) = none) : k ∉ ks := fun hm => by
  have := List.findIdx?_eq_none_iff.mp h k hm
  simp at this
theorem putK_zip {ks : List Key} {xs : List V} {k : Key} (l : ks.length = xs.length) (nd : ks.Nodup) : putK (ks.zip xs) k y = (putKs ks k).zip (match ks.findIdx? (fun z => decide (z = k)) with | some j => xs.set j y | none => xs ++ [y]) := by
  unfold putKs
  cases e : ks.findIdx? (fun z => decide (z = k)) with
  | some j =>
    obtain ⟨hj, ej⟩ := find_lt e
    have hany : ((ks.zip xs).any fun kv => decide (kv.1 = k)) = true := List.any_eq_true.mpr ⟨(ks[j], xs[j]'(by omega)), List.mem_iff_getElem.mpr ⟨j, by simp; omega, by simp⟩, by
      rw [List.getElem?_eq_getElem hj] at ej
      simp [Option.some.inj ej]⟩
    unfold putK
    rw [if_pos hany]
    refine List.ext_getElem? fun i => ?_
    rw [List.getElem?_map]
    simp only [List.zip, List.getElem?_zipWith]
    by_cases hi : i < ks.length
    · have h1 : ks[i]? = some ks[i] := by simp [hi]
      have h2 : xs[i]? = some (xs[i]'(by omega)) := by simp [← l, hi]
      by_cases hij : i = j
      · subst hij
        have : ks[i] = k := by rw [h1] at ej; exact Option.some.inj ej
        rw [List.getElem?_set_self (by omega), h1, h2]
        simp [this]
      · have : ks[i] ≠ k := fun z => hij (by
          have e1 : ks[j] = k := by
            have := ej; rw [List.getElem?_eq_getElem hj] at this; exact Option.some.inj this
          exact (List.getElem_inj nd).mp (z.trans e1.symm))
        rw [List.getElem?_set_ne (Ne.symm hij), h1, h2]
        simp [this]
    · have h1 : ks[i]? = none := List.getElem?_eq_none_iff.mpr (by omega)
      rw [h1]
      simp
  | none =>
    have hm := nodup_find e
    have hany : ((ks.zip xs).any fun kv => decide (kv.1 = k)) = false := by
      rw [Bool.eq_false_iff]
      intro h
      obtain ⟨p, hp, e⟩ := List.any_eq_true.mp h
      exact hm (of_decide_eq_true e ▸ (List.of_mem_zip hp).1)
    unfold putK
    rw [if_neg (by rw [hany]; decide), List.zip_append l]
    rfl
end
end DL

set_option maxHeartbeats 4000000
/-! DLE: enumerate over a tuple. -/
namespace PySem
open Sem (wp)
theorem dle_new1 {v : Value} {o : Obj} {H : Heap → Prop} (B : Begins v o H) :
    Meets (Builtin.«enumerate.__new__» ⟨[.type "enumerate", v], []⟩) (fun _ R s => H s.heap ∧
      R (.ok (.ret (.ref (s.heap.push o).objs.size))) { s with heap := (s.heap.push o).push { cls := .type "enumerate", data := .fields #[.none, .bool false, .ref s.heap.objs.size, rawInt 0, .none, .none] } }) :=
  .of_wp fun prog w A R s h => by
    obtain ⟨hp, g, d, tk, os⟩ := s; obtain ⟨h1, h⟩ := h
    have hsub := sub_enumerate
    have q1 : ∀ {A' : Around} {E : Value → Shared → Prop} {Q : Value → Shared → Prop}, Q (.ref hp.objs.size) ⟨hp.push o, g, d, tk, os⟩ → wpAny (model prog w) A' (pyIter v) Q E ⟨hp, g, d, tk, os⟩ :=
      fun q => B.iter prog w _ _ ⟨hp, g, d, tk, os⟩ _ h1 q
    wp_walk using q1
    refine wpAny_stack_any fun st => wpAny_pure ?_
    split
    · rename_i c _ _ _ _ _
      cases (c == Value.type "enumerate")
      · wp_walk using q1
        exact ⟨_, rfl, h⟩
      · wp_walk using q1
        exact ⟨_, rfl, h⟩
    · wp_walk using q1
      exact ⟨_, rfl, h⟩
section
variable {prog : Program} {w : World} {A : Around} {E : Value → Shared → Prop} {s : Shared}
theorem dle_begin {v : Value} {o : Obj} {H : Heap → Prop} {Q : Value → Shared → Prop} (B : Begins v o H) (h1 : H s.heap)
    (h : ∀ h', IsEnum h' (s.heap.objs.size + 1) s.heap.objs.size 0 .none → h'.get? s.heap.objs.size = some o → h'.objs.size = s.heap.objs.size + 2 →
      (∀ b o, s.heap.get? b = some o → h'.get? b = some o) → Q (.ref (s.heap.objs.size + 1)) { s with heap := h' }) :
    wpAny (model prog w) A (call (.type "enumerate") [v]) Q E s := by
  refine callType_new F.called_enumerate (by decide) (F.typeCall_enumerate_1 _) (F.newCall_enumerate_1 _) (fun obj => F.args_object_init_2 obj _) F.entry_enumerate_new
    (dle_new1 B) ⟨h1, ?_⟩
  have hz : (s.heap.push o).objs.size = s.heap.objs.size + 1 := Heap.size_push ..
  show _ ∧ _
  rw [hz]
  have he : IsEnum ((s.heap.push o).push { cls := .type "enumerate", data := .fields #[.none, .bool false, .ref s.heap.objs.size, rawInt 0, .none, .none] }) (s.heap.objs.size + 1) s.heap.objs.size 0 .none := by
    have := Heap.get?_push_size (s.heap.push o) (o := { cls := .type "enumerate", data := .fields #[.none, .bool false, .ref s.heap.objs.size, rawInt 0, .none, .none] }) rfl
    rw [hz] at this; exact this
  refine ⟨⟨_, he, rfl⟩, h _ he (Heap.get?_push_of_some _ (Heap.get?_push_size _ B.free)) (by rw [Heap.size_push, hz]) fun b o x => Heap.get?_push_of_some _ (Heap.get?_push_of_some _ x)⟩
theorem dle_end {e it t : Addr} {i : Nat} {items : Array Value} {old : Value} {k : Int} {Q : Option Value → Shared → Prop} (hh : A.handled = none)
    (he : IsEnum s.heap e it k old) (hit : s.heap.IsTupleIter it t i) (hl : s.heap.IsTuple t items) (hx : items[i]? = none)
    (hQ : ∀ h', Heap.ExtBut it s.heap h' → Q none { s with heap := h' }) : wpAny (model prog w) A (pyNext (.ref e)) Q E s := by
  have hT : s.TypeIs (.ref e) "enumerate" := ⟨_, he, rfl⟩
  unfold pyNext
  refine wpAny_bind (wpAny_attempt (wpAny_callSpecial?_slot (name := Str.ofString "__next__") hT F.slot_enumerate_next
    (wpAny_call_entry F.slot_enumerate_next hT F.entry_enumerate_next ?_ (F.args_enumerate_next_1 _))))
  show wpAny _ _ (field (.ref e) 2 >>= _) _ _ _
  refine wpAny_bind (wpAny_field he rfl (x := .ref it) rfl ?_)
  refine wpAny_bind (wpAny_nextOf_tuple_end (A := A.in1) hh hit hl hx fun h' x he' hx' => ?_)
  obtain ⟨o, ho, hc⟩ := hx'
  refine wpAny_bind (wpAny_isInstance (T := "StopIteration") (b := true) ⟨o, ho, hc⟩ isSubtype_stop ?_)
  exact wpAny_pure (hQ _ he')
end
end PySem
namespace L2
open PySem PySem.Spec PyProof.Rows
/-- enumerate of the tuple at a -/
def IteT (K : PySem.W.Frag) (a : Addr) : It :=
  ⟨fun i H => ∃ (xs : List V) (x : V), SqT K H a xs ∧ xs[i]? = some x, fun i H v H' => ∃ T x, v = .ref T ∧ H T = none ∧ H' = upd H T (.tup [.int (i : Nat), x]) ∧ ∀ xs, SqT K H a xs → xs[i]? = some x, fun i H => ∃ xs : List V, SqT K H a xs ∧ xs.length ≤ i⟩
theorem turn_enumT {P : Program} {w : World} {K : PySem.W.Frag} {elts : List Expr} {kk : Nat} {tpos : Pos} (a e it : Addr) :
    Turn P w K (.Tuple elts kk tpos) (IteT K a) [e, it] e (fun i h => (∃ old, IsEnum h e it ((i : Nat) : Int) old) ∧ h.IsTupleIter it a i ∧ e ≠ it) where
  mem := by simp
  obj := fun i h st b hb => by
    obtain ⟨⟨old, he⟩, ⟨o, ho, hc, hd⟩, _⟩ := st
    have e' : b = e ∨ b = it := by simpa using hb
    rcases e' with z | z
    · rw [z]; exact ⟨_, he, fun v q => nomatch q⟩
    · rw [z]; exact ⟨o, ho, fun v q => by rw [hd] at q; cases q⟩
  keep := fun i h h' st k => let ⟨⟨old, he⟩, hi, hne⟩ := st; ⟨⟨old, k e (by simp) _ he⟩, hi.at fun o q => k it (by simp) o q, hne⟩
  item := by
    intro X hP hw hK hc i pins s σ H E I hf st hg
    subst hP hw hK
    obtain ⟨⟨old, he⟩, hit, hne⟩ := st
    obtain ⟨xs, x, hq, hx⟩ := hg
    obtain ⟨its, rv, p, hz⟩ := I.tuple hq
    obtain ⟨u, hu, ru⟩ := rv.get hx
    have hel : e < s.heap.objs.size := Heap.lt_size he
    have hil : it < s.heap.objs.size := by obtain ⟨_, q, _⟩ := hit; exact Heap.lt_size q
    have hl := rv.length
    have hia : a ≠ it := fun z => by
      obtain ⟨o, ho, hc, _⟩ := hit
      obtain ⟨o', ho', hc', _⟩ := p
      rw [z, ho] at ho'; cases ho'; rw [hc] at hc'; injection hc' with hh; exact absurd hh (by decide)
    have hea : e ≠ a := fun z => by
      obtain ⟨o', ho', hc', _⟩ := p
      rw [← z] at ho'
      have he' : s.heap.get? e = some _ := he
      rw [he'] at ho'; cases ho'; injection hc' with hh; exact absurd hh (by decide)
    have hil2 : i < its.toArray.size := by
      have := (List.getElem?_eq_some_iff.mp hx).1
      simp; omega
    have DT := Draws.tuple (prog := X.prog) (w := X.w) (A := X.A.in1) (I.ok.hd hc) it a hia its.toArray
    refine wpAny_pyNext_enum_itemD (A := X.A) DT he ⟨hit, p⟩ hil2 hne (by simp [hne, hea]) fun x' h' tk hP ho hst hT hsz hk => ?_
    have hxu : x' = u := by
      have h1 : its.toArray[i]? = some x' := hP
      have h2 : its.toArray[i]? = some u := by simpa using hu
      rw [h2] at h1; exact (Option.some.inj h1).symm
    subst hxu
    refine ⟨_, rfl, wpAny_letOwnedTupleGo_enum (s := { s with heap := h', toks := tk + 1 }) ho fun h'' he' sb => ?_⟩
    have hT2 : h''.get? s.heap.objs.size = some { cls := .type "tuple", data := .seq #[.int i tk, x'] } := (sb.2 _ (Nat.ne_of_gt hel)).trans hT
    have new : ObjOk X.prog X.w (upd H s.heap.objs.size (.tup [.int (i : Nat), x])) h'' s.heap.objs.size (.tup [.int (i : Nat), x]) :=
      ⟨by show 2 ≤ sizeLine; decide, [.int i tk, x'], .cons ⟨_, rfl⟩ (.cons ru .nil), ⟨_, hT2, rfl, _, rfl⟩⟩
    have I1 : Inv X pins σ (upd H s.heap.objs.size (.tup [.int (i : Nat), x])) { s with heap := h'', toks := tk + 1 } :=
      I.turnedNew (ch := [e, it]) (fun b ob hb q => (sb.2 b (fun z => hb (by simp [z]))).trans (hk b ob (fun z => hb (by simp [z])) (fun z => hb (by simp [z])) q)) hf (Nat.le_refl _) new
    refine ⟨.ref s.heap.objs.size, _, I1, rfl, ⟨_, x, rfl, I.hok.fresh (Nat.le_refl _), rfl, fun ys hy => by rw [I.tuple_inj hy hq]; exact hx⟩, ⟨⟨x', ?_⟩, hst.1.at fun o q => (sb.2 it (Ne.symm hne)).trans q, hne⟩, fun b hb => ?_⟩
    · have e1 : ((i + 1 : Nat) : Int) = (i : Int) + 1 := by omega
      rw [e1]; exact he'
    · have hb' : b < s.heap.objs.size := by
        have e' : b = e ∨ b = it := by simpa using hb
        rcases e' with z | z
        · rw [z]; exact hel
        · rw [z]; exact hil
      rw [upd_ne (Nat.ne_of_lt hb')]
      exact (hf b hb).1
  done := by
    intro X hP hw hK hc i pins s σ H E I hf st hg
    subst hP hw hK
    obtain ⟨⟨old, he⟩, hit, hne⟩ := st
    obtain ⟨xs, hq, hx⟩ := hg
    obtain ⟨its, rv, p, hz⟩ := I.tuple hq
    obtain ⟨f0, f1, f2, f3, f4, f5⟩ := hf it (by simp)
    have hl := rv.length
    exact dle_end (I.ok.hd hc) he hit (show s.heap.IsTuple a its.toArray from p) (by simp; omega) fun h' eb => ⟨rfl, I.turned (t' := s.toks) (fun b o hb q => eb b o hb q) f0 f1 f3 f4 f5⟩
  self := fun A i s Q E st h => let ⟨⟨_, he⟩, _⟩ := st; wpAny_pyIter_enum he h
/-- enumerate of a list or of a tuple -/
def iEnumA (K : PySem.W.Frag) (ta : TA) : TI := fun σ H R => ta σ H fun vs H1 => ∃ a xs, vs = [.ref a] ∧ ((SqL K H1 a xs ∧ R (Ite K a) H1) ∨ (SqT K H1 a xs ∧ R (IteT K a) H1))
theorem pi_enumA {X : Cx} {e : Expr} {ta : TA} {p pos tpos : Pos} {elts : List Expr} {kk : Nat} (hg : Gl X "enumerate") (hm : X.mg "enumerate" = none) (ha : PA X [e] ta) (hs : starEach [e] X.env = [(false, eval e X.env)] := by rfl) :
    PI X (.Tuple elts kk tpos) (.Call (.Name "enumerate" p) [e] [] pos) (iEnumA X.K ta) := by
  refine ⟨fun pins s σ H R I h => ?_⟩
  refine Call_ (ld_blt I hg hm boot_enumerate (PyProof.Rows.callWith_type1 (thn (ha.run pos pins s σ H _ I h) fun us s1 ⟨vs, H1, I1, r1, q1⟩ => ?_) hs rfl))
  obtain ⟨a, xs, ex, q⟩ := q1
  subst ex
  cases r1 with
  | cons r rr =>
    cases rr
    cases r
    have fin : ∀ b, b = s1.heap.objs.size + 1 ∨ b = s1.heap.objs.size → s1.heap.objs.size ≤ b := fun b e' => by
      rcases e' with z | z
      · rw [z]; exact Nat.le_add_right _ _
      · rw [z]; exact Nat.le_refl _
    rcases q with ⟨hq, q⟩ | ⟨hq, q⟩
    · obtain ⟨its, rv, p', hz⟩ := I1.list hq
      refine call_enumerate_list p'.isList fun h' he hit hsz hk => wpAny_pyIter_enum he ?_
      have I2 : Inv X pins σ H1 { s1 with heap := h' } := I1.kept (t' := s1.toks) hk
      refine ⟨s1.heap.objs.size + 1, [s1.heap.objs.size + 1, s1.heap.objs.size], _, _, H1, rfl, I2, turn_enum a (s1.heap.objs.size + 1) s1.heap.objs.size, ⟨⟨.none, he⟩, hit, Nat.succ_ne_self _⟩, fun b hb => ?_, q⟩
      have hle := fin b (by simpa using hb)
      exact I1.fpOk hle (I1.hok.fresh hle)
    · obtain ⟨its, rv, p', hz⟩ := I1.tuple hq
      refine dle_begin (begins_tuple a its.toArray) (show s1.heap.IsTuple a its.toArray from p') fun h' he hit hsz hk => wpAny_pyIter_enum he ?_
      have I2 : Inv X pins σ H1 { s1 with heap := h' } := I1.kept (t' := s1.toks) hk
      refine ⟨s1.heap.objs.size + 1, [s1.heap.objs.size + 1, s1.heap.objs.size], _, _, H1, rfl, I2, turn_enumT a (s1.heap.objs.size + 1) s1.heap.objs.size, ⟨⟨.none, he⟩, ⟨_, hit, rfl, rfl⟩, Nat.succ_ne_self _⟩, fun b hb => ?_, q⟩
      have hle := fin b (by simpa using hb)
      exact I1.fpOk hle (I1.hok.fresh hle)
end L2

set_option maxHeartbeats 4000000
/-! DL10: stores into dicts; iterations; the rules by syntax. -/
namespace DL
open PySem L2
section
variable {K : PySem.W.Frag} {N : Nm} {R R' R1 H H' H1 G G' : Hp} {v x y : V} {d e : D} {f : Addr → Prop} {L L' A B σ : List (Option V)} {s s1 : List (Option D)} {W : WX}
variable {te ta tb tc tv : TE} {m ma mb mc mv : DE} {tt tu : TT} {n t u : DT} {tl : TA} {ls : Lends} {ms : DA} {pr : Nat → Bool}
theorem putKs_nodup {ks : List Key} {k : Key} (h : ks.Nodup) : (putKs ks k).Nodup := by
  unfold putKs
  split
  · exact h
  · rename_i e
    exact nd_snoc h (nodup_find e)
theorem Rel.putD {p : Addr} {ks : List Key} {ds : List D} {k : Key} (h : Rel K N G R H (some (.ref p) :: some y :: L) (some (mD ks ds) :: some e :: s)) (hz : ds.length < lim) :
    ∃ H', DPut H p (kV k) y H' ∧ Rel K N G R H' (some (.ref p) :: L) (some (mD (putKs ks k) (putDs ks ds k e)) :: s) := by
  obtain ⟨f, h1, _⟩ := h.top
  obtain ⟨dx, xs, at_, l⟩ := h1.own (o := true)
  have uni := uniD at_
  obtain ⟨hdx, lk, hp, nd⟩ := id at_
  subst hdx
  have hput := putK_zip (y := y) (k := k) lk nd
  refine ⟨upd H dx (.dK (putK (ks.zip xs) k y)), .inl ⟨_, k, hp, rfl, by rw [List.length_zip, lk, Nat.min_self, l]; exact hz, rfl⟩, ?_⟩
  rw [hput]
  cases e1 : ks.findIdx? (fun z => decide (z = k)) with
  | some j =>
    obtain ⟨hj, ej⟩ := find_lt e1
    have hks : putKs ks k = ks := by unfold putKs; rw [e1]
    have hds : putDs ks ds k e = ds.set j e := by unfold putDs; rw [e1]
    rw [hks, hds]
    have hjd : j < ds.length := by omega
    refine h.mut at_ ⟨rfl, by simp [lk], upd_same, nd⟩ (fun b hb _ => upd_ne hb) (by simp [l]) (fun i => if i = j then none else some i) (fun i d hd => ?_) (fun a b _ _ hab => ?_) uni
    · by_cases hi : i = j
      · subst hi
        rw [List.getElem?_set_self hjd] at hd; cases hd
        exact .inr ⟨by simp, rfl, by rw [List.getElem?_set_self (by omega)]⟩
      · rw [List.getElem?_set_ne (Ne.symm hi)] at hd
        exact .inl ⟨i, by simp [hi], hd, by rw [List.getElem?_set_ne (Ne.symm hi)]⟩
    · by_cases h1 : a = j <;> by_cases h2 : b = j <;> simp [h1, h2] at hab <;> omega
  | none =>
    have hks : putKs ks k = ks ++ [k] := by unfold putKs; rw [e1]
    have hds : putDs ks ds k e = ds ++ [e] := by unfold putDs; rw [e1]
    have nd' : (ks ++ [k]).Nodup := nd_snoc nd (nodup_find e1)
    rw [hks, hds]
    refine h.mut at_ ⟨rfl, by simp [lk], upd_same, nd'⟩ (fun b hb _ => upd_ne hb) (by simp [l]) (fun i => if i < ds.length then some i else none) (fun i d hd => ?_) (fun a b ha hb hab => ?_) uni
    · by_cases hi : i < ds.length
      · rw [List.getElem?_append_left hi] at hd
        exact .inl ⟨i, by simp [hi], hd, by rw [List.getElem?_append_left (by omega)]⟩
      · rw [List.getElem?_append_right (by omega)] at hd
        have h0 : i - ds.length = 0 := by
          have := (List.getElem?_eq_some_iff.mp hd).1
          simp at this; omega
        rw [h0] at hd; cases hd
        refine .inr ⟨by simp [hi], rfl, ?_⟩
        rw [List.getElem?_append_right (by omega), l, h0]; rfl
    · simp at ha hb
      by_cases h1 : a < ds.length <;> by_cases h2 : b < ds.length <;> simp [h1, h2] at hab <;> omega
abbrev rSetA : TSet := fun o i v H Q => rSetL o i v H Q ∨ rSetD o i v H Q
theorem PSet.or {X : Cx} {r r' : TSet} (h : PSet X r) (h' : PSet X r') : PSet X (fun o i v H Q => r o i v H Q ∨ r' o i v H Q) := by
  intro pins s σ H o i v ov iv u Q I ro ri rv q
  rcases q with q | q
  · exact h pins s σ H o i v ov iv u Q I ro ri rv q
  · exact h' pins s σ H o i v ov iv u Q I ro ri rv q
theorem sim_setS {i : Nat} (hv : SimE K N W tv mv) (hi : SimE K N W tb mb) : SimC K N W pr (tAsg tv (gSub (tVar i) tb rSetA)) (dSetS i mb mv) := fun G R H σ s Dn rel hk =>
  hv.bindC rel hk fun e s1 R1 H1 y e1 r1 hk1 => by
    cases e0 : s1[i]? with
    | none => rw [e0] at hk1; exact hk1.elim
    | some o0 =>
      cases o0 with
      | none => rw [e0] at hk1; exact hk1.elim
      | some d0 =>
        rw [e0] at hk1
        obtain ⟨x, hx, _⟩ := r1.pop.vwAt e0
        refine ⟨x, hx, ?_⟩
        obtain ⟨G', eg, r1', back⟩ := frame1 r1
        have hk1 : KC K N G R1 σ W pr Dn (rb (mb s1) fun k s2 => setAt s2 i k e) := hk1
        refine hi G' R1 H1 σ s1 _ r1' ?_
        cases em : mb s1 with
        | ex x2 s2 =>
          rw [em] at hk1
          exact fun R2 H2 c dd e2 r2 hxc => hk1 R2 H2 σ c dd e2 (fun _ _ => rfl) (back R2 H2 _ _ e2 r2).pop hxc
        | no => rw [em] at hk1; exact hk1.elim
        | ok k s2 =>
          rw [em] at hk1
          intro R2 H2 w e2 r2'
          have r2 := back R2 H2 _ _ e2 r2'
          have hk1 : KC K N G R1 σ W pr Dn (setAt s2 i k e) := hk1
          have vk := r2.pop.vw
          -- drop the key
          have r3 : Rel K N G R2 H2 (some y :: σ) (some e :: s2) := r2.re (by have := r2.len; simpa using this) (fun j => if j = 0 then 0 else j + 1) (fun j d hd => by
            cases j with
            | zero => exact ⟨hd, rfl⟩
            | succ j => exact ⟨hd, rfl⟩) fun a b _ _ hab => by
              by_cases h1 : a = 0 <;> by_cases h2 : b = 0 <;> simp [h1, h2] at hab <;> omega
          unfold setAt at hk1
          split at hk1
          · rename_i ds es
            obtain ⟨v, hv1, hv2, bk⟩ := r3.via es
            rw [hx] at hv1; cases hv1
            split at hk1
            · rename_i n _
              split at hk1
              · rename_i j ej
                have hj := (ixN_seq ej).2.1
                obtain ⟨f, h5, _⟩ := hv2.top
                have : ∃ p, x = .ref p := by
                  cases h5 with
                  | p h _ => cases h
                  | bx => exact ⟨_, rfl⟩
                obtain ⟨p, rfl⟩ := this
                obtain ⟨xs, h6, h7, h8⟩ := hv2.setL hj
                refine .inl ⟨p, xs, n, j, rfl, vk.int, h6, by rw [h7]; exact ej, ?_⟩
                exact hk1 R2 _ σ e2 (fun _ _ => rfl) (bk R2 _ _ h8)
              · exact hk1.elim
            · exact hk1.elim
          · rename_i ks ds es
            obtain ⟨v, hv1, hv2, bk⟩ := r3.via es
            rw [hx] at hv1; cases hv1
            split at hk1
            · rename_i kk ek
              by_cases hz : ds.length < lim
              · rw [if_pos hz] at hk1
                obtain ⟨f, h5, _⟩ := hv2.top
                have : ∃ p, x = .ref p := by
                  cases h5 with
                  | p h _ => cases h
                  | bx => exact ⟨_, rfl⟩
                obtain ⟨p, rfl⟩ := this
                obtain ⟨H3, h6, h7⟩ := hv2.putD (k := kk) hz
                have ew := keyOf_kV ek vk
                rw [← ew] at h6
                exact .inr ⟨p, H3, rfl, h6, hk1 R2 _ σ e2 (fun _ _ => rfl) (bk R2 _ _ h7)⟩
              · rw [if_neg hz] at hk1; exact hk1.elim
            · exact hk1.elim
          · exact hk1.elim

/-! ### what is walked -/
def itemsD : D → Option (List D)
  | .bx _ .tup ds => some ds
  | .bx _ .lst ds => some ds
  | .bx _ .scr ds => some ds
  | .str z => some (z.cps.toList.map fun c => .str ⟨#[c]⟩)
  | _ => none
def dIt (m : DE) : DA := fun s => (m s).bind fun d s1 => match itemsD (rd d) with
  | some ds => .ok ds s1
  | none => .no
theorem yl_of {J : It} {ds : List D} (h : ∀ (i : Nat) H', Ex R H' → (∀ d, ds[i]? = some d → J.go i H' ∧ ∀ x H'', J.yld i H' x H'' → H'' = H' ∧ En K N R x d) ∧ (ds.length ≤ i → J.stop i H')) : Yl K N J R ds := fun i Rc G H' L S ec rel => by
  obtain ⟨h1, h2⟩ := h i H' (ec.trans rel.r)
  refine ⟨fun d hd => ?_, h2⟩
  obtain ⟨h3, h4⟩ := h1 d hd
  refine ⟨h3, fun x H'' hy => ?_⟩
  obtain ⟨rfl, h5⟩ := h4 x H'' hy
  exact ⟨Rc, Ex.refl Rc, rel.push (h5.mono ec.le)⟩
theorem sqT_inj {a : Addr} {xs ys : List V} : True := trivial
theorem yl_list {a : Addr} {ds : List D} {xs : List V} (hq : ∀ H', Ex R H' → SqL K H' a xs) (l : xs.length = ds.length) (c : ∀ (j : Nat) x d, xs[j]? = some x → ds[j]? = some d → En K N R x d) : Yl K N (Itl K a) R ds :=
  yl_of fun i H' ex => ⟨fun d hd => by
    have hi : i < ds.length := (List.getElem?_eq_some_iff.mp hd).1
    have hx : xs[i]? = some (xs[i]'(by omega)) := by simp [l, hi]
    exact ⟨⟨xs, _, hq H' ex, hx⟩, fun x H'' hy => ⟨hy.1, by
      have := hy.2 xs (hq H' ex)
      exact c i x d this hd⟩⟩, fun hi => ⟨xs, hq H' ex, by omega⟩⟩
theorem yl_tup {a : Addr} {ds : List D} {xs : List V} (hq : ∀ H', Ex R H' → SqT K H' a xs) (l : xs.length = ds.length) (c : ∀ (j : Nat) x d, xs[j]? = some x → ds[j]? = some d → En K N R x d) : Yl K N (Itt K a) R ds :=
  yl_of fun i H' ex => ⟨fun d hd => by
    have hi : i < ds.length := (List.getElem?_eq_some_iff.mp hd).1
    have hx : xs[i]? = some (xs[i]'(by omega)) := by simp [l, hi]
    exact ⟨⟨xs, _, hq H' ex, hx⟩, fun x H'' hy => ⟨hy.1, by
      have := hy.2 xs (hq H' ex)
      exact c i x d this hd⟩⟩, fun hi => ⟨xs, hq H' ex, by omega⟩⟩
theorem yl_str {z : Str} : Yl K N (Its z) R (z.cps.toList.map fun c => .str ⟨#[c]⟩) :=
  yl_of fun i H' ex => ⟨fun d hd => by
    have hi := (List.getElem?_eq_some_iff.mp hd).1
    simp only [List.length_map, Array.length_toList] at hi
    refine ⟨hi, fun x H'' hy => ⟨hy.1, ?_⟩⟩
    obtain ⟨_, c, hc, rfl⟩ := hy
    rw [List.getElem?_map, Array.getElem?_toList, hc] at hd
    cases hd
    exact .str _, fun hi => by
      show z.cps.size ≤ i
      simpa using hi⟩
theorem yl_range {lo : Int} {n : Nat} : Yl K N (Itr lo n) R ((List.range n).map fun k => .int (lo + (k : Nat))) :=
  yl_of fun i H' ex => ⟨fun d hd => by
    have hi := (List.getElem?_eq_some_iff.mp hd).1
    simp only [List.length_map, List.length_range] at hi
    refine ⟨hi, fun x H'' hy => ⟨hy.1, ?_⟩⟩
    obtain ⟨_, rfl⟩ := hy
    rw [List.getElem?_map, List.getElem?_range hi] at hd
    cases hd
    exact .int _, fun hi => by
      show n ≤ i
      simpa using hi⟩
abbrev iSeqA (K : PySem.W.Frag) (te : TE) : TI := fun σ H Q => iList K te σ H Q ∨ (iTup K te σ H Q ∨ iStr te σ H Q)
theorem pi_or {X : Cx} {tg iter : Expr} {w w' : TI} (h : PI X tg iter w) (h' : PI X tg iter w') : PI X tg iter (fun σ H Q => w σ H Q ∨ w' σ H Q) := ⟨fun pins s σ H Q I q => by
  rcases q with q | q
  · exact h.run pins s σ H Q I q
  · exact h'.run pins s σ H Q I q⟩
theorem pi_seqA {X : Cx} {tg iter : Expr} {te : TE} (h : PE X iter te) : PI X tg iter (iSeqA X.K te) := pi_or (pi_list h) (pi_or (pi_tup h) (pi_str h))
theorem sim_it (h : SimE K N W te m) : SimI K N W (iSeqA K te) (dIt m) := fun G R H σ s Q rel hk => by
  have go : ∀ (d : D) (s1 : S) (ds : List D), m s = .ok d s1 → itemsD (rd d) = some ds → (∀ R' H' J, Ex R R' → Rel K N G R' H' σ s1 → Yl K N J R' ds → Q J H') → iSeqA K te σ H Q := by
    intro d s1 ds em ei hq
    have pre : ∀ (P : V → Hp → Prop), (∀ R1 H1 x, Ex R R1 → En K N R1 x (rd d) → Rel K N G R1 H1 σ s1 → P x H1) → te σ H P := fun P hP => by
      refine h G R H σ s _ rel ?_
      rw [em]
      intro R1 H1 x e1 r1
      obtain ⟨R2, v, e2, hv, h2, h3⟩ := Rel.read (i := 0) (d := d) r1 rfl
      cases hv
      exact hP R2 H1 x (e1.trans e2) h2 (Rel.pop h3)
    cases hd : rd d with
    | bx o k es =>
      rw [hd] at ei
      cases k with
      | lst =>
        cases ei
        refine .inl (pre _ fun R1 H1 x e1 en r1 => ?_)
        rw [hd] at en
        cases en with
        | @bx a _ xs _ hat l c => exact ⟨a, rfl, ⟨xs, .inl (.inl (r1.r a _ hat))⟩, hq R1 H1 _ e1 r1 (yl_list (fun H' ex => .inl (.inl (ex a _ hat))) l c)⟩
      | scr =>
        cases ei
        refine .inl (pre _ fun R1 H1 x e1 en r1 => ?_)
        rw [hd] at en
        cases en with
        | @bx a _ xs _ hat l c => exact ⟨a, rfl, ⟨xs, (At.mono (k := .scr) (N := N) r1.r.le hat)⟩, hq R1 H1 _ e1 r1 (yl_list (fun H' ex => At.mono (k := .scr) (N := N) ex.le hat) l c)⟩
      | tup =>
        cases ei
        refine .inr (.inl (pre _ fun R1 H1 x e1 en r1 => ?_))
        rw [hd] at en
        cases en with
        | @bx a _ xs _ hat l c => exact ⟨a, rfl, ⟨xs, (At.mono (k := .tup) (N := N) r1.r.le hat)⟩, hq R1 H1 _ e1 r1 (yl_tup (fun H' ex => At.mono (k := .tup) (N := N) ex.le hat) l c)⟩
      | _ => cases ei
    | str z =>
      rw [hd] at ei
      cases ei
      refine .inr (.inr (pre _ fun R1 H1 x e1 en r1 => ?_))
      rw [hd] at en
      cases en
      exact ⟨z, rfl, hq R1 H1 _ e1 r1 yl_str⟩
    | _ => rw [hd] at ei; cases ei
  unfold dIt at hk
  cases em : m s with
  | ok d s1 =>
    rw [em] at hk
    simp only [Rs.bind] at hk
    cases ei : itemsD (rd d) with
    | none => rw [ei] at hk; exact hk.elim
    | some ds =>
      rw [ei] at hk
      exact go d s1 ds em ei hk
  | ex x s1 =>
    rw [em] at hk
    refine .inl (h G R H σ s _ rel ?_)
    rw [em]
    exact hk
  | no => rw [em] at hk; exact hk.elim
def dRng1 (ms : DA) : DA := fun s => (ms s).bind fun ds s1 => match ds with
  | [.int n] => if n < 4611686018427387904 ∧ -4611686018427387904 ≤ n then .ok ((List.range n.toNat).map fun k => .int (0 + (k : Nat))) s1 else .no
  | _ => .no
def dRng2 (ms : DA) : DA := fun s => (ms s).bind fun ds s1 => match ds with
  | [.int a, .int b] => if (-4611686018427387904 ≤ a ∧ a < 4611686018427387904) ∧ -4611686018427387904 ≤ b ∧ b < 4611686018427387904 then .ok ((List.range (b - a).toNat).map fun k => .int (a + (k : Nat))) s1 else .no
  | _ => .no
theorem sim_rng1 (h : SimA K N W tl ls ms) : SimI K N W (iRng1 tl) (dRng1 ms) := fun G R H σ s Q rel hk =>
  h.bind rel hk fun ds s1 R1 H1 vs e1 l r1 _ hk1 => by
    match ds, vs, l, r1, hk1 with
    | [.int n], [v], _, r1, hk1 =>
      have r1 : Rel K N G R1 H1 (some v :: σ) (some (.int n) :: s1) := r1
      have ev := r1.vw.int
      subst ev
      simp only at hk1
      split at hk1
      · rename_i hn
        exact ⟨n, rfl, hn.2, hn.1, hk1 R1 H1 _ e1 r1.pop yl_range⟩
      · exact hk1.elim
theorem sim_rng2 (h : SimA K N W tl ls ms) : SimI K N W (iRng2 tl) (dRng2 ms) := fun G R H σ s Q rel hk =>
  h.bind rel hk fun ds s1 R1 H1 vs e1 l r1 _ hk1 => by
    match ds, vs, l, r1, hk1 with
    | [.int a, .int b], [v, w], _, r1, hk1 =>
      have r1 : Rel K N G R1 H1 (some v :: some w :: σ) (some (.int a) :: some (.int b) :: s1) := r1
      have ev := r1.vw.int
      have ew := r1.pop.vw.int
      subst ev ew
      simp only at hk1
      split at hk1
      · rename_i hn
        exact ⟨a, b, rfl, ⟨hn.1.1, hn.1.2, hn.2.1, hn.2.2⟩, hk1 R1 H1 _ e1 r1.pop.pop yl_range⟩
      · exact hk1.elim
end
end DL

set_option maxHeartbeats 4000000
/-! DL11: the rules by syntax, over families of contexts. -/
namespace DL
open PySem L2
structure Fam (K : PySem.W.Frag) (mg : Str → Option Value) (P : Program) (w : World) (base : Heap) (k : Nat) {ι : Type} (Xs : ι → Cx) (W : WX) : Prop where
  K : ∀ i, (Xs i).K = K
  mg : ∀ i, (Xs i).mg = mg
  P : ∀ i, (Xs i).prog = P
  w : ∀ i, (Xs i).w = w
  base : ∀ i, (Xs i).base = base
  calm : ∀ i, (Xs i).calm = true
  room : ∀ i, Room k (Xs i).A
  nd : ∀ i, (Xs i).N.Nodup
  tk : ∀ i, Takes (Xs i) W
  own : ∀ i, PassesOwn (model (Xs i).prog (Xs i).w) (Xs i).A (Xs i).env (Xs i).xe
theorem Room.hu1 {k : Nat} {A : Around} (r : Room k A) : A.units + 1 < cLine := by have := r.un; omega
theorem Room.hu64 {k : Nat} {A : Around} (r : Room k A) : A.units + 64 < cLine := by have := r.un; omega

section
variable {K : PySem.W.Frag} {mg : Str → Option Value} {P : Program} {w : World} {base : Heap} {k : Nat} {ι : Type} {Xs : ι → Cx} {W : WX} {N : Nm}
def qE (K : PySem.W.Frag) (N : Nm) (W : WX) (Xs : ι → Cx) (e : Expr) (m : DE) : Prop := ∃ te, (∀ i, PE (Xs i) e te) ∧ SimE K N W te m
/-- a slot -/
def qV (Xs : ι → Cx) (e : Expr) (j : Nat) : Prop := ∀ i, PE (Xs i) e (tVar j)
def qT (K : PySem.W.Frag) (N : Nm) (W : WX) (Xs : ι → Cx) (e : Expr) (m : DT) : Prop := ∃ te, (∀ i, PT (Xs i) e te) ∧ SimT K N W te m
def qW (K : PySem.W.Frag) (N : Nm) (W : WX) (Xs : ι → Cx) (e : Expr) (m : DT) : Prop := ∃ te, (∀ i, PW (Xs i) e te) ∧ SimT K N W te m
def qA (K : PySem.W.Frag) (N : Nm) (W : WX) (Xs : ι → Cx) (es : List Expr) (ls : Lends) (m : DA) : Prop := ∃ te, (∀ i, PA (Xs i) es te) ∧ SimA K N W te ls m
def qI (K : PySem.W.Frag) (N : Nm) (W : WX) (Xs : ι → Cx) (tg iter : Expr) (m : DA) : Prop := ∃ wi, (∀ i, PI (Xs i) tg iter wi) ∧ SimI K N W wi m
def qG (K : PySem.W.Frag) (N : Nm) (pr : Nat → Bool) (Xs : ι → Cx) (tg : Expr) (t : DG) : Prop := ∃ g, (∀ i, PG (Xs i) tg g) ∧ SimG K N pr g t
def qS (K : PySem.W.Frag) (N : Nm) (W : WX) (pr : Nat → Bool) (Xs : ι → Cx) (st : Stmt) (m : DC) : Prop := ∃ ts, (∀ i, PS (Xs i) st ts) ∧ SimC K N W pr ts m
def qSs (K : PySem.W.Frag) (N : Nm) (W : WX) (pr : Nat → Bool) (Xs : ι → Cx) (st : List Stmt) (m : DC) : Prop := ∃ ts, (∀ i, PSs (Xs i) st ts) ∧ SimC K N W pr ts m

variable {a b c e l : Expr} {es rest : List Expr} {pos p tpos apos : Pos} {ma mb mc m : DE} {t u : DT} {ms : DA} {ls : Lends} {x : Str} {pr : Nat → Bool}
/-! ### names and constants -/
theorem e_int {i : Int} {j} : qE K N W Xs (.Constant (.int i) j pos) (dC (.int i)) := ⟨_, fun _ => pe_int, simC fun _ => .int i⟩
theorem e_bl {i : Bool} {j} : qE K N W Xs (.Constant (.bool i) j pos) (dC (.bl i)) := ⟨_, fun _ => pe_bl, simC fun _ => .bl i⟩
theorem e_non {j} : qE K N W Xs (.Constant .none j pos) (dC .non) := ⟨_, fun _ => pe_non, simC fun _ => .non⟩
theorem e_str {i : Str} {j} : qE K N W Xs (.Constant (.str i) j pos) (dC (.str i)) := ⟨_, fun _ => pe_str, simC fun _ => .str i⟩
theorem v_ (j : Nat) {x : Str} (hN : ∀ i, (Xs i).N[j]? = some x := by intro _; rfl) (hv : ∀ i, Vis (Xs i).env.scope x := by intro _; first | exact Or.inl rfl | exact Or.inr (Or.inl rfl) | exact Or.inr (Or.inr rfl)) (hd : (x == ("__debug__" : Str)) = false := by decide)
    (hcd : (x == ("__classdict__" : Str)) = false := by decide) : qV Xs (.Name x pos) j := fun i => pe_var (hN i) (hv i) hd hcd
theorem e_v {j : Nat} (h : qV Xs e j) : qE K N W Xs e (dVar j) := ⟨_, h, sim_var j⟩
theorem e_m {j : Nat} (h : qV Xs e j) : qE K N W Xs e (dMv j) := ⟨_, h, sim_mv j⟩
/-- a module's constant -/
theorem e_glob {v : V} {d : D} {u : Value} (Φ : Fam K mg P w base k Xs W) (hg : ∀ i, Gl (Xs i) x) (hm : mg x = some u) (r : RelV v u) (hd : ∀ R, En K N R v d) (hdb : (x == ("__debug__" : Str)) = false := by decide) : qE K N W Xs (.Name x pos) (dC d) :=
  ⟨_, fun i => pe_glob (hg i) (by rw [Φ.mg i]; exact hm) r hdb, simC hd⟩

/-! ### operators -/
theorem e_bin {op : Operator} {r : R2} {f : D → D → Option D} (ho : ∀ i, OpR (Xs i) (binaryOp op) r) (hs : OpSim K N r f) (ha : qE K N W Xs a ma) (hb : qE K N W Xs b mb) : qE K N W Xs (.BinOp a op b pos) (dOp f ma mb) :=
  let ⟨_, h1, h2⟩ := ha; let ⟨_, h3, h4⟩ := hb; ⟨_, fun i => pe_op (ho i) (h1 i) (h3 i), sim_op hs h2 h4⟩
theorem e_add (Φ : Fam K mg P w base k Xs W) (ha : qE K N W Xs a ma) (hb : qE K N W Xs b mb) : qE K N W Xs (.BinOp a .Add b pos) (dOp fAdd ma mb) :=
  e_bin (fun i => by have h := op_addA (X := Xs i); rw [Φ.K i] at h; exact h) os_add ha hb
theorem e_sub (ha : qE K N W Xs a ma) (hb : qE K N W Xs b mb) : qE K N W Xs (.BinOp a .Sub b pos) (dOp fSub ma mb) := e_bin (fun _ => op_sub) os_sub ha hb
theorem e_mul (ha : qE K N W Xs a ma) (hb : qE K N W Xs b mb) : qE K N W Xs (.BinOp a .Mult b pos) (dOp fMul ma mb) := e_bin (fun _ => op_mulW) os_mul ha hb
theorem e_div (ha : qE K N W Xs a ma) (hb : qE K N W Xs b mb) : qE K N W Xs (.BinOp a .FloorDiv b pos) (dOp fDiv ma mb) := e_bin (fun _ => op_fdivW) os_div ha hb
theorem e_mod (ha : qE K N W Xs a ma) (hb : qE K N W Xs b mb) : qE K N W Xs (.BinOp a .Mod b pos) (dOp fMod ma mb) := e_bin (fun _ => op_mod) os_mod ha hb
theorem e_pow (ha : qE K N W Xs a ma) (hb : qE K N W Xs b mb) : qE K N W Xs (.BinOp a .Pow b pos) (dOp fPow ma mb) := e_bin (fun _ => op_pow) os_pow ha hb
def fNeg : D → Option D
  | .int i => some (.int (-i))
  | _ => none
theorem us_neg : UnSim K N (rU fun i => .int (-i)) fNeg := fun G R H x a L s rel dz e Q hQ => by
  cases a with
  | int i => cases e; exact ⟨i, rel.vw.int, hQ R H _ (Ex.refl R) (rel.pop.push (.int _))⟩
  | _ => cases e
theorem e_neg (ha : qE K N W Xs a ma) : qE K N W Xs (.UnaryOp .USub a pos) (dUn fNeg ma) := let ⟨_, h1, h2⟩ := ha; ⟨_, fun i => pe_un un_neg (h1 i), sim_un us_neg h2⟩

/-! ### comparisons -/
structure CmpRule (K : PySem.W.Frag) (N : Nm) (Xs : ι → Cx) (op : CmpOp) (f : D → D → Option D) : Prop where
  ok : ∃ r, (∀ i, OpR (Xs i) (compareOp op) r) ∧ VSim2 K N r f
theorem c_lt : CmpRule K N Xs .Lt fLt := ⟨_, fun _ => op_ltA, vs_cmp⟩
theorem c_le : CmpRule K N Xs .LtE fLe := ⟨_, fun _ => op_leA, vs_cmp⟩
theorem c_gt : CmpRule K N Xs .Gt fGt := ⟨_, fun _ => op_gtA, vs_cmp⟩
theorem c_ge : CmpRule K N Xs .GtE fGe := ⟨_, fun _ => op_geA, vs_cmp⟩
theorem c_eq (Φ : Fam K mg P w base k Xs W) : CmpRule K N Xs .Eq fEq := ⟨rEqD K, fun i => by have h := op_eqD (X := Xs i) (Room.hu64 (Φ.room i)); rw [Φ.K i] at h; exact h, vs_eq⟩
theorem c_ne (Φ : Fam K mg P w base k Xs W) : CmpRule K N Xs .NotEq fNe := ⟨rNeD K, fun i => by have h := op_neD (X := Xs i) (Room.hu64 (Φ.room i)); rw [Φ.K i] at h; exact h, vs_ne⟩
def isNon : D → Bool
  | .non => true
  | _ => false
def fIs (a b : D) : Option D := match b with
  | .non => some (.bl (isNon a))
  | .bl y => (match a with
    | .bl x => some (.bl (x == y))
    | _ => none)
  | _ => none
def fIsN (a b : D) : Option D := match b with
  | .non => some (.bl (!isNon a))
  | .bl y => (match a with
    | .bl x => some (.bl (!(x == y)))
    | _ => none)
  | _ => none
theorem vw_isNon {H : Hp} {v : V} {d : D} (h : Vw K N H v d) : decide (v = .non) = isNon d := by
  cases d with
  | non => rw [h.non]; rfl
  | bl b => rw [h.bl]; rfl
  | int b => rw [h.int]; rfl
  | str b => rw [h.str]; rfl
  | bx o k ds => obtain ⟨a, xs, rfl, _⟩ := h.bx; rfl
abbrev rIsA : R2 := fun x y H Q => (y = .non ∧ Q (.bl (decide (x = .non))) H) ∨ ∃ a b : Bool, x = .bl a ∧ y = .bl b ∧ Q (.bl (decide (a = b))) H
abbrev rNotA : R2 := fun x y H Q => (y = .non ∧ Q (.bl (!decide (x = .non))) H) ∨ ∃ a b : Bool, x = .bl a ∧ y = .bl b ∧ Q (.bl (!decide (a = b))) H
theorem vs_is : VSim2 K N rIsA fIs := fun H x y a b dz w ha hb e ew Q hQ => by
  cases b with
  | non => cases e; cases ew; exact .inl ⟨hb.non, by rw [vw_isNon ha]; exact hQ⟩
  | bl y0 =>
    cases a with
    | bl x0 =>
      cases e; cases ew
      refine .inr ⟨x0, y0, ha.bl, hb.bl, ?_⟩
      rw [show decide (x0 = y0) = (x0 == y0) by cases x0 <;> cases y0 <;> rfl]
      exact hQ
    | _ => cases e
  | _ => cases e
theorem vs_isN : VSim2 K N rNotA fIsN := fun H x y a b dz w ha hb e ew Q hQ => by
  cases b with
  | non => cases e; cases ew; exact .inl ⟨hb.non, by rw [vw_isNon ha]; exact hQ⟩
  | bl y0 =>
    cases a with
    | bl x0 =>
      cases e; cases ew
      refine .inr ⟨x0, y0, ha.bl, hb.bl, ?_⟩
      rw [show decide (x0 = y0) = (x0 == y0) by cases x0 <;> cases y0 <;> rfl]
      exact hQ
    | _ => cases e
  | _ => cases e
/-- in: a list, a tuple of flat things; a dict; a sign in a text -/
def memV (x : V) (xs : List V) : Bool := inV x xs
def fIn0 (a b : D) : Option Bool := match b with
  | .bx _ .tup ds => (sv a).bind fun v => (svs ds).map fun vs => inV v vs
  | .bx _ .lst ds => (sv a).bind fun v => (svs ds).map fun vs => inV v vs
  | .bx _ .scr ds => (sv a).bind fun v => (svs ds).map fun vs => inV v vs
  | .bx _ (.dct ks) _ => (keyOf a).map fun k => (ks.findIdx? fun z => decide (z = k)).isSome
  | .str z => (match a with
    | .str c => if c.cps.size = 1 then some (decide (c.cps.getD 0 0 ∈ z.cps.toList)) else none
    | _ => none)
  | _ => none
def fIn (a b : D) : Option D := (fIn0 a b).map .bl
def fNin (a b : D) : Option D := (fIn0 a b).map fun z => .bl (!z)
abbrev rInA (K : PySem.W.Frag) : R2 := fun x y H Q => rIn K false x y H Q ∨ (dlIn false x y H Q ∨ ∃ (c : Nat) (z : Str), x = .str ⟨#[c]⟩ ∧ y = .str z ∧ Q (.bl (decide (c ∈ z.cps.toList))) H)
abbrev rNinA (K : PySem.W.Frag) : R2 := fun x y H Q => rIn K true x y H Q ∨ (dlIn true x y H Q ∨ ∃ (c : Nat) (z : Str), x = .str ⟨#[c]⟩ ∧ y = .str z ∧ Q (.bl (!decide (c ∈ z.cps.toList))) H)
theorem one_sign {c : Str} (h : c.cps.size = 1) : c = ⟨#[c.cps.getD 0 0]⟩ := by
  obtain ⟨⟨l⟩⟩ := c
  match l, h with
  | [a], _ => rfl
theorem vs_in0 {H : Hp} {x y : V} {a b : D} {r : Bool} (ha : Vw K N H x a) (hb : Vw K N H y b) (e : fIn0 a b = some r) :
    (∃ p xs, y = .ref p ∧ (SqL K H p xs ∨ SqT K H p xs) ∧ flatV x = true ∧ xs.all flatV = true ∧ inV x xs = r) ∨
    ((∃ p o, y = .ref p ∧ DGet H p x o ∧ o.isSome = r) ∨ ∃ (c : Nat) (z : Str), x = .str ⟨#[c]⟩ ∧ y = .str z ∧ decide (c ∈ z.cps.toList) = r) := by
  have seq : ∀ {o : Bool} {k : BK} {ds : List D}, b = .bx o k ds → (k = .lst ∨ k = .scr ∨ k = .tup) → ((sv a).bind fun v => (svs ds).map fun vs => inV v vs) = some r →
      (∃ p xs, y = .ref p ∧ (SqL K H p xs ∨ SqT K H p xs) ∧ flatV x = true ∧ xs.all flatV = true ∧ inV x xs = r) := by
    intro o k ds eb hk e9
    subst eb
    obtain ⟨p, xs, rfl, hat, l, c⟩ := hb.bx
    cases e1 : sv a with
    | none => rw [e1] at e9; cases e9
    | some v =>
      rw [e1] at e9
      obtain ⟨vs, e2, e3⟩ := Option.map_eq_some_iff.mp (show (svs ds).map (fun vs => inV v vs) = some r from e9)
      have hx := sv_vw ha e1
      have hxs := svs_vw e2 l c
      exact ⟨p, xs, rfl, hat.seq hk, by rw [hx]; exact sv_flat e1, by rw [hxs]; exact svs_flat e2, by rw [hx, hxs]; exact e3⟩
  cases b with
  | bx o k ds =>
    cases k with
    | tup => exact .inl (seq rfl (.inr (.inr rfl)) e)
    | lst => exact .inl (seq rfl (.inl rfl) e)
    | scr => exact .inl (seq rfl (.inr (.inl rfl)) e)
    | dct ks =>
      obtain ⟨p, xs, rfl, hat, l, c⟩ := hb.bx
      obtain ⟨kk, e1, e2⟩ := Option.map_eq_some_iff.mp (show (keyOf a).map (fun k => (ks.findIdx? fun z => decide (z = k)).isSome) = some r from e)
      refine .inr (.inl ⟨p, _, rfl, .inl ⟨_, kk, hat.2.1, keyOf_kV e1 ha, rfl⟩, ?_⟩)
      rw [valV_zip hat.1, ← e2]
      cases e3 : ks.findIdx? fun z => decide (z = kk) with
      | none => rfl
      | some j =>
        have := (find_lt e3).1
        have h4 : xs[j]? = some (xs[j]'(by rw [← hat.1]; exact this)) := by simp [← hat.1, this]
        show (xs[j]?).isSome = true
        rw [h4]; rfl
    | ins c fs => cases e
  | str z =>
    cases a with
    | str c =>
      have e : (if c.cps.size = 1 then some (decide (c.cps.getD 0 0 ∈ z.cps.toList)) else none) = some r := e
      by_cases h1 : c.cps.size = 1
      · rw [if_pos h1] at e; cases e
        refine .inr (.inr ⟨c.cps.getD 0 0, z, ?_, hb.str, rfl⟩)
        rw [ha.str]
        exact congrArg V.str (one_sign h1)
      · rw [if_neg h1] at e; cases e
    | _ => cases e
  | _ => cases e
theorem vs_in : VSim2 K N (rInA K) fIn := fun H x y a b dz w ha hb e ew Q hQ => by
  obtain ⟨r, e1, rfl⟩ := Option.map_eq_some_iff.mp e
  cases ew
  rcases vs_in0 ha hb e1 with ⟨p, xs, h1, h2, h3, h4, h5⟩ | ⟨p, o, h1, h2, h3⟩ | ⟨c, z, h1, h2, h3⟩
  · exact .inl ⟨p, xs, h1, h2, h3, h4, by rw [h5]; exact hQ⟩
  · exact .inr (.inl ⟨p, o, h1, h2, by rw [h3]; exact hQ⟩)
  · exact .inr (.inr ⟨c, z, h1, h2, by rw [h3]; exact hQ⟩)
theorem vs_nin : VSim2 K N (rNinA K) fNin := fun H x y a b dz w ha hb e ew Q hQ => by
  obtain ⟨r, e1, rfl⟩ := Option.map_eq_some_iff.mp e
  cases ew
  rcases vs_in0 ha hb e1 with ⟨p, xs, h1, h2, h3, h4, h5⟩ | ⟨p, o, h1, h2, h3⟩ | ⟨c, z, h1, h2, h3⟩
  · exact .inl ⟨p, xs, h1, h2, h3, h4, by rw [h5]; exact hQ⟩
  · exact .inr (.inl ⟨p, o, h1, h2, by rw [h3]; exact hQ⟩)
  · exact .inr (.inr ⟨c, z, h1, h2, by rw [h3]; exact hQ⟩)
theorem c_is : CmpRule K N Xs .Is fIs := ⟨_, fun _ => op_isN.or op_isBl, vs_is⟩
theorem c_isN : CmpRule K N Xs .IsNot fIsN := ⟨_, fun _ => op_notN.or op_notBl, vs_isN⟩
theorem c_in (Φ : Fam K mg P w base k Xs W) : CmpRule K N Xs .In fIn := ⟨_, fun i => by have h := (op_in_seq (X := Xs i)).or ((dl_din (Room.hu1 (Φ.room i))).or op_in_sign); rw [Φ.K i] at h; exact h, vs_in⟩
theorem c_nin (Φ : Fam K mg P w base k Xs W) : CmpRule K N Xs .NotIn fNin := ⟨_, fun i => by have h := (op_notIn_seq (X := Xs i)).or ((dl_dnotin (Room.hu1 (Φ.room i))).or op_notIn_sign); rw [Φ.K i] at h; exact h, vs_nin⟩
end
end DL

set_option maxHeartbeats 4000000
/-! DL12: the rules by syntax, on. -/
namespace DL
open PySem L2
section
variable {K : PySem.W.Frag} {mg : Str → Option Value} {P : Program} {w : World} {base : Heap} {k : Nat} {ι : Type} {Xs : ι → Cx} {W : WX} {N : Nm}
variable {a b c e l : Expr} {es rest : List Expr} {pos p tpos apos : Pos} {ma mb mc m : DE} {t u : DT} {ms : DA} {ls : Lends} {x : Str} {pr : Nat → Bool} {j : Nat}
/-! ### comparisons -/
theorem e_cmp {op : CmpOp} {f : D → D → Option D} (c : CmpRule K N Xs op f) (ha : qE K N W Xs a ma) (hb : qE K N W Xs b mb) (hm : behindInMarks op b = false := by first | exact nomark _ | rfl) : qE K N W Xs (.Compare a [op] [b] pos) (dOp (flat2 f) ma mb) :=
  let ⟨_, h1, h2⟩ := ha; let ⟨_, h3, h4⟩ := hb; let ⟨_, h5, h6⟩ := c.ok; ⟨_, fun i => pe_cmpR (h5 i) (h1 i) (h3 i) hm, sim_op h6.op h2 h4⟩
theorem e_cmpS {op : CmpOp} {f : D → D → Option D} (c : CmpRule K N Xs op f) (ha : qE K N W Xs a ma) (hb : qV Xs b j) (hm : behindInMarks op b = false := by first | exact nomark _ | rfl) : qE K N W Xs (.Compare a [op] [b] pos) (dOpS f ma j) :=
  let ⟨_, h1, h2⟩ := ha; let ⟨_, h5, h6⟩ := c.ok; ⟨_, fun i => pe_cmpR (h5 i) (h1 i) (hb i) hm, sim_opS h6 h2⟩
theorem e_cmpL {op : CmpOp} {f : D → D → Option D} (c : CmpRule K N Xs op f) (ha : qV Xs a j) (hb : qE K N W Xs b mb) (hm : behindInMarks op b = false := by first | exact nomark _ | rfl) : qE K N W Xs (.Compare a [op] [b] pos) (dOpL f j mb) :=
  let ⟨_, h1, h2⟩ := hb; let ⟨_, h5, h6⟩ := c.ok; ⟨_, fun i => pe_cmpR (h5 i) (ha i) (h1 i) hm, sim_opL h6 h2⟩
theorem t_cmp {op : CmpOp} {f : D → D → Option D} (c : CmpRule K N Xs op f) (ha : qE K N W Xs a ma) (hb : qE K N W Xs b mb) (hm : behindInMarks op b = false := by first | exact nomark _ | rfl) : qT K N W Xs (.Compare a [op] [b] pos) (dB (dOp (flat2 f) ma mb)) :=
  let ⟨_, h1, h2⟩ := ha; let ⟨_, h3, h4⟩ := hb; let ⟨_, h5, h6⟩ := c.ok; ⟨_, fun i => pt_cmpR (h5 i) (h1 i) (h3 i) hm, sim_B (sim_op h6.op h2 h4)⟩
theorem t_cmpS {op : CmpOp} {f : D → D → Option D} (c : CmpRule K N Xs op f) (ha : qE K N W Xs a ma) (hb : qV Xs b j) (hm : behindInMarks op b = false := by first | exact nomark _ | rfl) : qT K N W Xs (.Compare a [op] [b] pos) (dB (dOpS f ma j)) :=
  let ⟨_, h1, h2⟩ := ha; let ⟨_, h5, h6⟩ := c.ok; ⟨_, fun i => pt_cmpR (h5 i) (h1 i) (hb i) hm, sim_B (sim_opS h6 h2)⟩
theorem t_cmpL {op : CmpOp} {f : D → D → Option D} (c : CmpRule K N Xs op f) (ha : qV Xs a j) (hb : qE K N W Xs b mb) (hm : behindInMarks op b = false := by first | exact nomark _ | rfl) : qT K N W Xs (.Compare a [op] [b] pos) (dB (dOpL f j mb)) :=
  let ⟨_, h1, h2⟩ := hb; let ⟨_, h5, h6⟩ := c.ok; ⟨_, fun i => pt_cmpR (h5 i) (ha i) (h1 i) hm, sim_B (sim_opL h6 h2)⟩
/-- x < y < z -/
def dChn (f g : D → D → Option D) (ma mb mc : DE) : DE := fun s => (ma s).bind fun a s1 => (mb s1).bind fun b s2 => match flat2 f a b with
  | some (.bl true) => (mc s2).bind fun c s3 => o2r (flat2 g b c) s3
  | some (.bl false) => .ok (.bl false) s2
  | _ => .no
theorem sim_chn {r r' : R2} {f g : D → D → Option D} {ta tb tc : TE} (hf : VSim2 K N r f) (hg : VSim2 K N r' g) (ha : SimE K N W ta ma) (hb : SimE K N W tb mb) (hc : SimE K N W tc mc) : SimE K N W (tChain r r' ta tb tc) (dChn f g ma mb mc) := fun G R H σ s Q rel hk =>
  ha.bin hb rel hk fun da db s2 R2 H2 x y e2 r2 hk2 => by
    cases ef : flat2 f da db with
    | none => rw [ef] at hk2; exact hk2.elim
    | some dz =>
      rw [ef] at hk2
      obtain ⟨h1, w, h2⟩ := flat_of ef
      refine hf H2 x y da db dz w r2.vw r2.pop.vw h1 h2 _ ?_
      cases dz <;> try (exact hk2.elim)
      rename_i bb
      cases h2
      refine ⟨bb, rfl, ?_⟩
      cases bb with
      | false => exact hk2 R2 H2 _ e2 (r2.pop.pop.push (.bl false))
      | true =>
        show tc σ H2 _
        exact hc.bind1 r2.pop hk2 fun dc s3 R3 H3 z e3 r3 hk3 => by
          obtain ⟨dw, h3, h4⟩ := o2r_some hk3
          obtain ⟨h5, w2, h6⟩ := flat_of h3
          exact hg H3 y z db dc dw w2 r3.vw r3.pop.vw h5 h6 Q (h4 R3 H3 w2 (e2.trans e3) (r3.pop.pop.push (sv_en h6)))
theorem e_chn {op op' : CmpOp} {f g : D → D → Option D} (c1 : CmpRule K N Xs op f) (c2 : CmpRule K N Xs op' g) (ha : qE K N W Xs a ma) (hb : qE K N W Xs b mb) (hc : qE K N W Xs c mc)
    (hm : lastMarks [op, op'] [b, c] = false := by with_unfolding_all rfl) : qE K N W Xs (.Compare a [op, op'] [b, c] pos) (dChn f g ma mb mc) :=
  let ⟨_, h1, h2⟩ := ha; let ⟨_, h3, h4⟩ := hb; let ⟨_, h5, h6⟩ := hc; let ⟨_, g1, g2⟩ := c1.ok; let ⟨_, g3, g4⟩ := c2.ok
  ⟨_, fun i => pe_chain (g1 i) (g3 i) (h1 i) (h3 i) (h5 i) hm, sim_chn g2 g4 h2 h4 h6⟩
theorem t_chn {op op' : CmpOp} {f g : D → D → Option D} (c1 : CmpRule K N Xs op f) (c2 : CmpRule K N Xs op' g) (ha : qE K N W Xs a ma) (hb : qE K N W Xs b mb) (hc : qE K N W Xs c mc)
    (hm : lastMarks [op, op'] [b, c] = false := by with_unfolding_all rfl) : qT K N W Xs (.Compare a [op, op'] [b, c] pos) (dB (dChn f g ma mb mc)) :=
  let ⟨_, h1, h2⟩ := ha; let ⟨_, h3, h4⟩ := hb; let ⟨_, h5, h6⟩ := hc; let ⟨_, g1, g2⟩ := c1.ok; let ⟨_, g3, g4⟩ := c2.ok
  ⟨_, fun i => pt_chain (g1 i) (g3 i) (h1 i) (h3 i) (h5 i) hm, sim_B (sim_chn g2 g4 h2 h4 h6)⟩

/-! ### tests -/
theorem t_e (h : qE K N W Xs e m) (he : ∀ i whole, isTrue e (Xs i).env whole = (do let v ← whole; standAt e.pos; holding [v] (truthy v)) := by intro _ _; rfl) : qT K N W Xs e (dB m) :=
  let ⟨_, h1, h2⟩ := h; ⟨_, fun i => pt_val (h1 i) (he i), sim_B h2⟩
theorem t_not (h : qT K N W Xs a t) : qT K N W Xs (.UnaryOp .Not a pos) (dNot t) := let ⟨_, h1, h2⟩ := h; ⟨_, fun i => pt_not (h1 i), sim_not h2⟩
theorem w_and1 (h : qT K N W Xs a t) : qW K N W Xs (.BoolOp .And [a] pos) t := let ⟨_, h1, h2⟩ := h; ⟨_, fun i => pw_and1 (h1 i), h2⟩
theorem w_or1 (h : qT K N W Xs a t) : qW K N W Xs (.BoolOp .Or [a] pos) t := let ⟨_, h1, h2⟩ := h; ⟨_, fun i => pw_or1 (h1 i), h2⟩
theorem w_and (h : qT K N W Xs a t) (h' : qW K N W Xs (.BoolOp .And (b :: rest) pos) u) : qW K N W Xs (.BoolOp .And (a :: b :: rest) pos) (dAnd t u) := let ⟨_, h1, h2⟩ := h; let ⟨_, h3, h4⟩ := h'; ⟨_, fun i => pw_and (h1 i) (h3 i), sim_and h2 h4⟩
theorem w_or (h : qT K N W Xs a t) (h' : qW K N W Xs (.BoolOp .Or (b :: rest) pos) u) : qW K N W Xs (.BoolOp .Or (a :: b :: rest) pos) (dOr t u) := let ⟨_, h1, h2⟩ := h; let ⟨_, h3, h4⟩ := h'; ⟨_, fun i => pw_or (h1 i) (h3 i), sim_or h2 h4⟩
theorem t_w (h : qW K N W Xs e t) : qT K N W Xs e t := let ⟨_, h1, h2⟩ := h; ⟨_, fun i => (h1 i).pt, h2⟩
theorem e_one {op} (h : qE K N W Xs a m) : qE K N W Xs (.BoolOp op [a] pos) m := let ⟨_, h1, h2⟩ := h; ⟨_, fun i => pe_one (h1 i), h2⟩
theorem e_and (h : qE K N W Xs a ma) (h' : qE K N W Xs (.BoolOp .And (b :: rest) pos) mb) : qE K N W Xs (.BoolOp .And (a :: b :: rest) pos) (dAndV ma mb) := let ⟨_, h1, h2⟩ := h; let ⟨_, h3, h4⟩ := h'; ⟨_, fun i => pe_and (h1 i) (h3 i), sim_andV h2 h4⟩
theorem e_or (h : qE K N W Xs a ma) (h' : qE K N W Xs (.BoolOp .Or (b :: rest) pos) mb) : qE K N W Xs (.BoolOp .Or (a :: b :: rest) pos) (dOrV ma mb) := let ⟨_, h1, h2⟩ := h; let ⟨_, h3, h4⟩ := h'; ⟨_, fun i => pe_or (h1 i) (h3 i), sim_orV h2 h4⟩
theorem e_not (h : qE K N W Xs a m) : qE K N W Xs (.UnaryOp .Not a pos) (dNotV m) := let ⟨_, h1, h2⟩ := h; ⟨_, fun i => pe_not (h1 i), sim_notV h2⟩
theorem e_if (h : qT K N W Xs c t) (ha : qE K N W Xs a ma) (hb : qE K N W Xs b mb) : qE K N W Xs (.IfExp c a b pos) (dIfE t ma mb) := let ⟨_, h1, h2⟩ := h; let ⟨_, h3, h4⟩ := ha; let ⟨_, h5, h6⟩ := hb; ⟨_, fun i => pe_ifExp (h1 i) (h3 i) (h5 i), sim_ifE h2 h4 h6⟩

/-! ### arguments, displays -/
theorem a_nil : qA K N W Xs [] [] dNil := ⟨_, fun _ => pa_nil, sim_nil⟩
theorem a_e (h : qE K N W Xs e m) (hr : qA K N W Xs es ls ms) (hs : ∀ i, starEach (e :: es) (Xs i).env = (false, eval e (Xs i).env) :: starEach es (Xs i).env := by intro _; rfl) : qA K N W Xs (e :: es) (none :: ls) (dCons m ms) :=
  let ⟨_, h1, h2⟩ := h; let ⟨_, h3, h4⟩ := hr; ⟨_, fun i => pa_cons (h1 i) (h3 i) (hs i), sim_cons h2 h4⟩
/-- a slot that is lent: it is taken when the other arguments stand -/
def dLend (j : Nat) (ms : DA) : DA := fun s => match s[j]? with
  | some (some _) => (ms s).bind fun ds s1 => (match s1[j]? with
    | some (some d) => .ok (d :: ds) (s1.set j none)
    | _ => .no)
  | _ => .no
theorem sim_lendL {tl : TA} (j : Nat) (h : SimA K N W tl ls ms) : SimA K N W (tCons (tVar j) tl) (some j :: ls) (dLend j ms) := fun G R H σ s Q rel hk => by
  unfold dLend at hk
  cases e0 : s[j]? with
  | none => rw [e0] at hk; exact hk.elim
  | some o0 =>
    cases o0 with
    | none => rw [e0] at hk; exact hk.elim
    | some d0 =>
      rw [e0] at hk
      obtain ⟨v, hv, _⟩ := rel.vwAt e0
      have hk : KA K N G R σ W (some j :: ls) Q ((ms s).bind fun ds s1 => (match s1[j]? with
        | some (some d) => .ok (d :: ds) (s1.set j none)
        | _ => .no)) := hk
      refine ⟨v, hv, h.bind rel hk fun ds s1 R1 H1 vs e1 l r1 hl hk1 => ?_⟩
      cases e2 : s1[j]? with
      | none => rw [e2] at hk1; exact hk1.elim
      | some o2 =>
        cases o2 with
        | none => rw [e2] at hk1; exact hk1.elim
        | some d =>
          rw [e2] at hk1
          have e3 : (ds.map some ++ s1)[ds.length + j]? = some (some d) := by
            rw [List.getElem?_append_right (by simp), List.length_map, Nat.add_sub_cancel_left]; exact e2
          obtain ⟨v2, hv2, r2⟩ := r1.move e3
          have hv3 : σ[j]? = some (some v2) := by
            rw [List.getElem?_append_right (by simp [l]), List.length_map, l, Nat.add_sub_cancel_left] at hv2
            exact hv2
          rw [hv] at hv3; cases hv3
          have e4 : (ds.map some ++ s1).set (ds.length + j) none = ds.map some ++ s1.set j none := by
            rw [List.set_append_right _ _ (by simp), List.length_map, Nat.add_sub_cancel_left]
          rw [e4] at r2
          refine hk1 R1 H1 (v :: vs) e1 (by simp [l]) r2 fun k i hk' => ?_
          cases k with
          | zero => cases hk'; exact ⟨v, rfl, hv⟩
          | succ k => exact hl k i hk'
theorem a_l (h : qV Xs e j) (hr : qA K N W Xs es ls ms) (hs : ∀ i, starEach (e :: es) (Xs i).env = (false, eval e (Xs i).env) :: starEach es (Xs i).env := by intro _; rfl) : qA K N W Xs (e :: es) (some j :: ls) (dLend j ms) :=
  let ⟨_, h3, h4⟩ := hr; ⟨_, fun i => pa_cons (h i) (h3 i) (hs i), sim_lendL j h4⟩
theorem e_tup {x1} (h : qA K N W Xs es ls ms) : qE K N W Xs (.Tuple es x1 pos) (dTup ms) := let ⟨_, h1, h2⟩ := h; ⟨_, fun i => pe_tup (h1 i), sim_tup h2⟩
theorem e_lst (h : qA K N W Xs es ls ms) : qE K N W Xs (.List es pos) (dLst ms) := let ⟨_, h1, h2⟩ := h; ⟨_, fun i => pe_lst (h1 i), sim_lst h2⟩
theorem e_d0 : qE K N W Xs (.Dict [] [] pos) (dC (mD [] [])) := ⟨_, fun _ => pe_dnewK, fun G R H σ s Q rel hk p hp => hk R _ _ (Ex.refl R) (Rel.box (xs := []) (ds := []) (k := .dct []) rel rfl hp hp (Ex.new hp) ⟨rfl, rfl, upd_same, List.nodup_nil⟩)⟩

/-! ### calls -/
theorem e_call {kf n : Nat} {f : Addr} {fd : FuncData} {ps : List Str} {F : List D → Rs D} (Φ : Fam K mg P w base k Xs W) (ok : FnOk P w K mg base (L2.CX P w) kf f fd ps (SpD K N n F)) (hk : kf ≤ k) (hm : mg x = some (.ref f)) (kp : PySem.W.keepIn K (.ref f) = true) (hb : Binds K fd ps [])
    (ha : qA K N W Xs (e :: es) ls ms) (hg : ∀ i, Gl (Xs i) x := by intro _; rfl) (hdb : (x == ("__debug__" : Str)) = false := by decide) (he : ∀ i, starEach (e :: es) (Xs i).env = (false, eval e (Xs i).env) :: starEach es (Xs i).env := by intro _; rfl)
    (hpl : ∀ i, (backTo pos (starEach es (Xs i).env)).any (·.1) = false := by intro _; rfl) : qE K N W Xs (.Call (.Name x p) (e :: es) [] pos) (dCall n F ls ms) :=
  let ⟨_, h1, h2⟩ := ha
  ⟨_, fun i => by
    have ok' : FnOk (Xs i).prog (Xs i).w (Xs i).K (Xs i).mg (Xs i).base (L2.CX (Xs i).prog (Xs i).w) kf f fd ps (SpD K N n F) := by
      rw [Φ.P i, Φ.w i, Φ.K i, Φ.mg i, Φ.base i]; exact ok
    exact pe_callS ok' ((Φ.room i).mono hk) (hg i) (by rw [Φ.mg i]; exact hm) (by rw [Φ.K i]; exact kp) (by rw [Φ.K i]; exact hb) (fun σ => passAt (Φ.tk i) σ) (h1 i) hdb (he i) (hpl i), sim_call h2⟩
structure CallRule (K : PySem.W.Frag) (N : Nm) (Xs : ι → Cx) (fv : Value) (f : List D → Option D) : Prop where
  ok : ∃ r, (∀ i, CallR (Xs i) fv r) ∧ CallSim K N r f
structure CallRule1 (K : PySem.W.Frag) (N : Nm) (Xs : ι → Cx) (fv : Value) (f : D → Option D) : Prop where
  ok : ∃ r, (∀ i, CallR (Xs i) fv r) ∧ VSim1 K N (fun x H Q => r [x] H Q) f
theorem CallRule1.up {fv : Value} {f : D → Option D} (h : CallRule1 K N Xs fv f) : CallRule K N Xs fv (f1 (flat1 f)) := ⟨let ⟨r, h1, h2⟩ := h.ok; ⟨r, h1, cs_1 h2⟩⟩
theorem e_B {id : String} {f : List D → Option D} (Φ : Fam K mg P w base k Xs W) (c : CallRule K N Xs (.builtin id) f) (hm : mg x = none) (ha : qA K N W Xs (e :: es) ls ms) (hv : bootBuiltins x = some (.builtin id) := by decide +kernel) (hg : ∀ i, Gl (Xs i) x := by intro _; rfl)
    (hn : x ≠ "__name__" := by decide) (hdb : (x == ("__debug__" : Str)) = false := by decide) (he : ∀ i, starEach (e :: es) (Xs i).env = (false, eval e (Xs i).env) :: starEach es (Xs i).env := by intro _; rfl)
    (hpl : ∀ i, (backTo pos (starEach es (Xs i).env)).any (·.1) = false := by intro _; rfl) : qE K N W Xs (.Call (.Name x p) (e :: es) [] pos) (dCB f ms) :=
  let ⟨_, h1, h2⟩ := ha; let ⟨_, h3, h4⟩ := c.ok
  ⟨_, fun i => pe_callB (h3 i) (hg i) (by rw [Φ.mg i]; exact hm) hv (h1 i) hn hdb (he i) (hpl i), sim_cb h4 h2⟩
theorem e_T {T : String} {f : List D → Option D} (Φ : Fam K mg P w base k Xs W) (c : CallRule K N Xs (.type T) f) (hm : mg x = none) (ha : qA K N W Xs (e :: es) ls ms) (hv : bootBuiltins x = some (.type T) := by decide +kernel) (hg : ∀ i, Gl (Xs i) x := by intro _; rfl)
    (hn : x ≠ "__name__" := by decide) (hdb : (x == ("__debug__" : Str)) = false := by decide) (he : ∀ i, starEach (e :: es) (Xs i).env = (false, eval e (Xs i).env) :: starEach es (Xs i).env := by intro _; rfl)
    (hpl : ∀ i, (backTo pos (starEach es (Xs i).env)).any (·.1) = false := by intro _; rfl) : qE K N W Xs (.Call (.Name x p) (e :: es) [] pos) (dCB f ms) :=
  let ⟨_, h1, h2⟩ := ha; let ⟨_, h3, h4⟩ := c.ok
  ⟨_, fun i => pe_callTy (h3 i) (hg i) (by rw [Φ.mg i]; exact hm) hv (h1 i) hn hdb (he i) (hpl i), sim_cb h4 h2⟩
/-- of a slot, looked at -/
theorem e_BS {id : String} {f : D → Option D} (Φ : Fam K mg P w base k Xs W) (c : CallRule1 K N Xs (.builtin id) f) (hm : mg x = none) (ha : qV Xs e j) (hv : bootBuiltins x = some (.builtin id) := by decide +kernel) (hg : ∀ i, Gl (Xs i) x := by intro _; rfl)
    (hn : x ≠ "__name__" := by decide) (hdb : (x == ("__debug__" : Str)) = false := by decide) (he : ∀ i, starEach (e :: []) (Xs i).env = (false, eval e (Xs i).env) :: starEach [] (Xs i).env := by intro _; rfl)
    (hpl : ∀ i, (backTo pos (starEach [] (Xs i).env)).any (·.1) = false := by intro _; rfl) : qE K N W Xs (.Call (.Name x p) [e] [] pos) (dUnS f j) :=
  let ⟨_, h3, h4⟩ := c.ok
  ⟨_, fun i => pe_callB (h3 i) (hg i) (by rw [Φ.mg i]; exact hm) hv (pa_cons (ha i) pa_nil (he i)) hn hdb (he i) (hpl i), sim_cbS h4⟩
/-! ### statements -/
variable {st : Stmt} {sts : List Stmt} {sa sb : DC}
theorem ss_nil : qSs K N W pr Xs [] dSkip := ⟨_, fun _ => pss_nil, sim_skip⟩
theorem ss_one (h : qS K N W pr Xs st sa) : qSs K N W pr Xs [st] sa := let ⟨_, h1, h2⟩ := h; ⟨_, fun i => pss_one (h1 i), h2⟩
theorem ss_cons (h : qS K N W pr Xs st sa) (h' : qSs K N W pr Xs sts sb) : qSs K N W pr Xs (st :: sts) (dSeq sa sb) := let ⟨_, h1, h2⟩ := h; let ⟨_, h3, h4⟩ := h'; ⟨_, fun i => pss_cons (h1 i) (h3 i), sim_seq h2 h4⟩
theorem s_set (j : Nat) {x : Str} {pos' : Pos} (Φ : Fam K mg P w base k Xs W) (hp : pr j = false) (he : qE K N W Xs e m) (hi : ∀ i, (Xs i).N[j]? = some x := by intro _; rfl) (hx : ∀ i, Loc (Xs i).env.scope x := by intro _; first | exact Or.inl rfl | exact Or.inr rfl)
    (hs : ∀ i, swapsWith e (some (.Name x pos')) pos.line (Xs i).env = pure false := by intro _; rfl) (hf : ∀ i, (Xs i).fn x = true ∨ (Xs i).env.scope.names.lookup x = some .local := by intro _; first | exact .inl rfl | exact .inr rfl) :
    qS K N W pr Xs (.Assign [.Name x pos'] e pos) (dAsg j m) := let ⟨_, h1, h2⟩ := he; ⟨_, fun i => ps_set (Φ.nd i) (hi i) (hx i) (h1 i) (hs i) (hf i), sim_asg hp h2⟩
theorem s_expr (he : qE K N W Xs e m) (hs : ∀ i, swapsWith e none pos.line (Xs i).env = pure false := by intro _; rfl) : qS K N W pr Xs (.Expr e pos) (dExpr m) := let ⟨_, h1, h2⟩ := he; ⟨_, fun i => ps_expr (h1 i) (hs i), sim_expr h2⟩
theorem s_ret (he : qE K N W Xs e m) : qS K N W pr Xs (.Return (some e) pos) (dRet m) := let ⟨_, h1, h2⟩ := he; ⟨_, fun i => ps_ret (h1 i), sim_ret h2⟩
theorem s_retN : qS K N W pr Xs (.Return none pos) (dRet (dC .non)) := ⟨_, fun _ => ps_retN, sim_retN⟩
theorem s_if {A B : List Stmt} (h : qT K N W Xs c t) (ha : qSs K N W pr Xs A sa) (hb : qSs K N W pr Xs B sb) : qS K N W pr Xs (.If c A B pos) (dIf t sa sb) := let ⟨_, h1, h2⟩ := h; let ⟨_, h3, h4⟩ := ha; let ⟨_, h5, h6⟩ := hb; ⟨_, fun i => ps_if (h1 i) (h3 i) (h5 i), sim_if h2 h4 h6⟩
theorem s_pass : qS K N W pr Xs (.Pass pos) dSkip := ⟨_, fun _ => ps_pass, sim_skip⟩
theorem s_brk : qS K N W pr Xs (.Break pos) dBrk := ⟨_, fun _ => ps_break, sim_brk⟩
theorem s_cnt : qS K N W pr Xs (.Continue pos) dCnt := ⟨_, fun _ => ps_continue, sim_cnt⟩
theorem s_for {tg iter : Expr} {tgd : DG} (Φ : Fam K mg P w base k Xs W) (hi : qI K N W Xs tg iter ms) (hg : qG K N pr Xs tg tgd) (hb : qSs K N W pr Xs sts sa) (hs : ∀ i x, foldedSetIterable iter (Xs i).env x = pure x := by intro _ _; rfl) : qS K N W pr Xs (.For tg iter sts [] pos) (dFor ms tgd sa) :=
  let ⟨_, h1, h2⟩ := hi; let ⟨_, h3, h4⟩ := hg; let ⟨_, h5, h6⟩ := hb; ⟨_, fun i => ps_for (Φ.own i) (Φ.calm i) (h1 i) (h3 i) (h5 i) (hs i), sim_for h2 h4 h6⟩
theorem s_while (Φ : Fam K mg P w base k Xs W) (h : qT K N W Xs c t) (hb : qSs K N W pr Xs sts sa) : qS K N W pr Xs (.While c sts [] pos) (dWh t sa) :=
  let ⟨_, h1, h2⟩ := h; let ⟨_, h5, h6⟩ := hb; ⟨_, fun i => ps_while (Φ.own i) (h1 i) (h5 i), sim_while h2 h6⟩
theorem g_name (j : Nat) {x : Str} (Φ : Fam K mg P w base k Xs W) (hp : pr j = false) (hi : ∀ i, (Xs i).N[j]? = some x := by intro _; rfl) (hx : ∀ i, Loc (Xs i).env.scope x := by intro _; first | exact Or.inl rfl | exact Or.inr rfl)
    (hf : ∀ i, (Xs i).fn x = true ∨ (Xs i).env.scope.names.lookup x = some .local := by intro _; first | exact .inl rfl | exact .inr rfl) : qG K N pr Xs (.Name x pos) (gNm j) := ⟨_, fun i => pg_name (Φ.nd i) (hi i) (hx i) (hf i), sim_gName hp⟩
theorem i_seq {tg : Expr} (h : qE K N W Xs e m) (hK : ∀ i, (Xs i).K = K) : qI K N W Xs tg e (dIt m) := let ⟨_, h1, h2⟩ := h; ⟨_, fun i => by have h := pi_seqA (tg := tg) (h1 i); rw [hK i] at h; exact h, sim_it h2⟩
theorem i_rng1 {tg : Expr} (Φ : Fam K mg P w base k Xs W) (hm : mg "range" = none) (h : qA K N W Xs [a] ls ms) (hg : ∀ i, Gl (Xs i) "range" := by intro _; rfl) (hs : ∀ i, starEach [a] (Xs i).env = [(false, eval a (Xs i).env)] := by intro _; rfl) : qI K N W Xs tg (.Call (.Name "range" p) [a] [] pos) (dRng1 ms) :=
  let ⟨_, h1, h2⟩ := h; ⟨_, fun i => pi_range1 (hg i) (by rw [Φ.mg i]; exact hm) (h1 i) (hs i), sim_rng1 h2⟩
theorem s_app {cpos epos : Pos} (hK : ∀ i, (Xs i).K = K) (ho : qV Xs l j) (he : qE K N W Xs e m) (hbase : ∀ i, attributeBase l "append" (Xs i).env (eval l (Xs i).env) = eval l (Xs i).env := by intro _; rfl) (hline : (apos.endLine == cpos.line) = true := by rfl)
    (hfew : ∀ i, ((backTo cpos (starEach [e] (Xs i).env)).all (fun x => !x.1) && (backToKw cpos (keywordEach [] (Xs i).env)).all (fun x => x.1.isSome)
      && decide (([e] : List Expr).length + ([] : List Keyword).length + (if ([] : List Keyword).isEmpty then 0 else 1) < 30)) = true := by intro _; rfl) (hplain : ∀ i, (backTo cpos (starEach [] (Xs i).env)).any (·.1) = false := by intro _; rfl)
    (hs : ∀ i, starEach (e :: []) (Xs i).env = (false, eval e (Xs i).env) :: starEach [] (Xs i).env := by intro _; rfl) (hsw : ∀ i, swapsWith (.Call (.Attribute l "append" apos) [e] [] cpos) none epos.line (Xs i).env = pure false := by intro _; rfl) :
    qS K N W pr Xs (.Expr (.Call (.Attribute l "append" apos) [e] [] cpos) epos) (dApp j m) :=
  let ⟨_, h1, h2⟩ := he
  ⟨_, fun i => by have h := ps_expr (pe_bm PySem.F.plainAttrs_list PySem.F.slot_list_append PySem.F.type_list_append mt_append (ho i) (pa_cons (h1 i) pa_nil (hs i)) (hbase i) (hfew i) hline (hs i) (hplain i)) (hsw i); rw [hK i] at h; exact h, sim_app h2⟩
end
end DL

set_option maxHeartbeats 4000000
/-! DL13: the rules by syntax: items, built-ins, comprehensions. -/
namespace DL
open PySem L2
section
variable {K : PySem.W.Frag} {mg : Str → Option Value} {P : Program} {w : World} {base : Heap} {k : Nat} {ι : Type} {Xs : ι → Cx} {W : WX} {N : Nm}
variable {a b c e l : Expr} {es rest : List Expr} {pos p p2 tpos apos : Pos} {ma mb mc mv m : DE} {t u : DT} {ms : DA} {ls : Lends} {x : Str} {pr : Nat → Bool} {j : Nat}
theorem e_subS (Φ : Fam K mg P w base k Xs W) (ha : qV Xs a j) (hb : qE K N W Xs b mb) (hs : ∀ i : ι, PlainIx b := by intro _ _ _; rfl) : qE K N W Xs (.Subscript a b pos) (dSubS j mb) :=
  let ⟨_, h3, h4⟩ := hb
  ⟨_, fun i => by have h := dl_ixany (Room.hu1 (Φ.room i)); rw [Φ.K i] at h; exact pe_ix h (ha i) (h3 i) (hs i), sim_subS h4⟩
theorem e_sub2 (Φ : Fam K mg P w base k Xs W) (ha : qE K N W Xs a ma) (hb : qE K N W Xs b mb) (hs : ∀ i : ι, PlainIx b := by intro _ _ _; rfl) : qE K N W Xs (.Subscript a b pos) (dOp subV ma mb) :=
  let ⟨_, h1, h2⟩ := ha; let ⟨_, h3, h4⟩ := hb
  ⟨_, fun i => by have h := dl_ixany (Room.hu1 (Φ.room i)); rw [Φ.K i] at h; exact pe_ix h (h1 i) (h3 i) (hs i), sim_op os_ix h2 h4⟩
theorem s_setS (Φ : Fam K mg P w base k Xs W) (ha : qV Xs a j) (hb : qE K N W Xs b mb) (hv : qE K N W Xs e mv)
    (hass : ∀ i v, assign (.Subscript a b p2) (Xs i).env v = (do
      let ov ← holding [v] (eval a (Xs i).env)
      let iv ← holding [v, ov] (eval b (Xs i).env)
      standAt p2
      holding [v, ov, iv] (setItem ov iv v)
      release [v, ov, iv] []) := by intro _ _; rfl)
    (hs : ∀ i, swapsWithSole [.Subscript a b p2] e pos.line (Xs i).env = pure false := by intro _; rfl) (hw : ∀ i, swappedStores [.Subscript a b p2] e (Xs i).env = pure none := by intro _; rfl)
    (h1 : ∀ i, (assignEach [.Subscript a b p2] (Xs i).env).map (·.2) = [assign (.Subscript a b p2) (Xs i).env] := by intro _; rfl) : qS K N W pr Xs (.Assign [.Subscript a b p2] e pos) (dSetS j mb mv) :=
  let ⟨_, h3, h4⟩ := hb; let ⟨_, h5, h6⟩ := hv
  ⟨_, fun i => ps_asg (h5 i) (pg_sub (ha i) (h3 i) (PSet.or set_list (set_dict (Room.hu1 (Φ.room i)))) (hass i)) (hs i) (hw i) (h1 i), sim_setS h6 h4⟩

/-! ### built-ins -/
def fAbs : D → Option D
  | .int i => some (.int (if i < 0 then -i else i))
  | _ => none
def fInt : D → Option D
  | .int i => some (.int i)
  | .bl b => some (.int (if b then 1 else 0))
  | _ => none
theorem cr_len (Φ : Fam K mg P w base k Xs W) : CallRule1 K N Xs (.builtin "len") lenD := ⟨rLenA K, fun i => by
  have h : CallR (Xs i) (.builtin "len") (rLenA (Xs i).K) := by
    refine CallR.or call_len ?_
    intro pins s σ H xs us Q I r h
    obtain ⟨a, kvs, rfl, ha, q⟩ := h
    obtain ⟨u, rfl, ru⟩ := vals1 r
    cases ru
    exact d_len I ha fun t s' I' => ⟨.int kvs.length, H, I', ⟨t, rfl⟩, q⟩
  rw [Φ.K i] at h; exact h, vs_len⟩
theorem cr_abs : CallRule1 K N Xs (.builtin "abs") fAbs := ⟨_, fun _ => call_abs, fun H x a dz w ha e ew Q hQ => by
  cases a with
  | int i => cases e; cases ew; exact ⟨i, by rw [ha.int], hQ⟩
  | _ => cases e⟩
theorem cr_int : CallRule1 K N Xs (.type "int") fInt := ⟨_, fun _ => call_int1, fun H x a dz w ha e ew Q hQ => by
  cases a with
  | int i => cases e; cases ew; exact .inl ⟨i, by rw [ha.int], hQ⟩
  | bl i => cases e; cases ew; exact .inr ⟨i, by rw [ha.bl], hQ⟩
  | _ => cases e⟩
def fMin2 : D → D → Option D := fI fun i j => some (.int (if j < i then j else i))
def fMax2 : D → D → Option D := fI fun i j => some (.int (if j > i then j else i))
theorem cr_min2 (Φ : Fam K mg P w base k Xs W) : CallRule K N Xs (.builtin "min") (f2 (flat2 fMin2)) := ⟨_, fun i => call_min2 (Φ.calm i), cs_2 (r := fun xs H Q => ∃ i j, xs = [.int i, .int j] ∧ Q (.int (if j < i then j else i)) H) (fun H x y a b dz w ha hb e ew Q hQ => by
  cases a <;> try (cases e; done)
  cases b <;> try (cases e; done)
  cases e; cases ew
  rw [ha.int, hb.int]
  exact ⟨_, _, rfl, hQ⟩)⟩
theorem cr_max2 (Φ : Fam K mg P w base k Xs W) : CallRule K N Xs (.builtin "max") (f2 (flat2 fMax2)) := ⟨_, fun i => call_max2 (Φ.calm i), cs_2 (r := fun xs H Q => ∃ i j, xs = [.int i, .int j] ∧ Q (.int (if j > i then j else i)) H) (fun H x y a b dz w ha hb e ew Q hQ => by
  cases a <;> try (cases e; done)
  cases b <;> try (cases e; done)
  cases e; cases ew
  rw [ha.int, hb.int]
  exact ⟨_, _, rfl, hQ⟩)⟩
def seqOf : D → Option (List D)
  | .bx _ .lst ds => some ds
  | .bx _ .scr ds => some ds
  | _ => none
def leastI : List Int → Option Int
  | [] => none
  | [a] => some a
  | a :: r => (leastI r).map fun b => if b < a then b else a
def mostI : List Int → Option Int
  | [] => none
  | [a] => some a
  | a :: r => (mostI r).map fun b => if b > a then b else a
theorem least_spec : ∀ {l : List Int} {m : Int}, leastI l = some m → m ∈ l ∧ ∀ y ∈ l, m ≤ y
  | [a], m, h => by cases h; simp
  | a :: b :: r, m, h => by
    obtain ⟨z, h1, h2⟩ := Option.map_eq_some_iff.mp (show (leastI (b :: r)).map (fun b => if b < a then b else a) = some m from h)
    obtain ⟨h3, h4⟩ := least_spec h1
    subst h2
    by_cases hz : z < a
    · rw [if_pos hz]
      exact ⟨List.mem_cons_of_mem _ h3, fun y hy => by rcases List.mem_cons.mp hy with rfl | hy; omega; exact h4 y hy⟩
    · rw [if_neg hz]
      exact ⟨List.mem_cons_self, fun y hy => by rcases List.mem_cons.mp hy with rfl | hy; omega; have := h4 y hy; omega⟩
theorem most_spec : ∀ {l : List Int} {m : Int}, mostI l = some m → m ∈ l ∧ ∀ y ∈ l, y ≤ m
  | [a], m, h => by cases h; simp
  | a :: b :: r, m, h => by
    obtain ⟨z, h1, h2⟩ := Option.map_eq_some_iff.mp (show (mostI (b :: r)).map (fun b => if b > a then b else a) = some m from h)
    obtain ⟨h3, h4⟩ := most_spec h1
    subst h2
    by_cases hz : z > a
    · rw [if_pos hz]
      exact ⟨List.mem_cons_of_mem _ h3, fun y hy => by rcases List.mem_cons.mp hy with rfl | hy; omega; exact h4 y hy⟩
    · rw [if_neg hz]
      exact ⟨List.mem_cons_self, fun y hy => by rcases List.mem_cons.mp hy with rfl | hy; omega; have := h4 y hy; omega⟩
theorem least_ne {l : List Int} {m : Int} (h : leastI l = some m) : 0 < l.length := List.length_pos_of_mem (least_spec h).1
theorem most_ne {l : List Int} {m : Int} (h : mostI l = some m) : 0 < l.length := List.length_pos_of_mem (most_spec h).1
theorem seq_ints {H : Hp} {x : V} {a : D} {ds : List D} {ns : List Int} (hv : Vw K N H x a) (h1 : seqOf a = some ds) (h2 : intsD ds = some ns) : ∃ p, x = .ref p ∧ SqL K H p (ns.map V.int) := by
  cases a with
  | bx o k es =>
    obtain ⟨p, xs, rfl, hat, l, c⟩ := hv.bx
    cases k with
    | lst => cases h1; rw [intsD_vw h2 l c] at hat; exact ⟨p, rfl, .inl (.inl hat)⟩
    | scr => cases h1; rw [intsD_vw h2 l c] at hat; exact ⟨p, rfl, hat⟩
    | _ => cases h1
  | _ => cases h1
def fOnInts (g : List Int → Option Int) (a : D) : Option D := (seqOf a).bind fun ds => (intsD ds).bind fun ns => (g ns).map .int
theorem fOnInts_some {g : List Int → Option Int} {a dz : D} (h : fOnInts g a = some dz) : ∃ ds ns m, seqOf a = some ds ∧ intsD ds = some ns ∧ g ns = some m ∧ dz = .int m := by
  unfold fOnInts at h
  cases e1 : seqOf a with
  | none => rw [e1] at h; cases h
  | some ds =>
    rw [e1] at h
    have h : ((intsD ds).bind fun ns => (g ns).map .int) = some dz := h
    cases e2 : intsD ds with
    | none => rw [e2] at h; cases h
    | some ns =>
      rw [e2] at h
      obtain ⟨m, h3, h4⟩ := Option.map_eq_some_iff.mp (show (g ns).map D.int = some dz from h)
      exact ⟨ds, ns, m, rfl, e2, h3, h4.symm⟩
def fMin1 := fOnInts leastI
def fMax1 := fOnInts mostI
def fSum := fOnInts fun ns => some ns.sum
theorem cr_min1 (Φ : Fam K mg P w base k Xs W) : CallRule1 K N Xs (.builtin "min") fMin1 := ⟨rMin K, fun i => by have h := cr_min (X := Xs i) (Φ.calm i); rw [Φ.K i] at h; exact h, fun H x a dz w ha e ew Q hQ => by
  obtain ⟨ds, ns, m, h1, h2, h3, rfl⟩ := fOnInts_some e
  cases ew
  obtain ⟨p, rfl, hq⟩ := seq_ints ha h1 h2
  obtain ⟨h4, h5⟩ := least_spec h3
  refine ⟨p, ns, rfl, hq, least_ne h3, fun m' h6 h7 => ?_⟩
  have : m' = m := Int.le_antisymm (h7 m h4) (h5 m' h6)
  rw [this]; exact hQ⟩
theorem cr_max1 (Φ : Fam K mg P w base k Xs W) : CallRule1 K N Xs (.builtin "max") fMax1 := ⟨rMax K, fun i => by have h := cr_max (X := Xs i) (Φ.calm i); rw [Φ.K i] at h; exact h, fun H x a dz w ha e ew Q hQ => by
  obtain ⟨ds, ns, m, h1, h2, h3, rfl⟩ := fOnInts_some e
  cases ew
  obtain ⟨p, rfl, hq⟩ := seq_ints ha h1 h2
  obtain ⟨h4, h5⟩ := most_spec h3
  refine ⟨p, ns, rfl, hq, most_ne h3, fun m' h6 h7 => ?_⟩
  have : m' = m := Int.le_antisymm (h5 m' h6) (h7 m h4)
  rw [this]; exact hQ⟩
theorem cr_sumR (Φ : Fam K mg P w base k Xs W) : CallRule1 K N Xs (.builtin "sum") fSum := ⟨rSum K, fun i => by have h := cr_sum (X := Xs i) (Φ.calm i); rw [Φ.K i] at h; exact h, fun H x a dz w ha e ew Q hQ => by
  obtain ⟨ds, ns, m, h1, h2, h3, rfl⟩ := fOnInts_some e
  cases ew; cases h3
  obtain ⟨p, rfl, hq⟩ := seq_ints ha h1 h2
  exact ⟨p, ns, rfl, hq, hQ⟩⟩
def boolsD : List D → Option (List Bool)
  | [] => some []
  | .bl b :: ds => (boolsD ds).map fun bs => b :: bs
  | _ => none
theorem boolsD_vw {H : Hp} : ∀ {ds : List D} {xs : List V} {bs : List Bool}, boolsD ds = some bs → xs.length = ds.length → (∀ (j : Nat) x d, xs[j]? = some x → ds[j]? = some d → Vw K N H x d) → xs = bs.map V.bl
  | [], [], bs, e, _, _ => by cases e; rfl
  | .bl b :: ds, x :: xs, bs, e, l, h => by
    unfold boolsD at e
    obtain ⟨bs', e2, rfl⟩ := Option.map_eq_some_iff.mp e
    rw [(h 0 x _ rfl rfl).bl, boolsD_vw e2 (by simpa using l) fun j x d hx hd => h (j + 1) x d hx hd]
    rfl
  | .non :: _, _, _, e, _, _ => by cases e
  | .int _ :: _, _, _, e, _, _ => by cases e
  | .str _ :: _, _, _, e, _, _ => by cases e
  | .bx _ _ _ :: _, _, _, e, _, _ => by cases e
def fAll (a : D) : Option D := (seqOf a).bind fun ds => (boolsD ds).map fun bs => .bl (bs.all id)
def fAny (a : D) : Option D := (seqOf a).bind fun ds => (boolsD ds).map fun bs => .bl (bs.any id)
theorem seq_bools {H : Hp} {x : V} {a : D} {ds : List D} {ns : List Bool} (hv : Vw K N H x a) (h1 : seqOf a = some ds) (h2 : boolsD ds = some ns) : ∃ p, x = .ref p ∧ SqL K H p (ns.map V.bl) := by
  cases a with
  | bx o k es =>
    obtain ⟨p, xs, rfl, hat, l, c⟩ := hv.bx
    cases k with
    | lst => cases h1; rw [boolsD_vw h2 l c] at hat; exact ⟨p, rfl, .inl (.inl hat)⟩
    | scr => cases h1; rw [boolsD_vw h2 l c] at hat; exact ⟨p, rfl, hat⟩
    | _ => cases h1
  | _ => cases h1
theorem cr_allR (Φ : Fam K mg P w base k Xs W) : CallRule1 K N Xs (.builtin "all") fAll := ⟨rAll K, fun i => by have h := cr_all (X := Xs i) (Φ.calm i); rw [Φ.K i] at h; exact h, fun H x a dz w ha e ew Q hQ => by
  unfold fAll at e
  cases e1 : seqOf a with
  | none => rw [e1] at e; cases e
  | some ds =>
    rw [e1] at e
    obtain ⟨bs, h2, rfl⟩ := Option.map_eq_some_iff.mp (show (boolsD ds).map (fun bs => D.bl (bs.all id)) = some dz from e)
    cases ew
    obtain ⟨p, rfl, hq⟩ := seq_bools ha e1 h2
    exact ⟨p, bs, rfl, hq, hQ⟩⟩
theorem cr_anyR (Φ : Fam K mg P w base k Xs W) : CallRule1 K N Xs (.builtin "any") fAny := ⟨rAny K, fun i => by have h := cr_any (X := Xs i) (Φ.calm i); rw [Φ.K i] at h; exact h, fun H x a dz w ha e ew Q hQ => by
  unfold fAny at e
  cases e1 : seqOf a with
  | none => rw [e1] at e; cases e
  | some ds =>
    rw [e1] at e
    obtain ⟨bs, h2, rfl⟩ := Option.map_eq_some_iff.mp (show (boolsD ds).map (fun bs => D.bl (bs.any id)) = some dz from e)
    cases ew
    obtain ⟨p, rfl, hq⟩ := seq_bools ha e1 h2
    exact ⟨p, bs, rfl, hq, hQ⟩⟩

/-! ### isinstance -/
inductive Ty where
  | int | bool | str | list | tuple | dict
def Ty.s : Ty → String
  | .int => "int" | .bool => "bool" | .str => "str" | .list => "list" | .tuple => "tuple" | .dict => "dict"
def Ty.is : Ty → D → Bool
  | .int, .int _ => true
  | .int, .bl _ => true
  | .bool, .bl _ => true
  | .str, .str _ => true
  | .list, .bx _ .lst _ => true
  | .list, .bx _ .scr _ => true
  | .tuple, .bx _ .tup _ => true
  | .dict, .bx _ (.dct _) _ => true
  | _, _ => false
def noIns : D → Bool
  | .bx _ (.ins _ _) _ => false
  | _ => true
def fIsi (T : Ty) (a : D) : Option D := if noIns a = true then some (.bl (T.is a)) else none
theorem tyx_of {H : Hp} {x : V} {a : D} (ha : Vw K N H x a) (hn : noIns a = true) : ∃ n : String, TyX K H x (.type n) ∧ ∀ T : Ty, PySem.W.kitOne K (.type n) (.type T.s) = some (T.is a) := by
  cases a with
  | non => refine ⟨"NoneType", by rw [ha.non]; exact .base .non, fun T => ?_⟩; exact kit_ty (by cases T <;> rfl)
  | bl b => refine ⟨"bool", by rw [ha.bl]; exact .base (.bl b), fun T => ?_⟩; exact kit_ty (by cases T <;> rfl)
  | int b => refine ⟨"int", by rw [ha.int]; exact .base (.int b), fun T => ?_⟩; exact kit_ty (by cases T <;> rfl)
  | str b => refine ⟨"str", by rw [ha.str]; exact .base (.str b), fun T => ?_⟩; exact kit_ty (by cases T <;> rfl)
  | bx o k ds =>
    obtain ⟨p, xs, rfl, hat, _, _⟩ := ha.bx
    have lists : SqL K H p xs → TyX K H (.ref p) (.type "list") := fun h => by
      rcases h with (h | ⟨o, h⟩) | ⟨o, its, n, h1, h2, _⟩
      · exact .base (.lst h)
      · exact .base (.frz h)
      · exact .kList h1 h2
    cases k with
    | lst => refine ⟨"list", lists (.inl (.inl hat)), fun T => ?_⟩; exact kit_ty (by cases T <;> rfl)
    | scr => refine ⟨"list", lists hat, fun T => ?_⟩; exact kit_ty (by cases T <;> rfl)
    | tup =>
      refine ⟨"tuple", ?_, fun T => ?_⟩
      · rcases hat with (h | ⟨o, h⟩) | ⟨o, its, n, h1, h2, _⟩
        · exact .base (.tup h)
        · exact .fTuple h
        · exact .kTuple h1 h2
      · exact kit_ty (by cases T <;> rfl)
    | dct ks =>
      refine ⟨"dict", ?_, fun T => ?_⟩
      · rcases hat.2.1 with h | ⟨o, h⟩
        · exact .base (.dK h)
        · exact .fDict h
      · exact kit_ty (by cases T <;> rfl)
    | ins c fs => cases hn
theorem sim_isi {te : TE} (T : Ty) (h : SimE K N W te m) : SimE K N W (tCB (rIsi K) (tCons te (tCons (tC (.ty T.s)) tNil))) (dUn (fIsi T) m) := fun G R H σ s Q rel hk =>
  h.bind rel hk fun d s1 R1 H1 v e1 r1 hk1 => by
    obtain ⟨dz, h1, h2⟩ := o2r_some hk1
    unfold fIsi at h1
    by_cases hn : noIns d = true
    · rw [if_pos hn] at h1; cases h1
      obtain ⟨n, h3, h4⟩ := tyx_of r1.vw hn
      exact ⟨v, .ty T.s, .type n, .type T.s, T.is d, rfl, .ty _, h3, h4 T, h2 R1 H1 _ e1 (r1.pop.push (.bl _))⟩
    · rw [if_neg hn] at h1; cases h1
theorem e_isi (T : Ty) {p0 : Pos} {y : Str} (Φ : Fam K mg P w base k Xs W) (hm : mg "isinstance" = none) (hmT : mg y = none) (he : qE K N W Xs e m) (hv : bootBuiltins y = some (.type T.s) := by decide +kernel) (hg : ∀ i, Gl (Xs i) "isinstance" := by intro _; rfl) (hgT : ∀ i, Gl (Xs i) y := by intro _; rfl)
    (hn : y ≠ "__name__" := by decide) (hdb : (y == ("__debug__" : Str)) = false := by decide)
    (hs0 : ∀ i, starEach [.Name y p0] (Xs i).env = (false, eval (.Name y p0) (Xs i).env) :: starEach [] (Xs i).env := by intro _; rfl)
    (hs : ∀ i, starEach [e, .Name y p0] (Xs i).env = (false, eval e (Xs i).env) :: starEach [.Name y p0] (Xs i).env := by intro _; rfl)
    (hpl : ∀ i, (backTo pos (starEach [.Name y p0] (Xs i).env)).any (·.1) = false := by intro _; rfl) : qE K N W Xs (.Call (.Name "isinstance" p) [e, .Name y p0] [] pos) (dUn (fIsi T) m) :=
  let ⟨_, h1, h2⟩ := he
  ⟨_, fun i => by
    have hc := call_isi (X := Xs i)
    rw [Φ.K i] at hc
    exact pe_callB hc (hg i) (by rw [Φ.mg i]; exact hm) (by decide +kernel) (pa_cons (h1 i) (pa_cons (pe_bltn (v := .ty T.s) (hgT i) (by rw [Φ.mg i]; exact hmT) hv rfl hn hdb) pa_nil (hs0 i)) (hs i)) (by decide) (by decide) (hs i) (hpl i), sim_isi T h2⟩
end
end DL

set_option maxHeartbeats 4000000
/-! DL14: own instances: making, fields, methods. -/
namespace DL
open PySem L2
section
variable {K : PySem.W.Frag} {N : Nm} {R R' R1 H H' H1 G G' : Hp} {v x y : V} {d e : D} {f : Addr → Prop} {L L' A B σ : List (Option V)} {s s1 : List (Option D)} {W : WX}
variable {te ta tb tc tv : TE} {m ma mb mc mv : DE} {tt tu : TT} {n t u : DT} {tl : TA} {ls : Lends} {ms : DA} {pr : Nat → Bool}
theorem Rel.callD {n : Nat} {F : List D → Rs D} {vs : List V} {ds : List D} {Q : VK} {E : XK} (l : vs.length = ds.length) (r : Rel K N G R H (vs.map some ++ σ) (ds.map some ++ s))
    (hl : ∀ (j i : Nat), ls[j]? = some (some i) → ∃ v, vs[j]? = some v ∧ σ[i]? = some (some v)) (hz : ds.length = n)
    (hk : match F ds with
      | .ok d ps => ∀ R' H' v, Ex R R' → Rel K N G R' H' (some v :: σ) (some d :: DL.gb ls ps s) → Q v H'
      | .ex x ps => ∀ R' H' c dd, Ex R R' → Rel K N G R' H' σ (DL.gb ls ps s) → XcAt K N R' x c dd → E c dd H'
      | .no => False) : SpD K N n F vs H Q E := by
  obtain ⟨G', eg, r1, back⟩ := Rel.frame (r.rot (by simp [l])) (by have := r.len; simp [l] at this; omega)
  refine ⟨by omega, G', R, ds, hz, r1, ?_⟩
  have fin : ∀ R2 H2 ps, Ex R R2 → Rel K N G' R2 H2 (vs.map some) ps → Rel K N G R2 H2 σ (DL.gb ls ps s) := fun R2 H2 ps e2 r2 => by
    have lp := r2.len
    refine Rel.gb vs ps ls (by simpa using lp) hl ((back R2 H2 _ _ e2 r2).rot ?_)
    have := r.len; simp [l] at this; omega
  cases eF : F ds with
  | ok d ps =>
    rw [eF] at hk
    intro R2 H2 v e2 r2
    refine hk R2 H2 v e2 ?_
    have lp := r2.len
    have r3 := back R2 H2 _ _ e2 r2
    have hls : σ.length = s.length := by have := r.len; simp [l] at this; omega
    have r4 : Rel K N G R2 H2 (some v :: (vs.map some ++ σ)) (some d :: (ps ++ s)) := r3.rot hls
    obtain ⟨G2, eg2, r5, back2⟩ := frame1 r4
    exact back2 R2 H2 _ _ (Ex.refl R2) (Rel.gb vs ps ls (by simpa using lp) hl r5)
  | ex x ps =>
    rw [eF] at hk
    exact fun R2 H2 c dd e2 r2 hx => hk R2 H2 c dd e2 (fin R2 H2 ps e2 r2) hx
  | no => rw [eF] at hk; exact hk.elim
abbrev E0 : XK := fun _ _ _ => False
theorem passes0 {X : Cx} : Passes (L2.CX X.prog X.w) X E0 := fun pins σ H s e s' I c => by
  obtain ⟨a, B, H', cls, d, _, _, _, _, _, _, _, z⟩ := c
  exact z.elim
/-- C(..) -/
def dMake (c n : Nat) (F : List D → Rs D) (ls : Lends) (ms : DA) : DE := fun s => (ms s).bind fun ds s1 => if ds.length + 1 = n then (match F (mI c [] [] :: ds) with
  | .ok .non (some o :: ps) => .ok o (gb ls ps s1)
  | _ => .no) else .no
def up1 (ls : Lends) : Lends := ls.map fun o => o.map (· + 1)
theorem gb_up : ∀ (ls : Lends) (ps : S) (a : Option D) (s : S), gb (up1 ls) ps (a :: s) = a :: gb ls ps s
  | [], [], a, s => rfl
  | [], _ :: _, a, s => rfl
  | none :: ls, [], a, s => rfl
  | some i :: ls, [], a, s => rfl
  | none :: ls, p :: ps, a, s => gb_up ls ps a s
  | some i :: ls, p :: ps, a, s => gb_up ls ps a (s.set i p)
theorem sim_make {c n : Nat} {F : List D → Rs D} (h : SimA K N W tl ls ms) : SimE K N W (tMake (N.cn c) (SpD K N n F) [] E0 tl) (dMake c n F ls ms) := fun G R H σ s Q rel hk =>
  h.bind rel hk fun ds s' R' H' vs e l r hl hk2 => by
    intro x dx hx hdx hne
    by_cases hz : ds.length + 1 = n
    · rw [if_pos hz] at hk2
      rw [List.append_nil]
      have r1 : Rel K N G R' (upd (upd H' dx (.own x)) x (.ins (N.cn c) dx [])) (some (.ref x) :: (vs.map some ++ σ)) (some (mI c [] []) :: (ds.map some ++ s')) := by
        refine Rel.box (xs := []) (ds := []) (k := .ins c []) (p := x) (dx := dx) r rfl hx hdx (fun a o ho => ?_) ⟨rfl, by rw [upd_same]; rfl, by rw [upd_ne hne, upd_same]⟩
        rw [upd_ne (ne_of_none ho hx), upd_ne (ne_of_none ho hdx)]; exact ho
      have r2 : Rel K N G R' (upd (upd H' dx (.own x)) x (.ins (N.cn c) dx [])) ((V.ref x :: vs).map some ++ (some (.ref x) :: σ)) ((mI c [] [] :: ds).map some ++ (none :: s')) := by
        refine r1.re (by have := r.len; simp at this ⊢; omega) (fun i => if i ≤ vs.length then i else i - 1) (fun i d hd => ?_) fun i j hi hj hij => ?_
        · by_cases hi : i < vs.length + 1
          · have hi' : i ≤ vs.length := by omega
            simp only [if_pos hi']
            rw [List.getElem?_append_left (by simp; omega)] at hd
            rw [List.getElem?_append_left (by simp; omega)]
            cases i with
            | zero => exact ⟨hd, rfl⟩
            | succ i =>
              simp only [List.map_cons, List.getElem?_cons_succ] at hd ⊢
              rw [List.getElem?_append_left (by simp; omega), List.getElem?_append_left (by simp; omega)]
              exact ⟨hd, rfl⟩
          · have hi' : ¬ i ≤ vs.length := by omega
            simp only [if_neg hi']
            rw [List.getElem?_append_right (by simp; omega)] at hd
            rw [List.getElem?_append_right (by simp; omega)]
            simp only [List.length_map, List.length_cons, l] at hd ⊢
            obtain ⟨k, rfl⟩ : ∃ k, i = ds.length + 1 + k := ⟨i - (ds.length + 1), by omega⟩
            rw [Nat.add_sub_cancel_left] at hd ⊢
            cases k with
            | zero => cases hd
            | succ k =>
              have e1 : ds.length + 1 + (k + 1) - 1 = (ds.length + k) + 1 := by omega
              rw [e1]
              simp only [List.getElem?_cons_succ] at hd ⊢
              rw [List.getElem?_append_right (by simp), List.getElem?_append_right (by simp; omega)]
              simp only [List.length_map, l, Nat.add_sub_cancel_left]
              first
                | exact ⟨hd, rfl⟩
                | exact ⟨hd, trivial⟩
        · have nz : ∀ i, Liv ((mI c [] [] :: ds).map some ++ (none :: s')) i → i ≠ vs.length + 1 := fun i ⟨d, hd⟩ z => by
            subst z
            rw [List.getElem?_append_right (by simp; omega)] at hd
            simp [l] at hd
          have h1 := nz i hi
          have h2 := nz j hj
          by_cases h3 : i ≤ vs.length <;> by_cases h4 : j ≤ vs.length <;> simp [h3, h4] at hij <;> omega
      refine Rel.callD (ls := some 0 :: up1 ls) (by simp [l]) r2 (fun j i hj => ?_) (by simpa using hz) ?_
      · cases j with
        | zero => cases hj; exact ⟨_, rfl, rfl⟩
        | succ j =>
          simp only [up1, List.getElem?_cons_succ, List.getElem?_map] at hj
          obtain ⟨o, ho, h3⟩ := Option.map_eq_some_iff.mp hj
          cases o with
          | none => cases h3
          | some i0 =>
            cases h3
            exact hl j i0 ho
      · cases eF : F (mI c [] [] :: ds) with
        | ok d ps =>
          rw [eF] at hk2
          cases d with
          | non =>
            cases ps with
            | nil => exact hk2.elim
            | cons p ps =>
              cases p with
              | none => exact hk2.elim
              | some o =>
                simp only at hk2
                intro R2 H2 w e2 r3
                refine ⟨r3.vw.non, hk2 R2 H2 _ (e.trans e2) ?_⟩
                have e3 : gb (some 0 :: up1 ls) (some o :: ps) (none :: s') = some o :: gb ls ps s' := gb_up ls ps (some o) s'
                rw [e3] at r3
                exact r3.pop
          | _ => exact hk2.elim
        | ex x ps => rw [eF] at hk2; exact hk2.elim
        | no => rw [eF] at hk2; exact hk2.elim
    · rw [if_neg hz] at hk2; exact hk2.elim

/-! ### fields -/
theorem lookup_zip : ∀ {fs : List Nat} {xs : List V} {j : Nat}, fs.length = xs.length → ((fs.map N.fn).zip xs).lookup (N.fn j) = (fs.findIdx? fun z => decide (z = j)).bind fun i => xs[i]?
  | [], [], j, _ => rfl
  | g :: fs, x :: xs, j, l => by
    have ih := lookup_zip (fs := fs) (xs := xs) (j := j) (by simpa using l)
    rw [List.map_cons, List.zip_cons_cons, List.findIdx?_cons]
    by_cases h : g = j
    · subst h
      have hb : (N.fn g == N.fn g) = true := beq_iff_eq.mpr rfl
      simp only [List.lookup, hb, decide_true, if_true]
      rfl
    · have hb : (N.fn j == N.fn g) = false := beq_eq_false_iff_ne.mpr fun z => h (N.inj z).symm
      simp only [List.lookup, hb, h, decide_false]
      rw [ih]
      cases fs.findIdx? fun z => decide (z = j) <;> rfl
def fldN (fs : List Nat) (j : Nat) : Option Nat := fs.findIdx? fun z => decide (z = j)
theorem fldN_lt {fs : List Nat} {j i : Nat} (h : fldN fs j = some i) : i < fs.length := (List.findIdx?_eq_some_iff_getElem.mp h).1
def fldV (c j : Nat) : D → Option D
  | .bx _ (.ins c' fs) ds => if c' = c then (fldN fs j).bind fun i => (ds[i]?).map rd else none
  | _ => none
def rFld (K : PySem.W.Frag) (g : Str) : V → Hp → VK → Prop := fun x H1 Q => ∃ a C dx fs v, x = .ref a ∧ H1 a = some (.ins C dx fs) ∧ Cls K C ∧ NoAttr K C g ∧ fs.lookup g = some v ∧ Q v H1
theorem us_fld {c j : Nat} (hc : Cls K (N.cn c)) (hn : NoAttr K (N.cn c) (N.fn j)) : UnSim K N (rFld K (N.fn j)) (fldV c j) := fun G R H x a L s rel dz e Q hQ => by
  cases a with
  | bx o k ds =>
    cases k with
    | ins c' fs =>
      have e : (if c' = c then (fldN fs j).bind fun i => (ds[i]?).map rd else none) = some dz := e
      by_cases hcc : c' = c
      · rw [if_pos hcc] at e
        have e9 := e
        clear e
        subst hcc
        cases ei : fldN fs j with
        | none => rw [ei] at e9; cases e9
        | some i =>
          rw [ei] at e9
          obtain ⟨d, hd, rfl⟩ := Option.map_eq_some_iff.mp (show (ds[i]?).map rd = some dz from e9)
          obtain ⟨R', a, xs, v, e1, h1, h2, h3, h4, h5, h6⟩ := rel.item (i := 0) (j := i) rfl hd
          cases h2
          obtain ⟨h7, dx, h8⟩ := h3
          refine ⟨a, _, dx, _, v, rfl, h8, hc, hn, ?_, hQ R' H v e1 ?_⟩
          · rw [lookup_zip h7]
            show (fldN fs j).bind _ = _
            rw [ei]; exact h5
          · have h1 : Rel K N G R' H (some (.ref a) :: L) (some (.bx o (.ins c' fs) (ds.set i (rd d))) :: s) := h1
            exact h1.pop.push h6
      · rw [if_neg hcc] at e; cases e
    | _ => cases e
  | _ => cases e
/-- a field of the slot's instance -/
def dFldS (c j i : Nat) : DE := fun s => match s[i]? with
  | some (some (.bx _ (.ins c' fs) ds)) => if c' = c ∧ fs.length = ds.length then (match fldN fs j with
    | some k => pick s i k
    | none => .no) else .no
  | _ => .no
theorem sim_fldS {c j i : Nat} (hc : Cls K (N.cn c)) (hn : NoAttr K (N.cn c) (N.fn j)) : SimE K N W (tFld K (tVar i) (N.fn j)) (dFldS c j i) := fun G R H σ s Q rel hk => by
  unfold dFldS at hk
  split at hk
  · rename_i o c' fs ds e0
    by_cases hcc : c' = c ∧ fs.length = ds.length
    · rw [if_pos hcc] at hk
      obtain ⟨rfl, hl⟩ := hcc
      cases ei : fldN fs j with
      | none => rw [ei] at hk; exact hk.elim
      | some k =>
        rw [ei] at hk
        have hj : k < ds.length := by rw [← hl]; exact fldN_lt ei
        obtain ⟨d, s', R2, a, xs, w, e2, e3, r3, h7, h8, h9, h10⟩ := rel.pick e0 hj
        simp only at hk
        rw [e2] at hk
        obtain ⟨h11, dx, h12⟩ := h8
        refine ⟨_, h7, a, _, dx, _, w, rfl, h12, hc, hn, ?_, hk R2 H w e3 r3⟩
        rw [lookup_zip h11]
        show (fldN fs j).bind _ = _
        rw [ei]; exact h10
    · rw [if_neg hcc] at hk; exact hk.elim
  · exact hk.elim
def putNs (fs : List Nat) (j : Nat) : List Nat := match fldN fs j with
  | some _ => fs
  | none => fs ++ [j]
def putVs (fs : List Nat) (ds : List D) (j : Nat) (e : D) : List D := match fldN fs j with
  | some i => ds.set i e
  | none => ds ++ [e]
theorem putF_zip : ∀ {fs : List Nat} {xs : List V} {j : Nat}, fs.length = xs.length → putF (N.fn j) y ((fs.map N.fn).zip xs) = ((putNs fs j).map N.fn).zip (match fldN fs j with | some i => xs.set i y | none => xs ++ [y])
  | [], [], j, _ => rfl
  | g :: fs, x :: xs, j, l => by
    have ih := putF_zip (fs := fs) (xs := xs) (j := j) (by simpa using l)
    rw [List.map_cons, List.zip_cons_cons, show putF (N.fn j) y ((N.fn g, x) :: (fs.map N.fn).zip xs) = (if N.fn g = N.fn j then (N.fn g, y) :: (fs.map N.fn).zip xs else (N.fn g, x) :: putF (N.fn j) y ((fs.map N.fn).zip xs)) from rfl]
    by_cases h : g = j
    · subst h
      have e1 : fldN (g :: fs) g = some 0 := by unfold fldN; rw [List.findIdx?_cons]; simp
      rw [if_pos rfl]
      unfold putNs
      rw [e1]
      rfl
    · rw [if_neg fun z => h (N.inj z), ih]
      have e1 : fldN (g :: fs) j = (fldN fs j).map (· + 1) := by unfold fldN; rw [List.findIdx?_cons]; simp [h]
      unfold putNs
      rw [e1]
      cases fldN fs j <;> rfl
theorem uniI {p dx : Addr} {xs : List V} {c : Nat} {fs : List Nat} (h : AtO N H p dx (.ins c fs) xs) : ∀ (xs2 : List V) (dx2 : Addr), AtO N H p dx2 (.ins c fs) xs2 → xs2 = xs ∧ dx2 = dx := fun xs2 dx2 h2 => by
  have := h.2.1.symm.trans h2.2.1
  injection this with this
  injection this with _ h3 h4
  exact ⟨(zip_inj (by simpa using h.1) (by simpa using h2.1) h4).symm, h3.symm⟩
theorem Rel.putI {p : Addr} {c j : Nat} {fs : List Nat} {ds : List D} (h : Rel K N G R H (some (.ref p) :: some y :: L) (some (mI c fs ds) :: some e :: s)) :
    ∃ dx gs, H p = some (.ins (N.cn c) dx gs) ∧ gs.length = ds.length ∧ Rel K N G R (upd H p (.ins (N.cn c) dx (putF (N.fn j) y gs))) (some (.ref p) :: L) (some (mI c (putNs fs j) (putVs fs ds j e)) :: s) := by
  obtain ⟨f, h1, _⟩ := h.top
  obtain ⟨dx, xs, at_, l⟩ := h1.own (o := true)
  have uni := uniI at_
  obtain ⟨lk, hp, hdx⟩ := id at_
  have hne : dx ≠ p := fun z => by rw [z, hp] at hdx; cases hdx
  refine ⟨dx, _, hp, by simp [lk, l], ?_⟩
  have hput := putF_zip (N := N) (y := y) (j := j) lk
  rw [hput]
  have hat : ∀ {gs zs}, AtO N (upd H p (.ins (N.cn c) dx ((gs.map N.fn).zip zs))) p dx (.ins c gs) zs ↔ gs.length = zs.length := fun {gs zs} => ⟨fun z => z.1, fun z => ⟨z, upd_same, by rw [upd_ne hne]; exact hdx⟩⟩
  cases e1 : fldN fs j with
  | some i =>
    have hi := fldN_lt e1
    have hks : putNs fs j = fs := by unfold putNs; rw [e1]
    have hds : putVs fs ds j e = ds.set i e := by unfold putVs; rw [e1]
    rw [hks, hds]
    have hjd : i < ds.length := by omega
    refine h.mut at_ (hat.mpr (by simp [lk])) (fun b hb _ => upd_ne hb) (by simp [l]) (fun k => if k = i then none else some k) (fun k d hd => ?_) (fun a b _ _ hab => ?_) uni
    · by_cases hk : k = i
      · subst hk
        rw [List.getElem?_set_self hjd] at hd; cases hd
        exact .inr ⟨by simp, rfl, by rw [List.getElem?_set_self (by omega)]⟩
      · rw [List.getElem?_set_ne (Ne.symm hk)] at hd
        exact .inl ⟨k, by simp [hk], hd, by rw [List.getElem?_set_ne (Ne.symm hk)]⟩
    · by_cases h1 : a = i <;> by_cases h2 : b = i <;> simp [h1, h2] at hab <;> omega
  | none =>
    have hks : putNs fs j = fs ++ [j] := by unfold putNs; rw [e1]
    have hds : putVs fs ds j e = ds ++ [e] := by unfold putVs; rw [e1]
    rw [hks, hds]
    refine h.mut at_ (hat.mpr (by simp [lk])) (fun b hb _ => upd_ne hb) (by simp [l]) (fun i => if i < ds.length then some i else none) (fun i d hd => ?_) (fun a b ha hb hab => ?_) uni
    · by_cases hi : i < ds.length
      · rw [List.getElem?_append_left hi] at hd
        exact .inl ⟨i, by simp [hi], hd, by rw [List.getElem?_append_left (by omega)]⟩
      · rw [List.getElem?_append_right (by omega)] at hd
        have h0 : i - ds.length = 0 := by
          have := (List.getElem?_eq_some_iff.mp hd).1
          simp at this; omega
        rw [h0] at hd; cases hd
        refine .inr ⟨by simp [hi], rfl, ?_⟩
        rw [List.getElem?_append_right (by omega), l, h0]; rfl
    · simp at ha hb
      by_cases h1 : a < ds.length <;> by_cases h2 : b < ds.length <;> simp [h1, h2] at hab <;> omega
/-- o.f = e, o a slot's own instance -/
def dSetF (c j i : Nat) (mv : DE) : DC := fun s => rb (mv s) fun e s1 => match s1[i]? with
  | some (some (.bx true (.ins c' fs) ds)) => if c' = c ∧ ds.length < 1000 then .nx (s1.set i (some (mI c (putNs fs j) (putVs fs ds j e)))) else .no
  | _ => .no
theorem sim_setF {c j i : Nat} (hc : Cls K (N.cn c)) (hn : NoAttr K (N.cn c) (N.fn j)) (hv : SimE K N W tv mv) : SimC K N W pr (sFld K (tVar i) tv (N.fn j)) (dSetF c j i mv) := fun G R H σ s Dn rel hk =>
  hv.bindC rel hk fun e s1 R1 H1 y e1 r1 hk1 => by
    split at hk1
    · rename_i c' fs ds e0
      by_cases hcc : c' = c ∧ ds.length < 1000
      · rw [if_pos hcc] at hk1
        obtain ⟨rfl, hz⟩ := hcc
        obtain ⟨v, h1, h2, back⟩ := r1.via e0
        obtain ⟨f, h5, _⟩ := h2.top
        have : ∃ p, v = .ref p := by
          cases h5 with
          | p h _ => cases h
          | bx => exact ⟨_, rfl⟩
        obtain ⟨p, rfl⟩ := this
        obtain ⟨dx, gs, h6, h7, h8⟩ := h2.putI (j := j)
        exact ⟨_, h1, p, _, dx, gs, rfl, h6, hc, hn, by rw [h7]; exact hz, hk1 R1 _ σ (Ex.refl R1) (fun _ _ => rfl) (back R1 _ _ h8)⟩
      · rw [if_neg hcc] at hk1; exact hk1.elim
    · exact hk1.elim

/-! ### methods -/
def dMeth (c mj n : Nat) (F : List D → Rs D) (ls : Lends) (m : DE) (ms : DA) : DE := fun s => (m s).bind fun d s1 => match d with
  | .bx o (.ins c' fs) es => if c' = c ∧ fldN fs mj = none ∧ fs.length = es.length then ((ms s1).bind fun ds s2 => if ds.length + 1 = n then (match F (d :: ds) with
    | .ok z ps => .ok z (gb (none :: ls) ps s2)
    | _ => .no) else .no) else .no
  | _ => .no
theorem sim_meth {c mj n : Nat} {F : List D → Rs D} (h : SimE K N W te m) (h' : SimA K N W tl ls ms) : SimE K N W (tMeth (N.cn c) (N.fn mj) (SpD K N n F) [] E0 te tl) (dMeth c mj n F ls m ms) := fun G R H σ s Q rel hk =>
  h.bind rel hk fun d s1 R1 H1 x e1 r1 hk1 => by
    split at hk1
    · rename_i o c' fs es
      by_cases hcc : c' = c ∧ fldN fs mj = none ∧ fs.length = es.length
      · rw [if_pos hcc] at hk1
        obtain ⟨rfl, hn, hl⟩ := hcc
        obtain ⟨a, xs, rfl, hat, _, _⟩ := r1.vw.bx
        obtain ⟨h7, dx, h8⟩ := hat
        refine ⟨a, dx, _, rfl, h8, by rw [lookup_zip h7]; show (fldN fs mj).bind _ = _; rw [hn]; rfl, ?_⟩
        obtain ⟨G', eg, r1', back⟩ := frame1 r1
        refine h' G' R1 H1 σ s1 _ r1' ?_
        cases em : ms s1 with
        | ok ds s2 =>
          rw [em] at hk1
          intro R2 H2 vs e2 l r2 hl2
          have hk1 : Kg K N G R1 σ W _ (if ds.length + 1 = n then (match F (.bx o (.ins c' fs) es :: ds) with
            | .ok z ps => .ok z (gb (none :: ls) ps s2)
            | _ => .no) else .no) := hk1
          by_cases hz : ds.length + 1 = n
          · rw [if_pos hz] at hk1
            rw [List.append_nil]
            refine Rel.callD (ls := none :: ls) (vs := .ref a :: vs) (ds := .bx o (.ins c' fs) es :: ds) (by simp [l]) (back R2 H2 _ _ e2 r2) (fun j i hj => ?_) (by simpa using hz) ?_
            · cases j with
              | zero => cases hj
              | succ j => exact hl2 j i hj
            · cases eF : F (.bx o (.ins c' fs) es :: ds) with
              | ok z ps =>
                rw [eF] at hk1
                exact fun R3 H3 w e3 r3 => hk1 R3 H3 w (e1.trans (e2.trans e3)) r3
              | ex x ps => rw [eF] at hk1; exact hk1.elim
              | no => rw [eF] at hk1; exact hk1.elim
          · rw [if_neg hz] at hk1; exact hk1.elim
        | ex x s2 =>
          rw [em] at hk1
          exact fun R2 H2 c dd e2 r2 hx => hk1 R2 H2 c dd e2 (back R2 H2 _ _ e2 r2).pop hx
        | no => rw [em] at hk1; exact hk1.elim
      · rw [if_neg hcc] at hk1; exact hk1.elim
    · exact hk1.elim
end

/-! ### the rules by syntax -/
section
variable {K : PySem.W.Frag} {mg : Str → Option Value} {P : Program} {w : World} {base : Heap} {k : Nat} {ι : Type} {Xs : ι → Cx} {W : WX} {N : Nm}
variable {a b c e l o : Expr} {es rest : List Expr} {pos p pos' tpos apos : Pos} {ma mb mc mv m : DE} {t u : DT} {ms : DA} {ls : Lends} {x g : Str} {pr : Nat → Bool} {i j cn : Nat}
/-- a class: its number, its facts -/
structure IsC (K : PySem.W.Frag) (N : Nm) (cn : Nat) (C : Addr) : Prop where
  at_ : N.cn cn = C
  ok : Cls K C
theorem e_fld {C : Addr} (cn j : Nat) (Φ : Fam K mg P w base k Xs W) (he : qE K N W Xs e m) (hC : IsC K N cn C) (hj : N.fn j = g) (hn : NoAttr K C g) (hb : ∀ i, attributeBase e g (Xs i).env (eval e (Xs i).env) = eval e (Xs i).env := by intro _; rfl) : qE K N W Xs (.Attribute e g pos) (dUn (fldV cn j) m) := by
  obtain ⟨te, h1, h2⟩ := he
  obtain ⟨rfl, hc⟩ := hC
  subst hj
  exact ⟨_, fun i => by have h := pe_fld (pos := pos) (h1 i) (hb i); rw [Φ.K i] at h; exact h, sim_un (us_fld hc hn) h2⟩
theorem e_fldS {C : Addr} (cn j : Nat) (Φ : Fam K mg P w base k Xs W) (he : qV Xs e i) (hC : IsC K N cn C) (hj : N.fn j = g) (hn : NoAttr K C g) (hb : ∀ i, attributeBase e g (Xs i).env (eval e (Xs i).env) = eval e (Xs i).env := by intro _; rfl) : qE K N W Xs (.Attribute e g pos) (dFldS cn j i) := by
  obtain ⟨rfl, hc⟩ := hC
  subst hj
  exact ⟨_, fun i => by have h := pe_fld (pos := pos) (he i) (hb i); rw [Φ.K i] at h; exact h, sim_fldS hc hn⟩
theorem s_setF {C : Addr} (cn j : Nat) (Φ : Fam K mg P w base k Xs W) (ho : qV Xs o i) (he : qE K N W Xs e m) (hC : IsC K N cn C) (hj : N.fn j = g) (hn : NoAttr K C g) (hs : ∀ i, swapsWith e (some (.Attribute o g pos')) pos.line (Xs i).env = pure false := by intro _; rfl) :
    qS K N W pr Xs (.Assign [.Attribute o g pos'] e pos) (dSetF cn j i m) := by
  obtain ⟨te, h1, h2⟩ := he
  obtain ⟨rfl, hc⟩ := hC
  subst hj
  exact ⟨_, fun i => by have h := ps_fld (ho i) (h1 i) (hs i); rw [Φ.K i] at h; exact h, sim_setF hc hn h2⟩
theorem e_make {kf n : Nat} {C f : Addr} {fd : FuncData} {ps : List Str} {F : List D → Rs D} (cn : Nat) (Φ : Fam K mg P w base k Xs W) (ok : FnOk P w K mg base (L2.CX P w) kf f fd ps (SpD K N n F)) (hk : kf + 1 ≤ k) (hC : IsC K N cn C) (M : Mk K C f) (hm : mg x = some (.ref C)) (hb : Binds K fd ps [])
    (ha : qA K N W Xs (e :: es) ls ms) (hg : ∀ i, Gl (Xs i) x := by intro _; rfl) (hdb : (x == ("__debug__" : Str)) = false := by decide) (he : ∀ i, starEach (e :: es) (Xs i).env = (false, eval e (Xs i).env) :: starEach es (Xs i).env := by intro _; rfl)
    (hpl : ∀ i, (backTo pos (starEach es (Xs i).env)).any (·.1) = false := by intro _; rfl) : qE K N W Xs (.Call (.Name x p) (e :: es) [] pos) (dMake cn n F ls ms) := by
  obtain ⟨_, h1, h2⟩ := ha
  obtain ⟨rfl, hc⟩ := hC
  exact ⟨_, fun i => by
    have ok' : FnOk (Xs i).prog (Xs i).w (Xs i).K (Xs i).mg (Xs i).base (L2.CX (Xs i).prog (Xs i).w) kf f fd ps (SpD K N n F) := by
      rw [Φ.P i, Φ.w i, Φ.K i, Φ.mg i, Φ.base i]; exact ok
    exact pe_make (by rw [Φ.K i]; exact M) ok' ((Φ.room i).mono hk) (hg i) (by rw [Φ.mg i]; exact hm) (by rw [Φ.K i]; exact hb) .nil passes0 (h1 i) hdb (he i) (hpl i), sim_make h2⟩
theorem e_meth {kf n : Nat} {C f : Addr} {fd : FuncData} {ps : List Str} {F : List D → Rs D} {pl : ι → Sem Bool} (cn mj : Nat) (Φ : Fam K mg P w base k Xs W) (ok : FnOk P w K mg base (L2.CX P w) kf f fd ps (SpD K N n F)) (hk : kf ≤ k) (hC : IsC K N cn C) (M : Meth K C g f) (hj : N.fn mj = g) (hb : Binds K fd ps [])
    (ho : qE K N W Xs o m) (ha : qA K N W Xs (e :: es) ls ms) (he : ∀ i, starEach (e :: es) (Xs i).env = (false, eval e (Xs i).env) :: starEach es (Xs i).env := by intro _; rfl)
    (hpl : ∀ i, (backTo pos (starEach es (Xs i).env)).any (·.1) = false := by intro _; rfl)
    (ht : ∀ i, eval (.Call (.Attribute o g apos) (e :: es) [] pos) (Xs i).env = (do
      let ov ← eval o (Xs i).env
      standAt apos.atName
      let (f, first) ← holding [ov] (getMethod ov g (pl i))
      callWith pos f first (backTo pos (starEach (e :: es) (Xs i).env)) (backToKw pos (keywordEach [] (Xs i).env))) := by intro _; rfl) : qE K N W Xs (.Call (.Attribute o g apos) (e :: es) [] pos) (dMeth cn mj n F ls m ms) := by
  obtain ⟨_, h1, h2⟩ := ha
  obtain ⟨_, h3, h4⟩ := ho
  obtain ⟨rfl, hc⟩ := hC
  subst hj
  exact ⟨_, fun i => by
    have ok' : FnOk (Xs i).prog (Xs i).w (Xs i).K (Xs i).mg (Xs i).base (L2.CX (Xs i).prog (Xs i).w) kf f fd ps (SpD K N n F) := by
      rw [Φ.P i, Φ.w i, Φ.K i, Φ.mg i, Φ.base i]; exact ok
    exact pe_meth (h3 i) (by rw [Φ.K i]; exact hc) (by rw [Φ.K i]; exact M) ok' ((Φ.room i).mono hk) (by rw [Φ.K i]; exact hb) .nil passes0 (h1 i) (he i) (hpl i) (ht i), sim_meth h4 h2⟩
end
end DL

set_option maxHeartbeats 4000000
/-! DL15: blocks of comprehensions; dicts walked; enumerate, reversed; targets. -/
namespace DL
open PySem L2
section
variable {K : PySem.W.Frag} {N : Nm} {R R' R1 R2 H H' H1 H2 G G' : Hp} {v x y : V} {d e : D} {f : Addr → Prop} {L L' A B σ : List (Option V)} {s s1 : List (Option D)} {W : WX}
variable {te ta tb tc tv tk : TE} {m ma mb mc mv mk : DE} {tt tu : TT} {n t u : DT} {tl : TA} {ls : Lends} {ms : DA} {pr : Nat → Bool} {Dn : Ends} {ts : TS} {b : DC} {wi : TI} {g : TG} {tg : DG}
/-- the turns of a loop -/
theorem loop_for {J : It} {ds : List D} (hg : SimG K N pr g tg) (hb : SimC K N W pr ts b) (r1 : Rel K N G R1 H1 σ s1) (hy : Yl K N J R1 ds) (hk : KC K N G R1 σ W pr Dn (dForL tg b ds s1)) :
    ∃ Wf : Nat → Nat → L2.St → Hp → Prop, (∃ m, Wf 0 m σ H1) ∧ ∀ i m σ H, Wf i m σ H →
      (J.stop i H ∧ Dn.nx σ H) ∨ (J.go i H ∧ ∃ Nx : L2.St → Hp → Prop, (∀ σ' H', Nx σ' H' → ∃ m', m' < m ∧ Wf (i + 1) m' σ' H') ∧ ∀ x H', J.yld i H x H' → g x σ H' fun σ2 H2 => ts { Dn with nx := Nx, ct := Nx, bk := Dn.nx } σ2 H2) := by
  refine ⟨fun i mm σi Hi => mm = ds.length - i ∧ i ≤ ds.length ∧ ∃ Rc si, Ex R1 Rc ∧ (∀ j, pr j = true → σi[j]? = σ[j]?) ∧ Rel K N G Rc Hi σi si ∧ KC K N G Rc σi W pr Dn (dForL tg b (ds.drop i) si),
    ⟨ds.length, by simp, by simp, R1, s1, Ex.refl R1, fun _ _ => rfl, r1, hk⟩, ?_⟩
  rintro i mm σi Hi ⟨rfl, hle, Rc, si, ec, kp, rc, hkc⟩
  obtain ⟨y1, y2⟩ := hy i Rc G Hi σi si ec rc
  by_cases hlt : i < ds.length
  · right
    have ed : ds[i]? = some ds[i] := by simp [hlt]
    obtain ⟨hgo, hyl⟩ := y1 _ ed
    refine ⟨hgo, fun σ' H' => i + 1 ≤ ds.length ∧ ∃ Rc si, Ex R1 Rc ∧ (∀ j, pr j = true → σ'[j]? = σ[j]?) ∧ Rel K N G Rc H' σ' si ∧ KC K N G Rc σ' W pr Dn (dForL tg b (ds.drop (i + 1)) si),
      fun σ' H' hN => ⟨ds.length - (i + 1), by omega, rfl, hN⟩, fun x H2 hyx => ?_⟩
    obtain ⟨R2, e2, r2⟩ := hyl x H2 hyx
    rw [List.drop_eq_getElem_cons hlt] at hkc
    unfold dForL at hkc
    cases et : tg ds[i] si with
    | none => rw [et] at hkc; exact hkc.elim
    | some s2 =>
      rw [et] at hkc
      simp only at hkc
      refine hg G R2 H2 σi si x _ s2 r2 et _ fun R3 σ3 e3 k3 r3 => ?_
      refine hb G R3 H2 σ3 s2 _ r3 ?_
      have e03 : Ex Rc R3 := e2.trans e3
      cases eb : b s2 with
      | nx s4 =>
        rw [eb] at hkc
        exact fun R' H' σ' e4 k4 r4 => ⟨by omega, R', s4, ec.trans (e03.trans e4), fun j hj => ((k4 j hj).trans (k3 j hj)).trans (kp j hj), r4, (KC.mono hkc (e03.trans e4)).at fun j hj => (k4 j hj).trans (k3 j hj)⟩
      | ct s4 =>
        rw [eb] at hkc
        exact fun R' H' σ' e4 k4 r4 => ⟨by omega, R', s4, ec.trans (e03.trans e4), fun j hj => ((k4 j hj).trans (k3 j hj)).trans (kp j hj), r4, (KC.mono hkc (e03.trans e4)).at fun j hj => (k4 j hj).trans (k3 j hj)⟩
      | bk s4 =>
        rw [eb] at hkc
        exact fun R' H' σ' e4 k4 r4 => hkc R' H' σ' (e03.trans e4) (fun j hj => (k4 j hj).trans (k3 j hj)) r4
      | rt d s4 =>
        rw [eb] at hkc
        exact fun R' H' σ' v e4 k4 r4 => hkc R' H' σ' v (e03.trans e4) (fun j hj => (k4 j hj).trans (k3 j hj)) r4
      | ex x s4 =>
        rw [eb] at hkc
        exact fun R' H' σ' c dd e4 k4 r4 hx => hkc R' H' σ' c dd (e03.trans e4) (fun j hj => (k4 j hj).trans (k3 j hj)) r4 hx
      | no => rw [eb] at hkc; exact hkc.elim
  · left
    have hii : i = ds.length := by omega
    refine ⟨y2 (by omega), ?_⟩
    rw [hii, List.drop_length] at hkc
    exact hkc Rc Hi σi (Ex.refl Rc) (fun _ _ => rfl) rc

/-! ### a dict, walked while it is locked -/
theorem Rel.swap {a : Addr} {o o' : HO} (h : Rel K N G R H L s) (ha : R a = some o) (le : LeR R (upd R a o')) : Rel K N G (upd R a o') (upd H a o') L s := by
  obtain ⟨F, ow⟩ := h.own
  have nf : ∀ i b, Liv s i → F i b → b ≠ a := fun i b hi hb z => by
    have := (ow.fr i b hi hb).1
    rw [z, ha] at this; cases this
  have ng : ∀ b u, G b = some u → b ≠ a := fun b u hb z => by
    have := h.rg b u hb
    rw [z, ha] at this; cases this
  refine ⟨h.len, fun b u hb => ?_, fun b u hb => ?_, fun b u hb => ?_, F, fun i d hd => ?_, ow.dj, fun i b hi hb => ?_⟩
  · by_cases hba : b = a
    · subst hba; rw [upd_same] at hb ⊢; exact hb
    · rw [upd_ne hba] at hb ⊢; exact h.r b u hb
  · rw [upd_ne (ng b u hb)]; exact h.g b u hb
  · rw [upd_ne (ng b u hb)]; exact h.rg b u hb
  · obtain ⟨v, h1, h2⟩ := ow.at_ i d hd
    exact ⟨v, h1, h2.mono le fun b hb => by rw [upd_ne (nf i b ⟨d, hd⟩ hb)]⟩
  · obtain ⟨h1, h2⟩ := ow.fr i b hi hb
    exact ⟨by rw [upd_ne (nf i b hi hb)]; exact h1, h2⟩
theorem le_lock {a : Addr} {od : Obj} {kvs : List (Key × V)} (ha : R a = some (.dK kvs)) : LeR R (upd R a (.frz od (.dK kvs))) := ⟨fun b u nf hb => by
    by_cases hba : b = a
    · subst hba
      rcases hb with hb | ⟨o, hb⟩
      · rw [ha] at hb; cases hb
        exact .inr ⟨od, upd_same⟩
      · rw [ha] at hb; cases hb
    · rcases hb with hb | ⟨o, hb⟩
      · exact .inl (by rw [upd_ne hba]; exact hb)
      · exact .inr ⟨o, by rw [upd_ne hba]; exact hb⟩, fun b c dx fs hb => by
    rw [upd_ne fun z => by rw [z, ha] at hb; cases hb]; exact hb, fun b xs hb => by
    rw [upd_ne fun z => by rw [z, ha] at hb; cases hb]; exact hb⟩
theorem le_unlock {a : Addr} {od : Obj} {kvs : List (Key × V)} (ha : R a = some (.frz od (.dK kvs))) : LeR R (upd R a (.dK kvs)) := ⟨fun b u nf hb => by
    by_cases hba : b = a
    · subst hba
      rcases hb with hb | ⟨o, hb⟩
      · rw [ha] at hb; cases hb
        exact absurd rfl (nf od (.dK kvs))
      · rw [ha] at hb; cases hb
        exact .inl upd_same
    · rcases hb with hb | ⟨o, hb⟩
      · exact .inl (by rw [upd_ne hba]; exact hb)
      · exact .inr ⟨o, by rw [upd_ne hba]; exact hb⟩, fun b c dx fs hb => by
    rw [upd_ne fun z => by rw [z, ha] at hb; cases hb]; exact hb, fun b xs hb => by
    rw [upd_ne fun z => by rw [z, ha] at hb; cases hb]; exact hb⟩
def keyD : Key → D
  | .inl i => .int i
  | .inr x => .str x
theorem en_key {k : Key} : En K N R (kV k) (keyD k) := by
  cases k with
  | inl i => exact .int i
  | inr x => exact .str x
theorem yl_keys {a : Addr} {od : Obj} {ks : List Key} {xs : List V} (hq : R a = some (.frz od (.dK (ks.zip xs)))) (l : ks.length = xs.length) : Yl K N (Itk a od (ks.zip xs)) R (ks.map keyD) :=
  yl_of fun i H' ex => ⟨fun d hd => by
    rw [List.getElem?_map] at hd
    obtain ⟨k, hk, rfl⟩ := Option.map_eq_some_iff.mp hd
    have hi := (List.getElem?_eq_some_iff.mp hk).1
    refine ⟨⟨ex a _ hq, by rw [List.length_zip]; omega⟩, fun x H'' hy => ⟨hy.1, ?_⟩⟩
    obtain ⟨_, k', v', h3, rfl⟩ := hy
    have : ks[i]? = some k' := (List.getElem?_zip_eq_some.mp h3).1
    rw [hk] at this; cases this
    exact en_key, fun hi => ⟨ex a _ hq, by rw [List.length_zip]; simp at hi; omega⟩⟩
def noex : Ro → Ro
  | .ex _ _ => .no
  | r => r
/-- for k in the dict of a slot -/
def dForK (j : Nat) (t : DG) (body : DC) : DC := fun s => match s[j]? with
  | some (some (.bx o (.dct ks) ds)) => noex (dForL t body (ks.map keyD) (s.set j (some (rd (.bx o (.dct ks) ds)))))
  | _ => .no
def tForK (j : Nat) (g : TG) (ts : TS) : TS := fun D σ H => tLock (tFor (iKeys (tVar j)) g ts) D σ H ∨ tFor (iKeys (tVar j)) g ts D σ H
theorem sim_forK {j : Nat} (hg : SimG K N pr g tg) (hb : SimC K N W pr ts b) : SimC K N W pr (tForK j g ts) (dForK j tg b) := fun G R H σ s Dn rel hk => by
  unfold dForK at hk
  split at hk
  · rename_i o ks ds e0
    obtain ⟨R1, v, e1, hv, en, r1⟩ := rel.read e0
    have hk := KC.mono hk e1
    generalize hs1 : s.set j (some (rd (.bx o (.dct ks) ds))) = s1 at hk r1
    have en2 : En K N R1 v (.bx false (.dct ks) (match o with | true => fzs ds | false => ds)) := by cases o <;> exact en
    cases en2 with
    | @bx a _ xs _ hat l c =>
      obtain ⟨hl, hrd, nd⟩ := hat
      rcases hrd with hrd | ⟨od, hrd⟩
      · refine .inl ⟨a, .dK (ks.zip xs), r1.r a _ hrd, trivial, fun od => ?_⟩
        have hR : upd R1 a (.frz od (.dK (ks.zip xs))) a = some (.frz od (.dK (ks.zip xs))) := upd_same
        have r2 := r1.swap hrd (le_lock (od := od) hrd)
        refine ⟨.ref a, hv, a, od, rfl, .inl ⟨ks.zip xs, upd_same, loop_for hg hb r2 (yl_keys hR hl) ?_⟩⟩
        have un : ∀ {R' H' L s'}, Ex (upd R1 a (.frz od (.dK (ks.zip xs)))) R' → Rel K N G R' H' L s' → H' a = some (.frz od (.dK (ks.zip xs))) ∧ Ex R1 (upd R' a (.dK (ks.zip xs))) ∧ Rel K N G (upd R' a (.dK (ks.zip xs))) (upd H' a (.dK (ks.zip xs))) L s' := fun {R' H' L s'} ex r' => by
          have ha := ex a _ hR
          refine ⟨r'.r a _ ha, fun b u hb => ?_, r'.swap ha (le_unlock ha)⟩
          by_cases hba : b = a
          · subst hba; rw [hrd] at hb; cases hb; exact upd_same
          · rw [upd_ne hba]; exact ex b u (by rw [upd_ne hba]; exact hb)
        cases er : dForL tg b (ks.map keyD) s1 with
        | nx s' => rw [er] at hk; exact fun R' H' σ' ex p r' => ⟨(un ex r').1, hk _ _ σ' (un ex r').2.1 p (un ex r').2.2⟩
        | bk s' => rw [er] at hk; exact fun R' H' σ' ex p r' => ⟨(un ex r').1, hk _ _ σ' (un ex r').2.1 p (un ex r').2.2⟩
        | ct s' => rw [er] at hk; exact fun R' H' σ' ex p r' => ⟨(un ex r').1, hk _ _ σ' (un ex r').2.1 p (un ex r').2.2⟩
        | rt d s' => rw [er] at hk; exact fun R' H' σ' v ex p r' => ⟨(un ex r').1, hk _ _ σ' v (un ex r').2.1 p (un ex r').2.2⟩
        | ex x s' => rw [er] at hk; exact hk.elim
        | no => rw [er] at hk; exact hk.elim
      · refine .inr ⟨.ref a, hv, a, od, rfl, .inl ⟨ks.zip xs, r1.r a _ hrd, loop_for hg hb r1 (yl_keys hrd hl) ?_⟩⟩
        cases er : dForL tg b (ks.map keyD) s1 with
        | ex x s' => rw [er] at hk; exact hk.elim
        | nx s' => rw [er] at hk; exact hk
        | bk s' => rw [er] at hk; exact hk
        | ct s' => rw [er] at hk; exact hk
        | rt d s' => rw [er] at hk; exact hk
        | no => rw [er] at hk; exact hk
  · exact hk.elim

/-! ### reversed, enumerate -/
def dRev (m : DE) : DA := fun s => (m s).bind fun d s1 => match rd d with
  | .bx _ .tup ds => .ok ds.reverse s1
  | .bx _ .lst ds => .ok ds.reverse s1
  | .bx _ .scr ds => .ok ds.reverse s1
  | _ => .no
theorem yl_rev {J : It} {ds : List D} {xs : List V} (l : xs.length = ds.length) (c : ∀ (j : Nat) x d, xs[j]? = some x → ds[j]? = some d → En K N R x d)
    (hJ : ∀ i H', Ex R H' → (i < xs.length → J.go i H' ∧ ∀ x H'', J.yld i H' x H'' → H'' = H' ∧ xs[xs.length - 1 - i]? = some x) ∧ (xs.length ≤ i → J.stop i H')) : Yl K N J R ds.reverse :=
  yl_of fun i H' ex => ⟨fun d hd => by
    have hi : i < ds.length := by simpa using (List.getElem?_eq_some_iff.mp hd).1
    obtain ⟨h1, h2⟩ := (hJ i H' ex).1 (by omega)
    refine ⟨h1, fun x H'' hy => ?_⟩
    obtain ⟨h3, h4⟩ := h2 x H'' hy
    rw [List.getElem?_reverse hi] at hd
    rw [l] at h4
    exact ⟨h3, c _ x d h4 hd⟩, fun hi => (hJ i H' ex).2 (by simp at hi; omega)⟩
theorem sim_rev (h : SimE K N W te m) : SimI K N W (RT.iRevA K te) (dRev m) := fun G R H σ s Q rel hk =>
  h.bind rel hk fun d s1 R1 H1 v e1 r1 hk1 => by
    obtain ⟨R2, v2, e2, hv, en, r2⟩ := Rel.read (i := 0) (d := d) r1 rfl
    cases hv
    have r2 : Rel K N G R2 H1 (some v :: σ) (some (rd d) :: s1) := r2
    generalize hdd : rd d = dd at hk1 en r2
    have dat := r2.pop
    have tups : ∀ {a : Addr} {xs : List V} {ds : List D}, At K N R2 a .tup xs → v = .ref a → xs.length = ds.length → (∀ (j : Nat) x d, xs[j]? = some x → ds[j]? = some d → En K N R2 x d) → Yl K N (RT.ItvT K a xs.length) R2 ds.reverse := fun {a xs ds} hat _ l c =>
      yl_rev l c fun i H' ex => ⟨fun hi => ⟨⟨hi, xs, xs[xs.length - 1 - i], At.mono (k := .tup) (N := N) ex.le hat, by simp⟩, fun x H'' hy => ⟨hy.1, hy.2 xs (At.mono (k := .tup) (N := N) ex.le hat)⟩⟩, fun hi => hi⟩
    have lists : ∀ {a : Addr} {xs : List V} {ds : List D}, SqL K R2 a xs → v = .ref a → xs.length = ds.length → (∀ (j : Nat) x d, xs[j]? = some x → ds[j]? = some d → En K N R2 x d) → Yl K N (Itv K a xs.length) R2 ds.reverse := fun {a xs ds} hat _ l c =>
      yl_rev l c fun i H' ex => ⟨fun hi => ⟨⟨hi, xs, xs[xs.length - 1 - i], At.mono (k := .scr) (N := N) ex.le hat, by simp⟩, fun x H'' hy => ⟨hy.1, hy.2 xs (At.mono (k := .scr) (N := N) ex.le hat)⟩⟩, fun hi => hi⟩
    split at hk1
    · cases en with
      | @bx a _ xs _ hat l c => exact ⟨a, xs, rfl, .inr ⟨At.mono (k := .tup) (N := N) r2.r.le hat, hk1 R2 H1 _ (e1.trans e2) dat (tups hat rfl l c)⟩⟩
    · cases en with
      | @bx a _ xs _ hat l c => exact ⟨a, xs, rfl, .inl ⟨.inl (.inl (r2.r a _ hat)), hk1 R2 H1 _ (e1.trans e2) dat (lists (.inl (.inl hat)) rfl l c)⟩⟩
    · cases en with
      | @bx a _ xs _ hat l c => exact ⟨a, xs, rfl, .inl ⟨At.mono (k := .scr) (N := N) r2.r.le hat, hk1 R2 H1 _ (e1.trans e2) dat (lists hat rfl l c)⟩⟩
    · exact hk1.elim
end
end DL

set_option maxHeartbeats 4000000
/-! DL16: enumerate, tuple targets, the rules of comprehensions and of loops. -/
namespace DL
open PySem L2
section
variable {K : PySem.W.Frag} {N : Nm} {R R' R1 R2 H H' H1 H2 G G' : Hp} {v x y : V} {d e : D} {f : Addr → Prop} {L L' A B σ : List (Option V)} {s s1 : List (Option D)} {W : WX}
variable {te ta tb tc tv tk : TE} {m ma mb mc mv mk : DE} {tt tu : TT} {n t u : DT} {tl : TA} {ls : Lends} {ms : DA} {pr : Nat → Bool} {Dn : Ends} {ts : TS} {b : DC} {wi : TI} {g : TG} {tg : DG}
def enD : Nat → List D → List D
  | _, [] => []
  | i, d :: r => dT [.int i, d] :: enD (i + 1) r
theorem enD_get : ∀ {ds : List D} {i j : Nat}, (enD i ds)[j]? = (ds[j]?).map fun d => dT [.int (i + j : Nat), d]
  | [], i, j => by simp [enD]
  | d :: r, i, 0 => by simp [enD]
  | d :: r, i, j + 1 => by
    have := enD_get (ds := r) (i := i + 1) (j := j)
    simp only [enD, List.getElem?_cons_succ, this]
    rw [show i + 1 + j = i + (j + 1) by omega]
theorem enD_len : ∀ {ds : List D} {i : Nat}, (enD i ds).length = ds.length
  | [], i => rfl
  | d :: r, i => by simp [enD, enD_len (ds := r)]
def dEnum (ms : DA) : DA := fun s => (ms s).bind fun ds s1 => match ds with
  | [d] => (match rd d with
    | .bx _ .tup ds => .ok (enD 0 ds) s1
    | .bx _ .lst ds => .ok (enD 0 ds) s1
    | .bx _ .scr ds => .ok (enD 0 ds) s1
    | _ => .no)
  | _ => .no
theorem yl_enum {J : It} {ds : List D} {xs : List V} (l : xs.length = ds.length) (c : ∀ (j : Nat) x d, xs[j]? = some x → ds[j]? = some d → En K N R x d)
    (hJ : ∀ i H', Ex R H' → (i < xs.length → J.go i H' ∧ ∀ v H'', J.yld i H' v H'' → ∃ T x, v = .ref T ∧ H' T = none ∧ H'' = upd H' T (.tup [.int (i : Nat), x]) ∧ xs[i]? = some x) ∧ (xs.length ≤ i → J.stop i H')) : Yl K N J R (enD 0 ds) := fun i Rc G H' L S ec rel => by
  obtain ⟨h1, h2⟩ := hJ i H' (ec.trans rel.r)
  refine ⟨fun d hd => ?_, fun hi => h2 (by rw [enD_len] at hi; omega)⟩
  rw [enD_get] at hd
  obtain ⟨d0, hd0, rfl⟩ := Option.map_eq_some_iff.mp hd
  have hi : i < ds.length := (List.getElem?_eq_some_iff.mp hd0).1
  obtain ⟨h3, h4⟩ := h1 (by omega)
  refine ⟨h3, fun v H'' hy => ?_⟩
  obtain ⟨T, x, rfl, hT, rfl, hx⟩ := h4 v H'' hy
  have rT : Rc T = none := rel.r.none hT
  refine ⟨upd Rc T (.tup [.int (i : Nat), x]), Ex.new rT, (rel.newP hT).push (.bx (Or.inl (Or.inl upd_same)) rfl fun j z e hz he => ?_)⟩
  match j, hz, he with
  | 0, hz, he => cases hz; cases he; rw [Nat.zero_add]; exact .int _
  | 1, hz, he => cases hz; cases he; exact (c i x d0 hx hd0).mono (ec.trans (Ex.new rT)).le
theorem sim_enum (h : SimA K N W tl ls ms) : SimI K N W (iEnumA K tl) (dEnum ms) := fun G R H σ s Q rel hk =>
  h.bind rel hk fun ds s1 R1 H1 vs e1 l r1 _ hk1 => by
    match ds, vs, l, r1, hk1 with
    | [d], [v], _, r1, hk1 =>
      have r1 : Rel K N G R1 H1 (some v :: σ) (some d :: s1) := r1
      obtain ⟨R2, v2, e2, hv, en, r2⟩ := Rel.read (i := 0) (d := d) r1 rfl
      cases hv
      have r2 : Rel K N G R2 H1 (some v :: σ) (some (rd d) :: s1) := r2
      simp only at hk1
      generalize hdd : rd d = dd at hk1 en r2
      have dat := r2.pop
      split at hk1
      · cases en with
        | @bx a _ xs _ hat l c =>
          refine ⟨a, xs, rfl, .inr ⟨At.mono (k := .tup) (N := N) r2.r.le hat, hk1 R2 H1 _ (e1.trans e2) dat (yl_enum l c fun i H' ex => ⟨fun hi => ⟨⟨xs, xs[i], At.mono (k := .tup) (N := N) ex.le hat, by simp⟩, fun x H'' hy => ?_⟩, fun hi => ⟨xs, At.mono (k := .tup) (N := N) ex.le hat, hi⟩⟩)⟩⟩
          obtain ⟨T, x', h1, h2, h3, h4⟩ := hy
          exact ⟨T, x', h1, h2, h3, h4 xs (At.mono (k := .tup) (N := N) ex.le hat)⟩
      · cases en with
        | @bx a _ xs _ hat l c =>
          refine ⟨a, xs, rfl, .inl ⟨.inl (.inl (r2.r a _ hat)), hk1 R2 H1 _ (e1.trans e2) dat (yl_enum l c fun i H' ex => ⟨fun hi => ⟨⟨xs, xs[i], .inl (.inl (ex a _ hat)), by simp⟩, fun x H'' hy => ?_⟩, fun hi => ⟨xs, .inl (.inl (ex a _ hat)), hi⟩⟩)⟩⟩
          obtain ⟨T, x', h1, h2, h3, h4⟩ := hy
          exact ⟨T, x', h1, h2, h3, h4 xs (.inl (.inl (ex a _ hat)))⟩
      · cases en with
        | @bx a _ xs _ hat l c =>
          refine ⟨a, xs, rfl, .inl ⟨At.mono (k := .scr) (N := N) r2.r.le hat, hk1 R2 H1 _ (e1.trans e2) dat (yl_enum l c fun i H' ex => ⟨fun hi => ⟨⟨xs, xs[i], At.mono (k := .scr) (N := N) ex.le hat, by simp⟩, fun x H'' hy => ?_⟩, fun hi => ⟨xs, At.mono (k := .scr) (N := N) ex.le hat, hi⟩⟩)⟩⟩
          obtain ⟨T, x', h1, h2, h3, h4⟩ := hy
          exact ⟨T, x', h1, h2, h3, h4 xs (At.mono (k := .scr) (N := N) ex.le hat)⟩
      · exact hk1.elim

/-! ### (a, b) = .. -/
abbrev DGs := List D → S → Option S
def SimGs (K : PySem.W.Frag) (N : Nm) (pr : Nat → Bool) (g : TGs) (t : DGs) : Prop := ∀ G R H σ s xs ds s', Rel K N G R H σ s → xs.length = ds.length → (∀ (j : Nat) x d, xs[j]? = some x → ds[j]? = some d → En K N R x d) → t ds s = some s' → ∀ Q : L2.St → Hp → Prop,
  (∀ R' σ', Ex R R' → (∀ i, pr i = true → σ'[i]? = σ[i]?) → Rel K N G R' H σ' s' → Q σ' H) → g xs σ H Q
def dgNil : DGs := fun ds s => match ds with
  | [] => some s
  | _ => none
def dgCons (t : DG) (u : DGs) : DGs := fun ds s => match ds with
  | d :: ds => (t d s).bind fun s1 => u ds s1
  | _ => none
theorem sim_gNil : SimGs K N pr gNil dgNil := fun G R H σ s xs ds s' rel l c e Q hQ => by
  cases ds with
  | nil => cases e; cases xs with
    | nil => exact ⟨rfl, hQ R σ (Ex.refl R) (fun _ _ => rfl) rel⟩
    | cons _ _ => simp at l
  | cons _ _ => cases e
theorem sim_gCons {t : DG} {u : DGs} {gs : TGs} (h : SimG K N pr g t) (h' : SimGs K N pr gs u) : SimGs K N pr (gCons g gs) (dgCons t u) := fun G R H σ s xs ds s' rel l c e Q hQ => by
  cases ds with
  | nil => cases e
  | cons d ds => cases xs with
    | nil => simp at l
    | cons x xs =>
      have e : (t d s).bind (fun s1 => u ds s1) = some s' := e
      cases e1 : t d s with
      | none => rw [e1] at e; cases e
      | some s1 =>
        rw [e1] at e
        refine ⟨x, xs, rfl, h G R H σ s x d s1 (rel.push (c 0 x d rfl rfl)) e1 _ fun R1 σ1 ex kp r1 => ?_⟩
        exact h' G R1 H σ1 s1 xs ds s' r1 (by simpa using l) (fun j x d hx hd => (c (j + 1) x d hx hd).mono ex.le) e _ fun R2 σ2 ex2 kp2 r2 => hQ R2 σ2 (ex.trans ex2) (fun i hi => (kp2 i hi).trans (kp i hi)) r2
def gTp (n : Nat) (u : DGs) : DG := fun d s => match d with
  | .bx false .tup ds => if ds.length = n then u ds s else none
  | _ => none
theorem sim_gTp {n : Nat} {u : DGs} {gs : TGs} (h : SimGs K N pr gs u) : SimG K N pr (gTup K n gs) (gTp n u) := fun G R H σ s x d s' rel e Q hQ => by
  unfold gTp at e
  split at e
  · rename_i ds
    by_cases hn : ds.length = n
    · rw [if_pos hn] at e
      obtain ⟨f, h1, _⟩ := rel.top
      cases h1 with
      | p h1 _ => cases h1 with
        | @bx a _ xs _ hat l c => exact ⟨a, xs, rfl, At.mono (k := .tup) (N := N) rel.r.le hat, by omega, h G R H σ s xs ds s' rel.pop l c e Q hQ⟩
    · rw [if_neg hn] at e; cases e
  · cases e
def GWs (g : TGs) (vs : List Nat) : Prop := ∀ xs (σ : L2.St) H (Q : L2.St → Hp → Prop), (g xs σ H fun σ2 H2 => wipe σ2 vs = wipe σ vs → Q σ2 H2) → g xs σ H fun σ2 H2 => wipe σ2 vs = wipe σ vs ∧ Q σ2 H2
theorem wipe_set2 {σ : L2.St} {j : Nat} {vs : List Nat} {x : Option V} (h : j ∈ vs) : wipe (σ.set j x) vs = wipe σ vs := by
  refine List.ext_getElem? fun i => ?_
  rw [wipe_get, wipe_get]
  by_cases hi : i ∈ vs
  · rw [if_pos hi, if_pos hi]
    by_cases hl : i < σ.length
    · have : i < (σ.set j x).length := by rw [List.length_set]; exact hl
      simp [hl, this]
    · have : ¬ i < (σ.set j x).length := by rw [List.length_set]; exact hl
      rw [List.getElem?_eq_none_iff.mpr (by omega), List.getElem?_eq_none_iff.mpr (by omega)]
  · rw [if_neg hi, if_neg hi, List.getElem?_set_ne (show j ≠ i from fun z => hi (z ▸ h))]
theorem gws_nil {vs : List Nat} : GWs gNil vs := fun xs σ H Q hq => ⟨hq.1, rfl, hq.2 rfl⟩
theorem gws_name {j : Nat} {vs : List Nat} {gs : TGs} (h : j ∈ vs) (hr : GWs gs vs) : GWs (gCons (gName j) gs) vs := fun xs σ H Q ⟨v, r, e, hq⟩ => by
  refine ⟨v, r, e, ?_⟩
  have hq : gs r (σ.set j (some v)) H fun σ2 H2 => wipe σ2 vs = wipe σ vs → Q σ2 H2 := hq
  have := hr r (σ.set j (some v)) H Q (by rw [wipe_set2 h]; exact hq)
  rw [wipe_set2 h] at this
  exact this
theorem wipe_wipe {σ : L2.St} {vs : List Nat} : wipe (wipe σ vs) vs = wipe σ vs := by
  refine List.ext_getElem? fun i => ?_
  rw [wipe_get, wipe_get]
  by_cases hi : i ∈ vs
  · rw [if_pos hi, if_pos hi]
    cases σ[i]? <;> rfl
  · rw [if_neg hi, if_neg hi]
theorem gw_tup {n : Nat} {vs : List Nat} {gs : TGs} (h : GWs gs vs) : GW (gTup K n gs) vs := fun x σ H Q ⟨a, xs, h1, h2, h3, h4⟩ => ⟨a, xs, h1, h2, h3, by
  have := h xs (wipe σ vs) H Q (by rw [wipe_wipe]; exact h4)
  rw [wipe_wipe] at this
  exact this⟩

/-! ### {k: v for ..} -/
theorem Rel.putK {p : Addr} {ks : List Key} {ds : List D} {k : Key} (h : Rel K N G R H (some (.ref p) :: some y :: L) (some (mD ks ds) :: some e :: s)) :
    ∃ kvs, H p = some (.dK kvs) ∧ kvs.length = ds.length ∧ Rel K N G R (upd H p (.dK (L2.putK kvs k y))) (some (.ref p) :: L) (some (mD (putKs ks k) (putDs ks ds k e)) :: s) := by
  obtain ⟨f, h1, _⟩ := h.top
  obtain ⟨dx, xs, at_, l⟩ := h1.own (o := true)
  have uni := uniD at_
  obtain ⟨hdx, lk, hp, nd⟩ := id at_
  subst hdx
  have hput := putK_zip (y := y) (k := k) lk nd
  refine ⟨_, hp, by rw [List.length_zip, lk, Nat.min_self, l], ?_⟩
  rw [hput]
  cases e1 : ks.findIdx? (fun z => decide (z = k)) with
  | some j =>
    obtain ⟨hj, ej⟩ := find_lt e1
    have hks : putKs ks k = ks := by unfold putKs; rw [e1]
    have hds : putDs ks ds k e = ds.set j e := by unfold putDs; rw [e1]
    rw [hks, hds]
    have hjd : j < ds.length := by omega
    refine h.mut at_ ⟨rfl, by simp [lk], upd_same, nd⟩ (fun b hb _ => upd_ne hb) (by simp [l]) (fun i => if i = j then none else some i) (fun i d hd => ?_) (fun a b _ _ hab => ?_) uni
    · by_cases hi : i = j
      · subst hi
        rw [List.getElem?_set_self hjd] at hd; cases hd
        exact .inr ⟨by simp, rfl, by rw [List.getElem?_set_self (by omega)]⟩
      · rw [List.getElem?_set_ne (Ne.symm hi)] at hd
        exact .inl ⟨i, by simp [hi], hd, by rw [List.getElem?_set_ne (Ne.symm hi)]⟩
    · by_cases h1 : a = j <;> by_cases h2 : b = j <;> simp [h1, h2] at hab <;> omega
  | none =>
    have hks : putKs ks k = ks ++ [k] := by unfold putKs; rw [e1]
    have hds : putDs ks ds k e = ds ++ [e] := by unfold putDs; rw [e1]
    have nd' : (ks ++ [k]).Nodup := nd_snoc nd (nodup_find e1)
    rw [hks, hds]
    refine h.mut at_ ⟨rfl, by simp [lk], upd_same, nd'⟩ (fun b hb _ => upd_ne hb) (by simp [l]) (fun i => if i < ds.length then some i else none) (fun i d hd => ?_) (fun a b ha hb hab => ?_) uni
    · by_cases hi : i < ds.length
      · rw [List.getElem?_append_left hi] at hd
        exact .inl ⟨i, by simp [hi], hd, by rw [List.getElem?_append_left (by omega)]⟩
      · rw [List.getElem?_append_right (by omega)] at hd
        have h0 : i - ds.length = 0 := by
          have := (List.getElem?_eq_some_iff.mp hd).1
          simp at this; omega
        rw [h0] at hd; cases hd
        refine .inr ⟨by simp [hi], rfl, ?_⟩
        rw [List.getElem?_append_right (by omega), l, h0]; rfl
    · simp at ha hb
      by_cases h1 : a < ds.length <;> by_cases h2 : b < ds.length <;> simp [h1, h2] at hab <;> omega
def dDcL (vs : List Nat) (t : DG) (test : DT) (mk mv : DE) : List D → List Key → List D → S → Rs (List Key × List D)
  | [], ks, es, s => .ok (ks, es) s
  | d :: ds, ks, es, s => match t d s with
    | none => .no
    | some s1 => match test s1 with
      | .ok true s2 => (match mk s2 with
        | .ok kd s3 => (match keyOf kd with
          | some k => (match mv s3 with
            | .ok e s4 => if es.length < lim then dDcL vs t test mk mv ds (putKs ks k) (putDs ks es k e) (wipeD s4 vs) else .no
            | _ => .no)
          | none => .no)
        | _ => .no)
      | .ok false s2 => dDcL vs t test mk mv ds ks es (wipeD s2 vs)
      | _ => .no
def dDComp (ms : DA) (vs : List Nat) (t : DG) (test : DT) (mk mv : DE) : DE := fun s => (ms s).bind fun ds s1 => (dDcL vs t test mk mv ds [] [] (wipeD s1 vs)).bind fun acc s2 => .ok (mD acc.1 acc.2) (wipeD s2 vs)
theorem sim_dcomp {vs : List Nat} (hi : SimI K N W wi ms) (hg : SimG K N (fun _ => false) g tg) (hw : GW g vs) (ht : SimT K N W0 tt t) (hke : SimE K N W0 tk mk) (he : SimE K N W0 te m) : SimE K N W (tDc wi g tt tk te vs) (dDComp ms vs tg t mk m) := fun G R H σ s Q rel hk => by
  refine hi G R H σ s _ rel ?_
  unfold dDComp at hk
  cases e : ms s with
  | ex x s' => rw [e] at hk; exact hk
  | no => rw [e] at hk; exact hk.elim
  | ok ds s1 =>
    rw [e] at hk
    intro R1 H1 J e1 r1 hy p hp
    have hk : KE K N G R σ W Q ((dDcL vs tg t mk m ds [] [] (wipeD s1 vs)).bind fun acc s2 => .ok (mD acc.1 acc.2) (wipeD s2 vs)) := hk
    have hfirst : Rel K N G R1 (upd H1 p (.dK [])) (some (.ref p) :: L2.wipe σ vs) (some (mD [] []) :: wipeD s1 vs) :=
      Rel.box (xs := []) (ds := []) (k := .dct []) (r1.wipe) rfl hp hp (Ex.new hp) ⟨rfl, rfl, upd_same, List.nodup_nil⟩
    refine ⟨fun i mm Hi => mm = ds.length - i ∧ i ≤ ds.length ∧ ∃ Rc si ks acc, Ex R1 Rc ∧ Rel K N G Rc Hi (some (.ref p) :: L2.wipe σ vs) (some (mD ks acc) :: si) ∧
      KE K N G R σ W Q ((dDcL vs tg t mk m (ds.drop i) ks acc si).bind fun acc s2 => .ok (mD acc.1 acc.2) (wipeD s2 vs)), ⟨ds.length, by simp, by simp, R1, _, [], [], Ex.refl R1, hfirst, hk⟩, ?_⟩
    rintro i mm Hi ⟨rfl, hle, Rc, si, ks, acc, ec, rc, hkc⟩
    obtain ⟨G', eg, rc2, back⟩ := frame1 rc
    obtain ⟨y1, y2⟩ := hy i Rc G' Hi _ _ ec rc2
    by_cases hlt : i < ds.length
    · right
      have ed : ds[i]? = some ds[i] := by simp [hlt]
      obtain ⟨hgo, hyl⟩ := y1 _ ed
      refine ⟨hgo, fun H' => i + 1 ≤ ds.length ∧ ∃ Rc si ks acc, Ex R1 Rc ∧ Rel K N G Rc H' (some (.ref p) :: L2.wipe σ vs) (some (mD ks acc) :: si) ∧ KE K N G R σ W Q ((dDcL vs tg t mk m (ds.drop (i + 1)) ks acc si).bind fun acc s2 => .ok (mD acc.1 acc.2) (wipeD s2 vs)),
        fun H' hN => ⟨ds.length - (i + 1), by omega, rfl, hN⟩, fun x H2 hyx => ?_⟩
      obtain ⟨R2, e2, r2⟩ := hyl x H2 hyx
      rw [List.drop_eq_getElem_cons hlt] at hkc
      unfold dDcL at hkc
      cases et : tg ds[i] si with
      | none => rw [et] at hkc; exact hkc.elim
      | some s2 =>
        rw [et] at hkc
        simp only at hkc
        refine hw x σ H2 _ (hg G' R2 H2 _ si x _ s2 r2 et _ fun R3 σ3 e3 k3 r3 => ?_)
        intro ew
        refine ht G' R3 H2 σ3 s2 _ r3 ?_
        cases eb : t s2 with
        | ex x s4 => rw [eb] at hkc; exact hkc.elim
        | no => rw [eb] at hkc; exact hkc.elim
        | ok bb s4 =>
          rw [eb] at hkc
          intro R5 H5 e5 r5
          cases bb with
          | false =>
            have r6 := back R5 H5 _ _ ((e2.trans e3).trans e5) (r5.wipe (vs := vs))
            rw [ew] at r6
            exact ⟨by omega, R5, _, ks, acc, ec.trans ((e2.trans e3).trans e5), r6, hkc⟩
          | true =>
            simp only at hkc
            show tk σ3 H5 _
            refine hke G' R5 H5 σ3 s4 _ r5 ?_
            cases emk : mk s4 with
            | ex x s5 => rw [emk] at hkc; exact hkc.elim
            | no => rw [emk] at hkc; exact hkc.elim
            | ok kd s5 =>
              rw [emk] at hkc
              simp only at hkc
              intro R6 H6 yk e6 r6
              cases ekk : keyOf kd with
              | none => rw [ekk] at hkc; exact hkc.elim
              | some kk =>
                rw [ekk] at hkc
                simp only at hkc
                have eyk := keyOf_kV ekk r6.vw
                show te σ3 H6 _
                refine he G' R6 H6 σ3 s5 _ r6.pop ?_
                cases em : m s5 with
                | ex x s5 => rw [em] at hkc; exact hkc.elim
                | no => rw [em] at hkc; exact hkc.elim
                | ok e0 s6 =>
                  rw [em] at hkc
                  simp only at hkc
                  intro R7 H7 y e7 r7
                  by_cases hz : acc.length < lim
                  · rw [if_pos hz] at hkc
                    have e07 : Ex Rc R7 := (((e2.trans e3).trans e5).trans e6).trans e7
                    obtain ⟨kvs, h1, h2, h3⟩ := Rel.putK (k := kk) (back R7 H7 _ _ e07 r7)
                    obtain ⟨G2, eg2, r8, back2⟩ := frame1 h3
                    have r9 := back2 R7 _ _ _ (Ex.refl R7) (r8.wipe (vs := vs))
                    rw [ew] at r9
                    exact ⟨kvs, kk, eyk, h1, by rw [h2]; exact hz, by omega, R7, _, _, _, ec.trans e07, r9, hkc⟩
                  · rw [if_neg hz] at hkc; exact hkc.elim
    · left
      have hii : i = ds.length := by omega
      refine ⟨y2 (by omega), ?_⟩
      rw [hii, List.drop_length] at hkc
      have hkc : ∀ R' H' v, Ex R R' → Rel K N G R' H' (some v :: σ) (some (mD ks acc) :: wipeD si vs) → Q v H' := hkc
      refine hkc Rc Hi _ (e1.trans ec) ?_
      exact back Rc Hi _ _ (Ex.refl Rc) rc2.unwipe
end
/-! ### the rules by syntax -/
section
variable {K : PySem.W.Frag} {mg : Str → Option Value} {P : Program} {w : World} {base : Heap} {k : Nat} {ι : Type} {Xs : ι → Cx} {W : WX} {N : Nm}
variable {a b c e l o elt kx vx tg iter : Expr} {es rest ifs : List Expr} {pos p pos' tpos apos spos py : Pos} {ma mb mc mv mk m : DE} {t u : DT} {ms : DA} {ls : Lends} {x g y : Str} {pr : Nat → Bool} {i j : Nat} {tgd : DG} {gsd : DGs} {scope : Scope} {own : List (Str × Nat)} {sts : List Stmt} {sa : DC}
structure BIx (ι : Type) where
  i : ι
  s : Shared
  H : Hp
  C : Addr
  cl : List (Str × Addr)
  fp : List Addr
abbrev blkF (Xs : ι → Cx) (scope : Scope) : BIx ι → Cx := fun q => (Xs q.i).blk q.s q.H scope (compEnvC scope q.cl q.C (Xs q.i).env) q.fp
theorem Fam.blk (Φ : Fam K mg P w base k Xs W) (scope : Scope) : Fam K mg P w base k (blkF Xs scope) W0 :=
  ⟨fun q => Φ.K q.i, fun q => Φ.mg q.i, fun q => Φ.P q.i, fun q => Φ.w q.i, fun q => Φ.base q.i, fun q => Φ.calm q.i, fun q => Φ.room q.i, fun q => Φ.nd q.i, fun q u s' ⟨_, _, _, _, _, _, _, _, _, _, _, _, _, _, _, _, z⟩ => z.elim, fun q => PassesOwn.never⟩
def qTs (K : PySem.W.Frag) (N : Nm) (W : WX) (Xs : ι → Cx) (ifs : List Expr) (m : DT) : Prop := ∃ tt, (∀ i, PTs (Xs i) ifs tt) ∧ SimT K N W tt m
theorem ts_nil : qTs K N W Xs [] dYes := ⟨_, fun _ => pts_nil, fun G R H σ s Q rel hk => hk R H (Ex.refl R) rel⟩
theorem ts_one (h : qT K N W Xs c t) : qTs K N W Xs [c] t := let ⟨_, h1, h2⟩ := h; ⟨_, fun i => pts_one (h1 i), h2⟩
/-- a target of a block: the slots it goes to -/
def qGW (K : PySem.W.Frag) (N : Nm) (vs : List Nat) (Xs : ι → Cx) (tg : Expr) (t : DG) : Prop := ∃ g, (∀ i, PG (Xs i) tg g) ∧ SimG K N (fun _ => false) g t ∧ GW g vs
theorem gw_nm (j : Nat) {x : Str} {vs : List Nat} (Φ : Fam K mg P w base k Xs W) (hj : j ∈ vs := by decide) (hi : ∀ i, (Xs i).N[j]? = some x := by intro _; rfl) (hx : ∀ i, Loc (Xs i).env.scope x := by intro _; first | exact Or.inl rfl | exact Or.inr rfl)
    (hf : ∀ i, (Xs i).fn x = true ∨ (Xs i).env.scope.names.lookup x = some .local := by intro _; first | exact .inl rfl | exact .inr rfl) : qGW K N vs Xs (.Name x pos) (gNm j) := ⟨_, fun i => pg_name (Φ.nd i) (hi i) (hx i) (hf i), sim_gName rfl, gw_name hj⟩
def qGs (K : PySem.W.Frag) (N : Nm) (pr : Nat → Bool) (Xs : ι → Cx) (es : List Expr) (t : DGs) : Prop := ∃ g, (∀ i, PGs (Xs i) es g) ∧ SimGs K N pr g t
theorem gs_nil : qGs K N pr Xs [] dgNil := ⟨_, fun _ => pgs_nil, sim_gNil⟩
theorem gs_cons (h : qG K N pr Xs e tgd) (h' : qGs K N pr Xs es gsd) (hs : ∀ i, (assignEach (e :: es) (Xs i).env).map (·.2) = assign e (Xs i).env :: (assignEach es (Xs i).env).map (·.2) := by intro _; rfl) : qGs K N pr Xs (e :: es) (dgCons tgd gsd) :=
  let ⟨_, h1, h2⟩ := h; let ⟨_, h3, h4⟩ := h'; ⟨_, fun i => pgs_cons (h1 i) (h3 i) (hs i), sim_gCons h2 h4⟩
theorem g_tup (n : Nat) {kk : Nat} (Φ : Fam K mg P w base k Xs W) (h : qGs K N pr Xs es gsd) (hn : ∀ i, (assignEach es (Xs i).env).length = n := by intro _; rfl) (hst : ∀ i, (assignEach es (Xs i).env).findIdx? (·.1) = none := by intro _; rfl) : qG K N pr Xs (.Tuple es kk pos) (gTp n gsd) :=
  let ⟨_, h1, h2⟩ := h; ⟨_, fun i => by have h := pg_tup (k := kk) (pos := pos) (Φ.calm i) (h1 i) (hn i) (hst i); rw [Φ.K i] at h; exact h, sim_gTp h2⟩
def qGWs (K : PySem.W.Frag) (N : Nm) (vs : List Nat) (Xs : ι → Cx) (es : List Expr) (t : DGs) : Prop := ∃ g, (∀ i, PGs (Xs i) es g) ∧ SimGs K N (fun _ => false) g t ∧ GWs g vs
theorem gws_nil' {vs : List Nat} : qGWs K N vs Xs [] dgNil := ⟨_, fun _ => pgs_nil, sim_gNil, gws_nil⟩
theorem gws_cons (j : Nat) {x : Str} {vs : List Nat} (Φ : Fam K mg P w base k Xs W) (h' : qGWs K N vs Xs es gsd) (hj : j ∈ vs := by decide) (hi : ∀ i, (Xs i).N[j]? = some x := by intro _; rfl) (hx : ∀ i, Loc (Xs i).env.scope x := by intro _; first | exact Or.inl rfl | exact Or.inr rfl)
    (hf : ∀ i, (Xs i).fn x = true ∨ (Xs i).env.scope.names.lookup x = some .local := by intro _; first | exact .inl rfl | exact .inr rfl) (hs : ∀ i, (assignEach (.Name x pos :: es) (Xs i).env).map (·.2) = assign (.Name x pos) (Xs i).env :: (assignEach es (Xs i).env).map (·.2) := by intro _; rfl) :
    qGWs K N vs Xs (.Name x pos :: es) (dgCons (gNm j) gsd) := let ⟨_, h3, h4, h5⟩ := h'; ⟨_, fun i => pgs_cons (pg_name (Φ.nd i) (hi i) (hx i) (hf i)) (h3 i) (hs i), sim_gCons (sim_gName rfl) h4, gws_name hj h5⟩
theorem gw_tp (n : Nat) {kk : Nat} {vs : List Nat} (Φ : Fam K mg P w base k Xs W) (h : qGWs K N vs Xs es gsd) (hn : ∀ i, (assignEach es (Xs i).env).length = n := by intro _; rfl) (hst : ∀ i, (assignEach es (Xs i).env).findIdx? (·.1) = none := by intro _; rfl) : qGW K N vs Xs (.Tuple es kk pos) (gTp n gsd) :=
  let ⟨_, h1, h2, h3⟩ := h; ⟨_, fun i => by have h := pg_tup (k := kk) (pos := pos) (Φ.calm i) (h1 i) (hn i) (hst i); rw [Φ.K i] at h; exact h, sim_gTp h2, gw_tup h3⟩
theorem e_lc (own : List (Str × Nat)) (Φ : Fam K mg P w base k Xs W) (hi : qI K N W Xs tg iter ms) (hg : qGW K N (own.map (·.2)) (blkF Xs scope) tg tgd) (ht : qTs K N W0 (blkF Xs scope) ifs t) (he : qE K N W0 (blkF Xs scope) elt m) (ok : ∀ i, BlkOk (Xs i).N (Xs i).env.scope scope own := by intro _; exact blkOk_by rfl)
    (hs : ∀ i x, foldedSetIterable iter (Xs i).env x = pure x := by intro _ _; rfl) : qE K N W Xs (.ListComp elt [⟨tg, iter, ifs, 0⟩] scope pos) (dComp ms (own.map (·.2)) tgd t m) :=
  let ⟨_, h1, h2⟩ := hi; let ⟨_, h3, h4, h5⟩ := hg; let ⟨_, h6, h7⟩ := ht; let ⟨_, h8, h9⟩ := he
  ⟨_, fun i => pe_lc (Φ.calm i) (Φ.nd i) (h1 i) (ok i) (fun s H C cl fp => h3 ⟨i, s, H, C, cl, fp⟩) (fun s H C cl fp => h6 ⟨i, s, H, C, cl, fp⟩) (fun s H C cl fp => h8 ⟨i, s, H, C, cl, fp⟩) (hs i), sim_comp h2 h4 h5 h7 h9⟩
/-- y = [..] on one line -/
theorem s_setLc (j : Nat) {y : Str} (own : List (Str × Nat)) (Φ : Fam K mg P w base k Xs W) (hp : pr j = false) (hi : qI K N W Xs tg iter ms) (hg : qGW K N (own.map (·.2)) (blkF Xs scope) tg tgd) (ht : qTs K N W0 (blkF Xs scope) ifs t) (he : qE K N W0 (blkF Xs scope) elt m)
    (hy : ∀ i, (Xs i).N[j]? = some y := by intro _; rfl) (hyl : ∀ i, (Xs i).env.scope.names.lookup y = some .local := by intro _; rfl) (hsw : ∀ i, swapsWith (.ListComp elt [⟨tg, iter, ifs, 0⟩] scope pos) (some (.Name y py)) spos.line (Xs i).env = pure true := by intro _; rfl) (ok : ∀ i, BlkOk (Xs i).N (Xs i).env.scope scope own := by intro _; exact blkOk_by rfl)
    (hs : ∀ i x, foldedSetIterable iter (Xs i).env x = pure x := by intro _ _; rfl) : qS K N W pr Xs (.Assign [.Name y py] (.ListComp elt [⟨tg, iter, ifs, 0⟩] scope pos) spos) (dAsg j (dComp ms (own.map (·.2)) tgd t m)) :=
  let ⟨_, h1, h2⟩ := hi; let ⟨_, h3, h4, h5⟩ := hg; let ⟨_, h6, h7⟩ := ht; let ⟨_, h8, h9⟩ := he
  ⟨_, fun i => ps_setLc (Φ.calm i) (Φ.nd i) (hy i) (hyl i) (hsw i) (h1 i) (ok i) (fun s H C cl fp => h3 ⟨i, s, H, C, cl, fp⟩) (fun s H C cl fp => h6 ⟨i, s, H, C, cl, fp⟩) (fun s H C cl fp => h8 ⟨i, s, H, C, cl, fp⟩) (hs i), sim_asg hp (sim_comp h2 h4 h5 h7 h9)⟩
theorem e_dc (own : List (Str × Nat)) (Φ : Fam K mg P w base k Xs W) (hi : qI K N W Xs tg iter ms) (hg : qGW K N (own.map (·.2)) (blkF Xs scope) tg tgd) (ht : qTs K N W0 (blkF Xs scope) ifs t) (hk : qE K N W0 (blkF Xs scope) kx mk) (he : qE K N W0 (blkF Xs scope) vx m) (ok : ∀ i, BlkOk (Xs i).N (Xs i).env.scope scope own := by intro _; exact blkOk_by rfl)
    (hs : ∀ i x, foldedSetIterable iter (Xs i).env x = pure x := by intro _ _; rfl) : qE K N W Xs (.DictComp kx vx [⟨tg, iter, ifs, 0⟩] scope pos) (dDComp ms (own.map (·.2)) tgd t mk m) :=
  let ⟨_, h1, h2⟩ := hi; let ⟨_, h3, h4, h5⟩ := hg; let ⟨_, h6, h7⟩ := ht; let ⟨_, h8, h9⟩ := he; let ⟨_, h10, h11⟩ := hk
  ⟨_, fun i => pe_dc (Φ.calm i) (Φ.nd i) (h1 i) (ok i) (fun s H C cl fp => h3 ⟨i, s, H, C, cl, fp⟩) (fun s H C cl fp => h6 ⟨i, s, H, C, cl, fp⟩) (fun s H C cl fp => h10 ⟨i, s, H, C, cl, fp⟩) (fun s H C cl fp => h8 ⟨i, s, H, C, cl, fp⟩) (hs i), sim_dcomp h2 h4 h5 h7 h11 h9⟩
theorem i_enum {elts : List Expr} {kk : Nat} (Φ : Fam K mg P w base k Xs W) (hm : mg "enumerate" = none) (h : qA K N W Xs [e] ls ms) (hg : ∀ i, Gl (Xs i) "enumerate" := by intro _; rfl) (hs : ∀ i, starEach [e] (Xs i).env = [(false, eval e (Xs i).env)] := by intro _; rfl) :
    qI K N W Xs (.Tuple elts kk tpos) (.Call (.Name "enumerate" p) [e] [] pos) (dEnum ms) := let ⟨_, h1, h2⟩ := h; ⟨_, fun i => by have h := pi_enumA (elts := elts) (kk := kk) (p := p) (pos := pos) (tpos := tpos) (hg i) (by rw [Φ.mg i]; exact hm) (h1 i) (hs i); rw [Φ.K i] at h; exact h, sim_enum h2⟩
theorem i_rev (Φ : Fam K mg P w base k Xs W) (hm : mg "reversed" = none) (h : qE K N W Xs e m) (hg : ∀ i, Gl (Xs i) "reversed" := by intro _; rfl) (hs : ∀ i, starEach [e] (Xs i).env = (false, eval e (Xs i).env) :: starEach [] (Xs i).env := by intro _; rfl) :
    qI K N W Xs tg (.Call (.Name "reversed" p) [e] [] pos) (dRev m) := let ⟨_, h1, h2⟩ := h; ⟨_, fun i => by have h := RT.pi_revA (tg := tg) (p := p) (pos := pos) (hg i) (by rw [Φ.mg i]; exact hm) (h1 i) (hs i); rw [Φ.K i] at h; exact h, sim_rev h2⟩
theorem i_rng2 (Φ : Fam K mg P w base k Xs W) (hm : mg "range" = none) (h : qA K N W Xs [a, b] ls ms) (hg : ∀ i, Gl (Xs i) "range" := by intro _; rfl) (hs : ∀ i, starEach [a, b] (Xs i).env = (false, eval a (Xs i).env) :: starEach [b] (Xs i).env := by intro _; rfl) (hs2 : ∀ i, starEach [b] (Xs i).env = [(false, eval b (Xs i).env)] := by intro _; rfl) : qI K N W Xs tg (.Call (.Name "range" p) [a, b] [] pos) (dRng2 ms) :=
  let ⟨_, h1, h2⟩ := h; ⟨_, fun i => pi_range2 (hg i) (by rw [Φ.mg i]; exact hm) (h1 i) (by rw [hs i, hs2 i]) (hs2 i), sim_rng2 h2⟩
theorem s_forK (Φ : Fam K mg P w base k Xs W) (hi : qV Xs iter j) (hg : qG K N pr Xs tg tgd) (hb : qSs K N W pr Xs sts sa) (hs : ∀ i x, foldedSetIterable iter (Xs i).env x = pure x := by intro _ _; rfl) : qS K N W pr Xs (.For tg iter sts [] pos) (dForK j tgd sa) :=
  let ⟨_, h3, h4⟩ := hg; let ⟨_, h5, h6⟩ := hb
  ⟨tForK j _ _, fun i => ⟨fun pins s σ H D I q => by
    have h := ps_for (pos := pos) (Φ.own i) (Φ.calm i) (pi_keys (hi i)) (h3 i) (h5 i) (hs i)
    rcases q with q | q
    · exact (ps_lock h).run pins s σ H D I q
    · exact h.run pins s σ H D I q⟩, sim_forK h4 h6⟩
/-- what is never reached -/
theorem s_dead {st : Stmt} : qS K N W pr Xs st (fun _ => .no) := ⟨fun _ _ _ => False, fun i => ⟨fun _ _ _ _ _ _ z => z.elim⟩, fun _ _ _ _ _ _ _ hk => hk⟩
theorem e_dead : qE K N W Xs e (fun _ => .no) := ⟨fun _ _ _ => False, fun i => ⟨fun _ _ _ _ _ _ z => z.elim⟩, fun _ _ _ _ _ _ _ hk => hk⟩
end
end DL

set_option maxHeartbeats 4000000
/-! DL17: built-in calls that make things: tuple, list, dict, sorted, str; join, slices, f-strings; == with {}; lists repeated. -/
namespace L2
open PySem PySem.Spec PyProof.Rows
section
variable {X : Cx}
def dlEq0 (neg : Bool) : R2 := fun x y H Q => ∃ a b ks, x = .ref a ∧ y = .ref b ∧ Rd H a (.dK ks) ∧ Rd H b (.dK []) ∧ Q (.bl (if neg then !ks.isEmpty else ks.isEmpty)) H
theorem dl_eq0 (hu : X.A.units < cLine) : OpR X (compareOp .Eq) (dlEq0 false) := by
  intro pins s σ H x y v u Q I rx ry h
  obtain ⟨a, b, ks, rfl, rfl, ea, eb, q⟩ := h
  obtain rfl : v = Value.ref a := rx
  obtain rfl : u = Value.ref b := ry
  obtain ⟨_, ya, va, ra, da⟩ := dk_rd I.hok ea
  obtain ⟨_, yb, vb, rb, db⟩ := dk_rd I.hok eb
  have hb : vb.length = 0 := by rw [← rb.length]; rfl
  have hv : va.length = ks.length := ra.length.symm
  refine PySem.W.keq_eq (knd := mixKind X.prog X.w) (r := true) ya yb da db hu (fun hl => ?_) (fin_bl I q ?_)
  · have h0 : va = [] := List.eq_nil_of_length_eq_zero (by omega)
    subst h0
    exact .nil
  · rw [hb, hv]
    cases ks <;> simp
theorem dl_ne0 (hu : X.A.units < cLine) : OpR X (compareOp .NotEq) (dlEq0 true) := by
  intro pins s σ H x y v u Q I rx ry h
  obtain ⟨a, b, ks, rfl, rfl, ea, eb, q⟩ := h
  obtain rfl : v = Value.ref a := rx
  obtain rfl : u = Value.ref b := ry
  obtain ⟨_, ya, va, ra, da⟩ := dk_rd I.hok ea
  obtain ⟨_, yb, vb, rb, db⟩ := dk_rd I.hok eb
  have hb : vb.length = 0 := by rw [← rb.length]; rfl
  have hv : va.length = ks.length := ra.length.symm
  refine PySem.W.keq_ne (knd := mixKind X.prog X.w) (r := true) ya yb da db hu (fun hl => ?_) (fin_bl I q ?_)
  · have h0 : va = [] := List.eq_nil_of_length_eq_zero (by omega)
    subst h0
    exact .nil
  · rw [hb, hv]
    cases ks <;> simp
end
end L2
namespace DL
open PySem L2
section
variable {K : PySem.W.Frag} {N : Nm} {R R' R1 H H' H1 H2 G G' : Hp} {v x y : V} {d e : D} {f : Addr → Prop} {L L' A B σ : List (Option V)} {s s1 : List (Option D)} {W : WX}
variable {te ta tb tc tv tk : TE} {m ma mb mc mv mk : DE} {tt tu : TT} {n t u : DT} {tl : TA} {ls : Lends} {ms : DA}
theorem VSim2.or {r r' : R2} {f g : D → D → Option D} (h : VSim2 K N r f) (h' : VSim2 K N r' g) : VSim2 K N (fun x y H Q => r x y H Q ∨ r' x y H Q) (fun a b => (f a b).orElse fun _ => g a b) := fun H x y a b dz w ha hb e ew Q hQ => by
  cases e1 : f a b with
  | some d =>
    simp only [e1, Option.orElse_some] at e
    exact .inl (h H x y a b dz w ha hb (by rw [e1, e]) ew Q hQ)
  | none =>
    simp only [e1, Option.orElse_none] at e
    exact .inr (h' H x y a b dz w ha hb e ew Q hQ)
def eq0 (neg : Bool) (a b : D) : Option D := match a with
  | .bx _ (.dct ks) _ => (match b with
    | .bx _ (.dct []) _ => some (.bl (if neg then !ks.isEmpty else ks.isEmpty))
    | _ => none)
  | _ => none
theorem vs_eq0 {neg : Bool} : VSim2 K N (dlEq0 neg) (eq0 neg) := fun H x y a b dz w ha hb e ew Q hQ => by
  unfold eq0 at e
  split at e
  · split at e
    · rename_i o ks ds _ o' ds'
      cases e; cases ew
      obtain ⟨p, xs, rfl, h1, l1, _⟩ := ha.bx
      obtain ⟨q, ys, rfl, h2, l2, _⟩ := hb.bx
      refine ⟨p, q, _, rfl, rfl, h1.2.1, h2.2.1, ?_⟩
      have : (ks.zip xs).isEmpty = ks.isEmpty := by
        have := h1.1
        cases ks <;> cases xs <;> simp at this ⊢
      rw [this]; exact hQ
    · cases e
  · cases e
theorem Rel.pushAll : ∀ {xs : List V} {ds : List D}, Rel K N G R H L s → xs.length = ds.length → (∀ (j : Nat) x d, xs[j]? = some x → ds[j]? = some d → En K N R x d) → Rel K N G R H (xs.map some ++ L) (ds.map some ++ s)
  | [], [], h, _, _ => h
  | x :: xs, d :: ds, h, l, c => (Rel.pushAll h (by simpa using l) fun j x d hx hd => c (j + 1) x d hx hd).push (c 0 x d rfl rfl)
theorem Rel.newLp {xs : List V} {ds : List D} {p : Addr} (h : Rel K N G R H L s) (l : xs.length = ds.length) (c : ∀ (j : Nat) x d, xs[j]? = some x → ds[j]? = some d → En K N R x d) (hp : H p = none) : Rel K N G R (upd H p (.lst xs)) (some (.ref p) :: L) (some (mL ds) :: s) :=
  Rel.newL (h.pushAll l c) l hp
theorem svs_en : ∀ {ds : List D} {ws : List V}, svs ds = some ws → ws.length = ds.length ∧ ∀ (j : Nat) x d, ws[j]? = some x → ds[j]? = some d → En K N R x d
  | [], ws, e => by cases e; exact ⟨rfl, fun j x d hx => by simp at hx⟩
  | d :: ds, ws, e => by
    unfold svs at e
    cases e1 : sv d with
    | none => rw [e1] at e; cases e
    | some w =>
      rw [e1] at e
      cases e2 : svs ds with
      | none => rw [e2] at e; cases e
      | some ws' =>
        rw [e2] at e
        cases e
        obtain ⟨h1, h2⟩ := svs_en e2
        refine ⟨by simp [h1], fun j x d' hx hd => ?_⟩
        cases j with
        | zero => cases hx; cases hd; exact sv_en e1
        | succ j => exact h2 j x d' hx hd
theorem cs_un {r : List V → Hp → VK → Prop} {f : D → Option D} (h : UnSim K N (fun x H Q => r [x] H Q) f) : CallSim K N r (f1 f) := fun G R H vs ds L s l rel dz e Q hQ => by
  match ds, vs, l, rel, e with
  | [a], [v], _, rel, e => exact h G R H v a L s rel dz e Q hQ

/-! ### [d] * n -/
def repL {α : Type} (n : Nat) (ds : List α) : List α := (List.replicate n ds).flatten
def fRep (a b : D) : Option D := match a with
  | .bx _ .lst ds => (match b with
    | .int k => if (svs ds).isSome = true ∧ -(2 ^ 63) ≤ k ∧ k < 2 ^ 63 ∧ ds.length * k.toNat ≤ lim then some (mL (repL k.toNat ds)) else none
    | _ => none)
  | _ => none
theorem svs_rep {ds : List D} {ws : List V} (h : svs ds = some ws) : ∀ n, svs (repL n ds) = some (repL n ws)
  | 0 => rfl
  | n + 1 => by
    have app : ∀ {a b : List D} {x y : List V}, svs a = some x → svs b = some y → svs (a ++ b) = some (x ++ y) := by
      intro a
      induction a with
      | nil => intro b x y h1 h2; cases h1; exact h2
      | cons d a ih =>
        intro b x y h1 h2
        unfold svs at h1
        cases e1 : sv d with
        | none => rw [e1] at h1; cases h1
        | some w =>
          rw [e1] at h1
          obtain ⟨x', e2, rfl⟩ := Option.map_eq_some_iff.mp (show (svs a).map (fun vs => w :: vs) = some x from h1)
          show (sv d).bind (fun v => (svs (a ++ b)).map fun vs => v :: vs) = _
          rw [e1, ih e2 h2]
          rfl
    have ih := svs_rep h n
    show svs (List.replicate (n + 1) ds).flatten = some (List.replicate (n + 1) ws).flatten
    rw [List.replicate_succ, List.replicate_succ, List.flatten_cons, List.flatten_cons]
    exact app h ih
theorem os_rep : OpSim K N rRep fRep := fun G R H x y a b L s rel dz e Q hQ => by
  unfold fRep at e
  split at e
  · split at e
    · rename_i o ds _ k
      split at e
      · rename_i hc
        cases e
        obtain ⟨h1, h2, h3, h4⟩ := hc
        obtain ⟨p, xs, rfl, hat, l, c⟩ := rel.vw.bx
        cases ews : svs ds with
        | none => rw [ews] at h1; cases h1
        | some ws =>
          have exs := svs_vw ews l c
          subst exs
          obtain ⟨hl, hen⟩ := svs_en (K := K) (N := N) (R := R) (svs_rep ews k.toNat)
          refine ⟨p, k, xs, rfl, rel.pop.vw.int, hat, h2, h3, by rw [l]; exact h4, fun q hq => hQ R _ _ (Ex.refl R) ?_⟩
          exact rel.pop.pop.newLp hl hen hq
      · cases e
    · cases e
  · cases e
def fMulA (a b : D) : Option D := (fMul a b).orElse fun _ => fRep a b

/-! ### tuple, list, dict, sorted, str -/
def fTup : D → Option D
  | .bx _ .lst ds => some (dT (ds.map rd))
  | .bx _ .scr ds => some (dT (ds.map rd))
  | .bx _ .tup ds => some (dT ds)
  | _ => none
def rTup (K : PySem.W.Frag) : List V → Hp → VK → Prop := fun xs H Q => ∃ p ys, xs = [.ref p] ∧ ((SqL K H p ys ∧ ∀ l, H l = none → Q (.ref l) (upd H l (.tup ys))) ∨ (SqT K H p ys ∧ Q (.ref p) H))
theorem us_tup : UnSim K N (fun x H Q => rTup K [x] H Q) fTup := fun G R H x a L s rel dz e Q hQ => by
  unfold fTup at e
  split at e
  · cases e
    obtain ⟨p, xs, rfl, hat, l, r1⟩ := rel.opn
    refine ⟨p, xs, rfl, .inl ⟨.inl (.inl hat), fun q hq => ?_⟩⟩
    obtain ⟨R', e1, r2⟩ := r1.newT l hq
    exact hQ R' _ _ e1 r2
  · cases e
    obtain ⟨p, xs, rfl, hat, l, r1⟩ := rel.opn
    refine ⟨p, xs, rfl, .inl ⟨hat, fun q hq => ?_⟩⟩
    obtain ⟨R', e1, r2⟩ := r1.newT l hq
    exact hQ R' _ _ e1 r2
  · rename_i o ds
    cases e
    obtain ⟨p, xs, rfl, hat, l, _⟩ := rel.vw.bx
    obtain ⟨f, h1, _⟩ := rel.top
    exact ⟨p, xs, rfl, .inr ⟨hat, hQ R H _ (Ex.refl R) (rel.pop.push (en_tup h1))⟩⟩
  · cases e
def fList : D → Option D
  | .bx _ .lst ds => some (mL ds)
  | .bx _ .scr ds => some (mL ds)
  | .bx _ .tup ds => some (mL ds)
  | .bx _ (.dct ks) _ => some (mL (ks.map keyD))
  | _ => none
def rList (K : PySem.W.Frag) : List V → Hp → VK → Prop := fun xs H Q => (∃ p ys, xs = [.ref p] ∧ (SqL K H p ys ∨ SqT K H p ys) ∧ ∀ l, H l = none → Q (.ref l) (upd H l (.lst ys))) ∨
  ∃ (a : Addr) (kvs : List (Key × V)), xs = [.ref a] ∧ Rd H a (.dK kvs) ∧ ∀ p, H p = none → Q (.ref p) (upd H p (.lst (kvs.map fun kv => kV kv.1)))
theorem us_list : UnSim K N (fun x H Q => rList K [x] H Q) fList := fun G R H x a L s rel dz e Q hQ => by
  unfold fList at e
  split at e
  · cases e
    obtain ⟨p, xs, rfl, hat, l, r1⟩ := rel.opn
    exact .inl ⟨p, xs, rfl, .inl (.inl (.inl hat)), fun q hq => hQ R _ _ (Ex.refl R) (r1.newL l hq)⟩
  · cases e
    obtain ⟨p, xs, rfl, hat, l, r1⟩ := rel.opn
    exact .inl ⟨p, xs, rfl, .inl hat, fun q hq => hQ R _ _ (Ex.refl R) (r1.newL l hq)⟩
  · cases e
    obtain ⟨p, xs, rfl, hat, l, r1⟩ := rel.opn
    exact .inl ⟨p, xs, rfl, .inr hat, fun q hq => hQ R _ _ (Ex.refl R) (r1.newL l hq)⟩
  · rename_i o ks ds
    cases e
    obtain ⟨p, xs, rfl, hat, l, _⟩ := rel.vw.bx
    refine .inr ⟨p, _, rfl, hat.2.1, fun q hq => hQ R _ _ (Ex.refl R) ?_⟩
    have hk : ((ks.zip xs).map fun kv => kV kv.1) = ks.map kV := by
      rw [show (fun kv : Key × V => kV kv.1) = kV ∘ Prod.fst from rfl, ← List.map_map, List.map_fst_zip (by rw [hat.1]; exact Nat.le_refl _)]
    rw [hk]
    refine rel.pop.newLp (by simp) (fun j x d hx hd => ?_) hq
    rw [List.getElem?_map] at hx hd
    obtain ⟨k1, h1, rfl⟩ := Option.map_eq_some_iff.mp hx
    obtain ⟨k2, h2, rfl⟩ := Option.map_eq_some_iff.mp hd
    rw [h1] at h2; cases h2
    exact en_key
  · cases e
def fDict : D → Option D
  | .bx _ (.dct ks) ds => some (mD ks ds)
  | _ => none
def rDict : List V → Hp → VK → Prop := fun xs H Q => ∃ (a : Addr) (kvs : List (Key × V)), xs = [.ref a] ∧ Rd H a (.dK kvs) ∧ ∀ p, H p = none → Q (.ref p) (upd H p (.dK kvs))
theorem us_dict : UnSim K N (fun x H Q => rDict [x] H Q) fDict := fun G R H x a L s rel dz e Q hQ => by
  unfold fDict at e
  split at e
  · cases e
    obtain ⟨p, xs, rfl, hat, l, r1⟩ := rel.opn
    refine ⟨p, _, rfl, hat.2.1, fun q hq => hQ R _ _ (Ex.refl R) (Rel.box r1 l hq hq (Ex.new hq) ⟨rfl, hat.1, upd_same, hat.2.2⟩)⟩
  · cases e
/-- sorted -/
def leS (a b : Str) : Bool := !strLt b a
def leZ (a b : Int) : Bool := decide (a ≤ b)
def insL {α : Type} (le : α → α → Bool) (a : α) : List α → List α
  | [] => [a]
  | b :: r => if le a b = true then a :: b :: r else b :: insL le a r
def isortL {α : Type} (le : α → α → Bool) : List α → List α
  | [] => []
  | a :: r => insL le a (isortL le r)
theorem insL_perm {α : Type} (le : α → α → Bool) (a : α) : ∀ l : List α, (insL le a l).Perm (a :: l)
  | [] => .refl _
  | b :: r => by
    unfold insL
    split
    · exact .refl _
    · exact ((insL_perm le a r).cons b).trans (.swap a b r)
theorem isortL_perm {α : Type} (le : α → α → Bool) : ∀ l : List α, (isortL le l).Perm l
  | [] => .refl _
  | a :: r => (insL_perm le a _).trans ((isortL_perm le r).cons a)
theorem insL_pw {α : Type} {le : α → α → Bool} (tr : ∀ a b c, le a b = true → le b c = true → le a c = true) (tot : ∀ a b, (le a b || le b a) = true) (a : α) : ∀ l : List α, l.Pairwise (fun a b => le a b = true) → (insL le a l).Pairwise fun a b => le a b = true
  | [], _ => by simp [insL]
  | b :: r, h => by
    have h1 := List.pairwise_cons.mp h
    unfold insL
    split
    · rename_i hab
      exact List.pairwise_cons.mpr ⟨fun x hx => by
        rcases List.mem_cons.mp hx with rfl | hx
        · exact hab
        · exact tr a b x hab (h1.1 x hx), h⟩
    · rename_i hab
      have hba : le b a = true := by
        have := tot a b
        rw [Bool.or_eq_true] at this
        rcases this with z | z
        · exact absurd z hab
        · exact z
      refine List.pairwise_cons.mpr ⟨fun x hx => ?_, insL_pw tr tot a r h1.2⟩
      rcases List.mem_cons.mp ((insL_perm le a r).mem_iff.mp hx) with rfl | hx
      · exact hba
      · exact h1.1 x hx
theorem isortL_pw {α : Type} {le : α → α → Bool} (tr : ∀ a b c, le a b = true → le b c = true → le a c = true) (tot : ∀ a b, (le a b || le b a) = true) : ∀ l : List α, (isortL le l).Pairwise fun a b => le a b = true
  | [] => .nil
  | a :: r => insL_pw tr tot a _ (isortL_pw tr tot r)
def sortS (xs : List Str) : List Str := isortL leS xs
def sortZ (xs : List Int) : List Int := isortL leZ xs
theorem lt_lex (a b : List Nat) : strLt ⟨a.toArray⟩ ⟨b.toArray⟩ = decide (a < b) := by simp [strLt]
theorem leS_iff (a b : Str) : leS a b = true ↔ a.cps.toList ≤ b.cps.toList := by
  unfold leS strLt
  simp [List.not_lt]
theorem leS_trans (a b c : Str) (h1 : leS a b = true) (h2 : leS b c = true) : leS a c = true := (leS_iff a c).mpr (List.le_trans ((leS_iff a b).mp h1) ((leS_iff b c).mp h2))
theorem leS_total (a b : Str) : (leS a b || leS b a) = true := by
  rcases List.le_total a.cps.toList b.cps.toList with h | h
  · rw [(leS_iff a b).mpr h]; rfl
  · rw [(leS_iff b a).mpr h]; simp
theorem leS_anti (a b : Str) (h1 : leS a b = true) (h2 : leS b a = true) : a = b := by
  have := List.le_antisymm ((leS_iff a b).mp h1) ((leS_iff b a).mp h2)
  cases a with | mk a => cases b with | mk b => exact congrArg Str.mk (Array.toList_inj.mp this)
theorem sortS_perm (xs : List Str) : (sortS xs).Perm xs := isortL_perm leS xs
theorem sortS_pw (xs : List Str) : (sortS xs).Pairwise fun a b => leS a b = true := isortL_pw leS_trans leS_total xs
theorem sortZ_perm (xs : List Int) : (sortZ xs).Perm xs := isortL_perm leZ xs
theorem sortZ_pw (xs : List Int) : (sortZ xs).Pairwise (· ≤ ·) := by
  have := isortL_pw (le := leZ) (fun a b c h1 h2 => by simp [leZ] at *; omega) (fun a b => by simp [leZ]; omega) xs
  exact this.imp fun h => by simpa [leZ] using h
theorem sortS_uni {xs ys : List Str} (hp : ys.Perm xs) (h : ys.Pairwise fun a b => leS a b = true) : ys = sortS xs :=
  List.Perm.eq_of_pairwise (le := fun a b => leS a b = true) (fun a b _ _ h1 h2 => leS_anti a b h1 h2) h (sortS_pw xs) (hp.trans (sortS_perm xs).symm)
theorem sortZ_uni {xs ys : List Int} (hp : ys.Perm xs) (h : ys.Pairwise (· ≤ ·)) : ys = sortZ xs :=
  List.Perm.eq_of_pairwise (le := (· ≤ ·)) (fun a b _ _ h1 h2 => Int.le_antisymm h1 h2) h (sortZ_pw xs) (hp.trans (sortZ_perm xs).symm)
theorem rising_pw : ∀ {l : List Str} {p : Str}, PyProof.Rows.risingS p l = true → (p :: l).Pairwise fun a b => leS a b = true
  | [], p, _ => by simp
  | x :: r, p, h => by
    have h : (!PySem.Spec.ltCps x.cps.toList p.cps.toList && PyProof.Rows.risingS x r) = true := h
    obtain ⟨h1, h2⟩ := Bool.and_eq_true_iff.mp h
    have ih := rising_pw h2
    have h3 : leS p x = true := by
      rw [PyProof.Rows.ltCps_eq] at h1
      exact h1
    refine List.pairwise_cons.mpr ⟨fun y hy => ?_, ih⟩
    rcases List.mem_cons.mp hy with rfl | hy
    · exact h3
    · exact leS_trans p x y h3 (List.rel_of_pairwise_cons ih hy)
theorem sorted_pw {l : List Str} (h : PyProof.Rows.sortedS l = true) : l.Pairwise fun a b => leS a b = true := by
  cases l with
  | nil => simp
  | cons x r => exact rising_pw h
def strsD : List D → Option (List Str)
  | [] => some []
  | .str x :: ds => (strsD ds).map fun xs => x :: xs
  | _ => none
theorem strsD_vw : ∀ {ds : List D} {xs : List V} {ns : List Str}, strsD ds = some ns → xs.length = ds.length → (∀ (j : Nat) x d, xs[j]? = some x → ds[j]? = some d → Vw K N H x d) → xs = ns.map V.str
  | [], [], ns, e, _, _ => by cases e; rfl
  | .str i :: ds, x :: xs, ns, e, l, h => by
    unfold strsD at e
    obtain ⟨ns', e2, rfl⟩ := Option.map_eq_some_iff.mp e
    rw [(h 0 x _ rfl rfl).str, strsD_vw e2 (by simpa using l) fun j x d hx hd => h (j + 1) x d hx hd]
    rfl
  | .non :: _, _, _, e, _, _ => by cases e
  | .bl _ :: _, _, _, e, _, _ => by cases e
  | .int _ :: _, _, _, e, _, _ => by cases e
  | .bx _ _ _ :: _, _, _, e, _, _ => by cases e
def keyStrs : List Key → Option (List Str)
  | [] => some []
  | .inr x :: ks => (keyStrs ks).map fun xs => x :: xs
  | .inl _ :: _ => none
theorem keyStrs_eq : ∀ {ks : List Key} {xs : List Str}, keyStrs ks = some xs → ks = xs.map Sum.inr
  | [], xs, e => by cases e; rfl
  | .inr x :: ks, xs, e => by
    unfold keyStrs at e
    obtain ⟨ns', e2, rfl⟩ := Option.map_eq_some_iff.mp e
    rw [keyStrs_eq e2]; rfl
  | .inl _ :: _, _, e => by cases e
def fSort (a : D) : Option D := match a with
  | .bx _ (.dct ks) _ => (keyStrs ks).bind fun xs => if xs.length < 64 then some (mL ((sortS xs).map .str)) else none
  | _ => (seqOf a).bind fun ds => match intsD ds with
    | some ns => if ns.length < 64 then some (mL ((sortZ ns).map .int)) else none
    | none => (strsD ds).bind fun xs => if xs.length < 64 then some (mL ((sortS xs).map .str)) else none
def rSrt (K : PySem.W.Frag) : List V → Hp → VK → Prop := fun vs H Q => rSorted K vs H Q ∨ (rSortedS K vs H Q ∨ ∃ (a : Addr) (kvs : List (Key × V)) (ks : List Str), vs = [.ref a] ∧ Rd H a (.dK kvs) ∧ kvs.map (·.1) = ks.map Sum.inr ∧ ks.length < 64 ∧
    ∀ ys p, ys.Perm ks → PyProof.Rows.sortedS ys = true → H p = none → Q (.ref p) (upd H p (.lst (ys.map V.str))))
theorem newL_str {xs : List Str} {p : Addr} (h : Rel K N G R H L s) (hp : H p = none) : Rel K N G R (upd H p (.lst (xs.map V.str))) (some (.ref p) :: L) (some (mL (xs.map .str)) :: s) :=
  h.newLp (by simp) (fun j x d hx hd => by
    rw [List.getElem?_map] at hx hd
    obtain ⟨k1, h1, rfl⟩ := Option.map_eq_some_iff.mp hx
    obtain ⟨k2, h2, rfl⟩ := Option.map_eq_some_iff.mp hd
    rw [h1] at h2; cases h2
    exact .str _) hp
theorem newL_int {xs : List Int} {p : Addr} (h : Rel K N G R H L s) (hp : H p = none) : Rel K N G R (upd H p (.lst (xs.map V.int))) (some (.ref p) :: L) (some (mL (xs.map .int)) :: s) :=
  h.newLp (by simp) (fun j x d hx hd => by
    rw [List.getElem?_map] at hx hd
    obtain ⟨k1, h1, rfl⟩ := Option.map_eq_some_iff.mp hx
    obtain ⟨k2, h2, rfl⟩ := Option.map_eq_some_iff.mp hd
    rw [h1] at h2; cases h2
    exact .int _) hp
theorem us_sort : UnSim K N (fun x H Q => rSrt K [x] H Q) fSort := fun G R H x a L s rel dz e Q hQ => by
  have seq : ∀ ds, seqOf a = some ds → ((match intsD ds with
      | some ns => if ns.length < 64 then some (mL ((sortZ ns).map .int)) else none
      | none => (strsD ds).bind fun xs => if xs.length < 64 then some (mL ((sortS xs).map .str)) else none) = some dz) → rSrt K [x] H Q := by
    intro ds h1 e
    cases e2 : intsD ds with
    | some ns =>
      rw [e2] at e
      simp only at e
      split at e
      · rename_i h64
        cases e
        obtain ⟨p, rfl, hq⟩ := seq_ints rel.vw h1 e2
        refine .inl ⟨p, ns, rfl, hq, h64, fun ns' q hp hs hq => ?_⟩
        rw [sortZ_uni hp hs]
        exact hQ R _ _ (Ex.refl R) (newL_int rel.pop hq)
      · cases e
    | none =>
      rw [e2] at e
      simp only at e
      cases e3 : strsD ds with
      | none => rw [e3] at e; cases e
      | some xs =>
        rw [e3] at e
        simp only [Option.bind_some] at e
        split at e
        · rename_i h64
          cases e
          have hv := rel.vw
          have : ∃ p, x = .ref p ∧ SqL K H p (xs.map V.str) := by
            cases a with
            | bx o k es =>
              obtain ⟨p, zs, rfl, hat, l, c⟩ := hv.bx
              cases k with
              | lst => cases h1; rw [strsD_vw e3 l c] at hat; exact ⟨p, rfl, .inl (.inl hat)⟩
              | scr => cases h1; rw [strsD_vw e3 l c] at hat; exact ⟨p, rfl, hat⟩
              | _ => cases h1
            | _ => cases h1
          obtain ⟨p, rfl, hq⟩ := this
          refine .inr (.inl ⟨p, xs, rfl, hq, h64, fun ys q hp hs hq => ?_⟩)
          rw [sortS_uni hp (sorted_pw hs)]
          exact hQ R _ _ (Ex.refl R) (newL_str rel.pop hq)
        · cases e
  unfold fSort at e
  split at e
  · rename_i o ks ds
    cases ek : keyStrs ks with
    | none => rw [ek] at e; cases e
    | some xs =>
      rw [ek] at e
      simp only [Option.bind_some] at e
      split at e
      · rename_i h64
        cases e
        obtain ⟨p, zs, rfl, hat, l, _⟩ := rel.vw.bx
        refine .inr (.inr ⟨p, _, xs, rfl, hat.2.1, ?_, h64, fun ys q hp hs hq => ?_⟩)
        · rw [List.map_fst_zip (by rw [hat.1]; exact Nat.le_refl _)]
          exact keyStrs_eq ek
        · rw [sortS_uni hp (sorted_pw hs)]
          exact hQ R _ _ (Ex.refl R) (newL_str rel.pop hq)
      · cases e
  · cases e1 : seqOf a with
    | none => rw [e1] at e; cases e
    | some ds =>
      rw [e1] at e
      exact seq ds e1 e
def fStr : D → Option D
  | .int i => if i.natAbs.log2 < 1920 then some (.str (toString i)) else none
  | .str x => some (.str x)
  | _ => none
def rStr : List V → Hp → VK → Prop := fun xs H Q => (∃ i : Int, xs = [.int i] ∧ i.natAbs.log2 < 1920 ∧ Q (.str (toString i)) H) ∨ ∃ a, xs = [.str a] ∧ Q (.str a) H
theorem vs_str : VSim1 K N (fun x H Q => rStr [x] H Q) fStr := fun H x a dz w hv e ew Q hQ => by
  cases a with
  | int i =>
    have e : (if i.natAbs.log2 < 1920 then some (D.str (toString i)) else none) = some dz := e
    split at e
    · rename_i h; cases e; cases ew
      rw [hv.int]
      exact .inl ⟨i, rfl, h, hQ⟩
    · cases e
  | str z => cases e; cases ew; rw [hv.str]; exact .inr ⟨z, rfl, hQ⟩
  | _ => cases e

/-! ### join, slices, f-strings -/
def seqT : D → Option (List D)
  | .bx _ .tup ds => some ds
  | .bx _ .lst ds => some ds
  | .bx _ .scr ds => some ds
  | _ => none
def fJoin (a : Str) (b : D) : Option D := ((seqT b).bind fun ds => strsD ds).bind fun ys => if (ys.map (·.length)).sum + ys.length * a.length ≤ 16777216 then some (.str (PySem.Txt.join a ys)) else none
def dJoin (m mb : DE) : DE := fun s => (m s).bind fun a s1 => match a with
  | .str a => (mb s1).bind fun b s2 => o2r (fJoin a b) s2
  | _ => .no
def rJoin (K : PySem.W.Frag) : V → List V → Hp → VK → Prop := fun x xs H Q => ∃ a p, ∃ ys : List Str, x = .str a ∧ xs = [.ref p] ∧ (SqL K H p (ys.map V.str) ∨ SqT K H p (ys.map V.str)) ∧
      (ys.map (·.length)).sum + ys.length * a.length ≤ 16777216 ∧ Q (.str (PySem.Txt.join a ys)) H
theorem sim_join (ha : SimE K N W ta m) (hb : SimE K N W tb mb) : SimE K N W (tM1 (rJoin K) ta tb) (dJoin m mb) := fun G R H σ s Q rel hk =>
  ha.bind rel hk fun a s1 R1 H1 x e1 r1 hk1 => by
    split at hk1
    · rename_i z
      have ex := r1.vw.str
      subst ex
      refine ⟨⟨z, rfl⟩, ?_⟩
      refine hb.bind1 r1 hk1 fun b s2 R2 H2 y e2 r2 hk2 => ?_
      obtain ⟨dz, h1, h2⟩ := o2r_some hk2
      unfold fJoin at h1
      cases e3 : ((seqT b).bind fun ds => strsD ds) with
      | none => rw [e3] at h1; cases h1
      | some ys =>
        rw [e3] at h1
        simp only [Option.bind_some] at h1
        split at h1
        · rename_i hz
          cases h1
          have hv := r2.pop.vw
          have : ∃ p, y = .ref p ∧ (SqL K H2 p (ys.map V.str) ∨ SqT K H2 p (ys.map V.str)) := by
            cases b with
            | bx o k es =>
              obtain ⟨p, zs, rfl, hat, l, c⟩ := hv.bx
              cases k with
              | lst =>
                have e4 : strsD es = some ys := e3
                rw [strsD_vw e4 l c] at hat; exact ⟨p, rfl, .inl (.inl (.inl hat))⟩
              | scr =>
                have e4 : strsD es = some ys := e3
                rw [strsD_vw e4 l c] at hat; exact ⟨p, rfl, .inl hat⟩
              | tup =>
                have e4 : strsD es = some ys := e3
                rw [strsD_vw e4 l c] at hat; exact ⟨p, rfl, .inr hat⟩
              | _ => cases e3
            | _ => cases e3
          obtain ⟨p, rfl, hq⟩ := this
          exact ⟨z, p, ys, rfl, rfl, hq, hz, h2 R2 H2 _ (e1.trans e2) (r2.pop.pop.push (.str _))⟩
        · cases h1
    · exact hk1.elim
/-- a part of a slice -/
abbrev DP := S → Rs (Option Int)
def SimP (K : PySem.W.Frag) (N : Nm) (W : WX) (to : TO) (m : DP) : Prop := ∀ G R H σ s (Q : Option Int → Hp → Prop), Rel K N G R H σ s → Kg K N G R σ W (fun o s' => ∀ R' H', Ex R R' → Rel K N G R' H' σ s' → Q o H') (m s) → to σ H Q
def dP0 : DP := fun s => .ok none s
def dP1 (m : DE) : DP := fun s => (m s).bind fun d s1 => match d with
  | .int i => .ok (some i) s1
  | _ => .no
theorem sim_p0 : SimP K N W tNoPart dP0 := fun G R H σ s Q rel hk => hk R H (Ex.refl R) rel
theorem sim_p1 (h : SimE K N W te m) : SimP K N W (tPart te) (dP1 m) := fun G R H σ s Q rel hk => h.bind rel hk fun d s' R' H' v e r hk2 => by
  split at hk2
  · rename_i i
    exact ⟨i, r.vw.int, hk2 R' H' e r.pop⟩
  · exact hk2.elim
def cutD (ds : List D) (lo hi : Option Int) : List D := (ds.drop (HT.sIx ds.length 0 lo)).take (HT.sIx ds.length ds.length hi - HT.sIx ds.length 0 lo)
def fSl (a : D) (lo hi : Option Int) : Option D := match a with
  | .str z => if z.length ≤ lim then some (.str (cutS z lo hi)) else none
  | .bx _ .lst ds => some (mL (cutD (ds.map rd) lo hi))
  | .bx _ .scr ds => some (mL (cutD (ds.map rd) lo hi))
  | .bx _ .tup ds => some (dT (cutD ds lo hi))
  | _ => none
def dSl (m : DE) (l h : DP) : DE := fun s => (m s).bind fun d s1 => (l s1).bind fun lo s2 => (h s2).bind fun hi s3 => o2r (fSl d lo hi) s3
def rSlAll (K : PySem.W.Frag) : V → Option Int → Option Int → Hp → VK → Prop := fun x lo hi H Q => rSlL K x lo hi H Q ∨ (rSlS x lo hi H Q ∨ rSlA K x lo hi H Q)
theorem SimP.bind1 {α : Type} {P : α → S → Prop} {f : Option Int → S → Rs α} {Q : Option Int → Hp → Prop} {dx : D} {to : TO} {mp : DP} (h : SimP K N W to mp) (rel : Rel K N G R H (some x :: σ) (some dx :: s)) (hk : Kg K N G R σ W P ((mp s).bind f))
    (fin : ∀ o s' R' H', Ex R R' → Rel K N G R' H' (some x :: σ) (some dx :: s') → Kg K N G R' σ W P (f o s') → Q o H') : to σ H Q := by
  obtain ⟨G', eg, r1, back⟩ := frame1 rel
  refine h G' R H σ s Q r1 ?_
  cases e : mp s with
  | ok d s' =>
    rw [e] at hk
    exact fun R' H' e1 r2 => fin d s' R' H' e1 (back R' H' _ _ e1 r2) (Kg.mono (r := f d s') hk e1)
  | ex y s' =>
    rw [e] at hk
    exact fun R' H' c dd e1 r2 => hk R' H' c dd e1 (back R' H' _ _ e1 r2).pop
  | no => rw [e] at hk; exact hk.elim
theorem cut_get {xs : List V} {ds : List D} {lo hi : Option Int} (l : xs.length = ds.length) {Pd : V → D → Prop} (c : ∀ (j : Nat) x d, xs[j]? = some x → ds[j]? = some d → Pd x d) :
    (cutV xs lo hi).length = (cutD ds lo hi).length ∧ ∀ (j : Nat) x d, (cutV xs lo hi)[j]? = some x → (cutD ds lo hi)[j]? = some d → Pd x d := by
  unfold cutV cutD
  rw [l]
  refine ⟨by simp [l], fun j x d hx hd => ?_⟩
  rw [List.getElem?_take] at hx hd
  split at hx
  · rename_i hj
    rw [if_pos hj] at hd
    rw [List.getElem?_drop] at hx hd
    exact c _ x d hx hd
  · cases hx
theorem sim_slice {t1 t2 : TO} {l h : DP} (ha : SimE K N W ta m) (hl : SimP K N W t1 l) (hh : SimP K N W t2 h) : SimE K N W (tSl (rSlAll K) ta t1 t2) (dSl m l h) := fun G R H σ s Q rel hk =>
  ha.bind rel hk fun a s1 R1 H1 x e1 r1 hk1 => hl.bind1 r1 hk1 fun lo s2 R2 H2 e2 r2 hk2 => hh.bind1 r2 hk2 fun hi s3 R3 H3 e3 r3 hk3 => by
    obtain ⟨dz, h1, h2⟩ := o2r_some hk3
    have e03 := (e1.trans e2).trans e3
    have lists : ∀ {o k ds}, a = .bx o k ds → (k = .lst ∨ k = .scr) → dz = mL (cutD (ds.map rd) lo hi) → rSlAll K x lo hi H3 Q := by
      intro o k ds ea hkk edz
      subst ea edz
      obtain ⟨p, xs, rfl, hat, l, r4⟩ := r3.opn
      obtain ⟨R4, e4, r5, c⟩ := Rel.rdAll xs ds l r4
      have hsq : SqL K H3 p xs := by
        rcases hkk with rfl | rfl
        · exact .inl (.inl hat)
        · exact hat
      refine .inl ⟨p, xs, rfl, hsq, fun q hq => h2 R4 _ _ (e03.trans e4) ?_⟩
      have c' : ∀ (j : Nat) x d, xs[j]? = some x → (ds.map rd)[j]? = some d → En K N R4 x d := fun j x d hx hd => by
        rw [List.getElem?_map] at hd
        obtain ⟨d', hd', rfl⟩ := Option.map_eq_some_iff.mp hd
        exact c j x d' hx hd'
      obtain ⟨hlen, hget⟩ := cut_get (lo := lo) (hi := hi) (by simpa using l) c'
      exact r5.newLp hlen hget hq
    unfold fSl at h1
    split at h1
    · rename_i z
      split at h1
      · rename_i hz
        cases h1
        refine .inr (.inl ⟨z, r3.vw.str, hz, h2 R3 H3 _ e03 (r3.pop.push (.str _))⟩)
      · cases h1
    · cases h1; exact lists rfl (.inl rfl) rfl
    · cases h1; exact lists rfl (.inr rfl) rfl
    · rename_i o ds
      cases h1
      obtain ⟨f, h4, _⟩ := r3.top
      have en := en_tup h4
      cases en with
      | @bx p _ xs _ hat l c =>
        have hq : SqT K H3 p xs := At.mono (k := .tup) (N := N) r3.r.le hat
        refine .inr (.inr ⟨p, xs, rfl, hq, fun hw => ?_, fun hw q hq => ?_⟩)
        · have : cutD ds lo hi = ds := by
            unfold cutD
            rw [l] at hw
            rw [hw.1, hw.2]
            simp
          rw [this] at h2
          exact h2 R3 H3 _ e03 (r3.pop.push (.bx hat l c))
        · obtain ⟨hlen, hget⟩ := cut_get (lo := lo) (hi := hi) l c
          have rp : R3 q = none := r3.r.none hq
          exact h2 _ _ _ (e03.trans (Ex.new rp)) ((r3.pop.newP hq).push (.bx (Or.inl (Or.inl upd_same)) hlen fun j x d hx hd => (hget j x d hx hd).mono (Ex.new rp).le))
    · cases h1
/-- {e} -/
def dFmt (m : DE) : DE := fun s => (m s).bind fun d s1 => match d with
  | .str y => if y.length ≤ lim then .ok (.str y) s1 else .no
  | .int i => if i.natAbs.log2 < 1920 then .ok (.str (toString i)) s1 else .no
  | _ => .no
theorem sim_fmt (h : SimE K N W te m) : SimE K N W (tFmt te) (dFmt m) := fun G R H σ s Q rel hk => h.bind rel hk fun d s' R' H' v e r hk2 => by
  split at hk2
  · rename_i y
    split at hk2
    · rename_i hz
      exact .inl ⟨y, r.vw.str, hz, hk2 R' H' _ e (r.pop.push (.str _))⟩
    · exact hk2.elim
  · rename_i i
    split at hk2
    · rename_i hz
      exact .inr ⟨i, r.vw.int, hz, hk2 R' H' _ e (r.pop.push (.str _))⟩
    · exact hk2.elim
  · exact hk2.elim
def dJs : List DE → Str → DE
  | [], acc => fun s => .ok (.str acc) s
  | m :: ms, acc => fun s => (m s).bind fun d s1 => match d with
    | .str y => if (acc ++ y).length ≤ lim then dJs ms (acc ++ y) s1 else .no
    | _ => .no
inductive SimJ (K : PySem.W.Frag) (N : Nm) (W : WX) : List TE → List DE → Prop where
  | nil : SimJ K N W [] []
  | cons {t m ts ms} (h : SimE K N W t m) (r : SimJ K N W ts ms) : SimJ K N W (t :: ts) (m :: ms)
theorem sim_js {ts : List TE} {mls : List DE} (h : SimJ K N W ts mls) : ∀ (acc : Str), SimE K N W (fun σ H Q => tJs ts acc σ H fun out H1 => Q (.str out) H1) (dJs mls acc) := by
  induction h with
  | nil => exact fun acc G R H σ s Q rel hk => hk R H _ (Ex.refl R) (rel.push (.str _))
  | cons h r ih =>
    exact fun acc G R H σ s Q rel hk => h.bind rel hk fun d s' R' H' v e r hk2 => by
      split at hk2
      · rename_i y
        split at hk2
        · rename_i hz
          refine ⟨y, r.vw.str, hz, ih (acc ++ y) G R' H' σ s' Q r.pop ?_⟩
          exact Kg.imp hk2 fun a s2 p R2 H2 v2 e2 => p R2 H2 v2 (e.trans e2)
        · exact hk2.elim
      · exact hk2.elim
end
/-! ### the rules by syntax -/
section
variable {K : PySem.W.Frag} {mg : Str → Option Value} {P : Program} {w : World} {base : Heap} {k : Nat} {ι : Type} {Xs : ι → Cx} {W : WX} {N : Nm}
variable {a b c e l o : Expr} {es rest : List Expr} {pos p p2 pos' tpos apos : Pos} {ma mb mc mv mk m : DE} {ms : DA} {ls : Lends} {x : Str} {lo hi : Option Expr} {dl dh : DP}
def eqS (neg : Bool) (a b : D) : Option D := match a with
  | .int i => (match b with
    | .int j => some (.bl (if neg then !decide (i = j) else decide (i = j)))
    | _ => none)
  | .str i => (match b with
    | .str j => some (.bl (if neg then !decide (i = j) else decide (i = j)))
    | _ => none)
  | .bl i => (match b with
    | .bl j => some (.bl (if neg then !decide (i = j) else decide (i = j)))
    | _ => none)
  | _ => none
theorem vs_eqS : VSim2 K N rEq (eqS false) := fun H x y a b dz w ha hb e ew Q hQ => by
  cases a <;> try (cases e; done)
  all_goals cases b <;> try (cases e; done)
  · cases e; cases ew; rw [ha.bl, hb.bl]; exact ⟨rfl, by simpa using hQ⟩
  · cases e; cases ew; rw [ha.int, hb.int]; exact ⟨rfl, by simpa using hQ⟩
  · cases e; cases ew; rw [ha.str, hb.str]; exact ⟨rfl, by simpa using hQ⟩
theorem vs_neS : VSim2 K N rNe (eqS true) := fun H x y a b dz w ha hb e ew Q hQ => by
  cases a <;> try (cases e; done)
  all_goals cases b <;> try (cases e; done)
  · cases e; cases ew; rw [ha.bl, hb.bl]; exact ⟨rfl, by simpa using hQ⟩
  · cases e; cases ew; rw [ha.int, hb.int]; exact ⟨rfl, by simpa using hQ⟩
  · cases e; cases ew; rw [ha.str, hb.str]; exact ⟨rfl, by simpa using hQ⟩
theorem c_eqX (Φ : Fam K mg P w base k Xs W) : CmpRule K N Xs .Eq (fun a b => (eqS false a b).orElse fun _ => (fEq a b).orElse fun _ => eq0 false a b) := ⟨_, fun i => by
  have h := (op_eq (X := Xs i)).or ((op_eqD (X := Xs i) (Room.hu64 (Φ.room i))).or (dl_eq0 (X := Xs i) (by have := Room.hu1 (Φ.room i); omega))); rw [Φ.K i] at h; exact h, vs_eqS.or (vs_eq.or vs_eq0)⟩
theorem c_neX (Φ : Fam K mg P w base k Xs W) : CmpRule K N Xs .NotEq (fun a b => (eqS true a b).orElse fun _ => (fNe a b).orElse fun _ => eq0 true a b) := ⟨_, fun i => by
  have h := (op_ne (X := Xs i)).or ((op_neD (X := Xs i) (Room.hu64 (Φ.room i))).or (dl_ne0 (X := Xs i) (by have := Room.hu1 (Φ.room i); omega))); rw [Φ.K i] at h; exact h, vs_neS.or (vs_ne.or vs_eq0)⟩
theorem e_mulA (ha : qE K N W Xs a ma) (hb : qE K N W Xs b mb) : qE K N W Xs (.BinOp a .Mult b pos) (dOp fMulA ma mb) := e_bin (fun _ => op_mulW.or op_rep) (os_mul.or os_rep) ha hb
theorem cr_tup (Φ : Fam K mg P w base k Xs W) : CallRule K N Xs (.type "tuple") (f1 fTup) := ⟨rTup K, fun i => by have h := call_tuple_of (X := Xs i); rw [Φ.K i] at h; exact h, cs_un us_tup⟩
theorem cr_lst (Φ : Fam K mg P w base k Xs W) : CallRule K N Xs (.type "list") (f1 fList) := ⟨rList K, fun i => by have h := (call_list_of (X := Xs i)).or (call_listD (Φ.calm i)); rw [Φ.K i] at h; exact h, cs_un us_list⟩
theorem cr_dct : CallRule K N Xs (.type "dict") (f1 fDict) := ⟨rDict, fun i => call_dictD, cs_un us_dict⟩
theorem cr_srt (Φ : Fam K mg P w base k Xs W) : CallRule K N Xs (.builtin "sorted") (f1 fSort) := ⟨rSrt K, fun i => by have h := (cr_sorted (X := Xs i)).or (cr_sortedS.or (call_sortedD (Φ.calm i))); rw [Φ.K i] at h; exact h, cs_un us_sort⟩
theorem cr_str : CallRule1 K N Xs (.type "str") fStr := ⟨rStr, fun i => call_str_int.or SkE.call_str_str, vs_str⟩
theorem e_join (Φ : Fam K mg P w base k Xs W) (ho : qE K N W Xs o ma) (he : qE K N W Xs e mb) (hs : ∀ i, starEach [e] (Xs i).env = [(false, eval e (Xs i).env)] := by intro _; rfl) (hbase : ∀ i, attributeBase o "join" (Xs i).env (eval o (Xs i).env) = eval o (Xs i).env := by intro _; rfl) (hline : (apos.endLine == pos.line) = true := by rfl) :
    qE K N W Xs (.Call (.Attribute o "join" apos) [e] [] pos) (dJoin ma mb) :=
  let ⟨_, h1, h2⟩ := ho; let ⟨_, h3, h4⟩ := he; ⟨_, fun i => by have h := pe_join (h1 i) (h3 i) (hs i) (hbase i) hline; rw [Φ.K i] at h; exact h, sim_join h2 h4⟩
def qP (K : PySem.W.Frag) (N : Nm) (W : WX) (Xs : ι → Cx) (lo : Option Expr) (m : DP) : Prop := ∃ to, (∀ i, PO (Xs i) lo to) ∧ SimP K N W to m
theorem p_none : qP K N W Xs none dP0 := ⟨_, fun _ => po_none, sim_p0⟩
theorem p_some (h : qE K N W Xs e m) : qP K N W Xs (some e) (dP1 m) := let ⟨_, h1, h2⟩ := h; ⟨_, fun i => po_some (h1 i), sim_p1 h2⟩
theorem e_slice (Φ : Fam K mg P w base k Xs W) (he : qE K N W Xs e m) (hl : qP K N W Xs lo dl) (hh : qP K N W Xs hi dh) : qE K N W Xs (.Subscript e (.Slice lo hi none p2) pos) (dSl m dl dh) :=
  let ⟨_, h1, h2⟩ := he; let ⟨_, h3, h4⟩ := hl; let ⟨_, h5, h6⟩ := hh
  ⟨_, fun i => by have hr := (sl_list (X := Xs i)).or ((sl_str (X := Xs i)).or (sl_tupA (X := Xs i))); rw [Φ.K i] at hr; exact pe_slice hr (h1 i) (h3 i) (h5 i), sim_slice h2 h4 h6⟩
theorem e_fmt (h : qE K N W Xs e m) : qE K N W Xs (.FormattedValue e (-1) none pos) (dFmt m) := let ⟨_, h1, h2⟩ := h; ⟨_, fun i => pe_fmt (h1 i), sim_fmt h2⟩
def qJ (K : PySem.W.Frag) (N : Nm) (W : WX) (Xs : ι → Cx) (es : List Expr) (mls : List DE) : Prop := ∃ ts, (∀ i, PJ (Xs i) es ts) ∧ SimJ K N W ts mls
theorem j_nil : qJ K N W Xs [] [] := ⟨_, fun _ => .nil, .nil⟩
theorem j_cons {mls : List DE} (h : qE K N W Xs e m) (h' : qJ K N W Xs es mls) : qJ K N W Xs (e :: es) (m :: mls) := let ⟨_, h1, h2⟩ := h; let ⟨_, h3, h4⟩ := h'; ⟨_, fun i => .cons (h1 i) (h3 i), .cons h2 h4⟩
theorem e_fstr {v1 v2 : Expr} {mls : List DE} (h : qJ K N W Xs (v1 :: v2 :: rest) mls) : qE K N W Xs (.JoinedStr (v1 :: v2 :: rest) pos) (dJs mls Str.empty) := let ⟨_, h1, h2⟩ := h; ⟨_, fun i => pe_joined (h1 i), sim_js h2 _⟩
theorem e_fstr1 (h : qE K N W Xs e m) : qE K N W Xs (.JoinedStr [e] pos) m := let ⟨_, h1, h2⟩ := h; ⟨_, fun i => pe_joined1 (h1 i), h2⟩
end
end DL

set_option maxHeartbeats 4000000
/-! DL18: quiet expressions, own lists in own lists, two names of one inner list; the rule of a def. -/
namespace DL
open PySem L2
section
variable {K : PySem.W.Frag} {N : Nm} {R R' R1 H H' H1 H2 G G' : Hp} {v x y : V} {d e : D} {f : Addr → Prop} {L L' A B σ : List (Option V)} {s s1 : List (Option D)} {W : WX}
variable {te ta tb tc tv tk : TE} {m ma mb mc mv mk : DE} {tl : TA} {ls : Lends} {ms : DA} {pr : Nat → Bool} {ts : TS} {b : DC} {Z : L2.St → Hp → S → Prop}
abbrev DQ := S → Option D
abbrev ZP := L2.St → Hp → S → Prop
def SimQ (K : PySem.W.Frag) (N : Nm) (Z : ZP) (te : TE) (q : DQ) : Prop := ∀ G R H σ s (Q : VK) d w, Rel K N G R H σ s → Z σ H s → q s = some d → sv d = some w → Q w H → te σ H Q
theorem vw_sv {w : V} (ex : Ex R H) (e : sv d = some w) : Vw K N H w d := ⟨R, fun _ => False, ex, .p (sv_en e) fun _ z => z⟩
def dQ (q : DQ) : DE := fun s => match q s with
  | some d => if (sv d).isSome = true then .ok d s else .no
  | none => .no
abbrev Z0 : ZP := fun _ _ _ => True
theorem sim_q {q : DQ} (h : SimQ K N Z0 te q) : SimE K N W te (dQ q) := fun G R H σ s Q rel hk => by
  unfold dQ at hk
  cases e : q s with
  | none => rw [e] at hk; exact hk.elim
  | some d =>
    rw [e] at hk
    cases e2 : sv d with
    | none => simp only [e2, Option.isSome_none] at hk; exact hk.elim
    | some w =>
      simp only [e2, Option.isSome_some, if_true] at hk
      exact h G R H σ s Q d w rel trivial e e2 (hk R H w (Ex.refl R) (rel.push (sv_en e2)))
def qv (j : Nat) : DQ := fun s => match s[j]? with
  | some (some d) => some d
  | _ => none
theorem sq_v {j : Nat} : SimQ K N Z (tVar j) (qv j) := fun G R H σ s Q d w rel hz e ew q => by
  unfold qv at e
  split at e
  · rename_i d' e0
    cases e
    obtain ⟨v, h1, h2⟩ := rel.vwAt e0
    exact ⟨v, h1, by rw [sv_vw h2 ew]; exact q⟩
  · cases e
def qc (d : D) : DQ := fun _ => some d
theorem sq_c {w : V} (h : sv d = some w) : SimQ K N Z (tC w) (qc d) := fun G R H σ s Q d' w' rel hz e ew q => by
  cases e; rw [h] at ew; cases ew; exact q
def qop (f : D → D → Option D) (qa qb : DQ) : DQ := fun s => (qa s).bind fun a => (qb s).bind fun b => if (sv a).isSome = true ∧ (sv b).isSome = true then f a b else none
theorem sq_op {r : R2} {f : D → D → Option D} {qa qb : DQ} (hr : VSim2 K N r f) (ha : SimQ K N Z ta qa) (hb : SimQ K N Z tb qb) : SimQ K N Z (tOp r ta tb) (qop f qa qb) := fun G R H σ s Q d w rel hz e ew q => by
  unfold qop at e
  cases e1 : qa s with
  | none => rw [e1] at e; cases e
  | some a =>
    rw [e1] at e
    simp only [Option.bind_some] at e
    cases e2 : qb s with
    | none => rw [e2] at e; cases e
    | some b =>
      rw [e2] at e
      simp only [Option.bind_some] at e
      split at e
      · rename_i hs
        obtain ⟨wa, hwa⟩ := Option.isSome_iff_exists.mp hs.1
        obtain ⟨wb, hwb⟩ := Option.isSome_iff_exists.mp hs.2
        exact ha G R H σ s _ a wa rel hz e1 hwa (hb G R H σ s _ b wb rel hz e2 hwb (hr H wa wb a b d w (vw_sv rel.r hwa) (vw_sv rel.r hwb) e ew Q q))
      · cases e
def addI : D → D → Option D := fI fun i j => some (.int (i + j))
theorem vs_addI : VSim2 K N (rAddA K) addI := fun H x y a b dz w ha hb e ew Q hQ => by
  cases a <;> try (cases e; done)
  cases b <;> try (cases e; done)
  rename_i i j
  cases e; cases ew
  exact .inl ⟨i, j, ha.int, hb.int, hQ⟩
theorem vs_subI : VSim2 K N (rI0 fun i j => .int (i - j)) fSub := fun H x y a b dz w ha hb e ew Q hQ => by
  cases a <;> try (cases e; done)
  cases b <;> try (cases e; done)
  rename_i i j
  cases e; cases ew
  exact ⟨i, j, ha.int, hb.int, hQ⟩
/-- x[i], x in slot j; x[i][k] -/
def qs1 (j : Nat) (qa : DQ) : DQ := fun s => match s[j]? with
  | some (some (.bx _ k ds)) => (qa s).bind fun a => if (sv a).isSome = true then (place k ds.length a).bind fun i => ds[i]? else none
  | _ => none
theorem inner {a : D} {wa : V} {k : BK} {ds : List D} {p : Addr} {xs : List V} {i : Nat} {o : Bool} (hat : At K N H p k xs) (l : xs.length = ds.length) (hw : Vw K N H wa a) (ep : place k ds.length a = some i) (ed : ds[i]? = some d) : ∃ x, xs[i]? = some x ∧ ∀ Q : VK, Q x H → dlIxA K (.ref p) wa H Q := by
  have hi : i < ds.length := (List.getElem?_eq_some_iff.mp ed).1
  have hx : xs[i]? = some (xs[i]'(by omega)) := by simp [l, hi]
  exact ⟨_, hx, fun Q q => rIxA_place hat hw (by rw [l]; exact ep) hx q⟩
theorem sq_s1 {j : Nat} {qa : DQ} (ha : SimQ K N Z ta qa) : SimQ K N Z (tOp (dlIxA K) (tVar j) ta) (qs1 j qa) := fun G R H σ s Q d w rel hz e ew q => by
  unfold qs1 at e
  split at e
  · rename_i o k ds e0
    cases e1 : qa s with
    | none => rw [e1] at e; cases e
    | some a =>
      rw [e1] at e
      simp only [Option.bind_some] at e
      split at e
      · rename_i hs
        obtain ⟨wa, hwa⟩ := Option.isSome_iff_exists.mp hs
        cases ep : place k ds.length a with
        | none => rw [ep] at e; cases e
        | some i =>
          rw [ep] at e
          have e : ds[i]? = some d := e
          obtain ⟨v, h1, h2⟩ := rel.vwAt e0
          obtain ⟨p, xs, rfl, hat, l, c⟩ := h2.bx
          obtain ⟨x, hx, hix⟩ := inner (o := o) hat l (vw_sv rel.r hwa) ep e
          refine ⟨_, h1, ha G R H σ s _ a wa rel hz e1 hwa (hix Q ?_)⟩
          rw [sv_vw (c i x d hx e) ew]; exact q
      · cases e
  · cases e
def qs2 (j : Nat) (qa qb : DQ) : DQ := fun s => match s[j]? with
  | some (some (.bx _ k ds)) => (qa s).bind fun a => if (sv a).isSome = true then (place k ds.length a).bind fun i => match ds[i]? with
    | some (.bx _ k' es) => (qb s).bind fun b => if (sv b).isSome = true then (place k' es.length b).bind fun i' => es[i']? else none
    | _ => none else none
  | _ => none
theorem sq_s2 {j : Nat} {qa qb : DQ} (ha : SimQ K N Z ta qa) (hb : SimQ K N Z tb qb) : SimQ K N Z (tOp (dlIxA K) (tOp (dlIxA K) (tVar j) ta) tb) (qs2 j qa qb) := fun G R H σ s Q d w rel hz e ew q => by
  unfold qs2 at e
  split at e
  · rename_i o k ds e0
    cases e1 : qa s with
    | none => rw [e1] at e; cases e
    | some a =>
      rw [e1] at e
      simp only [Option.bind_some] at e
      split at e
      · rename_i hs
        obtain ⟨wa, hwa⟩ := Option.isSome_iff_exists.mp hs
        cases ep : place k ds.length a with
        | none => rw [ep] at e; cases e
        | some i =>
          rw [ep] at e
          simp only [Option.bind_some] at e
          split at e
          · rename_i o' k' es ed
            cases e2 : qb s with
            | none => rw [e2] at e; cases e
            | some b =>
              rw [e2] at e
              simp only [Option.bind_some] at e
              split at e
              · rename_i hs2
                obtain ⟨wb, hwb⟩ := Option.isSome_iff_exists.mp hs2
                cases ep2 : place k' es.length b with
                | none => rw [ep2] at e; cases e
                | some i' =>
                  rw [ep2] at e
                  have e : es[i']? = some d := e
                  obtain ⟨v, h1, h2⟩ := rel.vwAt e0
                  obtain ⟨p, xs, rfl, hat, l, c⟩ := h2.bx
                  obtain ⟨x, hx, hix⟩ := inner (o := o) hat l (vw_sv rel.r hwa) ep ed
                  obtain ⟨p2, ys, rfl, hat2, l2, c2⟩ := (c i x _ hx ed).bx
                  obtain ⟨x2, hx2, hix2⟩ := inner (o := o) hat2 l2 (vw_sv rel.r hwb) ep2 e
                  refine ⟨_, h1, ha G R H σ s _ a wa rel hz e1 hwa (hix _ (hb G R H σ s _ b wb rel hz e2 hwb (hix2 Q ?_)))⟩
                  rw [sv_vw (c2 i' x2 d hx2 e) ew]; exact q
              · cases e
          · cases e
      · cases e
  · cases e

/-! ### in place -/
theorem Rel.inPlace {j : Nat} (h : Rel K N G R H σ s) (hd : s[j]? = some (some d)) : ∃ v f, σ[j]? = some (some v) ∧ Ow K N R H v d f ∧
    ∀ H' d' g, (∀ b, ¬ f b → H' b = H b) → Ow K N R H' v d' g → (∀ b, g b → f b) → Rel K N G R H' σ (s.set j (some d')) := by
  obtain ⟨F, o⟩ := h.own
  obtain ⟨v, h1, h2⟩ := o.at_ j d hd
  have lv : Liv s j := ⟨d, hd⟩
  have hj : j < s.length := (List.getElem?_eq_some_iff.mp hd).1
  refine ⟨v, F j, h1, h2, fun H' d' g kp ow sub => ?_⟩
  have lv' : ∀ i, Liv (s.set j (some d')) i → Liv s i := fun i ⟨q, hq⟩ => by
    by_cases hi : j = i
    · subst hi; exact lv
    · rw [List.getElem?_set_ne hi] at hq; exact ⟨q, hq⟩
  have kr : ∀ b u, R b = some u → H' b = H b := fun b u hb => kp b fun z => by rw [(o.fr j b lv z).1] at hb; cases hb
  have kg : ∀ b u, G b = some u → H' b = H b := fun b u hb => kp b fun z => by rw [(o.fr j b lv z).2] at hb; cases hb
  refine ⟨by rw [List.length_set]; exact h.len, fun b u hb => (kr b u hb).trans (h.r b u hb), fun b u hb => (kg b u hb).trans (h.g b u hb), h.rg, fun i => if i = j then g else F i, fun i q hq => ?_, fun a c b ha hc p q => ?_, fun i b hi hb => ?_⟩
  · by_cases hi : j = i
    · subst hi
      rw [List.getElem?_set_self hj] at hq; cases hq
      exact ⟨v, h1, by simp only [if_true]; exact ow⟩
    · rw [List.getElem?_set_ne hi] at hq
      obtain ⟨v', h3, h4⟩ := o.at_ i q hq
      refine ⟨v', h3, ?_⟩
      simp only [if_neg (Ne.symm hi)]
      exact h4.mono (Ex.refl R).le fun b hb => kp b fun z => hi (o.dj j i b lv ⟨q, hq⟩ z hb)
  · have key : ∀ i, Liv (s.set j (some d')) i → (if i = j then g else F i) b → F i b := fun i _ hb => by
      by_cases hi : i = j
      · rw [if_pos hi] at hb; rw [hi]; exact sub b hb
      · rw [if_neg hi] at hb; exact hb
    exact o.dj a c b (lv' a ha) (lv' c hc) (key a ha p) (key c hc q)
  · by_cases hi' : i = j
    · simp only [if_pos hi'] at hb
      exact o.fr j b lv (sub b hb)
    · simp only [if_neg hi'] at hb
      exact o.fr i b (lv' i hi) hb
theorem own_inner {k : BK} {ds : List D} {i : Nat} {di : D} (h : Ow K N R H v (.bx true k ds) f) (hi : ds[i]? = some di) : ∃ a xs x g, v = .ref a ∧ At K N H a k xs ∧ xs.length = ds.length ∧ xs[i]? = some x ∧ Ow K N R H x di g ∧ (∀ b, g b → f b) ∧
    ∀ H' d' g', (∀ b, ¬ g b → H' b = H b) → Ow K N R H' x d' g' → (∀ b, g' b → g b) → ∃ f', Ow K N R H' v (.bx true k (ds.set i d')) f' ∧ ∀ b, f' b → f b := by
  have hlt : i < ds.length := (List.getElem?_eq_some_iff.mp hi).1
  cases h with
  | p h _ => cases h
  | @bx a dx _ xs _ _ F hat l c hf na dj =>
    have hx : xs[i]? = some (xs[i]'(by omega)) := by simp [l, hlt]
    have sub : ∀ b, F i b → f b := fun b hb => (hf b).mpr (.inr (.inr ⟨i, hlt, hb⟩))
    refine ⟨a, xs, _, F i, rfl, hat.at', l, hx, c i _ _ hx hi, sub, fun H' d' g' kp ow sb => ?_⟩
    let F' : Nat → Addr → Prop := fun m => if m = i then g' else F m
    have le : ∀ m b, F' m b → F m b := fun m b hb => by
      by_cases hm : m = i
      · subst hm
        have : g' b := by simpa [F'] using hb
        exact sb b this
      · have : F m b := by simpa [F', hm] using hb
        exact this
    refine ⟨fun b => b = a ∨ b = dx ∨ ∃ m, m < ds.length ∧ F' m b, ?_, fun b hb => ?_⟩
    · refine .bx F' (hat.mono (kp a (na i hlt).1) (kp dx (na i hlt).2)) (by simpa using l) (fun m x d hx' hd => ?_) (fun b => by rw [List.length_set]) (fun m hm => ?_) fun m m' b hm hm' p q => ?_
      · by_cases hm : i = m
        · subst hm
          rw [List.getElem?_set_self hlt] at hd; cases hd
          rw [hx] at hx'; cases hx'
          have : F' i = g' := by simp [F']
          rw [this]; exact ow
        · rw [List.getElem?_set_ne hm] at hd
          have : F' m = F m := by simp [F', Ne.symm hm]
          rw [this]
          have hml : m < ds.length := (List.getElem?_eq_some_iff.mp hd).1
          exact (c m x d hx' hd).mono (Ex.refl R).le fun b hb => kp b fun z => hm (dj i m b hlt hml z hb)
      · rw [List.length_set] at hm
        exact ⟨fun z => (na m hm).1 (le m _ z), fun z => (na m hm).2 (le m _ z)⟩
      · rw [List.length_set] at hm hm'
        exact dj m m' b hm hm' (le m b p) (le m' b q)
    · rcases hb with z | z | ⟨m, hm, z⟩
      · exact (hf b).mpr (.inl z)
      · exact (hf b).mpr (.inr (.inl z))
      · exact (hf b).mpr (.inr (.inr ⟨m, hm, le m b z⟩))
theorem own_setP {es : List D} {j : Nat} (h : Ow K N R H v (mL es) f) (hy : En K N R y e) (hj : j < es.length) : ∃ q ys, v = .ref q ∧ H q = some (.lst ys) ∧ ys.length = es.length ∧ f q ∧
    ∃ g, Ow K N R (upd H q (.lst (ys.set j y))) v (mL (es.set j e)) g ∧ ∀ b, g b → f b := by
  cases h with
  | p h _ => cases h
  | @bx a dx _ xs _ _ F hat l c hf na dj =>
    obtain ⟨hdx, hq⟩ := hat
    subst hdx
    refine ⟨dx, xs, rfl, hq, l, (hf dx).mpr (.inl rfl), ?_⟩
    let F' : Nat → Addr → Prop := fun m b => m ≠ j ∧ F m b
    refine ⟨fun b => b = dx ∨ b = dx ∨ ∃ m, m < es.length ∧ F' m b, .bx F' ⟨rfl, upd_same⟩ (by simpa using l) (fun m x d hx hd => ?_) (fun b => by rw [List.length_set]) (fun m hm => ?_) (fun m m' b hm hm' p q => ?_), fun b hb => ?_⟩
    · by_cases hm : j = m
      · subst hm
        rw [List.getElem?_set_self hj] at hd; cases hd
        rw [List.getElem?_set_self (by omega)] at hx; cases hx
        exact .p hy fun b hb => hb.1 rfl
      · rw [List.getElem?_set_ne hm] at hd hx
        have hml : m < es.length := (List.getElem?_eq_some_iff.mp hd).1
        exact ((c m x d hx hd).mono (Ex.refl R).le fun b hb => upd_ne fun z : b = dx => (na m hml).1 (by rw [← z]; exact hb)).imp fun b => ⟨fun hb => ⟨Ne.symm hm, hb⟩, fun hb => hb.2⟩
    · rw [List.length_set] at hm
      exact ⟨fun z => (na m hm).1 z.2, fun z => (na m hm).1 z.2⟩
    · rw [List.length_set] at hm hm'
      exact dj m m' b hm hm' p.2 q.2
    · rcases hb with z | z | ⟨m, hm, z⟩
      · exact (hf b).mpr (.inl z)
      · exact (hf b).mpr (.inl z)
      · exact (hf b).mpr (.inr (.inr ⟨m, hm, z.2⟩))
/-- x[i][k] = e, x an own list of own lists in slot j -/
def ix2 (j : Nat) (qa qb : DQ) (s : S) : Option (Nat × Nat × List D × List D) := match s[j]? with
  | some (some (.bx true .lst ds)) => (qa s).bind fun a => if (sv a).isSome = true then (place .lst ds.length a).bind fun i => match ds[i]? with
    | some (.bx true .lst es) => (qb s).bind fun b => match b with
      | .int n => (ixN es.length n).map fun i' => (i, i', ds, es)
      | _ => none
    | _ => none else none
  | _ => none
def dSet2 (j : Nat) (qa qb : DQ) (mv : DE) : DC := fun s => rb (mv s) fun e s1 => match ix2 j qa qb s1 with
  | some (i, i', ds, es) => .nx (s1.set j (some (mL (ds.set i (mL (es.set i' (rd e)))))))
  | none => .no
/-- the store -/
theorem set2_at {j : Nat} {qa qb : DQ} {i i' : Nat} {ds es : List D} (rel : Rel K N G R H σ s) (hz : Z σ H s) (hy : En K N R y e) (h : ix2 j qa qb s = some (i, i', ds, es)) (ha : SimQ K N Z ta qa) (hb : SimQ K N Z tb qb) :
    ∃ q ys, H q = some (.lst ys) ∧ ys.length = es.length ∧ Rel K N G R (upd H q (.lst (ys.set i' y))) σ (s.set j (some (mL (ds.set i (mL (es.set i' e)))))) ∧
      (∀ P : VK, P (.ref q) H → tOp (dlIxA K) (tVar j) ta σ H P) ∧ (∀ P : VK, ∀ Hz : (∀ n : Int, ixN es.length n = some i' → P (.int n) H), tb σ H P) ∧ i' < es.length ∧ ds[i]? = some (mL es) ∧ s[j]? = some (some (mL ds)) := by
  unfold ix2 at h
  split at h
  · rename_i ds0 e0
    cases e1 : qa s with
    | none => rw [e1] at h; cases h
    | some a =>
      rw [e1] at h
      simp only [Option.bind_some] at h
      split at h
      · rename_i hs
        obtain ⟨wa, hwa⟩ := Option.isSome_iff_exists.mp hs
        cases ep : place .lst ds0.length a with
        | none => rw [ep] at h; cases h
        | some i0 =>
          rw [ep] at h
          simp only [Option.bind_some] at h
          split at h
          · rename_i es0 ed
            cases e2 : qb s with
            | none => rw [e2] at h; cases h
            | some b =>
              rw [e2] at h
              simp only [Option.bind_some] at h
              split at h
              · rename_i n
                obtain ⟨i2, ei2, h3⟩ := Option.map_eq_some_iff.mp h
                cases h3
                have hi' := (ixN_seq ei2).2.1
                obtain ⟨v, f, h1, h2, back⟩ := rel.inPlace e0
                obtain ⟨a0, xs, x, g, rfl, hat, l, hx, ow, sub, back2⟩ := own_inner h2 ed
                obtain ⟨q, ys, rfl, hq, lq, gq, g', ow', sub'⟩ := own_setP ow hy hi'
                have kp : ∀ b, ¬ g b → (upd H q (.lst (ys.set i' y))) b = H b := fun b hb => upd_ne fun z => hb (z ▸ gq)
                obtain ⟨f', ow2, sub2⟩ := back2 _ _ _ kp ow' sub'
                refine ⟨q, ys, hq, lq, back _ _ _ (fun b hb => kp b fun z => hb (sub b z)) ow2 sub2, fun P hP => ?_, fun P hP => ?_, hi', ed, e0⟩
                · obtain ⟨x', hx', hix⟩ := inner (o := true) hat l (vw_sv rel.r hwa) ep ed
                  rw [hx] at hx'; cases hx'
                  exact ⟨_, h1, ha G R H σ s _ a wa rel hz e1 hwa (hix P hP)⟩
                · exact hb G R H σ s _ _ _ rel hz e2 rfl (hP n ei2)
              · cases h
          · cases h
      · cases h
  · cases h
theorem sim_set2 {j : Nat} {qa qb : DQ} (hv : SimE K N W tv mv) (ha : SimQ K N Z0 ta qa) (hb : SimQ K N Z0 tb qb) : SimC K N W pr (tAsg tv (gSub (tOp (dlIxA K) (tVar j) ta) tb rSetA)) (dSet2 j qa qb mv) := fun G R H σ s Dn rel hk =>
  hv.bindC rel hk fun e s1 R1 H1 y e1 r1 hk1 => by
    obtain ⟨R2, v2, e2, hv2, en, r2⟩ := Rel.read (i := 0) (d := e) r1 rfl
    cases hv2
    have r2 : Rel K N G R2 H1 (some y :: σ) (some (rd e) :: s1) := r2
    split at hk1
    · rename_i i i' ds es ei
      obtain ⟨q, ys, h1, h2, h3, h4, h5, h6, _⟩ := set2_at r2.pop trivial en ei ha hb
      refine h4 _ (h5 _ fun n hn => .inl ⟨q, ys, n, i', rfl, rfl, h1, by rw [h2]; exact hn, ?_⟩)
      exact hk1 R2 _ σ e2 (fun _ _ => rfl) h3
    · exact hk1.elim

/-! ### two names of one inner list -/
def AlZ (jr jw i : Nat) : ZP := fun σ H s => ∃ p xs q, σ[jw]? = some (some (.ref p)) ∧ σ[jr]? = some (some (.ref q)) ∧ H p = some (.lst xs) ∧ xs[i]? = some (.ref q)
/-- the inner list -/
def alL (jw i : Nat) (s : S) : Option (List D × List D) := match s[jw]? with
  | some (some (.bx true .lst ds)) => (match ds[i]? with
    | some (.bx true .lst es) => some (ds, es)
    | _ => none)
  | _ => none
theorem alL_spec {jw i : Nat} {ds es : List D} (h : alL jw i s = some (ds, es)) : s[jw]? = some (some (mL ds)) ∧ ds[i]? = some (mL es) := by
  unfold alL at h
  split at h
  · split at h
    · rename_i h1 _ _ h2
      cases h
      exact ⟨h1, h2⟩
    · cases h
  · cases h
def qal (jw i : Nat) (qb : DQ) : DQ := fun s => (alL jw i s).bind fun z => (qb s).bind fun b => if (sv b).isSome = true then (place .lst z.2.length b).bind fun k => z.2[k]? else none
theorem al_at {jr jw i : Nat} {ds es : List D} (rel : Rel K N G R H σ s) (hz : AlZ jr jw i σ H s) (h : alL jw i s = some (ds, es)) : ∃ q ys, σ[jr]? = some (some (.ref q)) ∧ H q = some (.lst ys) ∧ ys.length = es.length ∧ (∀ (k : Nat) x d, ys[k]? = some x → es[k]? = some d → Vw K N H x d) ∧
    ∀ y e k, En K N R y e → k < es.length → Rel K N G R (upd H q (.lst (ys.set k y))) σ (s.set jw (some (mL (ds.set i (mL (es.set k e)))))) ∧ AlZ jr jw i σ (upd H q (.lst (ys.set k y))) (s.set jw (some (mL (ds.set i (mL (es.set k e)))))) := by
  obtain ⟨h1, h2⟩ := alL_spec h
  obtain ⟨p, xs, q, z1, z2, z3, z4⟩ := hz
  obtain ⟨v, f, h3, h4, back⟩ := rel.inPlace h1
  rw [z1] at h3; cases h3
  obtain ⟨a, xs', x, g, ea, hat, l, hx, ow, sub, back2⟩ := own_inner h4 h2
  cases ea
  have e1 : xs' = xs := by
    have hat : H p = some (.lst xs') := hat
    rw [z3] at hat; cases hat; rfl
  subst e1
  rw [z4] at hx; cases hx
  have pq : p ≠ q := by
    intro e
    subst e
    have vw : Vw K N H (.ref p) (mL ds) := ⟨R, f, rel.r, h4⟩
    cases h4 with
    | p h _ => cases h
    | @bx _ dx _ ys _ _ F hat' l' c hf na dj =>
      obtain ⟨hd1, hd2⟩ := hat'
      rw [z3] at hd2; cases hd2
      have hlt : i < ds.length := (List.getElem?_eq_some_iff.mp h2).1
      have := c i _ _ z4 h2
      cases this with
      | p h _ => cases h
      | @bx _ dx2 _ ys2 _ _ F2 hat2 l2 c2 hf2 na2 dj2 =>
        exact (na i hlt).1 ((hf2 p).mpr (.inl rfl))
  obtain ⟨ys, hq, lq, cq⟩ : ∃ ys, H q = some (.lst ys) ∧ ys.length = es.length ∧ ∀ (k : Nat) x d, ys[k]? = some x → es[k]? = some d → Vw K N H x d := by
    obtain ⟨a, ys, ea, hat2, l2, c2⟩ := Vw.bx ⟨R, g, rel.r, ow⟩
    cases ea
    exact ⟨ys, hat2, l2, c2⟩
  refine ⟨q, ys, z2, hq, lq, cq, fun y e k en hk => ?_⟩
  obtain ⟨q', ys', eq', hq', lq', gq, g', ow', sub'⟩ := own_setP ow en hk
  cases eq'
  rw [hq] at hq'; cases hq'
  have kp : ∀ b, ¬ g b → (upd H q (.lst (ys.set k y))) b = H b := fun b hb => upd_ne fun z => hb (z ▸ gq)
  obtain ⟨f', ow2, sub2⟩ := back2 _ _ _ kp ow' sub'
  exact ⟨back _ _ _ (fun b hb => kp b fun z => hb (sub b z)) ow2 sub2, p, xs', q, z1, z2, by rw [upd_ne pq]; exact z3, z4⟩
theorem sq_al {jr jw i : Nat} {qb : DQ} (hb : SimQ K N (AlZ jr jw i) tb qb) : SimQ K N (AlZ jr jw i) (tOp (dlIxA K) (tVar jr) tb) (qal jw i qb) := fun G R H σ s Q d w rel hz e ew q => by
  unfold qal at e
  cases e1 : alL jw i s with
  | none => rw [e1] at e; cases e
  | some z =>
    obtain ⟨ds, es⟩ := z
    rw [e1] at e
    simp only [Option.bind_some] at e
    cases e2 : qb s with
    | none => rw [e2] at e; cases e
    | some b =>
      rw [e2] at e
      simp only [Option.bind_some] at e
      split at e
      · rename_i hs
        obtain ⟨wb, hwb⟩ := Option.isSome_iff_exists.mp hs
        cases ep : place .lst es.length b with
        | none => rw [ep] at e; cases e
        | some k =>
          rw [ep] at e
          have e : es[k]? = some d := e
          obtain ⟨q', ys, h1, h2, h3, h4, _⟩ := al_at rel hz e1
          obtain ⟨x, hx, hix⟩ := inner (o := true) (K := K) (N := N) (k := .lst) (p := q') h2 h3 (vw_sv rel.r hwb) ep e
          refine ⟨_, h1, hb G R H σ s _ b wb rel hz e2 hwb (hix Q ?_)⟩
          rw [sv_vw (h4 k x d hx e) ew]; exact q
      · cases e
/-- a step that keeps Z -/
def SimZ (K : PySem.W.Frag) (N : Nm) (pr : Nat → Bool) (Z : ZP) (ts : TS) (stp : S → Option S) : Prop := ∀ G R H σ s Dn s', Rel K N G R H σ s → Z σ H s → stp s = some s' → (∀ H' σ', (∀ i, pr i = true → σ'[i]? = σ[i]?) → Rel K N G R H' σ' s' → Z σ' H' s' → Dn.nx σ' H') → ts Dn σ H
/-- r[k] = e -/
def zSet (jw i : Nat) (qb qe : DQ) : S → Option S := fun s => (alL jw i s).bind fun z => (qe s).bind fun d => if (sv d).isSome = true then (match qb s with
  | some (.int n) => (ixN z.2.length n).map fun k => s.set jw (some (mL (z.1.set i (mL (z.2.set k d)))))
  | _ => none) else none
theorem sz_set {jr jw i : Nat} {qb qe : DQ} (he : SimQ K N (AlZ jr jw i) te qe) (hb : SimQ K N (AlZ jr jw i) tb qb) : SimZ K N pr (AlZ jr jw i) (tAsg te (gSub (tVar jr) tb rSetA)) (zSet jw i qb qe) := fun G R H σ s Dn s' rel hz e hk => by
  unfold zSet at e
  cases e1 : alL jw i s with
  | none => rw [e1] at e; cases e
  | some z =>
    obtain ⟨ds, es⟩ := z
    rw [e1] at e
    simp only [Option.bind_some] at e
    cases e2 : qe s with
    | none => rw [e2] at e; cases e
    | some d =>
      rw [e2] at e
      simp only [Option.bind_some] at e
      split at e
      · rename_i hs
        obtain ⟨wd, hwd⟩ := Option.isSome_iff_exists.mp hs
        split at e
        · rename_i n e3
          obtain ⟨k, ek, rfl⟩ := Option.map_eq_some_iff.mp e
          have hk' := (ixN_seq ek).2.1
          obtain ⟨q, ys, h1, h2, h3, h4, back⟩ := al_at rel hz e1
          obtain ⟨r2, z2⟩ := back wd d k (sv_en hwd) hk'
          refine he G R H σ s _ d wd rel hz e2 hwd ⟨_, h1, hb G R H σ s _ _ _ rel hz e3 rfl (.inl ⟨q, ys, n, k, rfl, rfl, h2, by rw [h3]; exact ek, ?_⟩)⟩
          exact hk _ σ (fun _ _ => rfl) r2 z2
        · cases e
      · cases e
/-- if t: .. -/
def zIf (q : DQ) (stp : S → Option S) : S → Option S := fun s => match q s with
  | some (.bl true) => stp s
  | some (.bl false) => some s
  | _ => none
theorem sz_if {q : DQ} {stp : S → Option S} (h : SimQ K N Z te q) (hs : SimZ K N pr Z ts stp) : SimZ K N pr Z (tIfS (tB te) ts tNext) (zIf q stp) := fun G R H σ s Dn s' rel hz e hk => by
  unfold zIf at e
  split at e
  · rename_i e1
    exact h G R H σ s _ _ _ rel hz e1 rfl ⟨true, rfl, hs G R H σ s Dn s' rel hz e hk⟩
  · rename_i e1
    cases e
    exact h G R H σ s _ _ _ rel hz e1 rfl ⟨false, rfl, hk H σ (fun _ _ => rfl) rel hz⟩
  · cases e
/-- for b in range(n): .. -/
def zForL (jb : Nat) (stp : S → Option S) : List D → S → Option S
  | [], s => some s
  | d :: ds, s => if jb < s.length then (stp (s.set jb (some d))).bind fun s' => zForL jb stp ds s' else none
def zFor (jb : Nat) (qn : DQ) (stp : S → Option S) : S → Option S := fun s => match qn s with
  | some (.int n) => if n < 4611686018427387904 ∧ -4611686018427387904 ≤ n then zForL jb stp ((List.range n.toNat).map fun k => .int (0 + (k : Nat))) s else none
  | _ => none
theorem sz_for {jr jw i jb : Nat} {qn : DQ} {stp : S → Option S} (hp : pr jb = false) (h1 : jb ≠ jr) (h2 : jb ≠ jw) (hn : SimQ K N (AlZ jr jw i) te qn) (hs : SimZ K N pr (AlZ jr jw i) ts stp) : SimZ K N pr (AlZ jr jw i) (tFor (iRng1 (tCons te tNil)) (gName jb) ts) (zFor jb qn stp) := fun G R H σ s Dn s' rel hz e hk => by
  unfold zFor at e
  split at e
  · rename_i n e1
    split at e
    · rename_i hb
      refine hn G R H σ s _ _ _ rel hz e1 rfl ⟨n, rfl, hb.2, hb.1, ?_⟩
      generalize hds : ((List.range n.toNat).map fun k => D.int (0 + (k : Nat))) = ds at e
      have hlen : ds.length = n.toNat := by rw [← hds]; simp
      have hyl := yl_range (K := K) (N := N) (R := R) (lo := 0) (n := n.toNat)
      rw [hds] at hyl
      refine ⟨fun k mm σk Hk => mm = ds.length - k ∧ k ≤ ds.length ∧ ∃ sk, (∀ j, pr j = true → σk[j]? = σ[j]?) ∧ Rel K N G R Hk σk sk ∧ AlZ jr jw i σk Hk sk ∧ zForL jb stp (ds.drop k) sk = some s', ⟨ds.length, by simp, by simp, s, fun _ _ => rfl, rel, hz, e⟩, ?_⟩
      rintro k mm σk Hk ⟨rfl, hle, sk, kp, rk, zk, ek⟩
      obtain ⟨y1, y2⟩ := hyl k R G Hk σk sk (Ex.refl R) rk
      by_cases hlt : k < ds.length
      · right
        have ed : ds[k]? = some ds[k] := by simp [hlt]
        obtain ⟨hgo, hyd⟩ := y1 _ ed
        refine ⟨hgo, fun σ' H' => k + 1 ≤ ds.length ∧ ∃ sk, (∀ j, pr j = true → σ'[j]? = σ[j]?) ∧ Rel K N G R H' σ' sk ∧ AlZ jr jw i σ' H' sk ∧ zForL jb stp (ds.drop (k + 1)) sk = some s', fun σ' H' hN => ⟨ds.length - (k + 1), by omega, rfl, hN⟩, fun x H2 hy => ?_⟩
        have eH : H2 = Hk := by
          obtain ⟨hh, _⟩ := hy; exact hh
        subst eH
        obtain ⟨R2, e2, r2⟩ := hyd x _ hy
        rw [List.drop_eq_getElem_cons hlt] at ek
        unfold zForL at ek
        split at ek
        · rename_i hj
          cases e3 : stp (sk.set jb (some ds[k])) with
          | none => rw [e3] at ek; cases ek
          | some s3 =>
            rw [e3] at ek
            have ek : zForL jb stp (ds.drop (k + 1)) s3 = some s' := ek
            have hx : En K N R x ds[k] := by
              obtain ⟨f, ow, _⟩ := r2.top
              obtain ⟨m, hm⟩ : ∃ m : Nat, ds[k] = .int m := by
                subst hds
                exact ⟨k, by simp⟩
              rw [hm] at ow ⊢
              rw [ow_int ow]; exact .int _
            have r3 : Rel K N G R H2 (σk.set jb (some x)) (sk.set jb (some ds[k])) := (rk.push hx).store hj
            have z3 : AlZ jr jw i (σk.set jb (some x)) H2 (sk.set jb (some ds[k])) := by
              obtain ⟨p, xs, q, z1, z2, z3, z4⟩ := zk
              exact ⟨p, xs, q, by rw [List.getElem?_set_ne h2]; exact z1, by rw [List.getElem?_set_ne h1]; exact z2, z3, z4⟩
            refine hs G R H2 _ _ _ s3 r3 z3 e3 fun H' σ' kp' r' z' => ⟨by omega, s3, fun j hj' => ?_, r', z', ek⟩
            rw [kp' j hj', set_keep hp hj', kp j hj']
        · cases ek
      · left
        have hkk : k = ds.length := by omega
        refine ⟨y2 (by omega), ?_⟩
        rw [hkk, List.drop_length] at ek
        cases ek
        exact hk Hk σk kp rk zk
    · cases e
  · cases e
/-- r = x[i]; .. -/
def dAlias (jr jw : Nat) (qa : DQ) (stp : Nat → S → Option S) : DC := fun s => match s[jw]? with
  | some (some (.bx true .lst ds)) => (match qa s with
    | some a => if (sv a).isSome = true ∧ jr < s.length ∧ jr ≠ jw then (match place .lst ds.length a with
      | some i => (match ds[i]? with
        | some (.bx true .lst _) => (match stp i (s.set jr none) with
          | some s' => .nx s'
          | none => .no)
        | _ => .no)
      | none => .no) else .no
    | none => .no)
  | _ => .no
theorem sim_alias {jr jw : Nat} {qa : DQ} {stp : Nat → S → Option S} {t2 : TS} (hp : pr jr = false) (ha : SimQ K N Z0 ta qa) (hz : ∀ i, SimZ K N pr (AlZ jr jw i) t2 (stp i)) (hts : SimC K N W pr ts b) :
    SimC K N W pr (tSeq (tAsg (tOp (dlIxA K) (tVar jw) ta) (gName jr)) (tSeq t2 ts)) (dSeq (dAlias jr jw qa stp) b) := fun G R H σ s Dn rel hk => by
  have key : ∀ ds a i es s', s[jw]? = some (some (mL ds)) → qa s = some a → (sv a).isSome = true → jr < s.length → jr ≠ jw → place .lst ds.length a = some i → ds[i]? = some (mL es) → stp i (s.set jr none) = some s' → KC K N G R σ W pr Dn (b s') → tSeq (tAsg (tOp (dlIxA K) (tVar jw) ta) (gName jr)) (tSeq t2 ts) Dn σ H := by
    intro ds a i es s' e0 e1 hs hj hne ep ed e2 hk
    obtain ⟨wa, hwa⟩ := Option.isSome_iff_exists.mp hs
    obtain ⟨v, h1, h2⟩ := rel.vwAt e0
    obtain ⟨p, xs, rfl, hat, l, c⟩ := h2.bx
    obtain ⟨x, hx, hix⟩ := inner (o := true) hat l (vw_sv rel.r hwa) ep ed
    obtain ⟨q, ys, rfl, _⟩ := (c i x _ hx ed).bx
    refine ⟨_, h1, ha G R H σ s _ a wa rel trivial e1 hwa (hix _ ?_)⟩
    refine hz i G R H (σ.set jr (some (.ref q))) (s.set jr none) _ s' rel.any ⟨p, xs, q, by rw [List.getElem?_set_ne hne]; exact h1, by rw [List.getElem?_set_self (by rw [rel.len]; exact hj)], hat, hx⟩ e2 fun H' σ' kp r' _ => ?_
    exact hts G R H' σ' s' Dn r' (KC.at hk fun j hj' => (kp j hj').trans (set_keep hp hj'))
  unfold dSeq dAlias at hk
  cases e0 : s[jw]? with
  | none => rw [e0] at hk; exact hk.elim
  | some o0 =>
    cases o0 with
    | none => rw [e0] at hk; exact hk.elim
    | some d0 =>
      rw [e0] at hk
      cases d0 with
      | bx o k ds =>
        cases o with
        | false => exact hk.elim
        | true =>
          cases k with
          | lst =>
            cases e1 : qa s with
            | none => simp only [e1] at hk; exact hk.elim
            | some a =>
              simp only [e1] at hk
              by_cases hc : (sv a).isSome = true ∧ jr < s.length ∧ jr ≠ jw
              · simp only [if_pos hc] at hk
                cases ep : place .lst ds.length a with
                | none => simp only [ep] at hk; exact hk.elim
                | some i =>
                  simp only [ep] at hk
                  cases ed : ds[i]? with
                  | none => simp only [ed] at hk; exact hk.elim
                  | some dd =>
                    simp only [ed] at hk
                    cases dd with
                    | bx o' k' es =>
                      cases o' with
                      | false => exact hk.elim
                      | true =>
                        cases k' with
                        | lst =>
                          simp only at hk
                          cases e2 : stp i (s.set jr none) with
                          | none => simp only [e2] at hk; exact hk.elim
                          | some s' =>
                            simp only [e2] at hk
                            exact key ds a i es s' e0 e1 hc.1 hc.2.1 hc.2.2 ep ed e2 hk
                        | _ => exact hk.elim
                    | _ => exact hk.elim
              · simp only [if_neg hc] at hk; exact hk.elim
          | _ => exact hk.elim
      | _ => exact hk.elim
end
end DL

set_option maxHeartbeats 4000000
/-! DL19: rules by syntax of quiet expressions, nested stores, two names of one list; the rule of a def. -/
namespace DL
open PySem L2
section
variable {K : PySem.W.Frag} {N : Nm} {H : Hp} {Z : ZP} {ta tb : TE} {qa qb : DQ}
def qmin (qa qb : DQ) : DQ := fun s => (qa s).bind fun a => (qb s).bind fun b => fMin2 a b
theorem sq_min {rm : List V → Hp → VK → Prop} (hrm : ∀ H (i j : Int) (Q : VK), Q (.int (if j < i then j else i)) H → rm [.int i, .int j] H Q) (ha : SimQ K N Z ta qa) (hb : SimQ K N Z tb qb) : SimQ K N Z (tCB rm (tCons ta (tCons tb tNil))) (qmin qa qb) := fun G R H σ s Q d w rel hz e ew q => by
  unfold qmin at e
  cases e1 : qa s with
  | none => rw [e1] at e; cases e
  | some a =>
    rw [e1] at e
    simp only [Option.bind_some] at e
    cases e2 : qb s with
    | none => rw [e2] at e; cases e
    | some b =>
      rw [e2] at e
      simp only [Option.bind_some] at e
      cases a <;> try (cases e; done)
      cases b <;> try (cases e; done)
      rename_i i j
      cases e; cases ew
      exact ha G R H σ s _ _ _ rel hz e1 rfl (hb G R H σ s _ _ _ rel hz e2 rfl (hrm H i j Q q))
end
section
variable {K : PySem.W.Frag} {mg : Str → Option Value} {P : Program} {w : World} {base : Heap} {k : Nat} {ι : Type} {Xs : ι → Cx} {W : WX} {N : Nm} {ZF : Nat → ZP}
variable {a b c e l o : Expr} {es rest : List Expr} {pos p p2 p3 pos' tpos apos spos : Pos} {ma mb mc mv mk m : DE} {ms : DA} {ls : Lends} {x y : Str} {qa qb qe qn : Nat → DQ} {pr : Nat → Bool} {j jr jw jb : Nat} {st : Stmt} {sts : List Stmt} {sb : DC} {stp : Nat → S → Option S}
def qq (K : PySem.W.Frag) (N : Nm) (ZF : Nat → ZP) (Xs : ι → Cx) (e : Expr) (q : Nat → DQ) : Prop := ∃ te, (∀ i, PE (Xs i) e te) ∧ ∀ i, SimQ K N (ZF i) te (q i)
abbrev ZN : Nat → ZP := fun _ => Z0
theorem qq_v (h : qV Xs e j) : qq K N ZF Xs e (fun _ => qv j) := ⟨_, h, fun _ => sq_v⟩
theorem qq_int {i : Int} {jj} : qq K N ZF Xs (.Constant (.int i) jj pos) (fun _ => qc (.int i)) := ⟨_, fun _ => pe_int, fun _ => sq_c rfl⟩
theorem qq_add (Φ : Fam K mg P w base k Xs W) (ha : qq K N ZF Xs a qa) (hb : qq K N ZF Xs b qb) : qq K N ZF Xs (.BinOp a .Add b pos) (fun i => qop addI (qa i) (qb i)) :=
  let ⟨_, h1, h2⟩ := ha; let ⟨_, h3, h4⟩ := hb; ⟨_, fun i => by have h := op_addA (X := Xs i); rw [Φ.K i] at h; exact pe_op h (h1 i) (h3 i), fun i => sq_op vs_addI (h2 i) (h4 i)⟩
theorem qq_sub (ha : qq K N ZF Xs a qa) (hb : qq K N ZF Xs b qb) : qq K N ZF Xs (.BinOp a .Sub b pos) (fun i => qop fSub (qa i) (qb i)) :=
  let ⟨_, h1, h2⟩ := ha; let ⟨_, h3, h4⟩ := hb; ⟨_, fun i => pe_op op_sub (h1 i) (h3 i), fun i => sq_op vs_subI (h2 i) (h4 i)⟩
theorem qq_cmp {op : CmpOp} {f : D → D → Option D} (c : CmpRule K N Xs op f) (ha : qq K N ZF Xs a qa) (hb : qq K N ZF Xs b qb) (hm : behindInMarks op b = false := by first | exact nomark _ | rfl) : qq K N ZF Xs (.Compare a [op] [b] pos) (fun i => qop f (qa i) (qb i)) :=
  let ⟨_, h1, h2⟩ := ha; let ⟨_, h3, h4⟩ := hb; let ⟨_, h5, h6⟩ := c.ok; ⟨_, fun i => pe_cmpR (h5 i) (h1 i) (h3 i) hm, fun i => sq_op h6 (h2 i) (h4 i)⟩
theorem qq_s1 (Φ : Fam K mg P w base k Xs W) (ha : qV Xs a j) (hb : qq K N ZF Xs b qb) (hs : ∀ i : ι, PlainIx b := by intro _ _ _; rfl) : qq K N ZF Xs (.Subscript a b pos) (fun i => qs1 j (qb i)) :=
  let ⟨_, h3, h4⟩ := hb; ⟨_, fun i => by have h := dl_ixany (Room.hu1 (Φ.room i)); rw [Φ.K i] at h; exact pe_ix h (ha i) (h3 i) (hs i), fun i => sq_s1 (h4 i)⟩
theorem qq_s2 (Φ : Fam K mg P w base k Xs W) (ha : qV Xs a j) (hb : qq K N ZF Xs b qa) (hc : qq K N ZF Xs c qb) (hs : ∀ i : ι, PlainIx b := by intro _ _ _; rfl) (hs2 : ∀ i : ι, PlainIx c := by intro _ _ _; rfl) : qq K N ZF Xs (.Subscript (.Subscript a b pos) c pos') (fun i => qs2 j (qa i) (qb i)) :=
  let ⟨_, h3, h4⟩ := hb; let ⟨_, h5, h6⟩ := hc; ⟨_, fun i => by have h := dl_ixany (Room.hu1 (Φ.room i)); rw [Φ.K i] at h; exact pe_ix h (pe_ix h (ha i) (h3 i) (hs i)) (h5 i) (hs2 i), fun i => sq_s2 (h4 i) (h6 i)⟩
theorem qq_al (Φ : Fam K mg P w base k Xs W) (ha : qV Xs a jr) (hb : qq K N (AlZ jr jw) Xs b qb) (hs : ∀ i : ι, PlainIx b := by intro _ _ _; rfl) : qq K N (AlZ jr jw) Xs (.Subscript a b pos) (fun i => qal jw i (qb i)) :=
  let ⟨_, h3, h4⟩ := hb; ⟨_, fun i => by have h := dl_ixany (Room.hu1 (Φ.room i)); rw [Φ.K i] at h; exact pe_ix h (ha i) (h3 i) (hs i), fun i => sq_al (h4 i)⟩
theorem qq_min (Φ : Fam K mg P w base k Xs W) (hm : mg "min" = none) (ha : qq K N ZF Xs a qa) (hb : qq K N ZF Xs b qb) (hg : ∀ i, Gl (Xs i) "min" := by intro _; rfl)
    (hs1 : ∀ i, starEach [b] (Xs i).env = (false, eval b (Xs i).env) :: starEach [] (Xs i).env := by intro _; rfl) (hs : ∀ i, starEach [a, b] (Xs i).env = (false, eval a (Xs i).env) :: starEach [b] (Xs i).env := by intro _; rfl)
    (hpl : ∀ i, (backTo pos (starEach [b] (Xs i).env)).any (·.1) = false := by intro _; rfl) : qq K N ZF Xs (.Call (.Name "min" p) [a, b] [] pos) (fun i => qmin (qa i) (qb i)) :=
  let ⟨_, h1, h2⟩ := ha; let ⟨_, h3, h4⟩ := hb
  ⟨_, fun i => pe_callB (call_min2 (Φ.calm i)) (hg i) (by rw [Φ.mg i]; exact hm) (by decide +kernel) (pa_cons (h1 i) (pa_cons (h3 i) pa_nil (hs1 i)) (hs i)) (by decide) (by decide) (hs i) (hpl i), fun i => sq_min (fun H x y Q q => ⟨x, y, rfl, q⟩) (h2 i) (h4 i)⟩
theorem e_q (h : qq K N ZN Xs e qa) : qE K N W Xs e (dQ (qa 0)) := let ⟨_, h1, h2⟩ := h; ⟨_, h1, sim_q (h2 0)⟩
theorem s_set2 (Φ : Fam K mg P w base k Xs W) (ha : qV Xs a j) (hb : qq K N ZN Xs b qa) (hc : qq K N ZN Xs c qb) (hv : qE K N W Xs e mv)
    (hass : ∀ i v, assign (.Subscript (.Subscript a b p) c p2) (Xs i).env v = (do
      let ov ← holding [v] (eval (.Subscript a b p) (Xs i).env)
      let iv ← holding [v, ov] (eval c (Xs i).env)
      standAt p2
      holding [v, ov, iv] (setItem ov iv v)
      release [v, ov, iv] []) := by intro _ _; rfl)
    (hs0 : ∀ i : ι, PlainIx b := by intro _ _ _; rfl)
    (hs : ∀ i, swapsWithSole [.Subscript (.Subscript a b p) c p2] e pos.line (Xs i).env = pure false := by intro _; rfl) (hw : ∀ i, swappedStores [.Subscript (.Subscript a b p) c p2] e (Xs i).env = pure none := by intro _; rfl)
    (h1 : ∀ i, (assignEach [.Subscript (.Subscript a b p) c p2] (Xs i).env).map (·.2) = [assign (.Subscript (.Subscript a b p) c p2) (Xs i).env] := by intro _; rfl) : qS K N W pr Xs (.Assign [.Subscript (.Subscript a b p) c p2] e pos) (dSet2 j (qa 0) (qb 0) mv) :=
  let ⟨_, h3, h4⟩ := hb; let ⟨_, h5, h6⟩ := hc; let ⟨_, h7, h8⟩ := hv
  ⟨_, fun i => by
    have h := dl_ixany (Room.hu1 (Φ.room i)); rw [Φ.K i] at h
    exact ps_asg (h7 i) (pg_sub (pe_ix h (ha i) (h3 i) (hs0 i)) (h5 i) (PSet.or set_list (set_dict (Room.hu1 (Φ.room i)))) (hass i)) (hs i) (hw i) (h1 i), sim_set2 h8 (h4 0) (h6 0)⟩
/-- a statement of a block in which r names x[i] -/
def qZ (K : PySem.W.Frag) (N : Nm) (pr : Nat → Bool) (jr jw : Nat) (Xs : ι → Cx) (st : Stmt) (stp : Nat → S → Option S) : Prop := ∃ ts, (∀ x, PS (Xs x) st ts) ∧ ∀ i, SimZ K N pr (AlZ jr jw i) ts (stp i)
theorem z_set (Φ : Fam K mg P w base k Xs W) (ha : qV Xs a jr) (hb : qq K N (AlZ jr jw) Xs b qb) (he : qq K N (AlZ jr jw) Xs e qe)
    (hass : ∀ i v, assign (.Subscript a b p2) (Xs i).env v = (do
      let ov ← holding [v] (eval a (Xs i).env)
      let iv ← holding [v, ov] (eval b (Xs i).env)
      standAt p2
      holding [v, ov, iv] (setItem ov iv v)
      release [v, ov, iv] []) := by intro _ _; rfl)
    (hs : ∀ i, swapsWithSole [.Subscript a b p2] e pos.line (Xs i).env = pure false := by intro _; rfl) (hw : ∀ i, swappedStores [.Subscript a b p2] e (Xs i).env = pure none := by intro _; rfl)
    (h1 : ∀ i, (assignEach [.Subscript a b p2] (Xs i).env).map (·.2) = [assign (.Subscript a b p2) (Xs i).env] := by intro _; rfl) : qZ K N pr jr jw Xs (.Assign [.Subscript a b p2] e pos) (fun i => zSet jw i (qb i) (qe i)) :=
  let ⟨_, h3, h4⟩ := hb; let ⟨_, h5, h6⟩ := he
  ⟨_, fun i => ps_asg (h5 i) (pg_sub (ha i) (h3 i) (PSet.or set_list (set_dict (Room.hu1 (Φ.room i)))) (hass i)) (hs i) (hw i) (h1 i), fun i => sz_set (h6 i) (h4 i)⟩
theorem z_if {op : CmpOp} {f : D → D → Option D} (cr : CmpRule K N Xs op f) (ha : qq K N (AlZ jr jw) Xs a qa) (hb : qq K N (AlZ jr jw) Xs b qb) (h : qZ K N pr jr jw Xs st stp) (hm : behindInMarks op b = false := by first | exact nomark _ | rfl) : qZ K N pr jr jw Xs (.If (.Compare a [op] [b] p2) [st] [] pos) (fun i => zIf (qop f (qa i) (qb i)) (stp i)) :=
  let ⟨_, h1, h2⟩ := ha; let ⟨_, h3, h4⟩ := hb; let ⟨_, h5, h6⟩ := cr.ok; let ⟨_, h7, h8⟩ := h
  ⟨_, fun x => ps_if (pt_cmpR (h5 x) (h1 x) (h3 x) hm) (pss_one (h7 x)) pss_nil, fun i => sz_if (sq_op h6 (h2 i) (h4 i)) (h8 i)⟩
theorem z_for (jb : Nat) {y : Str} (Φ : Fam K mg P w base k Xs W) (hm : mg "range" = none) (hp : pr jb = false) (h1 : jb ≠ jr) (h2 : jb ≠ jw) (ha : qq K N (AlZ jr jw) Xs a qn) (h : qZ K N pr jr jw Xs st stp) (hi : ∀ i, (Xs i).N[jb]? = some y := by intro _; rfl) (hx : ∀ i, Loc (Xs i).env.scope y := by intro _; first | exact Or.inl rfl | exact Or.inr rfl)
    (hf : ∀ i, (Xs i).fn y = true ∨ (Xs i).env.scope.names.lookup y = some .local := by intro _; first | exact .inl rfl | exact .inr rfl)
    (hg : ∀ i, Gl (Xs i) "range" := by intro _; rfl) (hs : ∀ i, starEach [a] (Xs i).env = [(false, eval a (Xs i).env)] := by intro _; rfl) (hs' : ∀ i, starEach [a] (Xs i).env = (false, eval a (Xs i).env) :: starEach [] (Xs i).env := by intro _; rfl)
    (hfs : ∀ i x, foldedSetIterable (.Call (.Name "range" p) [a] [] p2) (Xs i).env x = pure x := by intro _ _; rfl) : qZ K N pr jr jw Xs (.For (.Name y p3) (.Call (.Name "range" p) [a] [] p2) [st] [] pos) (fun i => zFor jb (qn i) (stp i)) :=
  let ⟨_, h3, h4⟩ := ha; let ⟨_, h5, h6⟩ := h
  ⟨_, fun i => ps_for (Φ.own i) (Φ.calm i) (pi_range1 (hg i) (by rw [Φ.mg i]; exact hm) (pa_cons (h3 i) pa_nil (hs' i)) (hs i)) (pg_name (Φ.nd i) (hi i) (hx i) (hf i)) (pss_one (h5 i)) (hfs i), fun i => sz_for hp h1 h2 (h4 i) (h6 i)⟩
theorem ss_alias (jr : Nat) {y : Str} (Φ : Fam K mg P w base k Xs W) (hp : pr jr = false) (ha : qV Xs a jw) (hb : qq K N ZN Xs b qa) (h : qZ K N pr jr jw Xs st stp) (hr : qSs K N W pr Xs sts sb) (hs0 : ∀ i : ι, PlainIx b := by intro _ _ _; rfl) (hi : ∀ i, (Xs i).N[jr]? = some y := by intro _; rfl) (hx : ∀ i, Loc (Xs i).env.scope y := by intro _; first | exact Or.inl rfl | exact Or.inr rfl)
    (hs : ∀ i, swapsWith (.Subscript a b p) (some (.Name y pos')) pos.line (Xs i).env = pure false := by intro _; rfl) (hf : ∀ i, (Xs i).fn y = true ∨ (Xs i).env.scope.names.lookup y = some .local := by intro _; first | exact .inl rfl | exact .inr rfl) :
    qSs K N W pr Xs (.Assign [.Name y pos'] (.Subscript a b p) pos :: st :: sts) (dSeq (dAlias jr jw (qa 0) stp) sb) :=
  let ⟨_, h3, h4⟩ := hb; let ⟨_, h5, h6⟩ := h; let ⟨_, h7, h8⟩ := hr
  ⟨_, fun i => by
    have hix := dl_ixany (Room.hu1 (Φ.room i)); rw [Φ.K i] at hix
    exact pss_cons (ps_set (Φ.nd i) (hi i) (hx i) (pe_ix hix (ha i) (h3 i) (hs0 i)) (hs i) (hf i)) (pss_cons (h5 i) (h7 i)), sim_alias hp (h4 0) h6 h8⟩
end
/-! ### a def -/
section
variable {P : Program} {w : World} {K : PySem.W.Frag} {mg : Str → Option Value} {base : Heap} {N : Nm}
abbrev WF (E : XK) : WX := fun c d _ H => E c d H
abbrev cxF (P : Program) (w : World) (K : PySem.W.Frag) (mg : Str → Option Value) (base : Heap) (Ns : List Str) (qual : Str) (sc : Scope) (f : Addr) (cdv : Value) (A : Around) (outer : List Env) (s : Shared) (H : Hp) (E : XK) : Unit → Cx := fun _ => cxOf (L2.CX P w) P w K mg base Ns qual sc f cdv A outer s H E
theorem def_okF {x qual : Str} {st : Stmt} {f : Addr} {fd : FuncData} {Ns ps : List Str} {k e : Nat} {pm : List Bool} {body : DC} (F : Fun K x qual st f fd) (Sc : FnScope Ns ps (defScope st)) (hpm : pm.length = ps.length) (hk : Ns.length - ps.length = e)
    (hb : ∀ (cdv : Value) (A : Around) (outer : List Env) (s : Shared) (H : Hp) (E : XK), Fam K mg P w base k (cxF P w K mg base Ns qual (defScope st) f cdv A outer s H E) (WF E) →
      qSs K N (WF E) (prOf pm) (cxF P w K mg base Ns qual (defScope st) f cdv A outer s H E) (defBody st) body) :
    FnOk P w K mg base (L2.CX P w) (k + 1) f fd ps (SpD K N ps.length (fnOf pm e body)) :=
  def_ok F Sc hpm hk fun cdv A outer s H E hr => by
    obtain ⟨ts, h1, h2⟩ := hb cdv A outer s H E ⟨fun _ => rfl, fun _ => rfl, fun _ => rfl, fun _ => rfl, fun _ => rfl, fun _ => rfl, fun _ => hr, fun _ => Sc.nd, fun _ => takes_of rfl rfl rfl rfl, fun _ => passes_of rfl⟩
    exact ⟨ts, h1 (), h2⟩
end
end DL

set_option maxHeartbeats 4000000
/-! DL20: more rules: constants of the module, unpacking stores, dict displays; what a def's facts are. -/
namespace DL
open PySem L2
section
variable {K : PySem.W.Frag} {N : Nm} {R R' R1 H H' H1 H2 G G' : Hp} {v x y : V} {d e : D} {f : Addr → Prop} {L L' A B σ : List (Option V)} {s s1 : List (Option D)} {W : WX}
variable {te ta tb tc tv tk : TE} {m ma mb mc mv mk : DE} {tl : TA} {ls : Lends} {ms : DA} {pr : Nat → Bool} {ts : TS} {b : DC} {g : TG} {tgd : DG}
def dTs (m : DE) (t : DG) : DC := fun s => rb (m s) fun d s1 => match t (rd d) s1 with
  | some s' => .nx s'
  | none => .no
theorem sim_tset (h : SimE K N W te m) (hg : SimG K N pr g tgd) : SimC K N W pr (tAsg te g) (dTs m tgd) := fun G R H σ s Dn rel hk =>
  h.bindC rel hk fun d s1 R1 H1 v e1 r1 hk1 => by
    obtain ⟨R2, v2, e2, hv, en, r2⟩ := Rel.read (i := 0) (d := d) r1 rfl
    cases hv
    have r2 : Rel K N G R2 H1 (some v :: σ) (some (rd d) :: s1) := r2
    split at hk1
    · rename_i s' es
      exact hg G R2 H1 σ s1 v _ s' r2 es _ fun R' σ' ex kp r' => hk1 R' H1 σ' (e2.trans ex) kp r'
    · exact hk1.elim
/-! ### {k: v, ..} -/
def dPairs : List (DE × DE) → S → Rs (List Key × List D)
  | [], s => .ok ([], []) s
  | (mk, mv) :: r, s => (mk s).bind fun kd s1 => match keyOf kd with
    | some k => (mv s1).bind fun d s2 => (dPairs r s2).bind fun z s3 => .ok (k :: z.1, d :: z.2) s3
    | none => .no
def dDisp (ps : List (DE × DE)) : DE := fun s => (dPairs ps s).bind fun z s1 => if z.1.Nodup ∧ z.1.length ≤ 15 then .ok (mD z.1 z.2) s1 else .no
inductive SimPP (K : PySem.W.Frag) (N : Nm) (W : WX) : List (TE × TE) → List (DE × DE) → Prop where
  | nil : SimPP K N W [] []
  | cons {t1 t2 : TE} {m1 m2 : DE} {tl : List (TE × TE)} {mls : List (DE × DE)} (h : SimE K N W t1 m1) (h' : SimE K N W t2 m2) (r : SimPP K N W tl mls) : SimPP K N W ((t1, t2) :: tl) ((m1, m2) :: mls)
theorem sim_pairs {ts : List (TE × TE)} {mls : List (DE × DE)} (h : SimPP K N W ts mls) : ∀ G R H σ s (Q : List (V × V) → Hp → Prop), Rel K N G R H σ s → Kg K N G R σ W (fun z s' => ∀ R' H' xs, Ex R R' → xs.length = z.2.length → z.1.length = z.2.length → Rel K N G R' H' (xs.map some ++ σ) (z.2.map some ++ s') → Q ((z.1.map kV).zip xs) H') (dPairs mls s) → tPairs ts σ H Q := by
  induction h with
  | nil => exact fun G R H σ s Q rel hk => hk R H [] (Ex.refl R) rfl rfl rel
  | @cons tk tv mk mv ts ms h h' r ih =>
    intro G R H σ s Q rel hk
    refine h.bind rel hk fun kd s1 R1 H1 yk e1 r1 hk1 => ?_
    cases ek : keyOf kd with
    | none => rw [ek] at hk1; exact hk1.elim
    | some k =>
      rw [ek] at hk1
      have eyk := keyOf_kV ek r1.vw
      subst eyk
      refine h'.bind r1.pop hk1 fun d s2 R2 H2 y e2 r2 hk2 => ?_
      obtain ⟨G', eg, r2', back⟩ := frame1 r2
      refine ih G' R2 H2 σ s2 _ r2' ?_
      cases em : dPairs ms s2 with
      | ok z s3 =>
        rw [em] at hk2
        intro R3 H3 xs e3 l l2 r3
        refine hk2 R3 H3 (y :: xs) ((e1.trans e2).trans e3) (by simp [l]) (by simp [l2]) (back R3 H3 _ _ e3 r3)
      | ex x s3 =>
        rw [em] at hk2
        exact fun R3 H3 c dd e3 r3 hx => hk2 R3 H3 c dd e3 (back R3 H3 _ _ e3 r3).pop hx
      | no => rw [em] at hk2; exact hk2.elim
theorem putKs_new {ks : List Key} {k : Key} (h : k ∉ ks) : putKs ks k = ks ++ [k] := by
  unfold putKs
  have : ks.findIdx? (fun z => decide (z = k)) = none := List.findIdx?_eq_none_iff.mpr fun z hz => by simp; exact fun e => h (e ▸ hz)
  rw [this]
theorem putDs_new {ks : List Key} {ds : List D} {k : Key} {e : D} (h : k ∉ ks) : putDs ks ds k e = ds ++ [e] := by
  unfold putDs
  have : ks.findIdx? (fun z => decide (z = k)) = none := List.findIdx?_eq_none_iff.mpr fun z hz => by simp; exact fun e => h (e ▸ hz)
  rw [this]
theorem Rel.fill {p : Addr} : ∀ {ks : List Key} {xs : List V} {ds : List D} {ks0 : List Key} {ds0 : List D} {kvs0 : List (Key × V)} {H : Hp}, ks.length = xs.length → xs.length = ds.length → (ks0 ++ ks).Nodup → H p = some (.dK kvs0) →
    Rel K N G R H (some (.ref p) :: (xs.map some ++ L)) (some (mD ks0 ds0) :: (ds.map some ++ s)) → Rel K N G R (upd H p (.dK (mergeK kvs0 (ks.zip xs)))) (some (.ref p) :: L) (some (mD (ks0 ++ ks) (ds0 ++ ds)) :: s)
  | [], [], [], ks0, ds0, kvs0, H, _, _, _, hp, r => by
    have : upd H p (.dK (mergeK kvs0 (([] : List Key).zip ([] : List V)))) = H := by
      funext a
      by_cases ha : a = p
      · subst ha; rw [upd_same]; exact hp.symm
      · rw [upd_ne ha]
    rw [this, List.append_nil, List.append_nil]
    exact r
  | k :: ks, x :: xs, d :: ds, ks0, ds0, kvs0, H, l1, l2, nd, hp, r => by
    have hk : k ∉ ks0 := fun z => by
      have := (List.nodup_append.mp nd).2.2 k z k List.mem_cons_self
      exact this rfl
    obtain ⟨kvs, h1, h2, h3⟩ := Rel.putK (k := k) r
    rw [hp] at h1; cases h1
    rw [putKs_new hk, putDs_new hk] at h3
    have := Rel.fill (ks := ks) (xs := xs) (ds := ds) (by simpa using l1) (by simpa using l2) (by simpa using nd) upd_same h3
    have e : upd (upd H p (.dK (L2.putK kvs0 k x))) p (.dK (mergeK (L2.putK kvs0 k x) (ks.zip xs))) = upd H p (.dK (mergeK kvs0 ((k :: ks).zip (x :: xs)))) := by
      funext a
      by_cases ha : a = p
      · subst ha; rw [upd_same, upd_same]; rfl
      · rw [upd_ne ha, upd_ne ha, upd_ne ha]
    rw [e] at this
    simpa using this
theorem sim_disp {tl : List (TE × TE)} {mls : List (DE × DE)} (h : SimPP K N W tl mls) : SimE K N W (tDisp tl) (dDisp mls) := fun G R H σ s Q rel hk p hp => by
  have r0 : Rel K N G R (upd H p (.dK [])) (some (.ref p) :: σ) (some (mD [] []) :: s) := Rel.box (xs := []) (ds := []) (k := .dct []) rel rfl hp hp (Ex.new hp) ⟨rfl, rfl, upd_same, List.nodup_nil⟩
  obtain ⟨G', eg, r1, back⟩ := frame1 r0
  refine sim_pairs h G' R _ σ s _ r1 ?_
  unfold dDisp at hk
  cases em : dPairs mls s with
  | ok z s1 =>
    rw [em] at hk
    have hk : KE K N G R σ W Q (if z.1.Nodup ∧ z.1.length ≤ 15 then .ok (mD z.1 z.2) s1 else .no) := hk
    intro R2 H2 xs e2 l l2 r2
    split at hk
    · rename_i hc
      have r3 := back R2 H2 _ _ e2 r2
      have hp2 : H2 p = some (.dK []) := by
        obtain ⟨f, ow, _⟩ := r3.top
        obtain ⟨dx, ys, hat, ly⟩ := ow.own (o := true)
        obtain ⟨_, h2, h3, _⟩ := hat
        have : ys = [] := List.eq_nil_of_length_eq_zero (by simpa using ly)
        subst this
        exact h3
      have lk : z.1.length = xs.length := by rw [l, l2]
      refine ⟨hp2, z.1.zip xs, ?_, by rw [List.length_zip]; omega, ?_⟩
      · rw [show (z.1.map kV).zip xs = (z.1.zip xs).map (fun kv => (kV kv.1, kv.2)) from by rw [List.zip_map_left]; rfl]
      · have := Rel.fill (ks0 := []) (ds0 := []) lk l (by simpa using hc.1) hp2 r3
        exact hk R2 _ _ e2 this
    · exact hk.elim
  | ex x s1 =>
    rw [em] at hk
    exact fun R2 H2 c dd e2 r2 hx => hk R2 H2 c dd e2 (back R2 H2 _ _ e2 r2).pop hx
  | no => rw [em] at hk; exact hk.elim
end
/-! ### rules -/
section
variable {K : PySem.W.Frag} {mg : Str → Option Value} {P : Program} {w : World} {base : Heap} {k : Nat} {ι : Type} {Xs : ι → Cx} {W : WX} {N : Nm}
variable {a b c e l o tg : Expr} {es rest : List Expr} {pos p p2 p3 pos' tpos apos spos : Pos} {ma mb mc mv mk m : DE} {ms : DA} {ls : Lends} {x y : Str} {pr : Nat → Bool} {tgd : DG}
theorem e_gint {i : Int} (Φ : Fam K mg P w base k Xs W) (hm : ∃ t, mg x = some (.int i t)) (hg : ∀ i, Gl (Xs i) x := by intro _; rfl) (hdb : (x == ("__debug__" : Str)) = false := by decide) : qE K N W Xs (.Name x pos) (dC (.int i)) :=
  let ⟨t, ht⟩ := hm; e_glob (v := .int i) Φ hg ht ⟨t, rfl⟩ (fun _ => .int i) hdb
theorem s_tset (he : qE K N W Xs e m) (hg : qG K N pr Xs tg tgd) (hs : ∀ i, swapsWithSole [tg] e pos.line (Xs i).env = pure false := by intro _; rfl) (hw : ∀ i, swappedStores [tg] e (Xs i).env = pure none := by intro _; rfl)
    (h1 : ∀ i, (assignEach [tg] (Xs i).env).map (·.2) = [assign tg (Xs i).env] := by intro _; rfl) : qS K N W pr Xs (.Assign [tg] e pos) (dTs m tgd) :=
  let ⟨_, h1', h2⟩ := he; let ⟨_, h3, h4⟩ := hg; ⟨_, fun i => ps_asg (h1' i) (h3 i) (hs i) (hw i) (h1 i), sim_tset h2 h4⟩
def qPP (K : PySem.W.Frag) (N : Nm) (W : WX) (Xs : ι → Cx) (pos : Pos) (ks : List (Option Expr)) (vs : List Expr) (mls : List (DE × DE)) : Prop := ∃ ts, (∀ i, PPs (Xs i) pos ks vs ts) ∧ SimPP K N W ts mls
theorem pp_nil : qPP K N W Xs pos [] [] [] := ⟨_, fun _ => pps_nil, .nil⟩
theorem pp_cons {ks : List (Option Expr)} {vs : List Expr} {mls : List (DE × DE)} (hk : qE K N W Xs a ma) (hv : qE K N W Xs b mb) (hr : qPP K N W Xs pos ks vs mls) : qPP K N W Xs pos (some a :: ks) (b :: vs) ((ma, mb) :: mls) :=
  let ⟨_, h1, h2⟩ := hk; let ⟨_, h3, h4⟩ := hv; let ⟨_, h5, h6⟩ := hr; ⟨_, fun i => pps_cons (h1 i) (h3 i) (h5 i), .cons h2 h4 h6⟩
theorem e_disp {ks : List (Option Expr)} {vs : List Expr} {mls : List (DE × DE)} (h : qPP K N W Xs pos ks vs mls) (hall : ks.all (·.isSome) = true := by rfl) (hl : ks.length = vs.length := by rfl) (h0 : ks ≠ [] := by intro z; cases z) (h15 : ks.length ≤ 15 := by decide) : qE K N W Xs (.Dict ks vs pos) (dDisp mls) :=
  let ⟨_, h1, h2⟩ := h; ⟨_, fun i => pe_disp (h1 i) hall hl h0 h15, sim_disp h2⟩
end
/-! ### what is known of a def -/
structure OkF (P : Program) (w : World) (K : PySem.W.Frag) (mg : Str → Option Value) (base : Heap) (N : Nm) (k : Nat) (f : Addr) (n : Nat) (F : List D → Rs D) : Prop where
  ex : ∃ fd ps, FnOk P w K mg base (L2.CX P w) k f fd ps (SpD K N n F) ∧ Binds K fd ps [] ∧ PySem.W.keepIn K (.ref f) = true
section
variable {K : PySem.W.Frag} {mg : Str → Option Value} {P : Program} {w : World} {base : Heap} {k : Nat} {ι : Type} {Xs : ι → Cx} {W : WX} {N : Nm}
variable {a b c e l o tg : Expr} {es rest : List Expr} {pos p p2 p3 pos' tpos apos spos : Pos} {ma mb mc mv mk m : DE} {ms : DA} {ls : Lends} {x g : Str} {pr : Nat → Bool}
theorem c_call {kf n : Nat} {f : Addr} {F : List D → Rs D} (Φ : Fam K mg P w base k Xs W) (ok : OkF P w K mg base N kf f n F) (hm : mg x = some (.ref f)) (ha : qA K N W Xs (e :: es) ls ms) (hk : kf ≤ k := by decide) (hg : ∀ i, Gl (Xs i) x := by intro _; rfl) (hdb : (x == ("__debug__" : Str)) = false := by decide)
    (he : ∀ i, starEach (e :: es) (Xs i).env = (false, eval e (Xs i).env) :: starEach es (Xs i).env := by intro _; rfl)
    (hpl : ∀ i, (backTo pos (starEach es (Xs i).env)).any (·.1) = false := by intro _; rfl) : qE K N W Xs (.Call (.Name x p) (e :: es) [] pos) (dCall n F ls ms) :=
  let ⟨_, _, h1, h2, h3⟩ := ok.ex; e_call Φ h1 hk hm h3 h2 ha hg hdb he hpl
theorem c_make {kf n : Nat} {C f : Addr} {F : List D → Rs D} (cn : Nat) (Φ : Fam K mg P w base k Xs W) (ok : OkF P w K mg base N kf f n F) (hC : IsC K N cn C) (M : Mk K C f) (hm : mg x = some (.ref C)) (ha : qA K N W Xs (e :: es) ls ms) (hk : kf + 1 ≤ k := by decide) (hg : ∀ i, Gl (Xs i) x := by intro _; rfl) (hdb : (x == ("__debug__" : Str)) = false := by decide)
    (he : ∀ i, starEach (e :: es) (Xs i).env = (false, eval e (Xs i).env) :: starEach es (Xs i).env := by intro _; rfl)
    (hpl : ∀ i, (backTo pos (starEach es (Xs i).env)).any (·.1) = false := by intro _; rfl) : qE K N W Xs (.Call (.Name x p) (e :: es) [] pos) (dMake cn n F ls ms) :=
  let ⟨_, _, h1, h2, h3⟩ := ok.ex; e_make cn Φ h1 hk hC M hm h2 ha hg hdb he hpl
theorem c_meth {kf n : Nat} {C f : Addr} {F : List D → Rs D} {pl : ι → Sem Bool} (cn mj : Nat) (Φ : Fam K mg P w base k Xs W) (ok : OkF P w K mg base N kf f n F) (hC : IsC K N cn C) (M : Meth K C g f) (hj : N.fn mj = g) (ho : qE K N W Xs o m) (ha : qA K N W Xs (e :: es) ls ms) (hk : kf ≤ k := by decide)
    (he : ∀ i, starEach (e :: es) (Xs i).env = (false, eval e (Xs i).env) :: starEach es (Xs i).env := by intro _; rfl)
    (hpl : ∀ i, (backTo pos (starEach es (Xs i).env)).any (·.1) = false := by intro _; rfl)
    (ht : ∀ i, eval (.Call (.Attribute o g apos) (e :: es) [] pos) (Xs i).env = (do
      let ov ← eval o (Xs i).env
      standAt apos.atName
      let (f, first) ← holding [ov] (getMethod ov g (pl i))
      callWith pos f first (backTo pos (starEach (e :: es) (Xs i).env)) (backToKw pos (keywordEach [] (Xs i).env))) := by intro _; rfl) : qE K N W Xs (.Call (.Attribute o g apos) (e :: es) [] pos) (dMeth cn mj n F ls m ms) :=
  let ⟨_, _, h1, h2, h3⟩ := ok.ex; e_meth cn mj Φ h1 hk hC M hj h2 ho ha he hpl ht
end
end DL

set_option maxHeartbeats 4000000
/-! DL21: facts of a law's names by one run of its top; properties; a law's end. -/
namespace DL
open PySem L2
/-- the getter of the property at p -/
def pgA (K : PySem.W.Frag) (p : Addr) : Addr := match PySem.W.recIn K p "property" with
  | some (.ref g :: _) => g
  | _ => 0
inductive Fq where
  | he (f : He.Fa)
  | prop (x f : Str)
  | eqv (x y : Str)
def Fq.ok (K : PySem.W.Frag) : Fq → Bool
  | .he f => f.ok K
  | .prop x f => He.eqO (PySem.W.findIn K (.ref (He.ga K x)) f) (some (some (.ref (He.ma K (He.ga K x) f)))) && (He.eqO (PySem.W.specialIn K (.ref (He.ma K (He.ga K x) f)) "__get__") (some (some (.builtin "property.__get__"))) &&
      (decide (PySem.W.takesIn K (.ref (He.ma K (He.ga K x) f)) = some true) && (match PySem.W.recIn K (He.ma K (He.ga K x) f) "property" with
        | some (.ref _ :: _) => true
        | _ => false)))
  | .eqv x y => decide (He.ga K x = He.ga K y)
theorem prop_ok {K : PySem.W.Frag} {x f : Str} (c : (Fq.prop x f).ok K = true) : PropOf K (He.ga K x) f (He.ma K (He.ga K x) f) (pgA K (He.ma K (He.ga K x) f)) := by
  obtain ⟨c1, c⟩ := He.ba c
  obtain ⟨c2, c⟩ := He.ba c
  obtain ⟨c3, c4⟩ := He.ba c
  refine ⟨He.eqO_ok c1, He.eqO_ok c2, of_decide_eq_true c3, ?_⟩
  unfold pgA
  split at c4
  · rename_i g rest e
    rw [e]
    exact ⟨rest, rfl⟩
  · cases c4
structure DfQ where
  at_ : PySem.W.Frag → Addr
  name : Str
  qual : Str
  params : Arguments
  body : List Stmt
  scope : Scope
def fnQ (K : PySem.W.Frag) (a : Addr) : He.FnW := match K.lookup a with
  | some ⟨_, _, .func fd, _⟩ => some (fd.name, fd.qualname, fd.params, fd.body, fd.scope, fd.globals, fd.closure, fd.builtins)
  | _ => none
def DfQ.val (d : DfQ) : He.FnW := some (d.name, d.qual, d.params, .stmts d.body, d.scope, mainGlobals, [], builtinsNs)
def DfQ.ok (K : PySem.W.Frag) (d : DfQ) : Bool := PySem.W.keepIn K (.ref (d.at_ K)) && (match K.lookup (d.at_ K) with
  | some ⟨_, _, .func fd, _⟩ => PySem.W.codeIn K fd.code d.qual && He.dflB K fd.defaults []
  | _ => false)
theorem DfQ.funD {K : PySem.W.Frag} {d : DfQ} (e : fnQ K (d.at_ K) = d.val) (c : d.ok K = true) : ∃ fd, FunD K d.name d.qual d.params d.body d.scope [] [] (d.at_ K) fd := by
  obtain ⟨kp, c2⟩ := He.ba c
  unfold fnQ at e
  cases q : K.lookup (d.at_ K) with
  | none =>
    rw [q] at c2
    cases c2
  | some o =>
    obtain ⟨oc, od, dt, osl⟩ := o
    rw [q] at c2 e
    cases dt with
    | func fd =>
      obtain ⟨n1, n2, n3, n4, n5, n6, n7, n8, n9, n10, n11, n12, n13, n14, n15⟩ := fd
      have e2 : (some (n1, n2, n3, n4, n5, n6, n7, n15) : He.FnW) = some (d.name, d.qual, d.params, .stmts d.body, d.scope, mainGlobals, [], builtinsNs) := e
      simp only [Option.some.injEq, Prod.mk.injEq] at e2
      obtain ⟨h1, h2, h3, h4, h5, h6, h7, h8⟩ := e2
      subst h1 h2 h3 h4 h5 h6 h7 h8
      obtain ⟨k1, k3⟩ := He.ba (show (PySem.W.codeIn K n13 d.qual && He.dflB K n8 []) = true from c2)
      exact ⟨_, ⟨oc, od, n8, n9, n10, n11, n12, n13, n14, osl, rfl, q, k1, He.dflB_ok k3, .inl rfl⟩, kp⟩
    | _ => cases c2
abbrev AlQ : Type := Bool × List He.FnW
def obsQ (fa : List Fq) (fn : List DfQ) (K : PySem.W.Frag) : AlQ := ((fa.all fun f => f.ok K) && fn.all fun d => d.ok K, fn.map fun d => fnQ K (d.at_ K))
def valQ (fn : List DfQ) : AlQ := (true, fn.map DfQ.val)
def SaysQ (fa : List Fq) (fn : List DfQ) (K : PySem.W.Frag) : Prop := obsQ fa fn K = valQ fn
def obsQG (n : Nat) (fa : List Fq) (fn : List DfQ) (g : Addr → Option Obj) : AlQ := obsQ fa fn (He.frG g (He.asD g n))
def hookQ (n : Nat) (fa : List Fq) (fn : List DfQ) : PySem.W.Hook where
  α := AlQ
  obs := fun s => obsQG n fa fn s.heap.get?
  val := fun _ => valQ fn
  says := fun _ h => ∃ K : PySem.W.Frag, K.In h ∧ SaysQ fa fn K
  of := fun _ _ e => ⟨_, He.frG_in, e⟩
  keeps := fun _ _ _ ⟨K, hK, c⟩ k => ⟨K, PySem.W.Frag.In.keeps hK k, c⟩
theorem obsQG_eq {n : Nat} {fa : List Fq} {fn : List DfQ} {g : Addr → Option Obj} {s : Shared} (h : ∀ a, g a = s.heap.get? a) : obsQG n fa fn g = (hookQ n fa fn).obs s := by
  have e : g = s.heap.get? := funext h
  rw [e] <;> rfl
section
variable {fa : List Fq} {fn : List DfQ} {K : PySem.W.Frag}
theorem SaysQ.fact (c : SaysQ fa fn K) (i : Nat) {f : Fq} (h : fa[i]? = some f := by rfl) : f.ok K = true := by
  have c1 := (He.ba (show ((fa.all fun f => f.ok K) && fn.all fun d => d.ok K) = true from congrArg (fun z : AlQ => z.1) c)).1
  exact List.all_eq_true.mp c1 f (List.mem_of_getElem? h)
theorem SaysQ.def_ (c : SaysQ fa fn K) (i : Nat) {d : DfQ} (h : fn[i]? = some d := by rfl) : ∃ fd, FunD K d.name d.qual d.params d.body d.scope [] [] (d.at_ K) fd := by
  have c2 := (He.ba (show ((fa.all fun f => f.ok K) && fn.all fun d => d.ok K) = true from congrArg (fun z : AlQ => z.1) c)).2
  have e : fn.map (fun d => fnQ K (d.at_ K)) = fn.map DfQ.val := congrArg (fun z : AlQ => z.2) c
  have e2 : (fn.map fun d => fnQ K (d.at_ K))[i]? = (fn.map DfQ.val)[i]? := by rw [e]
  rw [List.getElem?_map, List.getElem?_map, h] at e2
  exact DfQ.funD (Option.some.inj e2) (List.all_eq_true.mp c2 d (List.mem_of_getElem? h))
end
/-! ### the facts of a law's names -/
structure Tp (K : PySem.W.Frag) (mg : Str → Option Value) (fa : List Fq) (fn : List DfQ) : Prop where
  c : SaysQ fa fn K
  h : ∃ h : Heap, K.In h ∧ h.Ns PySem.mainGlobals mg
section
variable {K : PySem.W.Frag} {mg : Str → Option Value} {fa : List Fq} {fn : List DfQ}
theorem Tp.glo (T : Tp K mg fa fn) (i : Nat) {x : Str} (h : fa[i]? = some (.he (.glo x)) := by rfl) : mg x = some (.ref (He.ga K x)) := let ⟨_, X, G⟩ := T.h; He.glo_ok X G (T.c.fact i h)
theorem Tp.free (T : Tp K mg fa fn) (i : Nat) {x : Str} (h : fa[i]? = some (.he (.free x)) := by rfl) : mg x = none := let ⟨_, X, G⟩ := T.h; He.free_ok X G (T.c.fact i h)
theorem Tp.int (T : Tp K mg fa fn) (i : Nat) {x : Str} {n : Int} (h : fa[i]? = some (.he (.int x n)) := by rfl) : ∃ t, mg x = some (.int n t) := let ⟨_, X, G⟩ := T.h; He.int_ok X G (T.c.fact i h)
theorem Tp.cls (T : Tp K mg fa fn) (i : Nat) {x : Str} (h : fa[i]? = some (.he (.cls x)) := by rfl) : Cls K (He.ga K x) := He.cls_ok (T.c.fact i h)
theorem Tp.noat (T : Tp K mg fa fn) (i : Nat) {x f : Str} (h : fa[i]? = some (.he (.noat x f)) := by rfl) : NoAttr K (He.ga K x) f := He.noat_ok (T.c.fact i h)
theorem Tp.meth (T : Tp K mg fa fn) (i : Nat) {x m : Str} (h : fa[i]? = some (.he (.meth x m)) := by rfl) : Meth K (He.ga K x) m (He.ma K (He.ga K x) m) := He.meth_ok (T.c.fact i h)
theorem Tp.mkr (T : Tp K mg fa fn) (i : Nat) {x : Str} (h : fa[i]? = some (.he (.mkr x)) := by rfl) : Mk K (He.ga K x) (He.ma K (He.ga K x) "__init__") := He.mkr_ok (T.c.fact i h)
/-- the def d, by its statement -/
theorem Tp.ok {P : Program} {w : World} {base : Heap} {N : Nm} {Ns ps : List Str} {k e n : Nat} {pm : List Bool} {body : DC} {x qual : Str} {st : Stmt} (T : Tp K mg fa fn) (i : Nat) {at_ : PySem.W.Frag → Addr} (h : fn[i]? = some ⟨at_, x, qual, defArgs st, defBody st, defScope st⟩) (Sc : FnScope Ns ps (defScope st)) (hn : ps.length = n) (hpm : pm.length = ps.length) (hk : Ns.length - ps.length = e)
    (hbd : ∀ (kV doc pm : Value) (an : Option Addr) (cdv ct : Value) (us : List Value), us.length = ps.length → bindArgs (PySem.W.fnOf x qual (defArgs st) (defBody st) (defScope st) .none kV doc pm an cdv ct) ⟨us, []⟩ = pure (ps.zip us))
    (hb : ∀ (cdv : Value) (A : Around) (outer : List Env) (s : Shared) (H : Hp) (E : XK), Fam K mg P w base k (cxF P w K mg base Ns qual (defScope st) (at_ K) cdv A outer s H E) (WF E) →
      qSs K N (WF E) (prOf pm) (cxF P w K mg base Ns qual (defScope st) (at_ K) cdv A outer s H E) (defBody st) body) : OkF P w K mg base N (k + 1) (at_ K) n (fnOf pm e body) := by
  obtain ⟨fd, F⟩ := T.c.def_ i h
  subst hn
  have F : FunD K x qual (defArgs st) (defBody st) (defScope st) [] [] (at_ K) fd := F
  exact ⟨fd, ps, def_okF (He5.fun_of F) Sc hpm hk hb, F.bindsN hbd, F.kp⟩
/-- the law's own def: one function object for all bases -/
theorem Tp.okL {P : Program} {w : World} {N : Nm} {Ns ps : List Str} {k e n : Nat} {pm : List Bool} {body : DC} {x qual : Str} {st : Stmt} (T : Tp K mg fa fn) (i : Nat) {at_ : PySem.W.Frag → Addr} (h : fn[i]? = some ⟨at_, x, qual, defArgs st, defBody st, defScope st⟩) (Sc : FnScope Ns ps (defScope st)) (hn : ps.length = n) (hpm : pm.length = ps.length) (hk : Ns.length - ps.length = e)
    (hbd : ∀ (kV doc pm : Value) (an : Option Addr) (cdv ct : Value) (us : List Value), us.length = ps.length → bindArgs (PySem.W.fnOf x qual (defArgs st) (defBody st) (defScope st) .none kV doc pm an cdv ct) ⟨us, []⟩ = pure (ps.zip us))
    (hb : ∀ (base : Heap) (cdv : Value) (A : Around) (outer : List Env) (s : Shared) (H : Hp) (E : XK), Fam K mg P w base k (cxF P w K mg base Ns qual (defScope st) (at_ K) cdv A outer s H E) (WF E) →
      qSs K N (WF E) (prOf pm) (cxF P w K mg base Ns qual (defScope st) (at_ K) cdv A outer s H E) (defBody st) body) :
    ∃ fd, (∀ (s : Shared) (us : List Value), us.length = ps.length → BindsTo s fd ⟨us, []⟩ (ps.zip us)) ∧ ∀ base : Heap, FnOk P w K mg base (L2.CX P w) (k + 1) (at_ K) fd ps (SpD K N n (fnOf pm e body)) := by
  obtain ⟨fd, F⟩ := T.c.def_ i h
  subst hn
  have F : FunD K x qual (defArgs st) (defBody st) (defScope st) [] [] (at_ K) fd := F
  exact ⟨fd, F.bindsA hbd, fun base => def_okF (He5.fun_of F) Sc hpm hk (hb base)⟩

theorem Tp.prop (T : Tp K mg fa fn) (i : Nat) {x f : Str} (h : fa[i]? = some (.prop x f) := by rfl) : PropOf K (He.ga K x) f (He.ma K (He.ga K x) f) (pgA K (He.ma K (He.ga K x) f)) := prop_ok (T.c.fact i h)
end
/-! ### e.f, a property -/
section
variable {K : PySem.W.Frag} {N : Nm} {R H : Hp} {W : WX} {te : TE} {m : DE}
def dProp (c : Nat) (F : List D → Rs D) (m : DE) : DE := fun s => (m s).bind fun d s1 => match d with
  | .bx o (.ins c' fs) es => if c' = c ∧ fs.length = es.length then (match F [d] with
    | .ok z _ => .ok z s1
    | _ => .no) else .no
  | _ => .no
theorem sim_prop {c : Nat} {F : List D → Rs D} (h : SimE K N W te m) : SimE K N W (tProp (N.cn c) (SpD K N 1 F) [] E0 te) (dProp c F m) := fun G R H σ s Q rel hk =>
  h.bind rel hk fun d s1 R1 H1 x e1 r1 hk1 => by
    split at hk1
    · rename_i o c' fs es
      split at hk1
      · rename_i hcc
        obtain ⟨rfl, hl⟩ := hcc
        obtain ⟨a, xs, rfl, hat, _, _⟩ := r1.vw.bx
        obtain ⟨h7, dx, h8⟩ := hat
        refine ⟨a, dx, _, rfl, h8, Rel.callD (ls := []) (vs := [.ref a]) (ds := [.bx o (.ins c' fs) es]) rfl r1 (fun j i hj => by cases hj) rfl ?_⟩
        cases eF : F [.bx o (.ins c' fs) es] with
        | ok z ps =>
          rw [eF] at hk1
          intro R3 H3 w e3 r3
          have : DL.gb [] ps s1 = s1 := by cases ps <;> rfl
          rw [this] at r3
          exact hk1 R3 H3 w (e1.trans e3) r3
        | ex x ps => rw [eF] at hk1; exact hk1.elim
        | no => rw [eF] at hk1; exact hk1.elim
      · exact hk1.elim
    · exact hk1.elim
end
section
variable {K : PySem.W.Frag} {mg : Str → Option Value} {P : Program} {w : World} {base : Heap} {k : Nat} {ι : Type} {Xs : ι → Cx} {W : WX} {N : Nm} {e : Expr} {m : DE} {f : Str} {pos : Pos}
theorem passes0n {X : Cx} : Passes (L2.CX X.prog X.w) X.nox E0 := fun pins σ H s e s' I c => by
  obtain ⟨a, B, H', cls, d, _, _, _, _, _, _, _, z⟩ := c
  exact z.elim
theorem c_prop {kf : Nat} {C p g : Addr} {F : List D → Rs D} (cn : Nat) (Φ : Fam K mg P w base k Xs W) (ok : OkF P w K mg base N kf g 1 F) (hC : IsC K N cn C) (hp : PropOf K C f p g) (he : qE K N W Xs e m) (hk : kf + 1 ≤ k := by decide) (hab : ∀ i, attributeBase e f (Xs i).env (eval e (Xs i).env) = eval e (Xs i).env := by intro _; rfl) :
    qE K N W Xs (.Attribute e f pos) (dProp cn F m) := by
  obtain ⟨fd, ps, h1, h2, h3⟩ := ok.ex
  obtain ⟨te, h4, h5⟩ := he
  obtain ⟨rfl, hc⟩ := hC
  exact ⟨_, fun i => by
    have ok' : FnOk (Xs i).prog (Xs i).w (Xs i).K (Xs i).mg (Xs i).base (L2.CX (Xs i).prog (Xs i).w) kf g fd ps (SpD K N 1 F) := by
      rw [Φ.P i, Φ.w i, Φ.K i, Φ.mg i, Φ.base i]; exact h1
    exact pe_prop (h4 i) (by rw [Φ.K i]; exact hc) (by rw [Φ.K i]; exact hp) ok' ((Φ.room i).mono hk) (by rw [Φ.K i]; exact h2) .nil passes0n (hab i), sim_prop h5⟩
end
abbrev fEqX : D → D → Option D := fun a b => (eqS false a b).orElse fun _ => (fEq a b).orElse fun _ => eq0 false a b
abbrev fNeX : D → D → Option D := fun a b => (eqS true a b).orElse fun _ => (fNe a b).orElse fun _ => eq0 true a b
/-! ### a law's end -/
/-- the script -/
def scrD (ns : List Int) : D := .bx false .scr (ns.map .int)
/-- the law's mirror answers True on every script -/
def Says (n : Nat) (F : List D → Rs D) : Prop := ∀ ns : List Int, ns.length ≤ n → (∀ z ∈ ns, Builtin.Int.intBits z ≤ 1048576) → ∃ ps, F [scrD ns] = .ok (.bl true) ps
theorem spD_law {K : PySem.W.Frag} {N : Nm} {F : List D → Rs D} {H : Hp} {a : Addr} {ns : List Int} (hS : SqL K H a (ns.map V.int)) {ps : S} (h : F [scrD ns] = .ok (.bl true) ps) : SpD K N 1 F [.ref a] H (fun v _ => v = .bl true) fun _ _ _ => False := by
  refine ⟨rfl, fun _ => none, H, [scrD ns], rfl, ⟨rfl, Ex.refl H, fun _ _ z => (by cases z), fun _ _ z => (by cases z), fun _ _ => False, fun i d hd => ?_, fun _ _ _ _ _ z => z.elim, fun _ _ _ z => z.elim⟩, ?_⟩
  · cases i with
    | zero =>
      cases hd
      refine ⟨_, rfl, .p (.bx hS (by simp) fun j x d hx hd => ?_) fun _ z => z⟩
      rw [List.getElem?_map] at hx hd
      obtain ⟨k1, h1, rfl⟩ := Option.map_eq_some_iff.mp hx
      obtain ⟨k2, h2, rfl⟩ := Option.map_eq_some_iff.mp hd
      rw [h1] at h2; cases h2
      exact .int _
    | succ i => simp at hd
  · rw [h]
    exact fun R' H' v _ r => r.vw.bl
theorem walk_DL {l : PySem.W.OpenLaw} {n k : Nat} {q : Program} {loose : List Str} {XP : (Str → Option Value) → Heap → Prop} {YP : World → Heap → Prop} {d : DefRec} {x : Str} {F : List D → Rs D}
    (hn : l.most = some n) (hn2 : n ≤ sizeLine) (hdf : d.params.defaults = []) (hr : Room k callerA) (hF : Says n F)
    (W : ∀ (w : World) (mg : Str → Option Value) (fa : Addr) (h : Heap), YP w h → h.Ns mainGlobals mg → mg d.name = some (.ref fa) →
      ∃ (K : PySem.W.Frag) (fd : FuncData) (N : Nm), K.In h ∧ (∀ (s : Shared) (u : Value), BindsTo s fd ⟨[u], []⟩ [(x, u)]) ∧
        ∀ base : Heap, K.In base → base.Ns mainGlobals mg → FnOk l.prog w K mg base (L2.CX l.prog w) k fa fd [x] (SpD K N 1 F)) :
    PySem.W.WalkO q loose XP YP l.row.toRowW d [] (fun f vs => PySem.call f vs) := by
  refine Att.attach_callB hn hdf fun w s₀ s₁ mg mb fa o pm cd doc a vs ns G Y ho hd hcd hmg hobj hints hlen hbits hg => ?_
  obtain ⟨K, fd, N, KX, hb, hF'⟩ := W w mg fa _ Y G.T.g hmg
  refine law_call KX G.T.g G.T.b G.T.builtins G.T.nolimit hg hobj hints (Nat.le_trans hlen hn2) hr hF' hb (fun H hO hS => ?_) fun H e s' c => ?_
  · obtain ⟨ps, h⟩ := hF ns hlen hbits
    exact spD_law hS h
  · obtain ⟨a, B, H', cls, d, _, _, _, _, _, _, _, z⟩ := c
    exact z.elim
end DL

set_option maxHeartbeats 4000000
/-! DLS: what the mirrors compute, by simp. -/
namespace DL
open PySem L2
section
variable {a b : DC} {s s1 : S} {m ma mb : DE} {ms : DA} {d e : D} {i j n : Nat} {t u : DT} {α β : Type} {x : Xc}
@[simp] theorem bind_ok {v : α} {f : α → S → Rs β} : (Rs.ok v s).bind f = f v s := rfl
@[simp] theorem bind_ex {f : α → S → Rs β} : (Rs.ex x s).bind f = .ex x s := rfl
@[simp] theorem bind_no {f : α → S → Rs β} : (Rs.no).bind f = .no := rfl
@[simp] theorem rb_ok {v : α} {f : α → S → Ro} : rb (.ok v s) f = f v s := rfl
@[simp] theorem rb_ex {f : α → S → Ro} : rb (.ex x s) f = .ex x s := rfl
@[simp] theorem rb_no {f : α → S → Ro} : rb (.no) f = .no := rfl
def sq (r : Ro) (b : DC) : Ro := match r with
  | .nx s1 => b s1
  | r => r
@[simp] theorem sq_nx : sq (.nx s) b = b s := rfl
@[simp] theorem sq_rt : sq (.rt d s) b = .rt d s := rfl
@[simp] theorem sq_bk : sq (.bk s) b = .bk s := rfl
@[simp] theorem sq_ct : sq (.ct s) b = .ct s := rfl
@[simp] theorem sq_ex : sq (.ex x s) b = .ex x s := rfl
@[simp] theorem sq_no : sq (.no) b = .no := rfl
@[simp] theorem dSeq_s : dSeq a b s = sq (a s) b := rfl
@[simp] theorem dSkip_s : dSkip s = .nx s := rfl
@[simp] theorem dAsg_s : dAsg i m s = rb (m s) fun d s1 => if i < s1.length then .nx (s1.set i (some d)) else .no := rfl
@[simp] theorem dExpr_s : dExpr m s = rb (m s) fun _ s1 => .nx s1 := rfl
@[simp] theorem dRet_s : dRet m s = rb (m s) fun d s1 => .rt d s1 := rfl
@[simp] theorem dIf_s : dIf t a b s = rb (t s) fun c s1 => if c = true then a s1 else b s1 := rfl
@[simp] theorem dBrk_s : dBrk s = .bk s := rfl
@[simp] theorem dCnt_s : dCnt s = .ct s := rfl
@[simp] theorem dC_s : dC d s = .ok d s := rfl
def rdc (o : Option (Option D)) (i : Nat) (s : S) : Rs D := match o with
  | some (some d) => .ok (rd d) (s.set i (some (rd d)))
  | _ => .no
@[simp] theorem rdc_s : rdc (some (some d)) i s = .ok (rd d) (s.set i (some (rd d))) := rfl
@[simp] theorem dVar_s : dVar i s = rdc s[i]? i s := rfl
def mvc (o : Option (Option D)) (i : Nat) (s : S) : Rs D := match o with
  | some (some d) => .ok d (s.set i none)
  | _ => .no
@[simp] theorem mvc_s : mvc (some (some d)) i s = .ok d (s.set i none) := rfl
@[simp] theorem dMv_s : dMv i s = mvc s[i]? i s := rfl
@[simp] theorem o2r_some' : o2r (some d) s = .ok d s := rfl
@[simp] theorem dOp_s {f : D → D → Option D} : dOp f ma mb s = (ma s).bind fun a s1 => (mb s1).bind fun b s2 => o2r (f a b) s2 := rfl
@[simp] theorem dUn_s {f : D → Option D} : dUn f ma s = (ma s).bind fun a s1 => o2r (f a) s1 := rfl
def blc (d : D) (s : S) : Rs Bool := match d with
  | .bl b => .ok b s
  | _ => .no
@[simp] theorem blc_s {b : Bool} : blc (.bl b) s = .ok b s := rfl
@[simp] theorem dB_s : dB m s = (m s).bind blc := rfl
@[simp] theorem dNot_s : dNot t s = (t s).bind fun b s1 => .ok (!b) s1 := rfl
@[simp] theorem dAnd_s : dAnd t u s = (t s).bind fun b s1 => if b = true then u s1 else .ok false s1 := rfl
@[simp] theorem dOr_s : dOr t u s = (t s).bind fun b s1 => if b = true then .ok true s1 else u s1 := rfl
def anc (d : D) (mb : DE) (s : S) : Rs D := match d with
  | .bl true => mb s
  | .bl false => .ok (.bl false) s
  | _ => .no
@[simp] theorem anc_s {b : Bool} : anc (.bl b) m s = if b = true then m s else .ok (.bl false) s := by cases b <;> rfl
@[simp] theorem dAndV_s : dAndV ma mb s = (ma s).bind fun d s1 => anc d mb s1 := rfl
def orc (d : D) (mb : DE) (s : S) : Rs D := match d with
  | .bl false => mb s
  | .bl true => .ok (.bl true) s
  | _ => .no
@[simp] theorem orc_s {b : Bool} : orc (.bl b) m s = if b = true then .ok (.bl true) s else m s := by cases b <;> rfl
@[simp] theorem dOrV_s : dOrV ma mb s = (ma s).bind fun d s1 => orc d mb s1 := by
  unfold dOrV orc; congr 1
def ntc (d : D) (s : S) : Rs D := match d with
  | .bl b => .ok (.bl (!b)) s
  | _ => .no
@[simp] theorem ntc_s {b : Bool} : ntc (.bl b) s = .ok (.bl (!b)) s := rfl
@[simp] theorem dNotV_s : dNotV m s = (m s).bind ntc := rfl
@[simp] theorem dIfE_s : dIfE t ma mb s = (t s).bind fun b s1 => if b = true then ma s1 else mb s1 := rfl
@[simp] theorem dNil_s : dNil s = .ok [] s := rfl
@[simp] theorem dCons_s : dCons m ms s = (m s).bind fun d s1 => (ms s1).bind fun ds s2 => .ok (d :: ds) s2 := rfl
def ldc (o : Option (Option D)) (j : Nat) (ds : List D) (s : S) : Rs (List D) := match o with
  | some (some d) => .ok (d :: ds) (s.set j none)
  | _ => .no
@[simp] theorem ldc_s {ds : List D} : ldc (some (some d)) j ds s = .ok (d :: ds) (s.set j none) := rfl
def ldp (o : Option (Option D)) (r : Rs (List D)) : Rs (List D) := match o with
  | some (some _) => r
  | _ => .no
@[simp] theorem ldp_s {r : Rs (List D)} : ldp (some (some d)) r = r := rfl
@[simp] theorem dLend_s : dLend j ms s = ldp s[j]? ((ms s).bind fun ds s1 => ldc s1[j]? j ds s1) := rfl
@[simp] theorem dTup_s : dTup ms s = (ms s).bind fun ds s1 => if ds.length ≤ lim then .ok (dT (ds.map rd)) s1 else .no := rfl
@[simp] theorem dLst_s : dLst ms s = (ms s).bind fun ds s1 => if ds.length ≤ lim then .ok (mL ds) s1 else .no := rfl
@[simp] theorem dCB_s {f : List D → Option D} : dCB f ms s = (ms s).bind fun ds s1 => o2r (f ds) s1 := rfl
def clc (r : Rs D) (ls : Lends) (s : S) : Rs D := match r with
  | .ok d ps => .ok d (gb ls ps s)
  | .ex x ps => .ex x (gb ls ps s)
  | .no => .no
@[simp] theorem clc_ok {ls : Lends} {ps : S} : clc (.ok d ps) ls s = .ok d (gb ls ps s) := rfl
@[simp] theorem dCall_s {F : List D → Rs D} {ls : Lends} : dCall n F ls ms s = (ms s).bind fun ds s1 => if ds.length = n then clc (F ds) ls s1 else .no := rfl
@[simp] theorem gb_some {ls : Lends} {p : Option D} {ps : S} : gb (some i :: ls) (p :: ps) s = gb ls ps (s.set i p) := rfl
@[simp] theorem gb_none {ls : Lends} {p : Option D} {ps : S} : gb (none :: ls) (p :: ps) s = gb ls ps s := rfl
@[simp] theorem gb_nil {ps : S} : gb [] ps s = s := by cases ps <;> rfl
@[simp] theorem gb_nil2 {ls : Lends} : gb ls [] s = s := by cases ls with
  | nil => rfl
  | cons o ls => cases o <;> rfl
@[simp] theorem msk_t {bs : List Bool} {o : Option D} : msk (true :: bs) (o :: s) = o :: msk bs s := rfl
@[simp] theorem msk_f {bs : List Bool} {o : Option D} : msk (false :: bs) (o :: s) = none :: msk bs s := rfl
@[simp] theorem msk_n : msk [] s = [] := by cases s <;> rfl
def fnc (r : Ro) (pm : List Bool) : Rs D := match r with
  | .nx s' => .ok .non (msk pm s')
  | .rt d s' => .ok d (msk pm s')
  | .ex x s' => .ex x (msk pm s')
  | _ => .no
@[simp] theorem fnc_nx {pm : List Bool} : fnc (.nx s) pm = .ok .non (msk pm s) := rfl
@[simp] theorem fnc_rt {pm : List Bool} : fnc (.rt d s) pm = .ok d (msk pm s) := rfl
theorem fnOf_s {pm : List Bool} {k : Nat} {body : DC} {ds : List D} (h : ds.length = pm.length) : fnOf pm k body ds = fnc (body (ds.map some ++ List.replicate k none)) pm := by
  unfold fnOf
  rw [if_pos h]
  rfl
@[simp] theorem f1_s {f : D → Option D} : f1 f [d] = f d := rfl
@[simp] theorem f2_s {f : D → D → Option D} : f2 f [d, e] = f d e := rfl
@[simp] theorem fl1_int {f : D → Option D} {z : Int} (h : f d = some (.int z)) : flat1 f d = some (.int z) := by simp [flat1, h, sv]
@[simp] theorem rd_int {z : Int} : rd (.int z) = .int z := rfl
@[simp] theorem rd_bl {z : Bool} : rd (.bl z) = .bl z := rfl
@[simp] theorem rd_str {z : Str} : rd (.str z) = .str z := rfl
@[simp] theorem rd_non : rd .non = .non := rfl
@[simp] theorem rd_p {k : BK} {ds : List D} : rd (.bx false k ds) = .bx false k ds := rfl
@[simp] theorem rd_o {k : BK} {ds : List D} : rd (.bx true k ds) = .bx false k (fzs ds) := rfl
@[simp] theorem fAdd_i {x y : Int} : fAdd (.int x) (.int y) = some (.int (x + y)) := rfl
@[simp] theorem fSub_i {x y : Int} : fSub (.int x) (.int y) = some (.int (x - y)) := rfl
theorem fMul_i {x y : Int} (h : mulG x y = true) : fMulA (.int x) (.int y) = some (.int (x * y)) := by simp [fMulA, fMul, h]
theorem fDiv_i {x y : Int} (h : divG y = true) : fDiv (.int x) (.int y) = some (.int (x / y)) := by simp [fDiv, fI, h]
theorem fMod_i {x y : Int} (h : 0 < y) : fMod (.int x) (.int y) = some (.int (x % y)) := by simp [fMod, fI, h]
@[simp] theorem fInt_i {x : Int} : fInt (.int x) = some (.int x) := rfl
@[simp] theorem flInt_i {x : Int} : flat1 fInt (.int x) = some (.int x) := rfl
@[simp] theorem flInt_b {x : Bool} : flat1 fInt (.bl x) = some (.int (if x then 1 else 0)) := rfl
@[simp] theorem flt_i {x y : Int} : flat2 fLt (.int x) (.int y) = some (.bl (decide (x < y))) := rfl
@[simp] theorem fle_i {x y : Int} : flat2 fLe (.int x) (.int y) = some (.bl (decide (x ≤ y))) := rfl
@[simp] theorem fgt_i {x y : Int} : flat2 fGt (.int x) (.int y) = some (.bl (decide (y < x))) := rfl
@[simp] theorem fge_i {x y : Int} : flat2 fGe (.int x) (.int y) = some (.bl (decide (y ≤ x))) := rfl
theorem eqv_int {x y : Int} : PyData.eqv (.int x) (.int y) = decide (x = y) := by
  rfl
end
end DL

set_option maxHeartbeats 4000000
/-! DLT: loops and comprehensions of mirrors by invariants. -/
namespace DL
open PySem L2
section
variable {t : DG} {body : DC} {test : DT} {elt mk mv : DE} {vs : List Nat} {s : S} {ms : DA} {j : Nat}
theorem for_inv (I : Nat → S → Prop) : ∀ (ds : List D) (k : Nat) (s : S), I k s → (∀ i d s, ds[i]? = some d → I (k + i) s → ∃ s1 s2, t d s = some s1 ∧ (body s1 = .nx s2 ∨ body s1 = .ct s2) ∧ I (k + i + 1) s2) → ∃ s', dForL t body ds s = .nx s' ∧ I (k + ds.length) s'
  | [], k, s, h, _ => ⟨s, rfl, h⟩
  | d :: ds, k, s, h, step => by
    obtain ⟨s1, s2, h1, h2, h3⟩ := step 0 d s rfl h
    obtain ⟨s', h4, h5⟩ := for_inv I ds (k + 1) s2 h3 fun i d s hd hi => by
      have := step (i + 1) d s hd (by rw [show k + (i + 1) = k + 1 + i by omega]; exact hi)
      rw [show k + (i + 1) + 1 = k + 1 + i + 1 by omega] at this
      exact this
    refine ⟨s', ?_, by rw [List.length_cons, show k + (ds.length + 1) = k + 1 + ds.length by omega]; exact h5⟩
    unfold dForL
    rw [h1]
    rcases h2 with h2 | h2 <;> (simp only [h2]; exact h4)
/-- a loop whose body only looks: it runs through, or returns -/
theorem for_all (P : D → Prop) (σ0 : D → S → Prop) : True := trivial
theorem comp_inv (I : Nat → List D → S → Prop) : ∀ (ds : List D) (k : Nat) (acc : List D) (s : S), I k acc s → acc.length + ds.length < lim → (∀ i d acc s, ds[i]? = some d → I (k + i) acc s → ∃ s1 s2 b, t d s = some s1 ∧ test s1 = .ok b s2 ∧ (b = true → ∃ e s3, elt s2 = .ok e s3 ∧ I (k + i + 1) (acc ++ [e]) (wipeD s3 vs)) ∧ (b = false → I (k + i + 1) acc (wipeD s2 vs))) →
    ∃ acc' s', dCompL vs t test elt ds acc s = .ok acc' s' ∧ I (k + ds.length) acc' s'
  | [], k, acc, s, h, _, _ => ⟨acc, s, rfl, h⟩
  | d :: ds, k, acc, s, h, hl, step => by
    obtain ⟨s1, s2, b, h1, h2, h3, h4⟩ := step 0 d acc s rfl h
    have rest : ∀ acc s, acc.length + ds.length < lim → I (k + 0 + 1) acc s → ∃ acc' s', dCompL vs t test elt ds acc s = .ok acc' s' ∧ I (k + (d :: ds).length) acc' s' := fun acc s hl hi => by
      obtain ⟨acc', s', h5, h6⟩ := comp_inv I ds (k + 1) acc s hi hl fun i d acc s hd hi => by
        have := step (i + 1) d acc s hd (by rw [show k + (i + 1) = k + 1 + i by omega]; exact hi)
        rw [show k + (i + 1) + 1 = k + 1 + i + 1 by omega] at this
        exact this
      exact ⟨acc', s', h5, by rw [List.length_cons, show k + (ds.length + 1) = k + 1 + ds.length by omega]; exact h6⟩
    simp only [List.length_cons] at hl
    unfold dCompL
    rw [h1]
    cases b with
    | true =>
      obtain ⟨e, s3, h5, h6⟩ := h3 rfl
      simp only [h2, h5, if_pos (show acc.length < lim by omega)]
      exact rest _ _ (by simp; omega) h6
    | false =>
      simp only [h2]
      exact rest _ _ (by omega) (h4 rfl)
/-- a comprehension that changes no slot -/
theorem comp_map (f : D → D) {j : Nat} (hj : j < s.length) : ∀ (ds : List D) (acc : List D), acc.length + ds.length < lim → (∀ d ∈ ds, ∃ s3, elt ((wipeD s vs).set j (some d)) = .ok (f d) s3 ∧ wipeD s3 vs = wipeD s vs) → dCompL vs (gNm j) dYes elt ds acc (wipeD s vs) = .ok (acc ++ ds.map f) (wipeD s vs)
  | [], acc, _, _ => by simp [dCompL]
  | d :: ds, acc, hl, h => by
    obtain ⟨s3, h1, h2⟩ := h d List.mem_cons_self
    simp only [List.length_cons] at hl
    unfold dCompL
    have hg : gNm j d (wipeD s vs) = some ((wipeD s vs).set j (some d)) := by unfold gNm; rw [if_pos (by rw [wipeD_len]; exact hj)]
    simp only [hg, dYes, h1, if_pos (show acc.length < lim by omega), h2]
    rw [comp_map f hj ds _ (by simp; omega) fun d hd => h d (List.mem_cons_of_mem _ hd)]
    simp
theorem dComp_map (f : D → D) {j : Nat} {ds : List D} {s1 : S} (h0 : ms s = .ok ds s1) (hj : j < s1.length) (hl : ds.length < lim) (h : ∀ d ∈ ds, ∃ s3, elt ((wipeD s1 vs).set j (some d)) = .ok (f d) s3 ∧ wipeD s3 vs = wipeD s1 vs) : dComp ms vs (gNm j) dYes elt s = .ok (mL (ds.map f)) (wipeD (wipeD s1 vs) vs) := by
  unfold dComp
  rw [h0]
  simp only [bind_ok]
  rw [comp_map f hj ds [] (by simpa using hl) h]
  simp
@[simp] theorem gb_n1 {ps : S} : gb [none] ps s = s := by cases ps <;> rfl
@[simp] theorem gb_n2 {ps : S} : gb [none, none] ps s = s := by
  cases ps with
  | nil => rfl
  | cons p ps => exact gb_n1
@[simp] theorem gb_n3 {ps : S} : gb [none, none, none] ps s = s := by
  cases ps with
  | nil => rfl
  | cons p ps => exact gb_n2
@[simp] theorem gb_n4 {ps : S} : gb [none, none, none, none] ps s = s := by
  cases ps with
  | nil => rfl
  | cons p ps => exact gb_n3
@[simp] theorem wipeD_nil : wipeD s [] = s := rfl
@[simp] theorem wipeD_cons {v : Nat} {vs : List Nat} : wipeD s (v :: vs) = (wipeD s vs).set v none := rfl
@[simp] theorem feq_ii {x y : Int} : flat2 fEqX (.int x) (.int y) = some (.bl (decide (x = y))) := rfl
@[simp] theorem feq_ss {x y : Str} : flat2 fEqX (.str x) (.str y) = some (.bl (decide (x = y))) := rfl
@[simp] theorem feq_bb {x y : Bool} : flat2 fEqX (.bl x) (.bl y) = some (.bl (decide (x = y))) := rfl
@[simp] theorem fne_ii {x y : Int} : flat2 fNeX (.int x) (.int y) = some (.bl (!decide (x = y))) := rfl
@[simp] theorem fne_ss {x y : Str} : flat2 fNeX (.str x) (.str y) = some (.bl (!decide (x = y))) := rfl
theorem toPs_str : ∀ ls : List Str, toP.toPs (ls.map .str) = some (ls.map PyData.str)
  | [] => rfl
  | x :: r => by
    have := toPs_str r
    simp [toP.toPs, toP, this]
theorem lay_str : ∀ ls : List Str, (∀ x ∈ ls, PyData.strOk x = true) → PyData.canLayAll0 (ls.map PyData.str) = true ∧ PyData.depthAll (ls.map PyData.str) = 0
  | [], _ => by simp [PyData.canLayAll0, PyData.depthAll]
  | x :: r, h => by
    obtain ⟨h1, h2⟩ := lay_str r fun y hy => h y (List.mem_cons_of_mem _ hy)
    simp [PyData.canLayAll0, PyData.canLay0, PyData.depthAll, PyData.depth, h1, h2, h x List.mem_cons_self]
theorem ne_nil {o o' : Bool} {ls : List Str} (h : ∀ x ∈ ls, PyData.strOk x = true) : flat2 fNeX (.bx o .lst (ls.map .str)) (.bx o' .lst []) = some (.bl (!ls.isEmpty)) := by
  obtain ⟨h1, h2⟩ := lay_str ls h
  have e : fNe (.bx o .lst (ls.map .str)) (.bx o' .lst []) = some (.bl (!ls.isEmpty)) := by
    unfold fNe eqB
    simp only [toP, toPs_str, Option.map_some, toP.toPs]
    have hs : (SeqAt.shaped (.list (ls.map PyData.str)) && SeqAt.shaped (.list [])) = true := by
      simp [SeqAt.shaped, PyData.canLay0, PyData.depth, h1, h2, PyData.canLayAll0, PyData.depthAll]
    rw [if_pos hs]
    cases ls <;> simp [PyData.eqv, PyData.eqvAll]
  simp [flat2, fNeX, eqS, e, sv]
theorem svs_str : ∀ ls : List Str, svs (ls.map .str) = some (ls.map V.str)
  | [] => rfl
  | x :: r => by simp [svs, sv, svs_str r]
theorem inV_str {x : Str} : ∀ ls : List Str, inV (.str x) (ls.map V.str) = decide (x ∈ ls)
  | [] => by simp [inV]
  | y :: r => by
    have := inV_str (x := x) r
    unfold inV at this ⊢
    simp only [List.map_cons, List.any_cons, this, List.mem_cons]
    by_cases h : x = y
    · subst h; simp [eqV]
    · have h2 : ¬ y = x := fun z => h z.symm
      simp [eqV, h, h2]
theorem fin_str {o : Bool} {x : Str} {ls : List Str} : flat2 fIn (.str x) (.bx o .lst (ls.map .str)) = some (.bl (decide (x ∈ ls))) := by
  simp [flat2, fIn, fIn0, sv, svs_str, inV_str]
theorem fnin_str {o : Bool} {x : Str} {ls : List Str} : flat2 fNin (.str x) (.bx o .lst (ls.map .str)) = some (.bl (!decide (x ∈ ls))) := by
  simp [flat2, fNin, fIn0, sv, svs_str, inV_str]
theorem dFor_s : dFor ms t body s = rb (ms s) fun ds s1 => dForL t body ds s1 := rfl
theorem gNm_s {d : D} (h : j < s.length) : gNm j d s = some (s.set j (some d)) := if_pos h
def rgD (lo : Int) (n : Nat) : List D := (List.range n).map fun k => .int (lo + (k : Nat))
theorem rng1_s {n : Int} (h0 : 0 ≤ n) (h : n < 1000000) {s1 : S} (hm : ms s = .ok [.int n] s1) : dRng1 ms s = .ok (rgD 0 n.toNat) s1 := by
  unfold dRng1
  rw [hm]
  simp only [bind_ok]
  rw [if_pos (by omega)]
  rfl
theorem rgD_len {lo : Int} {n : Nat} : (rgD lo n).length = n := by simp [rgD]
theorem rgD_get {lo : Int} {n i : Nat} {d : D} (h : (rgD lo n)[i]? = some d) : i < n ∧ d = .int (lo + (i : Nat)) := by
  unfold rgD at h
  rw [List.getElem?_map] at h
  obtain ⟨k, hk, rfl⟩ := Option.map_eq_some_iff.mp h
  have hi : i < n := by simpa using (List.getElem?_eq_some_iff.mp hk).1
  rw [List.getElem?_range hi] at hk
  cases hk
  exact ⟨hi, rfl⟩
end
end DL

set_option maxHeartbeats 4000000
/-! TL1: typed programs, and what it is that a mirror does as a typed program does. -/
namespace TL
open PySem L2 DL
/-- what a typed block comes to: on, out with a value, out of the round, next round, an exception, nothing told -/
inductive Rc (σ β ρ : Type) where
  | nx (v : σ) | rt (r : ρ) | bk (b : β) | ct (b : β) | ex (x : Xc) | no
abbrev Fn (ρ : Type) := Rc Empty Empty ρ
structure Post (σ β ρ : Type) where
  nx : σ → S → Prop
  lp : β → S → Prop
  rt : ρ → D → S → Prop
  ex : Xc → S → Prop
section
variable {σ σ' β β' ρ ρ' α γ : Type}
def SimX (r : Ro) (t : Rc σ β ρ) (P : Post σ β ρ) : Prop := match t with
  | .nx v => ∃ s, r = .nx s ∧ P.nx v s
  | .rt q => ∃ d s, r = .rt d s ∧ P.rt q d s
  | .bk b => ∃ s, r = .bk s ∧ P.lp b s
  | .ct b => ∃ s, r = .ct s ∧ P.lp b s
  | .ex x => ∃ s, r = .ex x s ∧ P.ex x s
  | .no => True
/-- the same, not to be unfolded by the way -/
structure Sim (r : Ro) (t : Rc σ β ρ) (P : Post σ β ρ) : Prop where
  h : SimX r t P
def bindC (t : Rc σ β ρ) (k : σ → Rc σ' β ρ) : Rc σ' β ρ := match t with
  | .nx v => k v
  | .rt q => .rt q
  | .bk b => .bk b
  | .ct b => .ct b
  | .ex x => .ex x
  | .no => .no
def callT (t : Fn α) (k : α → Rc σ β ρ) : Rc σ β ρ := match t with
  | .rt v => k v
  | .ex x => .ex x
  | _ => .no
def bindO (t : Option α) (k : α → Rc σ β ρ) : Rc σ β ρ := match t with
  | some v => k v
  | none => .no
def bindV (v : α) (k : α → γ) : γ := k v
@[simp] theorem bindC_nx {v : σ} {k : σ → Rc σ' β ρ} : bindC (.nx v) k = k v := rfl
@[simp] theorem bindC_rt {v : ρ} {k : σ → Rc σ' β ρ} : bindC (.rt v) k = .rt v := rfl
@[simp] theorem bindC_bk {v : β} {k : σ → Rc σ' β ρ} : bindC (.bk v) k = .bk v := rfl
@[simp] theorem bindC_ct {v : β} {k : σ → Rc σ' β ρ} : bindC (.ct v) k = .ct v := rfl
@[simp] theorem bindC_ex {v : Xc} {k : σ → Rc σ' β ρ} : bindC (.ex v) k = .ex v := rfl
@[simp] theorem bindC_no {k : σ → Rc σ' β ρ} : bindC .no k = .no := rfl
@[simp] theorem callT_rt {v : α} {k : α → Rc σ β ρ} : callT (.rt v) k = k v := rfl
@[simp] theorem callT_ex {x : Xc} {k : α → Rc σ β ρ} : callT (.ex x) k = .ex x := rfl
@[simp] theorem callT_no {k : α → Rc σ β ρ} : callT .no k = .no := rfl
@[simp] theorem bindO_some {v : α} {k : α → Rc σ β ρ} : bindO (some v) k = k v := rfl
@[simp] theorem bindO_none {k : α → Rc σ β ρ} : bindO none k = .no := rfl
@[simp] theorem bindV_eq {v : α} {k : α → γ} : bindV v k = k v := rfl
theorem bindC_ite {c : Prop} [Decidable c] {t u : Rc σ β ρ} {k : σ → Rc σ' β ρ} : bindC (if c then t else u) k = if c then bindC t k else bindC u k := by split <;> rfl
theorem callT_ite {c : Prop} [Decidable c] {t u : Fn α} {k : α → Rc σ β ρ} : callT (if c then t else u) k = if c then callT t k else callT u k := by split <;> rfl

variable {t : Rc σ β ρ} {T : α → Rc σ β ρ} {P : Post σ β ρ} {r : Ro} {s s1 s' : S} {R : DC} {k : D → S → Ro} {kb : Bool → S → Ro} {kl : List D → S → Ro} {m ma mb mc : DE} {ms : DA} {u w : DT} {i j n : Nat} {d d' d1 d2 : D} {a b : DC} {f g : D → D → Option D}
/-! ### ends -/
theorem q_nx {v : σ} (h : P.nx v s) : Sim (.nx s) (.nx v : Rc σ β ρ) P := ⟨s, rfl, h⟩
theorem q_rt {v : ρ} (h : P.rt v d s) : Sim (.rt d s) (.rt v : Rc σ β ρ) P := ⟨d, s, rfl, h⟩
theorem q_bk {v : β} (h : P.lp v s) : Sim (.bk s) (.bk v : Rc σ β ρ) P := ⟨s, rfl, h⟩
theorem q_ct {v : β} (h : P.lp v s) : Sim (.ct s) (.ct v : Rc σ β ρ) P := ⟨s, rfl, h⟩
theorem q_ex {x : Xc} (h : P.ex x s) : Sim (.ex x s) (.ex x : Rc σ β ρ) P := ⟨s, rfl, h⟩
theorem q_no : Sim r (.no : Rc σ β ρ) P := ⟨trivial⟩
theorem q_if {c : Bool} {r1 r2 : Ro} {t1 t2 : Rc σ β ρ} (h1 : c = true → Sim r1 t1 P) (h2 : c = false → Sim r2 t2 P) : Sim (if c = true then r1 else r2) (if c = true then t1 else t2) P := by
  cases c with
  | true => exact h1 rfl
  | false => exact h2 rfl
theorem q_bind {v : α} {o : Option α} (h : ∀ v, o = some v → Sim r (T v) P) : Sim r (bindO o T) P := by
  cases o with
  | none => first | trivial | exact q_no
  | some v => exact h v rfl
/-! ### statements -/
theorem sq_seq : sq (dSeq a b s) R = sq (a s) fun s1 => sq (b s1) R := by
  show sq (match a s with
  | .nx s1 => b s1
  | r => r) R = _
  cases a s <;> rfl
theorem sq_rb {α : Type} {r : Rs α} {f : α → S → Ro} : sq (rb r f) R = rb r fun a s => sq (f a s) R := by cases r <;> rfl
theorem c_seq (h : Sim (sq (a s) fun s1 => sq (b s1) R) t P) : Sim (sq (dSeq a b s) R) t P := by rw [sq_seq]; exact h
theorem c_skip (h : Sim (R s) t P) : Sim (sq (dSkip s) R) t P := h
def asgK (j : Nat) (d : D) (s : S) (R : DC) : Ro := if j < s.length then R (s.set j (some d)) else .no
theorem c_asg (h : Sim (rb (m s) fun d s1 => asgK j d s1 R) t P) : Sim (sq (dAsg j m s) R) t P := by
  have e : sq (dAsg j m s) R = rb (m s) fun d s1 => asgK j d s1 R := by
    show sq (rb (m s) _) R = _
    rw [sq_rb]
    congr 1
    funext d s1
    unfold asgK
    split <;> rfl
  rw [e]; exact h
/-- a value gets a name -/
theorem x_asg (e : α → D) (v : α) {st : α → S} (hj : j < s.length) (hs : ∀ x, s.set j (some (e x)) = st x) (h : ∀ x, Sim (R (st x)) (T x) P) : Sim (asgK j (e v) s R) (bindV v T) P := by
  unfold asgK
  rw [if_pos hj, hs]
  exact h v
/-- a value that has a name -/
theorem x_asgN (hj : j < s.length) (hs : s.set j (some d) = s') (h : Sim (R s') t P) : Sim (asgK j d s R) t P := by
  unfold asgK
  rw [if_pos hj, hs]
  exact h
theorem c_expr (h : Sim (rb (m s) fun _ s1 => R s1) t P) : Sim (sq (dExpr m s) R) t P := by
  have e : sq (dExpr m s) R = rb (m s) fun _ s1 => R s1 := by
    show sq (rb (m s) _) R = _
    rw [sq_rb]
    rfl
  rw [e]; exact h
theorem c_ret (h : Sim (rb (m s) fun d s1 => .rt d s1) t P) : Sim (sq (dRet m s) R) t P := by
  have e : sq (dRet m s) R = rb (m s) fun d s1 => .rt d s1 := by
    show sq (rb (m s) _) R = _
    rw [sq_rb]
    rfl
  rw [e]; exact h
theorem c_if (h : Sim (rb (u s) fun c s1 => if c = true then sq (a s1) R else sq (b s1) R) t P) : Sim (sq (dIf u a b s) R) t P := by
  have e : sq (dIf u a b s) R = rb (u s) fun c s1 => if c = true then sq (a s1) R else sq (b s1) R := by
    show sq (rb (u s) _) R = _
    rw [sq_rb]
    congr 1
    funext c s1
    split <;> rfl
  rw [e]; exact h
/-- both branches come together -/
theorem q_join {c : Bool} {t1 t2 : Rc σ' β ρ} {T : σ' → Rc σ β ρ} (J : σ' → S → Prop) (h1 : c = true → Sim (sq (a s) .nx) t1 ⟨J, P.lp, P.rt, P.ex⟩) (h2 : c = false → Sim (sq (b s) .nx) t2 ⟨J, P.lp, P.rt, P.ex⟩) (hR : ∀ v s', J v s' → Sim (R s') (T v) P) :
    Sim (if c = true then sq (a s) R else sq (b s) R) (bindC (if c = true then t1 else t2) T) P := by
  have key : ∀ {a : DC} {t1 : Rc σ' β ρ}, Sim (sq (a s) .nx) t1 ⟨J, P.lp, P.rt, P.ex⟩ → Sim (sq (a s) R) (bindC t1 T) P := by
    intro a t1 h
    have e : sq (a s) R = sq (sq (a s) .nx) R := by cases a s <;> rfl
    rw [e]
    cases t1 with
    | nx v =>
      obtain ⟨s2, h1, h2⟩ := h
      rw [h1]
      exact hR v s2 h2
    | rt q =>
      obtain ⟨d, s2, h1, h2⟩ := h
      rw [h1]
      exact ⟨d, s2, rfl, h2⟩
    | bk q =>
      obtain ⟨s2, h1, h2⟩ := h
      rw [h1]
      exact ⟨s2, rfl, h2⟩
    | ct q =>
      obtain ⟨s2, h1, h2⟩ := h
      rw [h1]
      exact ⟨s2, rfl, h2⟩
    | ex q =>
      obtain ⟨s2, h1, h2⟩ := h
      rw [h1]
      exact ⟨s2, rfl, h2⟩
    | no => first | trivial | exact q_no
  cases c with
  | true => exact key (h1 rfl)
  | false => exact key (h2 rfl)
theorem c_brk (h : Sim (.bk s) t P) : Sim (sq (dBrk s) R) t P := h
theorem c_cnt (h : Sim (.ct s) t P) : Sim (sq (dCnt s) R) t P := h
/-! ### targets -/
def tgtK (t : DG) (d : D) (s : S) (R : DC) : Ro := match t d s with
  | some s1 => R s1
  | none => .no
def tgtsK (t : DGs) (ds : List D) (s : S) (R : DC) : Ro := match t ds s with
  | some s1 => R s1
  | none => .no
theorem g_nm (hj : j < s.length) (hs : s.set j (some d) = s') (h : Sim (R s') t P) : Sim (tgtK (gNm j) d s R) t P := by
  unfold tgtK gNm
  rw [if_pos hj, hs]
  exact h
theorem g_tp {ug : DGs} {ds : List D} (hl : ds.length = n) (h : Sim (tgtsK ug ds s R) t P) : Sim (tgtK (gTp n ug) (.bx false .tup ds) s R) t P := by
  have e : tgtK (gTp n ug) (.bx false .tup ds) s R = tgtsK ug ds s R := by
    unfold tgtK tgtsK gTp
    simp only [if_pos hl]
  rw [e]; exact h
theorem gs_c {tg : DG} {ug : DGs} {ds : List D} (h : Sim (tgtK tg d s fun s1 => tgtsK ug ds s1 R) t P) : Sim (tgtsK (dgCons tg ug) (d :: ds) s R) t P := by
  have e : tgtsK (dgCons tg ug) (d :: ds) s R = tgtK tg d s fun s1 => tgtsK ug ds s1 R := by
    show (match (tg d s).bind fun s1 => ug ds s1 with
      | some s1 => R s1
      | none => Ro.no) = match tg d s with
      | some s1 => tgtsK ug ds s1 R
      | none => .no
    cases tg d s <;> rfl
  rw [e]; exact h
theorem gs_n (h : Sim (R s) t P) : Sim (tgtsK dgNil [] s R) t P := h
/-! ### loops -/
def forT (f : α → σ → Rc σ σ ρ) : List α → σ → Rc σ β ρ
  | [], v => .nx v
  | x :: xs, v => match f x v with
    | .nx v => forT f xs v
    | .ct v => forT f xs v
    | .bk v => .nx v
    | .rt r => .rt r
    | .ex x => .ex x
    | .no => .no
theorem sim_for {tg : DG} {body : DC} {e : α → D} {fT : α → σ' → Rc σ' σ' ρ} (I : σ' → S → Prop) {pr : ρ → D → S → Prop} {pe : Xc → S → Prop} {pl : β → S → Prop} (step : ∀ x v s, I v s → Sim (tgtK tg (e x) s fun s2 => sq (body s2) .nx) (fT x v) ⟨I, I, pr, pe⟩) :
    ∀ (l : List α) (v : σ') (s : S), I v s → Sim (dForL tg body (l.map e) s) (forT (β := β) fT l v) ⟨I, pl, pr, pe⟩
  | [], v, s, h => ⟨s, rfl, h⟩
  | x :: xs, v, s, h => by
    have st := step x v s h
    show Sim (dForL tg body (e x :: xs.map e) s) _ _
    unfold dForL forT
    unfold tgtK at st
    cases q : tg (e x) s with
    | none =>
      rw [q] at st
      cases z : fT x v with
      | no => first | trivial | exact q_no
      | nx v => rw [z] at st; obtain ⟨_, h1, _⟩ := st; cases h1
      | ct v => rw [z] at st; obtain ⟨_, h1, _⟩ := st; cases h1
      | bk v => rw [z] at st; obtain ⟨_, h1, _⟩ := st; cases h1
      | rt v => rw [z] at st; obtain ⟨_, _, h1, _⟩ := st; cases h1
      | ex v => rw [z] at st; obtain ⟨_, h1, _⟩ := st; cases h1
    | some s2 =>
      rw [q] at st
      have e1 : sq (body s2) .nx = body s2 := by cases body s2 <;> rfl
      simp only [e1] at st
      simp only []
      cases z : fT x v with
      | no => first | trivial | exact q_no
      | nx v =>
        rw [z] at st; obtain ⟨s3, h1, h2⟩ := st
        simp only [h1]
        exact sim_for I step xs v s3 h2
      | ct v =>
        rw [z] at st; obtain ⟨s3, h1, h2⟩ := st
        simp only [h1]
        exact sim_for I step xs v s3 h2
      | bk v =>
        rw [z] at st; obtain ⟨s3, h1, h2⟩ := st
        simp only [h1]
        exact ⟨s3, rfl, h2⟩
      | rt v =>
        rw [z] at st; obtain ⟨d, s3, h1, h2⟩ := st
        simp only [h1]
        exact ⟨d, s3, rfl, h2⟩
      | ex v =>
        rw [z] at st; obtain ⟨s3, h1, h2⟩ := st
        simp only [h1]
        exact ⟨s3, rfl, h2⟩
theorem sim_bindC {r : Ro} {t1 : Rc σ' β ρ} {T : σ' → Rc σ β ρ} {J : σ' → S → Prop} (h : Sim r t1 ⟨J, P.lp, P.rt, P.ex⟩) (hR : ∀ v s', J v s' → Sim (R s') (T v) P) : Sim (sq r R) (bindC t1 T) P := by
  cases t1 with
  | nx v =>
    obtain ⟨s2, h1, h2⟩ := h
    rw [h1]
    exact hR v s2 h2
  | rt q =>
    obtain ⟨d, s2, h1, h2⟩ := h
    rw [h1]
    exact ⟨d, s2, rfl, h2⟩
  | bk q =>
    obtain ⟨s2, h1, h2⟩ := h
    rw [h1]
    exact ⟨s2, rfl, h2⟩
  | ct q =>
    obtain ⟨s2, h1, h2⟩ := h
    rw [h1]
    exact ⟨s2, rfl, h2⟩
  | ex q =>
    obtain ⟨s2, h1, h2⟩ := h
    rw [h1]
    exact ⟨s2, rfl, h2⟩
  | no => first | trivial | exact q_no
theorem c_for {tg : DG} {body : DC} (h : Sim (rb (ms s) fun ds s1 => sq (dForL tg body ds s1) R) t P) : Sim (sq (dFor ms tg body s) R) t P := by
  have e : sq (dFor ms tg body s) R = rb (ms s) fun ds s1 => sq (dForL tg body ds s1) R := by
    show sq (rb (ms s) _) R = _
    rw [sq_rb]
  rw [e]; exact h
theorem q_for {tg : DG} {body : DC} {e : α → D} {l : List α} {v0 : σ'} {fT : α → σ' → Rc σ' σ' ρ} {T : σ' → Rc σ β ρ} (I : σ' → S → Prop) (h0 : I v0 s) (step : ∀ x v s, I v s → Sim (tgtK tg (e x) s fun s2 => sq (body s2) .nx) (fT x v) ⟨I, I, P.rt, P.ex⟩) (hR : ∀ v s', I v s' → Sim (R s') (T v) P) :
    Sim (sq (dForL tg body (l.map e) s) R) (bindC (forT fT l v0) T) P :=
  sim_bindC (sim_for I step l v0 s h0) hR
/-- the keys of a dict -/
def noexC (t : Rc σ β ρ) : Rc σ β ρ := match t with
  | .ex _ => .no
  | t => t
theorem c_forK {tg : DG} {body : DC} {o : Bool} {ks : List Key} {ds : List D} {e : α → D} {l : List α} {v0 : σ'} {fT : α → σ' → Rc σ' σ' ρ} {T : σ' → Rc σ β ρ} (I : σ' → S → Prop) (hs : s[j]? = some (some (.bx o (.dct ks) ds))) (hs' : s.set j (some (rd (.bx o (.dct ks) ds))) = s') (hk : ks.map keyD = l.map e) (h0 : I v0 s')
    (step : ∀ x v s, I v s → Sim (tgtK tg (e x) s fun s2 => sq (body s2) .nx) (fT x v) ⟨I, I, P.rt, P.ex⟩) (hR : ∀ v s', I v s' → Sim (R s') (T v) P) :
    Sim (sq (dForK j tg body s) R) (bindC (noexC (forT fT l v0)) T) P := by
  refine sim_bindC (J := I) ?_ hR
  have h := sim_for (β := β) (pl := P.lp) I step l v0 s' h0
  have e1 : dForK j tg body s = noex (dForL tg body (l.map e) s') := by
    unfold dForK
    rw [hs]
    simp only [hs', hk]
  rw [e1]
  cases z : forT (β := β) fT l v0 with
  | nx v => rw [z] at h; obtain ⟨s2, h1, h2⟩ := h; rw [h1]; exact ⟨s2, rfl, h2⟩
  | ct v => rw [z] at h; obtain ⟨s2, h1, h2⟩ := h; rw [h1]; exact ⟨s2, rfl, h2⟩
  | bk v => rw [z] at h; obtain ⟨s2, h1, h2⟩ := h; rw [h1]; exact ⟨s2, rfl, h2⟩
  | rt v => rw [z] at h; obtain ⟨d, s2, h1, h2⟩ := h; rw [h1]; exact ⟨d, s2, rfl, h2⟩
  | ex v => first | trivial | exact q_no
  | no => first | trivial | exact q_no
/-! ### functions -/
def SimG (r : Rs D) (t : Fn α) (J : α → D → S → Prop) : Prop := match t with
  | .rt q => ∃ d ps, r = .ok d ps ∧ J q d ps
  | .ex x => ∃ ps, r = .ex x ps
  | _ => True
structure SimF (r : Rs D) (t : Fn α) (J : α → D → S → Prop) : Prop where
  h : SimG r t J
theorem f_start {M : DC} {t : Fn α} {J : α → D → S → Prop} {pm : List Bool} (h : Sim (sq (M s) fun s => .rt .non s) t ⟨fun e => e.elim, fun e => e.elim, fun q d s => J q d (msk pm s), fun _ _ => True⟩) : SimF (fnc (M s) pm) t J := by
  have e : fnc (M s) pm = fnc (sq (M s) fun s => .rt .non s) pm := by cases M s <;> rfl
  rw [e]
  cases t with
  | rt q =>
    obtain ⟨d, s2, h1, h2⟩ := h
    rw [h1]
    exact ⟨d, _, rfl, h2⟩
  | ex x =>
    obtain ⟨s2, h1, _⟩ := h
    rw [h1]
    exact ⟨_, rfl⟩
  | nx e => exact ⟨trivial⟩
  | bk e => exact ⟨trivial⟩
  | ct e => exact ⟨trivial⟩
  | no => exact ⟨trivial⟩
def clk (r : Rs D) (ls : Lends) (s : S) (k : D → S → Ro) : Ro := rb (clc r ls s) k
theorem x_callK {F : Rs D} {t : Fn α} {ls : Lends} (J : α → D → S → Prop) (hF : SimF F t J) (h : ∀ q d ps, J q d ps → Sim (k d (gb ls ps s)) (T q) P) (hx : ∀ x ps, P.ex x (gb ls ps s)) : Sim (clk F ls s k) (callT t T) P := by
  unfold clk
  cases t with
  | rt q =>
    obtain ⟨d, ps, h1, h2⟩ := hF
    rw [h1]
    exact h q d ps h2
  | ex x =>
    obtain ⟨ps, h1⟩ := hF
    rw [h1]
    exact ⟨_, rfl, hx x ps⟩
  | nx e => first | trivial | exact q_no
  | bk e => first | trivial | exact q_no
  | ct e => first | trivial | exact q_no
  | no => first | trivial | exact q_no
theorem rb_bind {α β : Type} {r : Rs α} {f : α → S → Rs β} {k : β → S → Ro} : rb (r.bind f) k = rb r fun a s => rb (f a s) k := by cases r <;> rfl
theorem x_call {F : List D → Rs D} {ls : Lends} (h : Sim (rb (ms s) fun ds s1 => if ds.length = n then clk (F ds) ls s1 k else .no) t P) : Sim (rb (dCall n F ls ms s) k) t P := by
  have e : rb (dCall n F ls ms s) k = rb (ms s) fun ds s1 => if ds.length = n then clk (F ds) ls s1 k else .no := by
    rw [dCall_s, rb_bind]
    congr 1
    funext ds s1
    split <;> rfl
  rw [e]; exact h
theorem x_pos {p : Prop} [Decidable p] {r r' : Ro} (hp : p) (h : Sim r t P) : Sim (if p then r else r') t P := by rw [if_pos hp]; exact h
theorem gb_all : ∀ {ls : Lends} {ps s : S}, ls.all (·.isNone) = true → gb ls ps s = s
  | [], ps, s, _ => gb_nil
  | none :: ls, [], s, _ => gb_nil2
  | none :: ls, p :: ps, s, h => gb_all (ls := ls) (ps := ps) (s := s) (by simpa using h)
  | some _ :: _, _, _, h => by simp at h
/-! ### expressions -/
theorem x_c (h : Sim (k d s) t P) : Sim (rb (dC d s) k) t P := h
theorem x_v (hs : s[j]? = some (some d)) (hd : rd d = d') (hs' : s.set j (some d') = s') (h : Sim (k d' s') t P) : Sim (rb (dVar j s) k) t P := by
  rw [dVar_s, hs, rdc_s, hd, hs']
  exact h
theorem x_vf (hs : s[j]? = some (some d)) (hd : rd d = d) (h : Sim (k d s) t P) : Sim (rb (dVar j s) k) t P := by
  refine x_v hs hd ?_ h
  obtain ⟨hl, he⟩ := List.getElem?_eq_some_iff.mp hs
  rw [← he, List.set_getElem_self]
theorem x_m (hs : s[j]? = some (some d)) (hs' : s.set j none = s') (h : Sim (k d s') t P) : Sim (rb (dMv j s) k) t P := by
  rw [dMv_s, hs, mvc_s, hs']
  exact h
theorem x_op (h : Sim (rb (ma s) fun x s1 => rb (mb s1) fun y s2 => rb (o2r (f x y) s2) k) t P) : Sim (rb (dOp f ma mb s) k) t P := by
  rw [dOp_s, rb_bind]
  simp only [rb_bind]
  exact h
theorem x_un {f : D → Option D} (h : Sim (rb (ma s) fun x s1 => rb (o2r (f x) s1) k) t P) : Sim (rb (dUn f ma s) k) t P := by
  rw [dUn_s, rb_bind]
  exact h
theorem x_some {o : Option D} (ho : o = some d) (h : Sim (k d s) t P) : Sim (rb (o2r o s) k) t P := by
  rw [ho]; exact h
theorem x_opt {o : Option D} {v : Option α} (e : α → D) (ho : o = v.map e) (h : ∀ x, Sim (k (e x) s) (T x) P) : Sim (rb (o2r o s) k) (bindO v T) P := by
  rw [ho]
  cases v with
  | none => first | trivial | exact q_no
  | some x => exact h x
theorem x_b (h : Sim (rb (m s) fun d s1 => rb (blc d s1) kb) t P) : Sim (rb (dB m s) kb) t P := by
  rw [dB_s, rb_bind]; exact h
theorem x_blc {c : Bool} (h : Sim (kb c s) t P) : Sim (rb (blc (.bl c) s) kb) t P := h
theorem x_not (h : Sim (rb (u s) fun c s1 => kb (!c) s1) t P) : Sim (rb (dNot u s) kb) t P := by
  rw [dNot_s, rb_bind]; exact h
theorem x_and (h : Sim (rb (u s) fun c s1 => rb (if c = true then w s1 else .ok false s1) kb) t P) : Sim (rb (dAnd u w s) kb) t P := by
  rw [dAnd_s, rb_bind]; exact h
theorem x_or (h : Sim (rb (u s) fun c s1 => rb (if c = true then .ok true s1 else w s1) kb) t P) : Sim (rb (dOr u w s) kb) t P := by
  rw [dOr_s, rb_bind]; exact h
def bq (b : Bool) (s : S) : Ro := .rt (.bl b) s
theorem bq_inj {r : Rs Bool} {c : Bool} (h : rb r bq = .rt (.bl c) s) : r = .ok c s := by
  cases r with
  | ok b s2 =>
    have h : Ro.rt (.bl b) s2 = .rt (.bl c) s := h
    injection h with h1 h2
    injection h1 with h1
    subst h1 h2
    rfl
  | ex x s2 => cases h
  | no => cases h
abbrev PP (e : α → D) (s : S) : Post Empty Empty α := ⟨fun e => e.elim, fun e => e.elim, fun q d s' => d = e q ∧ s' = s, fun _ _ => True⟩
theorem q_pp {e : α → D} {v : α} : Sim (.rt (e v) s) (.rt v) (PP e s) := ⟨_, _, rfl, rfl, rfl⟩
/-- both are pure -/
theorem x_andP {c c2 : Bool} (hw : Sim (rb (w s) bq) (.rt c2) (PP D.bl s)) (h : Sim (kb (c && c2) s) t P) : Sim (rb (if c = true then w s else .ok false s) kb) t P := by
  obtain ⟨d, s2, h1, rfl, rfl⟩ := hw
  cases c with
  | false => exact h
  | true =>
    rw [if_pos rfl, bq_inj h1]
    exact h
theorem x_orP {c c2 : Bool} (hw : Sim (rb (w s) bq) (.rt c2) (PP D.bl s)) (h : Sim (kb (c || c2) s) t P) : Sim (rb (if c = true then .ok true s else w s) kb) t P := by
  obtain ⟨d, s2, h1, rfl, rfl⟩ := hw
  cases c with
  | true => exact h
  | false =>
    rw [if_neg (by decide), bq_inj h1]
    exact h
theorem sim_bq {r : Rs Bool} {t : Fn Bool} {J : Bool → S → Prop} {T : Bool → Rc σ β ρ} {pe : Xc → S → Prop} (h : Sim (rb r bq) t ⟨fun e => e.elim, fun e => e.elim, fun q d s => d = .bl q ∧ J q s, pe⟩) (hR : ∀ c s', J c s' → Sim (kb c s') (T c) P) (hx : ∀ x s, pe x s → P.ex x s) : Sim (rb r kb) (callT t T) P := by
  cases t with
  | rt q =>
    obtain ⟨d, s2, h1, rfl, h2⟩ := h
    rw [bq_inj h1]
    exact hR q s2 h2
  | ex x =>
    obtain ⟨s2, h1, h2⟩ := h
    cases r with
    | ok b s2 => cases h1
    | ex y s3 =>
      have h1 : Ro.ex y s3 = .ex x s2 := h1
      injection h1 with h3 h4
      subst h3 h4
      exact ⟨_, rfl, hx _ _ h2⟩
    | no => cases h1
  | nx e => first | trivial | exact q_no
  | bk e => first | trivial | exact q_no
  | ct e => first | trivial | exact q_no
  | no => first | trivial | exact q_no
/-- the second one may fail -/
theorem x_andJ {c : Bool} {t2 : Fn Bool} {T : Bool → Rc σ β ρ} (J : Bool → S → Prop) (h1 : c = true → Sim (rb (w s) bq) t2 ⟨fun e => e.elim, fun e => e.elim, fun q d s => d = .bl q ∧ J q s, P.ex⟩) (h2 : J false s) (hR : ∀ c s', J c s' → Sim (kb c s') (T c) P) : Sim (rb (if c = true then w s else .ok false s) kb) (callT (if c = true then t2 else .rt false) T) P := by
  refine sim_bq (J := J) (pe := P.ex) ?_ hR fun _ _ h => h
  cases c with
  | true => exact h1 rfl
  | false => exact ⟨_, _, rfl, rfl, h2⟩
theorem x_orJ {c : Bool} {t2 : Fn Bool} {T : Bool → Rc σ β ρ} (J : Bool → S → Prop) (h1 : c = false → Sim (rb (w s) bq) t2 ⟨fun e => e.elim, fun e => e.elim, fun q d s => d = .bl q ∧ J q s, P.ex⟩) (h2 : J true s) (hR : ∀ c s', J c s' → Sim (kb c s') (T c) P) : Sim (rb (if c = true then .ok true s else w s) kb) (callT (if c = true then .rt true else t2) T) P := by
  refine sim_bq (J := J) (pe := P.ex) ?_ hR fun _ _ h => h
  cases c with
  | true => exact ⟨_, _, rfl, rfl, h2⟩
  | false => exact h1 rfl
theorem x_andV (h : Sim (rb (ma s) fun d s1 => rb (anc d mb s1) k) t P) : Sim (rb (dAndV ma mb s) k) t P := by
  rw [dAndV_s, rb_bind]; exact h
theorem x_orV (h : Sim (rb (ma s) fun d s1 => rb (orc d mb s1) k) t P) : Sim (rb (dOrV ma mb s) k) t P := by
  rw [dOrV_s, rb_bind]; exact h
theorem x_notV (h : Sim (rb (ma s) fun d s1 => rb (ntc d s1) k) t P) : Sim (rb (dNotV ma s) k) t P := by
  rw [dNotV_s, rb_bind]; exact h
theorem x_ntc {c : Bool} (h : Sim (k (.bl (!c)) s) t P) : Sim (rb (ntc (.bl c) s) k) t P := h
def rq (d : D) (s : S) : Ro := .rt d s
theorem rq_inj {r : Rs D} (h : rb r rq = .rt d s) : r = .ok d s := by
  cases r with
  | ok b s2 =>
    have h : Ro.rt b s2 = .rt d s := h
    injection h with h1 h2
    subst h1 h2
    rfl
  | ex x s2 => cases h
  | no => cases h
theorem sim_rq {r : Rs D} {t : Fn α} {J : α → D → S → Prop} {pe : Xc → S → Prop} (h : Sim (rb r rq) t ⟨fun e => e.elim, fun e => e.elim, J, pe⟩) (hR : ∀ c d s', J c d s' → Sim (k d s') (T c) P) (hx : ∀ x s, pe x s → P.ex x s) : Sim (rb r k) (callT t T) P := by
  cases t with
  | rt q =>
    obtain ⟨d, s2, h1, h2⟩ := h
    rw [rq_inj h1]
    exact hR q d s2 h2
  | ex x =>
    obtain ⟨s2, h1, h2⟩ := h
    cases r with
    | ok b s2 => cases h1
    | ex y s3 =>
      have h1 : Ro.ex y s3 = .ex x s2 := h1
      injection h1 with h3 h4
      subst h3 h4
      exact ⟨_, rfl, hx _ _ h2⟩
    | no => cases h1
  | nx e => first | trivial | exact q_no
  | bk e => first | trivial | exact q_no
  | ct e => first | trivial | exact q_no
  | no => first | trivial | exact q_no
theorem x_ancP {c c2 : Bool} (hw : Sim (rb (m s) rq) (.rt c2) (PP D.bl s)) (h : Sim (k (.bl (c && c2)) s) t P) : Sim (rb (anc (.bl c) m s) k) t P := by
  obtain ⟨d, s2, h1, rfl, rfl⟩ := hw
  cases c with
  | false => exact h
  | true =>
    rw [anc_s, if_pos rfl, rq_inj h1]
    exact h
theorem x_orcP {c c2 : Bool} (hw : Sim (rb (m s) rq) (.rt c2) (PP D.bl s)) (h : Sim (k (.bl (c || c2)) s) t P) : Sim (rb (orc (.bl c) m s) k) t P := by
  obtain ⟨d, s2, h1, rfl, rfl⟩ := hw
  cases c with
  | true => exact h
  | false =>
    rw [orc_s, if_neg (by decide), rq_inj h1]
    exact h
theorem x_ancJ {c : Bool} {t2 : Fn Bool} {T : Bool → Rc σ β ρ} (J : Bool → S → Prop) (h1 : c = true → Sim (rb (m s) rq) t2 ⟨fun e => e.elim, fun e => e.elim, fun q d s => d = .bl q ∧ J q s, P.ex⟩) (h2 : J false s) (hR : ∀ c s', J c s' → Sim (k (.bl c) s') (T c) P) : Sim (rb (anc (.bl c) m s) k) (callT (if c = true then t2 else .rt false) T) P := by
  refine sim_rq (J := fun q d s => d = .bl q ∧ J q s) (pe := P.ex) ?_ (fun c d s' h => by obtain ⟨rfl, h⟩ := h; exact hR c s' h) fun _ _ h => h
  rw [anc_s]
  cases c with
  | true => exact h1 rfl
  | false => exact ⟨_, _, rfl, rfl, h2⟩
theorem x_orcJ {c : Bool} {t2 : Fn Bool} {T : Bool → Rc σ β ρ} (J : Bool → S → Prop) (h1 : c = false → Sim (rb (m s) rq) t2 ⟨fun e => e.elim, fun e => e.elim, fun q d s => d = .bl q ∧ J q s, P.ex⟩) (h2 : J true s) (hR : ∀ c s', J c s' → Sim (k (.bl c) s') (T c) P) : Sim (rb (orc (.bl c) m s) k) (callT (if c = true then .rt true else t2) T) P := by
  refine sim_rq (J := fun q d s => d = .bl q ∧ J q s) (pe := P.ex) ?_ (fun c d s' h => by obtain ⟨rfl, h⟩ := h; exact hR c s' h) fun _ _ h => h
  rw [orc_s]
  cases c with
  | true => exact ⟨_, _, rfl, rfl, h2⟩
  | false => exact h1 rfl
/-! if expressions -/
theorem x_ife (h : Sim (rb (u s) fun c s1 => rb (if c = true then ma s1 else mb s1) k) t P) : Sim (rb (dIfE u ma mb s) k) t P := by
  rw [dIfE_s, rb_bind]; exact h
theorem x_ifP {c : Bool} {e : α → D} {v1 v2 : α} (h1 : Sim (rb (ma s) rq) (.rt v1) (PP e s)) (h2 : Sim (rb (mb s) rq) (.rt v2) (PP e s)) (h : Sim (k (e (if c = true then v1 else v2)) s) t P) : Sim (rb (if c = true then ma s else mb s) k) t P := by
  obtain ⟨d, s2, h3, rfl, rfl⟩ := h1
  obtain ⟨d, s2, h4, rfl, rfl⟩ := h2
  cases c with
  | true => rw [if_pos rfl, rq_inj h3]; exact h
  | false => rw [if_neg (by decide), rq_inj h4]; exact h
theorem x_ifJ {c : Bool} {t1 t2 : Fn α} (J : α → D → S → Prop) (h1 : c = true → Sim (rb (ma s) rq) t1 ⟨fun e => e.elim, fun e => e.elim, J, P.ex⟩) (h2 : c = false → Sim (rb (mb s) rq) t2 ⟨fun e => e.elim, fun e => e.elim, J, P.ex⟩) (hR : ∀ c d s', J c d s' → Sim (k d s') (T c) P) : Sim (rb (if c = true then ma s else mb s) k) (callT (if c = true then t1 else t2) T) P := by
  refine sim_rq (J := J) (pe := P.ex) ?_ hR fun _ _ h => h
  cases c with
  | true => exact h1 rfl
  | false => exact h2 rfl
/-! lists of arguments -/
theorem x_nil (h : Sim (kl [] s) t P) : Sim (rb (dNil s) kl) t P := h
theorem x_cons (h : Sim (rb (m s) fun d s1 => rb (ms s1) fun ds s2 => kl (d :: ds) s2) t P) : Sim (rb (dCons m ms s) kl) t P := by
  rw [dCons_s, rb_bind]
  simp only [rb_bind]
  exact h
def lck (j : Nat) (ds : List D) (s : S) (kl : List D → S → Ro) : Ro := rb (ldc s[j]? j ds s) kl
theorem x_lend (hs : s[j]? = some (some d)) (h : Sim (rb (ms s) fun ds s1 => lck j ds s1 kl) t P) : Sim (rb (dLend j ms s) kl) t P := by
  rw [dLend_s, hs, ldp_s, rb_bind]
  exact h
theorem x_lck {ds : List D} (hs : s[j]? = some (some d)) (hs' : s.set j none = s') (h : Sim (kl (d :: ds) s') t P) : Sim (lck j ds s kl) t P := by
  unfold lck
  rw [hs, ldc_s, hs']
  exact h
theorem x_lst (h : Sim (rb (ms s) fun ds s1 => if ds.length ≤ lim then k (mL ds) s1 else .no) t P) : Sim (rb (dLst ms s) k) t P := by
  have e : rb (dLst ms s) k = rb (ms s) fun ds s1 => if ds.length ≤ lim then k (mL ds) s1 else .no := by
    rw [dLst_s, rb_bind]
    congr 1
    funext ds s1
    split <;> rfl
  rw [e]; exact h
theorem x_tup (h : Sim (rb (ms s) fun ds s1 => if ds.length ≤ lim then k (dT (ds.map rd)) s1 else .no) t P) : Sim (rb (dTup ms s) k) t P := by
  have e : rb (dTup ms s) k = rb (ms s) fun ds s1 => if ds.length ≤ lim then k (dT (ds.map rd)) s1 else .no := by
    rw [dTup_s, rb_bind]
    congr 1
    funext ds s1
    split <;> rfl
  rw [e]; exact h
theorem x_d (hd : d = d') (h : Sim (k d' s) t P) : Sim (k d s) t P := hd ▸ h
theorem x_cb {f : List D → Option D} (h : Sim (rb (ms s) fun ds s1 => rb (o2r (f ds) s1) k) t P) : Sim (rb (dCB f ms s) k) t P := by
  rw [dCB_s, rb_bind]; exact h
end
end TL

set_option maxHeartbeats 4000000
/-! TL2: data as typed values, and what the operations do with them. -/
namespace TL
open PySem L2 DL
section
variable {α β γ δ κ : Type}
abbrev eI : Int → D := D.int
abbrev eB : Bool → D := D.bl
abbrev eS : Str → D := D.str
abbrev eN : Unit → D := fun _ => D.non
abbrev eD : D → D := fun d => d
def eQ (o : Bool) (k : BK) (e : α → D) (xs : List α) : D := .bx o k (xs.map e)
def eO (e : α → D) : Option α → D
  | none => .non
  | some x => e x
def eP1 (o : Bool) (k : BK) (e1 : α → D) (p : α) : D := .bx o k [e1 p]
def eP2 (o : Bool) (k : BK) (e1 : α → D) (e2 : β → D) (p : α × β) : D := .bx o k [e1 p.1, e2 p.2]
def eP3 (o : Bool) (k : BK) (e1 : α → D) (e2 : β → D) (e3 : γ → D) (p : α × β × γ) : D := .bx o k [e1 p.1, e2 p.2.1, e3 p.2.2]
def eP4 (o : Bool) (k : BK) (e1 : α → D) (e2 : β → D) (e3 : γ → D) (e4 : δ → D) (p : α × β × γ × δ) : D := .bx o k [e1 p.1, e2 p.2.1, e3 p.2.2.1, e4 p.2.2.2]
def kS : Str → Key := Sum.inr
def kI : Int → Key := Sum.inl
def eM (o : Bool) (ek : κ → Key) (e : α → D) (m : List (κ × α)) : D := .bx o (.dct (m.map fun p => ek p.1)) (m.map fun p => e p.2)
/-! ### freezing -/
variable {e e1 e1' : α → D} {e' : α → D} {e2 e2' : β → D} {e3 e3' : γ → D} {e4 e4' : δ → D} {o o' : Bool} {k : BK}
theorem rd_rd (d : D) : rd (rd d) = rd d := by
  cases d with
  | bx o k ds => cases o <;> rfl
  | _ => rfl
theorem fz_rd (d : D) : fz (rd d) = fz d := by
  cases d with
  | bx o k ds =>
    cases o with
    | false => rfl
    | true => show D.bx false k (fzs (fzs ds)) = D.bx false k (fzs ds); rw [fzs_fzs]
  | _ => rfl
theorem fz_Q (h : ∀ x, fz (e x) = e' x) (xs : List α) : fz (eQ o k e xs) = eQ false k e' xs := by
  show D.bx false k (fzs (xs.map e)) = D.bx false k (xs.map e')
  rw [fzs_map, List.map_map]
  congr 1
  exact List.map_congr_left fun x _ => h x
theorem rd_Q (h : ∀ x, fz (e x) = e' x) (xs : List α) : rd (eQ true k e xs) = eQ false k e' xs := fz_Q (o := true) h xs
theorem fz_O (h : ∀ x, fz (e x) = e' x) (x : Option α) : fz (eO e x) = eO e' x := by cases x with
  | none => rfl
  | some x => exact h x
theorem rd_O (h : ∀ x, rd (e x) = e' x) (x : Option α) : rd (eO e x) = eO e' x := by cases x with
  | none => rfl
  | some x => exact h x
theorem fz_P1 (h1 : ∀ x, fz (e1 x) = e1' x) (p : α) : fz (eP1 o k e1 p) = eP1 false k e1' p := by
  show D.bx false k (fzs [e1 p]) = D.bx false k [e1' p]
  rw [fzs_map]
  simp [h1]
theorem fz_P2 (h1 : ∀ x, fz (e1 x) = e1' x) (h2 : ∀ x, fz (e2 x) = e2' x) (p : α × β) : fz (eP2 o k e1 e2 p) = eP2 false k e1' e2' p := by
  show D.bx false k (fzs [e1 p.1, e2 p.2]) = D.bx false k [e1' p.1, e2' p.2]
  rw [fzs_map]
  simp [h1, h2]
theorem fz_P3 (h1 : ∀ x, fz (e1 x) = e1' x) (h2 : ∀ x, fz (e2 x) = e2' x) (h3 : ∀ x, fz (e3 x) = e3' x) (p : α × β × γ) : fz (eP3 o k e1 e2 e3 p) = eP3 false k e1' e2' e3' p := by
  show D.bx false k (fzs [e1 p.1, e2 p.2.1, e3 p.2.2]) = D.bx false k [e1' p.1, e2' p.2.1, e3' p.2.2]
  rw [fzs_map]
  simp [h1, h2, h3]
theorem fz_P4 (h1 : ∀ x, fz (e1 x) = e1' x) (h2 : ∀ x, fz (e2 x) = e2' x) (h3 : ∀ x, fz (e3 x) = e3' x) (h4 : ∀ x, fz (e4 x) = e4' x) (p : α × β × γ × δ) : fz (eP4 o k e1 e2 e3 e4 p) = eP4 false k e1' e2' e3' e4' p := by
  show D.bx false k (fzs [e1 p.1, e2 p.2.1, e3 p.2.2.1, e4 p.2.2.2]) = D.bx false k [e1' p.1, e2' p.2.1, e3' p.2.2.1, e4' p.2.2.2]
  rw [fzs_map]
  simp [h1, h2, h3, h4]
theorem fz_M {ek : κ → Key} (h : ∀ x, fz (e x) = e' x) (m : List (κ × α)) : fz (eM o ek e m) = eM false ek e' m := by
  show D.bx false _ (fzs (m.map fun p => e p.2)) = D.bx false _ (m.map fun p => e' p.2)
  rw [fzs_map, List.map_map]
  congr 1
  exact List.map_congr_left fun x _ => h x.2
theorem rd_P1 (h1 : ∀ x, fz (e1 x) = e1' x) (p : α) : rd (eP1 true k e1 p) = eP1 false k e1' p := fz_P1 (o := true) h1 p
theorem rd_P2 (h1 : ∀ x, fz (e1 x) = e1' x) (h2 : ∀ x, fz (e2 x) = e2' x) (p : α × β) : rd (eP2 true k e1 e2 p) = eP2 false k e1' e2' p := fz_P2 (o := true) h1 h2 p
theorem rd_P3 (h1 : ∀ x, fz (e1 x) = e1' x) (h2 : ∀ x, fz (e2 x) = e2' x) (h3 : ∀ x, fz (e3 x) = e3' x) (p : α × β × γ) : rd (eP3 true k e1 e2 e3 p) = eP3 false k e1' e2' e3' p := fz_P3 (o := true) h1 h2 h3 p
theorem rd_P4 (h1 : ∀ x, fz (e1 x) = e1' x) (h2 : ∀ x, fz (e2 x) = e2' x) (h3 : ∀ x, fz (e3 x) = e3' x) (h4 : ∀ x, fz (e4 x) = e4' x) (p : α × β × γ × δ) : rd (eP4 true k e1 e2 e3 e4 p) = eP4 false k e1' e2' e3' e4' p := fz_P4 (o := true) h1 h2 h3 h4 p
theorem rd_M {ek : κ → Key} (h : ∀ x, fz (e x) = e' x) (m : List (κ × α)) : rd (eM true ek e m) = eM false ek e' m := fz_M (o := true) h m
theorem rd_Qo (h : ∀ x, fz (e x) = e' x) (h2 : o = false → ∀ x, e x = e' x) (xs : List α) : rd (eQ o k e xs) = eQ false k e' xs := by
  cases o with
  | true => exact rd_Q h xs
  | false =>
    show D.bx false k (xs.map e) = D.bx false k (xs.map e')
    congr 1
    exact List.map_congr_left fun x _ => h2 rfl x
theorem rd_Mo {ek : κ → Key} (h : ∀ x, fz (e x) = e' x) (h2 : o = false → ∀ x, e x = e' x) (m : List (κ × α)) : rd (eM o ek e m) = eM false ek e' m := by
  cases o with
  | true => exact fz_M (o := true) h m
  | false =>
    show D.bx false _ (m.map fun p => e p.2) = D.bx false _ (m.map fun p => e' p.2)
    congr 1
    exact List.map_congr_left fun x _ => h2 rfl x.2
/-! ### numbers and texts -/
theorem t_addI {x y : Int} : fAdd (eI x) (eI y) = some (eI (x + y)) := rfl
theorem t_subI {x y : Int} : fSub (eI x) (eI y) = some (eI (x - y)) := rfl
@[irreducible] def mulO (x y : Int) : Option Int := if mulG x y = true then some (x * y) else none
theorem t_mulI {x y : Int} : ∀ z, mulO x y = some z → fMulA (eI x) (eI y) = some (eI z) := fun z h => by
  unfold mulO at h
  split at h
  · rename_i g; cases h; exact fMul_i g
  · cases h
@[irreducible] def divO (x y : Int) : Option Int := if divG y = true then some (x / y) else none
theorem t_divI {x y : Int} : ∀ z, divO x y = some z → fDiv (eI x) (eI y) = some (eI z) := fun z h => by
  unfold divO at h
  split at h
  · rename_i g; cases h; exact fDiv_i g
  · cases h
@[irreducible] def modO (x y : Int) : Option Int := if 0 < y then some (x % y) else none
theorem t_modI {x y : Int} : ∀ z, modO x y = some z → fMod (eI x) (eI y) = some (eI z) := fun z h => by
  unfold modO at h
  split at h
  · rename_i g; cases h; exact fMod_i g
  · cases h
@[irreducible] def powO (x y : Int) : Option Int := if powG x y = true then some (x ^ y.toNat) else none
theorem t_powI {x y : Int} : ∀ z, powO x y = some z → fPow (eI x) (eI y) = some (eI z) := fun z h => by
  unfold powO at h
  split at h
  · rename_i g; cases h; simp [fPow, fI, g]
  · cases h
theorem t_negI {x : Int} : fNeg (eI x) = some (eI (-x)) := rfl
def absZ (x : Int) : Int := if x < 0 then -x else x
theorem t_absI {x : Int} : f1 (flat1 fAbs) [eI x] = some (eI (absZ x)) := rfl
theorem t_intI {x : Int} : f1 (flat1 fInt) [eI x] = some (eI x) := rfl
theorem t_intB {x : Bool} : f1 (flat1 fInt) [eB x] = some (eI (if x then 1 else 0)) := rfl
@[irreducible] def catS (x y : Str) : Option Str := if x.length + y.length ≤ lim then some (x ++ y) else none
theorem t_addS {x y : Str} : ∀ z, catS x y = some z → fAdd (eS x) (eS y) = some (eS z) := fun z h => by
  unfold catS at h
  split at h
  · rename_i g; cases h; simp [fAdd, g]
  · cases h
@[irreducible] def catL (xs ys : List α) : Option (List α) := if xs.length + ys.length ≤ lim then some (xs ++ ys) else none
theorem t_addL {xs ys : List α} : ∀ z, catL xs ys = some z → fAdd (eQ o .lst e xs) (eQ o' .lst e ys) = some (eQ true .lst e z) := fun z h => by
  unfold catL at h
  split at h
  · rename_i g; cases h; simp [fAdd, g, eQ]
  · cases h
theorem t_addT {xs ys : List α} : ∀ z, catL xs ys = some z → fAdd (eQ o .tup e xs) (eQ o' .tup e ys) = some (eQ false .tup e z) := fun z h => by
  unfold catL at h
  split at h
  · rename_i g; cases h; simp [fAdd, g, eQ]
  · cases h
@[irreducible] def repO (xs : List α) (n : Int) : Option (List α) := if -(2 ^ 63) ≤ n ∧ n < 2 ^ 63 ∧ xs.length * n.toNat ≤ lim then some (repL n.toNat xs) else none
theorem repL_map {f : α → β} (n : Nat) (xs : List α) : repL n (xs.map f) = (repL n xs).map f := by
  simp [repL, List.map_flatten, List.map_replicate]
theorem svs_map (h : ∀ x, (sv (e x)).isSome = true) : ∀ xs : List α, (svs (xs.map e)).isSome = true
  | [] => rfl
  | x :: xs => by
    have h1 := h x
    have h2 := svs_map h xs
    obtain ⟨v, hv⟩ := Option.isSome_iff_exists.mp h1
    obtain ⟨vs, hvs⟩ := Option.isSome_iff_exists.mp h2
    simp [svs, hv, hvs]
theorem t_repL (hs : ∀ x, (sv (e x)).isSome = true) {xs : List α} {n : Int} : ∀ z, repO xs n = some z → fMulA (eQ o .lst e xs) (eI n) = some (eQ true .lst e z) := fun z h => by
  unfold repO at h
  split at h
  · rename_i g
    cases h
    have := svs_map hs xs
    obtain ⟨g1, g2, g3⟩ := g
    have g4 : (svs (xs.map e)).isSome = true ∧ -(2 ^ 63) ≤ n ∧ n < 2 ^ 63 ∧ (xs.map e).length * n.toNat ≤ lim := ⟨this, g1, g2, by rw [List.length_map]; exact g3⟩
    show (if (svs (xs.map e)).isSome = true ∧ -(2 ^ 63) ≤ n ∧ n < 2 ^ 63 ∧ (xs.map e).length * n.toNat ≤ lim then some (mL (repL n.toNat (xs.map e))) else none) = _
    rw [if_pos g4, repL_map]
    rfl
  · cases h
theorem t_ltI {x y : Int} : flat2 fLt (eI x) (eI y) = some (eB (decide (x < y))) := rfl
theorem t_leI {x y : Int} : flat2 fLe (eI x) (eI y) = some (eB (decide (x ≤ y))) := rfl
theorem t_gtI {x y : Int} : flat2 fGt (eI x) (eI y) = some (eB (decide (y < x))) := rfl
theorem t_geI {x y : Int} : flat2 fGe (eI x) (eI y) = some (eB (decide (y ≤ x))) := rfl
theorem t_ltS {x y : Str} : flat2 fLt (eS x) (eS y) = some (eB (strLt x y)) := rfl
theorem t_leS {x y : Str} : flat2 fLe (eS x) (eS y) = some (eB (!strLt y x)) := rfl
theorem t_gtS {x y : Str} : flat2 fGt (eS x) (eS y) = some (eB (strLt y x)) := rfl
theorem t_geS {x y : Str} : flat2 fGe (eS x) (eS y) = some (eB (!strLt x y)) := rfl
theorem t_eqI {x y : Int} : flat2 fEqX (eI x) (eI y) = some (eB (decide (x = y))) := rfl
theorem t_eqS {x y : Str} : flat2 fEqX (eS x) (eS y) = some (eB (decide (x = y))) := rfl
theorem t_eqB {x y : Bool} : flat2 fEqX (eB x) (eB y) = some (eB (decide (x = y))) := rfl
theorem t_neI {x y : Int} : flat2 fNeX (eI x) (eI y) = some (eB (!decide (x = y))) := rfl
theorem t_neS {x y : Str} : flat2 fNeX (eS x) (eS y) = some (eB (!decide (x = y))) := rfl
theorem t_neB {x y : Bool} : flat2 fNeX (eB x) (eB y) = some (eB (!decide (x = y))) := rfl
def boolO : Option D → Option Bool
  | some (.bl b) => some b
  | _ => none
theorem t_bool {x : Option D} : ∀ z, boolO x = some z → x = some (eB z) := fun z h => by
  unfold boolO at h
  split at h
  · cases h; rfl
  · cases h
def intO : Option D → Option Int
  | some (.int b) => some b
  | _ => none
theorem t_int {x : Option D} : ∀ z, intO x = some z → x = some (eI z) := fun z h => by
  unfold intO at h
  split at h
  · cases h; rfl
  · cases h
def strO : Option D → Option Str
  | some (.str b) => some b
  | _ => none
theorem t_str {x : Option D} : ∀ z, strO x = some z → x = some (eS z) := fun z h => by
  unfold strO at h
  split at h
  · cases h; rfl
  · cases h
theorem t_any {x : Option D} : ∀ z, x = some z → x = some (eD z) := fun z h => h
/-! None -/
theorem t_isO (hn : ∀ x, isNon (e x) = false) {x : Option α} : flat2 fIs (eO e x) .non = some (eB x.isNone) := by
  cases x with
  | none => rfl
  | some x =>
    show (some (D.bl (isNon (e x)))).bind (fun z => (sv z).map fun _ => z) = some (eB false)
    rw [hn]; rfl
theorem t_nisO (hn : ∀ x, isNon (e x) = false) {x : Option α} : flat2 fIsN (eO e x) .non = some (eB (!x.isNone)) := by
  cases x with
  | none => rfl
  | some x =>
    show (some (D.bl (!isNon (e x)))).bind (fun z => (sv z).map fun _ => z) = some (eB true)
    rw [hn]; rfl
theorem t_isD {d : D} : flat2 fIs d .non = some (eB (isNon d)) := rfl
theorem t_nisD {d : D} : flat2 fIsN d .non = some (eB (!isNon d)) := rfl
def isiO (T : Ty) (d : D) : Option Bool := if noIns d = true then some (T.is d) else none
theorem t_isiD {T : Ty} {d : D} : ∀ z, isiO T d = some z → fIsi T d = some (eB z) := fun z h => by
  unfold isiO at h
  split at h
  · rename_i g; cases h; unfold fIsi; rw [if_pos g]
  · cases h
/-! lengths -/
def sqk : BK → Bool
  | .tup => true
  | .lst => true
  | .scr => true
  | _ => false
theorem t_lenQ (hk : sqk k = true) {xs : List α} : flat1 lenD (eQ o k e xs) = some (eI xs.length) := by
  cases k <;> first | (cases hk; done) | simp [flat1, eQ, lenD, sv]
theorem t_lenQ1 (hk : sqk k = true) {xs : List α} : f1 (flat1 lenD) [eQ o k e xs] = some (eI xs.length) := t_lenQ hk
@[irreducible] def lenS (x : Str) : Option Int := if x.length ≤ lim then some (x.length : Int) else none
theorem t_lenS {x : Str} : ∀ z, lenS x = some z → flat1 lenD (eS x) = some (eI z) := fun z h => by
  unfold lenS at h
  split at h
  · rename_i g; cases h; simp [flat1, lenD, g, sv]
  · cases h
theorem t_lenM {ek : κ → Key} {m : List (κ × α)} : flat1 lenD (eM o ek e m) = some (eI m.length) := by
  simp [flat1, eM, lenD, sv]
/-! places -/
theorem place_Q (hk : sqk k = true) {n : Nat} {i : Int} : place k n (.int i) = ixN n i := by
  cases k <;> first | (cases hk; done) | rfl
theorem t_subQ (hk : sqk k = true) (hr : ∀ x, rd (e x) = e' x) {xs : List α} {i : Int} : ∀ z, atI xs i = some z → subV (eQ o k e xs) (eI i) = some (e' z) := fun z h => by
  show (place k (xs.map e).length (.int i)).bind (fun j => ((xs.map e)[j]?).map rd) = _
  rw [place_Q hk, List.length_map]
  unfold atI at h
  obtain ⟨j, h1, h2⟩ := Option.bind_eq_some_iff.mp h
  simp [h1, h2, hr]
@[irreducible] def chrAt (z : Str) (n : Int) : Option Str := if z.length ≤ lim then (atI z.cps.toList n).map fun c => ⟨#[c]⟩ else none
theorem t_subS {z : Str} {i : Int} : ∀ x, chrAt z i = some x → subV (eS z) (eI i) = some (eS x) := fun x h => by
  unfold chrAt at h
  split at h
  · rename_i g
    obtain ⟨c, h1, rfl⟩ := Option.map_eq_some_iff.mp h
    show (if z.length ≤ lim then (atI z.cps.toList i).map fun c => D.str ⟨#[c]⟩ else none) = _
    rw [if_pos g, h1]
    rfl
  · cases h
def lookM [DecidableEq κ] (m : List (κ × α)) (x : κ) : Option α := (m.find? fun p => decide (p.1 = x)).map (·.2)
theorem find_M [DecidableEq κ] {ek : κ → Key} (inj : ∀ a b, ek a = ek b → a = b) (x : κ) : ∀ (m : List (κ × α)) (v : α), lookM m x = some v → ∃ j, (m.map fun p => ek p.1).findIdx? (fun z => decide (z = ek x)) = some j ∧ (m.map fun p => e p.2)[j]? = some (e v)
  | [], v, h => by simp [lookM] at h
  | p :: m, v, h => by
    by_cases hp : p.1 = x
    · refine ⟨0, by simp [List.findIdx?_cons, hp], ?_⟩
      simp [lookM, List.find?_cons, hp] at h
      simp [h]
    · have h' : lookM m x = some v := by simpa [lookM, List.find?_cons, hp] using h
      obtain ⟨j, h1, h2⟩ := find_M inj x m v h'
      refine ⟨j + 1, ?_, by simpa using h2⟩
      have hne : ¬ ek p.1 = ek x := fun z => hp (inj _ _ z)
      simp [List.findIdx?_cons, hne, h1]
theorem kS_inj : ∀ a b, kS a = kS b → a = b := fun a b h => by injection h
theorem kI_inj : ∀ a b, kI a = kI b → a = b := fun a b h => by injection h
theorem t_subM [DecidableEq κ] {ek : κ → Key} (inj : ∀ a b, ek a = ek b → a = b) (hr : ∀ x, rd (e x) = e' x) {ev : κ → D} (hv : ∀ x, keyOf (ev x) = some (ek x)) {m : List (κ × α)} {x : κ} : ∀ z, lookM m x = some z → subV (eM o ek e m) (ev x) = some (e' z) := fun z h => by
  obtain ⟨j, h1, h2⟩ := find_M (e := e) inj x m z h
  show (place (.dct (m.map fun p => ek p.1)) (m.map fun p => e p.2).length (ev x)).bind (fun j => ((m.map fun p => e p.2)[j]?).map rd) = _
  have hp : place (.dct (m.map fun p => ek p.1)) (m.map fun p => e p.2).length (ev x) = some j := by
    show (keyOf (ev x)).bind (fun k => (m.map fun p => ek p.1).findIdx? fun z => decide (z = k)) = _
    rw [hv]
    exact h1
  rw [hp, Option.bind_some, h2]
  show some (rd (e z)) = _
  rw [hr]
/-! in -/
theorem inV_map {v : V} {ev : α → V} {p : α → Bool} (h : ∀ x, eqV (ev x) v = p x) : ∀ xs : List α, inV v (xs.map ev) = xs.any p
  | [] => by simp [inV]
  | x :: xs => by
    have := inV_map h xs
    unfold inV at this ⊢
    simp only [List.map_cons, List.any_cons, this, h]
theorem svs_eq {ev : α → V} (h : ∀ x, sv (e x) = some (ev x)) : ∀ xs : List α, svs (xs.map e) = some (xs.map ev)
  | [] => rfl
  | x :: xs => by simp [svs, h, svs_eq h xs]
theorem any_mem [DecidableEq α] {x : α} : ∀ xs : List α, (xs.any fun y => decide (x = y)) = decide (x ∈ xs)
  | [] => by simp
  | y :: xs => by
    rw [List.any_cons, any_mem xs]
    by_cases h : x = y <;> simp [h]
theorem inS_Q (hk : sqk k = true) {x : Str} {xs : List Str} : fIn0 (eS x) (eQ o k eS xs) = some (decide (x ∈ xs)) := by
  have h := svs_eq (e := eS) (ev := V.str) (fun x => rfl) xs
  have h2 : inV (.str x) (xs.map V.str) = decide (x ∈ xs) := inV_str xs
  cases k <;> first | (cases hk; done) | simp [fIn0, eQ, sv, h, h2]
theorem t_inS (hk : sqk k = true) {x : Str} {xs : List Str} : flat2 fIn (eS x) (eQ o k eS xs) = some (eB (decide (x ∈ xs))) := by
  simp [flat2, fIn, inS_Q hk, sv]
theorem t_ninS (hk : sqk k = true) {x : Str} {xs : List Str} : flat2 fNin (eS x) (eQ o k eS xs) = some (eB (!decide (x ∈ xs))) := by
  simp [flat2, fNin, inS_Q hk, sv]
theorem inI_Q (hk : sqk k = true) {x : Int} {xs : List Int} : fIn0 (eI x) (eQ o k eI xs) = some (decide (x ∈ xs)) := by
  have h := svs_eq (e := eI) (ev := V.int) (fun x => rfl) xs
  have h2 : inV (.int x) (xs.map V.int) = decide (x ∈ xs) := by
    rw [inV_map (p := fun y => decide (x = y)) (fun y => by
      by_cases h : x = y
      · subst h; simp [eqV]
      · have h2 : ¬ y = x := fun z => h z.symm
        simp [eqV, h, h2]) xs]
    exact any_mem xs
  cases k <;> first | (cases hk; done) | simp [fIn0, eQ, sv, h, h2]
theorem t_inI (hk : sqk k = true) {x : Int} {xs : List Int} : flat2 fIn (eI x) (eQ o k eI xs) = some (eB (decide (x ∈ xs))) := by
  simp [flat2, fIn, inI_Q hk, sv]
theorem t_ninI (hk : sqk k = true) {x : Int} {xs : List Int} : flat2 fNin (eI x) (eQ o k eI xs) = some (eB (!decide (x ∈ xs))) := by
  simp [flat2, fNin, inI_Q hk, sv]
def keyM [DecidableEq κ] (m : List (κ × α)) (x : κ) : Bool := decide (x ∈ m.map (·.1))
theorem findI_M [DecidableEq κ] {ek : κ → Key} (inj : ∀ a b, ek a = ek b → a = b) (x : κ) : ∀ (m : List (κ × α)), ((m.map fun p => ek p.1).findIdx? (fun z => decide (z = ek x))).isSome = keyM m x
  | [] => by simp [keyM]
  | p :: m => by
    have ih := findI_M inj x m
    by_cases hp : p.1 = x
    · simp [List.findIdx?_cons, hp, keyM]
    · have hne : ¬ ek p.1 = ek x := fun z => hp (inj _ _ z)
      have hp' : ¬ x = p.1 := fun z => hp z.symm
      unfold keyM at ih ⊢
      simp only [List.map_cons, List.findIdx?_cons, hne, decide_false, List.mem_cons, hp', false_or]
      rw [← ih]
      simp
theorem inM [DecidableEq κ] {ek : κ → Key} (inj : ∀ a b, ek a = ek b → a = b) {ev : κ → D} (hv : ∀ x, keyOf (ev x) = some (ek x)) {m : List (κ × α)} {x : κ} : fIn0 (ev x) (eM o ek e m) = some (keyM m x) := by
  show (keyOf (ev x)).map (fun k => ((m.map fun p => ek p.1).findIdx? fun z => decide (z = k)).isSome) = _
  rw [hv, Option.map_some, findI_M inj]
theorem t_inM [DecidableEq κ] {ek : κ → Key} (inj : ∀ a b, ek a = ek b → a = b) {ev : κ → D} (hv : ∀ x, keyOf (ev x) = some (ek x)) {m : List (κ × α)} {x : κ} : flat2 fIn (ev x) (eM o ek e m) = some (eB (keyM m x)) := by
  simp [flat2, fIn, inM inj hv, sv]
theorem t_ninM [DecidableEq κ] {ek : κ → Key} (inj : ∀ a b, ek a = ek b → a = b) {ev : κ → D} (hv : ∀ x, keyOf (ev x) = some (ek x)) {m : List (κ × α)} {x : κ} : flat2 fNin (ev x) (eM o ek e m) = some (eB (!keyM m x)) := by
  simp [flat2, fNin, inM inj hv, sv]
theorem t_eqM0 {ek : κ → Key} {m : List (κ × α)} : flat2 fEqX (eM o ek e m) (.bx o' (.dct []) []) = some (eB m.isEmpty) := by
  have h : (eqS false (eM o ek e m) (.bx o' (.dct []) []) : Option D) = none := rfl
  have h2 : fEq (eM o ek e m) (.bx o' (.dct []) []) = none := by simp [fEq, eqB, eM, toP]
  have h3 : eq0 false (eM o ek e m) (.bx o' (.dct []) []) = some (.bl m.isEmpty) := by
    simp [eq0, eM]
  simp [flat2, fEqX, h, h2, h3, sv]
/-! calls -/
theorem t_tupL (hr : ∀ x, rd (e x) = e' x) {xs : List α} : f1 fTup [eQ o .lst e xs] = some (eQ false .tup e' xs) := by
  show some (dT ((xs.map e).map rd)) = _
  rw [List.map_map]
  unfold eQ
  congr 2
  exact List.map_congr_left fun x _ => hr x
theorem t_tupT {xs : List α} : f1 fTup [eQ o .tup e xs] = some (eQ false .tup e xs) := rfl
theorem t_lstQ (hk : sqk k = true) {xs : List α} : f1 fList [eQ o k e xs] = some (eQ true .lst e xs) := by
  cases k <;> first | (cases hk; done) | rfl
theorem t_lstM {ek : κ → Key} {ev : κ → D} (hv : ∀ x, keyD (ek x) = ev x) {m : List (κ × α)} : f1 fList [eM o ek e m] = some (eQ true .lst ev (m.map (·.1))) := by
  show some (mL ((m.map fun p => ek p.1).map keyD)) = _
  unfold eQ
  rw [List.map_map, List.map_map]
  congr 2
  exact List.map_congr_left fun x _ => hv x.1
theorem t_dct {ek : κ → Key} {m : List (κ × α)} : f1 fDict [eM o ek e m] = some (eM true ek e m) := rfl
theorem intsD_map : ∀ xs : List Int, intsD (xs.map eI) = some xs
  | [] => rfl
  | x :: xs => by simp [intsD, intsD_map xs]
theorem strsD_map : ∀ xs : List Str, strsD (xs.map eS) = some xs
  | [] => rfl
  | x :: xs => by simp [strsD, strsD_map xs]
theorem boolsD_map : ∀ xs : List Bool, boolsD (xs.map eB) = some xs
  | [] => rfl
  | x :: xs => by simp [boolsD, boolsD_map xs]
theorem keyStrs_map : ∀ xs : List Str, keyStrs (xs.map kS) = some xs
  | [] => rfl
  | x :: xs => by
    have := keyStrs_map xs
    simp [keyStrs, kS] at this ⊢
    exact this
def lsk : BK → Bool
  | .lst => true
  | .scr => true
  | _ => false
theorem seqOf_Q (hk : lsk k = true) {xs : List α} : seqOf (eQ o k e xs) = some (xs.map e) := by
  cases k <;> first | (cases hk; done) | rfl
theorem onI (hk : lsk k = true) {g : List Int → Option Int} {xs : List Int} : ∀ z, g xs = some z → flat1 (fOnInts g) (eQ o k eI xs) = some (eI z) := fun z h => by
  have h1 := intsD_map xs
  simp [flat1, fOnInts, seqOf_Q hk, h1, h, sv]
theorem t_minL (hk : lsk k = true) {xs : List Int} : ∀ z, leastI xs = some z → f1 (flat1 fMin1) [eQ o k eI xs] = some (eI z) := onI hk
theorem t_maxL (hk : lsk k = true) {xs : List Int} : ∀ z, mostI xs = some z → f1 (flat1 fMax1) [eQ o k eI xs] = some (eI z) := onI hk
theorem t_sumL (hk : lsk k = true) {xs : List Int} : f1 (flat1 fSum) [eQ o k eI xs] = some (eI xs.sum) := onI (g := fun ns => some ns.sum) hk _ rfl
theorem t_min2 {x y : Int} : f2 (flat2 fMin2) [eI x, eI y] = some (eI (if y < x then y else x)) := rfl
theorem t_max2 {x y : Int} : f2 (flat2 fMax2) [eI x, eI y] = some (eI (if y > x then y else x)) := rfl
theorem t_allL (hk : lsk k = true) {xs : List Bool} : f1 (flat1 fAll) [eQ o k eB xs] = some (eB (xs.all id)) := by
  have h1 := boolsD_map xs
  simp [f1, flat1, fAll, seqOf_Q hk, h1, sv]
theorem t_anyL (hk : lsk k = true) {xs : List Bool} : f1 (flat1 fAny) [eQ o k eB xs] = some (eB (xs.any id)) := by
  have h1 := boolsD_map xs
  simp [f1, flat1, fAny, seqOf_Q hk, h1, sv]
@[irreducible] def sortSO (xs : List Str) : Option (List Str) := if xs.length < 64 then some (sortS xs) else none
@[irreducible] def sortIO (xs : List Int) : Option (List Int) := if xs.length < 64 then some (sortZ xs) else none
theorem t_sortM {m : List (Str × α)} : ∀ z, sortSO (m.map (·.1)) = some z → f1 fSort [eM o kS e m] = some (eQ true .lst eS z) := fun z h => by
  unfold sortSO at h
  split at h
  · rename_i g
    cases h
    have h1 : keyStrs (m.map fun p => kS p.1) = some (m.map (·.1)) := by
      have := keyStrs_map (m.map (·.1))
      rw [List.map_map] at this
      exact this
    rw [List.length_map] at g
    simp [f1, fSort, eM, h1, g, eQ]
  · cases h
theorem t_sortI (hk : lsk k = true) {xs : List Int} : ∀ z, sortIO xs = some z → f1 fSort [eQ o k eI xs] = some (eQ true .lst eI z) := fun z h => by
  unfold sortIO at h
  split at h
  · rename_i g
    cases h
    have h1 := intsD_map xs
    have h2 := seqOf_Q (o := o) (k := k) (e := eI) hk (xs := xs)
    cases k <;> first | (cases hk; done) | (simp [eQ] at h2; simp [f1, fSort, eQ, h2, h1, g])
  · cases h
theorem intsD_str : ∀ xs : List Str, xs ≠ [] → intsD (xs.map eS) = none
  | [], h => absurd rfl h
  | x :: xs, _ => rfl
theorem t_sortS (hk : lsk k = true) {xs : List Str} : ∀ z, sortSO xs = some z → f1 fSort [eQ o k eS xs] = some (eQ true .lst eS z) := fun z h => by
  unfold sortSO at h
  split at h
  · rename_i g
    cases h
    have h1 := strsD_map xs
    have h2 := seqOf_Q (o := o) (k := k) (e := eS) hk (xs := xs)
    by_cases hx : xs = []
    · subst hx
      cases k <;> first | (cases hk; done) | rfl
    · have h3 := intsD_str xs hx
      cases k <;> first | (cases hk; done) | (simp [eQ] at h2; simp [f1, fSort, eQ, h2, h1, h3, g])
  · cases h
@[irreducible] def strI (i : Int) : Option Str := if i.natAbs.log2 < 1920 then some (toString i) else none
theorem t_strI {x : Int} : ∀ z, strI x = some z → f1 (flat1 fStr) [eI x] = some (eS z) := fun z h => by
  unfold strI at h
  split at h
  · rename_i g; cases h; simp [f1, flat1, fStr, g, sv]
  · cases h
theorem t_strS {x : Str} : f1 (flat1 fStr) [eS x] = some (eS x) := rfl
@[irreducible] def joinO (a : Str) (xs : List Str) : Option Str := if (xs.map (·.length)).sum + xs.length * a.length ≤ 16777216 then some (PySem.Txt.join a xs) else none
theorem t_join (hk : sqk k = true) {a : Str} {xs : List Str} : ∀ z, joinO a xs = some z → fJoin a (eQ o k eS xs) = some (eS z) := fun z h => by
  unfold joinO at h
  split at h
  · rename_i g
    cases h
    have h1 := strsD_map xs
    have h2 : seqT (eQ o k eS xs) = some (xs.map eS) := by cases k <;> first | (cases hk; done) | rfl
    simp [fJoin, h2, h1, g]
  · cases h
def cutL (xs : List α) (lo hi : Option Int) : List α := (xs.drop (HT.sIx xs.length 0 lo)).take (HT.sIx xs.length xs.length hi - HT.sIx xs.length 0 lo)
theorem cut_map {f : α → D} {xs : List α} {lo hi : Option Int} : cutD (xs.map f) lo hi = (cutL xs lo hi).map f := by
  simp [cutD, cutL, List.map_drop, List.map_take]
theorem t_slL (hk : lsk k = true) (hr : ∀ x, rd (e x) = e' x) {xs : List α} {lo hi : Option Int} : fSl (eQ o k e xs) lo hi = some (eQ true .lst e' (cutL xs lo hi)) := by
  have h : (xs.map e).map rd = xs.map e' := by
    rw [List.map_map]
    exact List.map_congr_left fun x _ => hr x
  cases k <;> first | (cases hk; done) | (show some (mL (cutD ((xs.map e).map rd) lo hi)) = _; rw [h, cut_map]; rfl)
theorem t_slT {xs : List α} {lo hi : Option Int} : fSl (eQ o .tup e xs) lo hi = some (eQ false .tup e (cutL xs lo hi)) := by
  show some (dT (cutD (xs.map e) lo hi)) = _
  rw [cut_map]; rfl
@[irreducible] def cutSO (z : Str) (lo hi : Option Int) : Option Str := if z.length ≤ lim then some (cutS z lo hi) else none
theorem t_slS {z : Str} {lo hi : Option Int} : ∀ x, cutSO z lo hi = some x → fSl (eS z) lo hi = some (eS x) := fun x h => by
  unfold cutSO at h
  split at h
  · rename_i g; cases h
    show (if z.length ≤ lim then some (D.str (cutS z lo hi)) else none) = _
    rw [if_pos g]
  · cases h
/-! what is walked -/
def chars (z : Str) : List Str := z.cps.toList.map fun c => ⟨#[c]⟩
def rngL (lo : Int) (n : Nat) : List Int := (List.range n).map fun k => lo + (k : Nat)
@[irreducible] def rng1O (n : Int) : Option (List Int) := if n < 4611686018427387904 ∧ -4611686018427387904 ≤ n then some (rngL 0 n.toNat) else none
@[irreducible] def rng2O (a b : Int) : Option (List Int) := if (-4611686018427387904 ≤ a ∧ a < 4611686018427387904) ∧ -4611686018427387904 ≤ b ∧ b < 4611686018427387904 then some (rngL a (b - a).toNat) else none
def enumL : Nat → List α → List (Int × α)
  | _, [] => []
  | i, x :: r => ((i : Int), x) :: enumL (i + 1) r
theorem enD_map : ∀ (xs : List α) (i : Nat), enD i (xs.map e) = (enumL i xs).map (eP2 false .tup eI e)
  | [], i => rfl
  | x :: xs, i => by
    show dT [.int i, e x] :: enD (i + 1) (xs.map e) = _
    rw [enD_map xs (i + 1)]
    rfl
/-! stores -/
@[irreducible] def appO (xs : List α) (x : α) : Option (List α) := if xs.length < lim then some (xs ++ [x]) else none
def setO (xs : List α) (i : Int) (x : α) : Option (List α) := (ixN xs.length i).map fun j => xs.set j x
def putL [DecidableEq κ] (m : List (κ × α)) (x : κ) (v : α) : List (κ × α) := match m with
  | [] => [(x, v)]
  | p :: r => if p.1 = x then (p.1, v) :: r else p :: putL r x v
@[irreducible] def putO [DecidableEq κ] (m : List (κ × α)) (x : κ) (v : α) : Option (List (κ × α)) := if m.length < lim then some (putL m x v) else none
theorem put_M [DecidableEq κ] {ek : κ → Key} (inj : ∀ a b, ek a = ek b → a = b) {x : κ} {v : α} : ∀ m : List (κ × α), putKs (m.map fun p => ek p.1) (ek x) = (putL m x v).map (fun p => ek p.1) ∧ putDs (m.map fun p => ek p.1) (m.map fun p => e p.2) (ek x) (e v) = (putL m x v).map (fun p => e p.2)
  | [] => by simp [putKs, putDs, putL]
  | p :: m => by
    have ih := put_M inj (x := x) (v := v) m
    by_cases hp : p.1 = x
    · simp [putKs, putDs, putL, List.findIdx?_cons, hp]
    · have hne : ¬ ek p.1 = ek x := fun z => hp (inj _ _ z)
      simp only [putKs, putDs, putL, List.map_cons, List.findIdx?_cons, hne, decide_false, if_neg hp] at ih ⊢
      cases hq : (m.map fun p => ek p.1).findIdx? (fun z => decide (z = ek x)) with
      | none => rw [hq] at ih; simpa using ih
      | some j =>
        rw [hq] at ih
        simp at ih ⊢
        exact ih
end
end TL

set_option maxHeartbeats 4000000
/-! TL3: the steps of a mirror, one by one, beside a typed program. -/
namespace TL
open PySem L2 DL
section
variable {σ σ' β β' ρ ρ' α γ δ κ : Type}
variable {t : Rc σ β ρ} {T : α → Rc σ β ρ} {P : Post σ β ρ} {r : Ro} {s s1 s' : S} {R : DC} {k : D → S → Ro} {kb : Bool → S → Ro} {kl : List D → S → Ro} {m ma mb mc : DE} {ms : DA} {u w : DT} {i j n : Nat} {d d' d1 d2 : D} {a b : DC} {f g : D → D → Option D} {e : α → D} {o : Bool} {kd : BK} {xs : List α}
theorem x_optI {z : Option D} {v : Option α} (e : α → D) (ho : ∀ x, v = some x → z = some (e x)) (h : ∀ x, Sim (k (e x) s) (T x) P) : Sim (rb (o2r z s) k) (bindO v T) P := by
  cases v with
  | none => first | trivial | exact q_no
  | some x => rw [ho x rfl]; exact h x
def callN (t : Fn α) (k : α → Rc σ β ρ) : Rc σ β ρ := match t with
  | .rt v => k v
  | _ => .no
@[simp] theorem callN_rt {v : α} {k : α → Rc σ β ρ} : callN (.rt v) k = k v := rfl
@[simp] theorem callN_no {k : α → Rc σ β ρ} : callN .no k = .no := rfl
@[simp] theorem callN_ex {x : Xc} {k : α → Rc σ β ρ} : callN (.ex x) k = .no := rfl
/-! ### slots that are looked at -/
def nown : D → Bool
  | .bx true _ _ => false
  | _ => true
def subN (i : Nat) (d : D) (s1 : S) : Rs D := match s1[i]? with
  | some (some (.bx o k ds)) => (match place k ds.length d with
    | some j => pick s1 i j
    | none => .no)
  | some (some (.str z)) => (match d with
    | .int n => if z.length ≤ lim then (match atI z.cps.toList n with
      | some c => .ok (.str ⟨#[c]⟩) s1
      | none => .no) else .no
    | _ => .no)
  | _ => .no
theorem x_subS {mi : DE} (hs : s[i]? = some (some d)) (h : Sim (rb (mi s) fun d s1 => rb (subN i d s1) k) t P) : Sim (rb (dSubS i mi s) k) t P := by
  have e : dSubS i mi s = (mi s).bind fun d s1 => subN i d s1 := by
    unfold dSubS
    rw [hs]
    rfl
  rw [e, rb_bind]; exact h
theorem pick_n {o : Bool} {k : BK} {ds : List D} (hs : s[i]? = some (some (.bx o k ds))) (hd : ds[j]? = some d) (hn : nown d = true) : pick s i j = .ok d s := by
  unfold pick
  rw [hs]
  simp only [hd]
  cases d with
  | bx o k es =>
    cases o with
    | true => cases hn
    | false => rfl
  | _ => rfl
theorem x_subNQ {z : Int} (hs : s[i]? = some (some (eQ o kd e xs))) (hk : sqk kd = true) (hn : ∀ x, nown (e x) = true) (h : ∀ x, Sim (k (e x) s) (T x) P) : Sim (rb (subN i (eI z) s) k) (bindO (atI xs z) T) P := by
  cases q : atI xs z with
  | none => first | trivial | exact q_no
  | some x =>
    unfold atI at q
    obtain ⟨j, h1, h2⟩ := Option.bind_eq_some_iff.mp q
    have e1 : subN i (eI z) s = .ok (e x) s := by
      unfold subN
      rw [hs]
      show (match place kd (xs.map e).length (.int z) with
        | some j => pick s i j
        | none => .no) = _
      rw [place_Q hk, List.length_map, h1]
      exact pick_n hs (by rw [List.getElem?_map, h2]; rfl) (hn x)
    rw [e1]; exact h x
theorem x_subNM [DecidableEq κ] {ek : κ → Key} {ev : κ → D} {mp : List (κ × α)} {z : κ} (inj : ∀ a b, ek a = ek b → a = b) (hv : ∀ x, keyOf (ev x) = some (ek x)) (hs : s[i]? = some (some (eM o ek e mp))) (hn : ∀ x, nown (e x) = true) (h : ∀ x, Sim (k (e x) s) (T x) P) : Sim (rb (subN i (ev z) s) k) (bindO (lookM mp z) T) P := by
  cases q : lookM mp z with
  | none => first | trivial | exact q_no
  | some x =>
    obtain ⟨j, h1, h2⟩ := find_M (e := e) inj z mp x q
    have e1 : subN i (ev z) s = .ok (e x) s := by
      unfold subN
      rw [hs]
      show (match (keyOf (ev z)).bind (fun k => (mp.map fun p : κ × α => ek p.1).findIdx? fun z => decide (z = k)) with
        | some j => pick s i j
        | none => .no) = _
      rw [hv, Option.bind_some, h1]
      exact pick_n hs h2 (hn x)
    rw [e1]; exact h x
theorem x_subNS {z : Str} {n : Int} {T : Str → Rc σ β ρ} (hs : s[i]? = some (some (eS z))) (h : ∀ x, Sim (k (eS x) s) (T x) P) : Sim (rb (subN i (eI n) s) k) (bindO (chrAt z n) T) P := by
  cases q : chrAt z n with
  | none => first | trivial | exact q_no
  | some x =>
    unfold chrAt at q
    split at q
    · rename_i g
      obtain ⟨c, h1, rfl⟩ := Option.map_eq_some_iff.mp q
      have e1 : subN i (eI n) s = .ok (eS ⟨#[c]⟩) s := by
        unfold subN
        rw [hs]
        show (if z.length ≤ lim then (match atI z.cps.toList n with
          | some c => Rs.ok (D.str ⟨#[c]⟩) s
          | none => .no) else .no) = _
        rw [if_pos g, h1]
      rw [e1]; exact h _
    · cases q
def opS (f : D → D → Option D) (a : D) (i : Nat) (s1 : S) : Rs D := match s1[i]? with
  | some (some b) => o2r (flat2 f a b) s1
  | _ => .no
theorem x_opS (h : Sim (rb (ma s) fun a s1 => rb (opS f a i s1) k) t P) : Sim (rb (dOpS f ma i s) k) t P := by
  have e : dOpS f ma i s = (ma s).bind fun a s1 => opS f a i s1 := rfl
  rw [e, rb_bind]; exact h
theorem x_opSK (hs : s[i]? = some (some d)) (h : Sim (rb (o2r (flat2 f d1 d) s) k) t P) : Sim (rb (opS f d1 i s) k) t P := by
  unfold opS
  rw [hs]; exact h
def opL (f : D → D → Option D) (i : Nat) (b : D) (s1 : S) : Rs D := match s1[i]? with
  | some (some a) => o2r (flat2 f a b) s1
  | _ => .no
theorem x_opL (hs : s[i]? = some (some d)) (h : Sim (rb (mb s) fun b s1 => rb (opL f i b s1) k) t P) : Sim (rb (dOpL f i mb s) k) t P := by
  have e : dOpL f i mb s = (mb s).bind fun b s1 => opL f i b s1 := by
    unfold dOpL
    rw [hs]
    rfl
  rw [e, rb_bind]; exact h
theorem x_opLK (hs : s[i]? = some (some d)) (h : Sim (rb (o2r (flat2 f d d1) s) k) t P) : Sim (rb (opL f i d1 s) k) t P := by
  unfold opL
  rw [hs]; exact h
theorem x_unS {f : D → Option D} (hs : s[i]? = some (some d)) (h : Sim (rb (o2r (flat1 f d) s) k) t P) : Sim (rb (dUnS f i s) k) t P := by
  have e : dUnS f i s = o2r (flat1 f d) s := by
    unfold dUnS
    rw [hs]
  rw [e]; exact h
/-! ### stores -/
def appR (i : Nat) (d : D) (s1 : S) : Ro := match s1[i]? with
  | some (some (.bx true .lst ds)) => if ds.length < lim then .nx (s1.set i (some (mL (ds ++ [d])))) else .no
  | _ => .no
def appK (i : Nat) (d : D) (s1 : S) (R : DC) : Ro := sq (appR i d s1) R
theorem x_app {ds : List D} (hs : s[i]? = some (some (.bx true .lst ds))) (h : Sim (rb (m s) fun d s1 => appK i d s1 R) t P) : Sim (sq (dApp i m s) R) t P := by
  have e : sq (dApp i m s) R = rb (m s) fun d s1 => appK i d s1 R := by
    unfold dApp
    rw [hs]
    show sq (rb (m s) fun d s1 => appR i d s1) R = _
    rw [sq_rb]
    rfl
  rw [e]; exact h
theorem x_appK (e : α → D) {xs : List α} {v : α} {T : List α → Rc σ β ρ} {st : List α → S} (hs : s[i]? = some (some (eQ true .lst e xs))) (hs' : ∀ ys, s.set i (some (eQ true .lst e ys)) = st ys) (h : ∀ ys, Sim (R (st ys)) (T ys) P) : Sim (appK i (e v) s R) (bindO (appO xs v) T) P := by
  cases q : appO xs v with
  | none => first | trivial | exact q_no
  | some ys =>
    unfold appO at q
    split at q
    · rename_i g
      cases q
      have e1 : appK i (e v) s R = R (st (xs ++ [v])) := by
        unfold appK appR
        rw [hs]
        show sq (if (xs.map e).length < lim then .nx (s.set i (some (mL (xs.map e ++ [e v])))) else .no) R = _
        rw [if_pos (by rw [List.length_map]; exact g), ← hs' (xs ++ [v])]
        unfold eQ
        rw [List.map_append]
        rfl
      rw [e1]; exact h _
    · cases q
def setSR (i : Nat) (mi : DE) (e : D) (s1 : S) : Ro := match s1[i]? with
  | some (some _) => rb (mi s1) fun k s2 => setAt s2 i k e
  | _ => .no
def setSK (i : Nat) (mi : DE) (e : D) (s1 : S) (R : DC) : Ro := sq (setSR i mi e s1) R
theorem c_setS {mi mv : DE} (h : Sim (rb (mv s) fun e s1 => setSK i mi e s1 R) t P) : Sim (sq (dSetS i mi mv s) R) t P := by
  have e : sq (dSetS i mi mv s) R = rb (mv s) fun e s1 => setSK i mi e s1 R := by
    show sq (rb (mv s) fun e s1 => setSR i mi e s1) R = _
    rw [sq_rb]
    rfl
  rw [e]; exact h
theorem x_setSK {mi : DE} (hs : s[i]? = some (some d)) (h : Sim (rb (mi s) fun k s2 => sq (setAt s2 i k d1) R) t P) : Sim (setSK i mi d1 s R) t P := by
  unfold setSK setSR
  rw [hs]
  show Sim (sq (rb (mi s) fun k s2 => setAt s2 i k d1) R) t P
  rw [sq_rb]; exact h
theorem x_setAtQ (e : α → D) {xs : List α} {z : Int} {v : α} {T : List α → Rc σ β ρ} {st : List α → S} (hs : s[i]? = some (some (eQ true .lst e xs))) (hs' : ∀ ys, s.set i (some (eQ true .lst e ys)) = st ys) (h : ∀ ys, Sim (R (st ys)) (T ys) P) : Sim (sq (setAt s i (eI z) (e v)) R) (bindO (setO xs z v) T) P := by
  cases q : setO xs z v with
  | none => first | trivial | exact q_no
  | some ys =>
    unfold setO at q
    obtain ⟨j, h1, rfl⟩ := Option.map_eq_some_iff.mp q
    have e1 : setAt s i (eI z) (e v) = .nx (st (xs.set j v)) := by
      unfold setAt
      rw [hs]
      show (match ixN (xs.map e).length z with
        | some j => Ro.nx (s.set i (some (mL ((xs.map e).set j (e v)))))
        | none => .no) = _
      rw [List.length_map, h1, ← hs' (xs.set j v)]
      unfold eQ
      rw [List.map_set]
    rw [e1]; exact h _
theorem x_setAtM [DecidableEq κ] {ek : κ → Key} {ev : κ → D} (e : α → D) {mp : List (κ × α)} {z : κ} {v : α} {T : List (κ × α) → Rc σ β ρ} {st : List (κ × α) → S} (inj : ∀ a b, ek a = ek b → a = b) (hv : ∀ x, keyOf (ev x) = some (ek x)) (hs : s[i]? = some (some (eM true ek e mp))) (hs' : ∀ ys, s.set i (some (eM true ek e ys)) = st ys) (h : ∀ ys, Sim (R (st ys)) (T ys) P) : Sim (sq (setAt s i (ev z) (e v)) R) (bindO (putO mp z v) T) P := by
  cases q : putO mp z v with
  | none => first | trivial | exact q_no
  | some ys =>
    unfold putO at q
    split at q
    · rename_i g
      cases q
      obtain ⟨p1, p2⟩ := put_M (e := e) inj (x := z) (v := v) mp
      have e1 : setAt s i (ev z) (e v) = .nx (st (putL mp z v)) := by
        unfold setAt
        rw [hs]
        show (match keyOf (ev z) with
          | some kk => if (mp.map fun p : κ × α => e p.2).length < lim then Ro.nx (s.set i (some (mD (putKs (mp.map fun p : κ × α => ek p.1) kk) (putDs (mp.map fun p : κ × α => ek p.1) (mp.map fun p : κ × α => e p.2) kk (e v))))) else .no
          | none => .no) = _
        rw [hv]
        simp only [List.length_map, if_pos g, p1, p2]
        rw [← hs' (putL mp z v)]
        rfl
      rw [e1]; exact h _
    · cases q
/-! ### objects -/
theorem x_fldS {c : Nat} {fs : List Nat} {ds : List D} {q : Nat} (hs : s[i]? = some (some (.bx o (.ins c fs) ds))) (hl : fs.length = ds.length) (hf : fldN fs j = some q) (hd : ds[q]? = some d) (hn : nown d = true) (h : Sim (k d s) t P) : Sim (rb (dFldS c j i s) k) t P := by
  have e : dFldS c j i s = .ok d s := by
    unfold dFldS
    rw [hs]
    simp only [hl, and_self, if_true, hf]
    exact pick_n hs hd hn
  rw [e]; exact h
def mkR (r : Rs D) (ls : Lends) (s : S) : Rs D := match r with
  | .ok .non (some o :: ps) => .ok o (gb ls ps s)
  | _ => .no
def mkK (r : Rs D) (ls : Lends) (s : S) (k : D → S → Ro) : Ro := rb (mkR r ls s) k
theorem x_make {c : Nat} {F : List D → Rs D} {ls : Lends} (h : Sim (rb (ms s) fun ds s1 => if ds.length + 1 = n then mkK (F (mI c [] [] :: ds)) ls s1 k else .no) t P) : Sim (rb (dMake c n F ls ms s) k) t P := by
  have e : rb (dMake c n F ls ms s) k = rb (ms s) fun ds s1 => if ds.length + 1 = n then mkK (F (mI c [] [] :: ds)) ls s1 k else .no := by
    show rb ((ms s).bind fun ds s1 => if ds.length + 1 = n then mkR (F (mI c [] [] :: ds)) ls s1 else .no) k = _
    rw [rb_bind]
    congr 1
    funext ds s1
    split <;> rfl
  rw [e]; exact h
theorem x_mkK {F : Rs D} {t : Fn α} {ls : Lends} (hls : ls.all (·.isNone) = true) (hF : SimF F t fun q d ps => d = .non ∧ ∃ r, ps = some (e q) :: r) (h : ∀ q, Sim (k (e q) s) (T q) P) : Sim (mkK F ls s k) (callN t T) P := by
  unfold mkK
  cases t with
  | rt q =>
    obtain ⟨d, ps, h1, rfl, r, rfl⟩ := hF
    rw [h1]
    show Sim (k (e q) (gb ls r s)) (T q) P
    rw [gb_all hls]
    exact h q
  | ex x => first | trivial | exact q_no
  | nx e => first | trivial | exact q_no
  | bk e => first | trivial | exact q_no
  | ct e => first | trivial | exact q_no
  | no => first | trivial | exact q_no
def clkN (r : Rs D) (ls : Lends) (s : S) (k : D → S → Ro) : Ro := match r with
  | .ok z ps => k z (gb ls ps s)
  | _ => .no
def methK (c mj n : Nat) (F : List D → Rs D) (ls : Lends) (d : D) (ms : DA) (s1 : S) (k : D → S → Ro) : Ro := match d with
  | .bx o (.ins c' fs) es => if c' = c ∧ fldN fs mj = none ∧ fs.length = es.length then rb (ms s1) fun ds s2 => if ds.length + 1 = n then clkN (F (.bx o (.ins c' fs) es :: ds)) (none :: ls) s2 k else .no else .no
  | _ => .no
theorem x_meth {c mj : Nat} {F : List D → Rs D} {ls : Lends} (h : Sim (rb (m s) fun d s1 => methK c mj n F ls d ms s1 k) t P) : Sim (rb (dMeth c mj n F ls m ms s) k) t P := by
  have e : rb (dMeth c mj n F ls m ms s) k = rb (m s) fun d s1 => methK c mj n F ls d ms s1 k := by
    unfold dMeth
    rw [rb_bind]
    congr 1
    funext d s1
    cases d with
    | bx o k' es =>
      cases k' with
      | ins c' fs =>
        show rb (if _ then _ else _) k = if _ then _ else _
        split
        · rw [rb_bind]
          congr 1
          funext ds s2
          split
          · show rb (match F (D.bx o (BK.ins c' fs) es :: ds) with
              | .ok z ps => .ok z (gb (none :: ls) ps s2)
              | _ => .no) k = clkN _ _ _ _
            unfold clkN
            cases F (D.bx o (BK.ins c' fs) es :: ds) <;> rfl
          · rfl
        · rfl
      | _ => rfl
    | _ => rfl
  rw [e]; exact h
theorem x_methK {c mj : Nat} {F : List D → Rs D} {ls : Lends} {fs : List Nat} {es : List D} (hd : d = .bx o (.ins c fs) es) (h2 : fldN fs mj = none) (h3 : fs.length = es.length) (h : Sim (rb (ms s) fun ds s2 => if ds.length + 1 = n then clkN (F (d :: ds)) (none :: ls) s2 k else .no) t P) : Sim (methK c mj n F ls d ms s k) t P := by
  subst hd
  unfold methK
  simp only [h2, h3, and_self, if_true]
  exact h
theorem x_clkN {F : Rs D} {t : Fn α} {ls : Lends} (J : α → D → S → Prop) (hF : SimF F t J) (h : ∀ q d ps, J q d ps → Sim (k d (gb ls ps s)) (T q) P) : Sim (clkN F ls s k) (callN t T) P := by
  unfold clkN
  cases t with
  | rt q =>
    obtain ⟨d, ps, h1, h2⟩ := hF
    rw [h1]
    exact h q d ps h2
  | ex x => first | trivial | exact q_no
  | nx e => first | trivial | exact q_no
  | bk e => first | trivial | exact q_no
  | ct e => first | trivial | exact q_no
  | no => first | trivial | exact q_no
def propK (c : Nat) (F : List D → Rs D) (d : D) (s1 : S) (k : D → S → Ro) : Ro := match d with
  | .bx o (.ins c' fs) es => if c' = c ∧ fs.length = es.length then clkN (F [.bx o (.ins c' fs) es]) [] s1 k else .no
  | _ => .no
theorem x_prop {c : Nat} {F : List D → Rs D} (h : Sim (rb (m s) fun d s1 => propK c F d s1 k) t P) : Sim (rb (dProp c F m s) k) t P := by
  have e : rb (dProp c F m s) k = rb (m s) fun d s1 => propK c F d s1 k := by
    unfold dProp
    rw [rb_bind]
    congr 1
    funext d s1
    cases d with
    | bx o k' es =>
      cases k' with
      | ins c' fs =>
        show rb (if _ then _ else _) k = if _ then _ else _
        split
        · show rb (match F [D.bx o (BK.ins c' fs) es] with
              | .ok z _ => .ok z s1
              | _ => .no) k = clkN _ _ _ _
          unfold clkN
          cases F [D.bx o (BK.ins c' fs) es] with
          | ok z ps =>
            show k z s1 = k z (gb [] ps s1)
            rw [gb_all (ls := []) rfl]
          | ex x s => rfl
          | no => rfl
        · rfl
      | _ => rfl
    | _ => rfl
  rw [e]; exact h
theorem x_propK {c : Nat} {F : List D → Rs D} {fs : List Nat} {es : List D} (hd : d = .bx o (.ins c fs) es) (h3 : fs.length = es.length) (h : Sim (clkN (F [d]) [] s k) t P) : Sim (propK c F d s k) t P := by
  subst hd
  unfold propK
  simp only [h3, and_self, if_true]
  exact h
/-! ### chains, texts -/
def chnK (f g : D → D → Option D) (a b : D) (mc : DE) (s2 : S) : Rs D := match flat2 f a b with
  | some (.bl true) => (mc s2).bind fun c s3 => o2r (flat2 g b c) s3
  | some (.bl false) => .ok (.bl false) s2
  | _ => .no
theorem x_chn (h : Sim (rb (ma s) fun a s1 => rb (mb s1) fun b s2 => rb (chnK f g a b mc s2) k) t P) : Sim (rb (dChn f g ma mb mc s) k) t P := by
  have e : dChn f g ma mb mc s = (ma s).bind fun a s1 => (mb s1).bind fun b s2 => chnK f g a b mc s2 := rfl
  rw [e, rb_bind]
  simp only [rb_bind]
  exact h
theorem x_chnP {c1 c2 : Bool} {v : α} (e : α → D) (hf : flat2 f d1 d2 = some (eB c1)) (hc : Sim (rb (mc s) rq) (.rt v) (PP e s)) (hg : flat2 g d2 (e v) = some (eB c2)) (h : Sim (k (eB (c1 && c2)) s) t P) : Sim (rb (chnK f g d1 d2 mc s) k) t P := by
  obtain ⟨d, s2, h1, rfl, rfl⟩ := hc
  unfold chnK
  rw [hf]
  cases c1 with
  | true =>
    simp only [rq_inj h1, bind_ok, hg]
    exact h
  | false => exact h
theorem x_chnJ {o1 : Option Bool} {t2 : Fn Bool} {T : Bool → Rc σ β ρ} (J : Bool → S → Prop) (hf : ∀ z, o1 = some z → flat2 f d1 d2 = some (eB z)) (h1 : Sim (rb (mc s) fun c s3 => rb (o2r (flat2 g d2 c) s3) rq) t2 ⟨fun e => e.elim, fun e => e.elim, fun q d s => d = .bl q ∧ J q s, P.ex⟩) (h2 : J false s) (hR : ∀ c s', J c s' → Sim (k (eB c) s') (T c) P) : Sim (rb (chnK f g d1 d2 mc s) k) (bindO o1 fun c => callT (if c = true then t2 else .rt false) T) P := by
  cases o1 with
  | none => first | trivial | exact q_no
  | some c =>
    unfold chnK
    rw [hf c rfl]
    show Sim _ (callT (if c = true then t2 else .rt false) T) P
    cases c with
    | true =>
      refine sim_rq (J := fun q d s => d = .bl q ∧ J q s) (pe := P.ex) ?_ (fun c d s' h => by obtain ⟨rfl, h⟩ := h; exact hR c s' h) fun _ _ h => h
      simp only [rb_bind]
      exact h1
    | false => exact hR false s h2
def joinK (d : D) (mb : DE) (s1 : S) : Rs D := match d with
  | .str a => (mb s1).bind fun b s2 => o2r (fJoin a b) s2
  | _ => .no
theorem x_join (h : Sim (rb (m s) fun d s1 => rb (joinK d mb s1) k) t P) : Sim (rb (dJoin m mb s) k) t P := by
  have e : dJoin m mb s = (m s).bind fun d s1 => joinK d mb s1 := rfl
  rw [e, rb_bind]; exact h
theorem x_joinK {a : Str} (h : Sim (rb (mb s) fun b s2 => rb (o2r (fJoin a b) s2) k) t P) : Sim (rb (joinK (eS a) mb s) k) t P := by
  show Sim (rb ((mb s).bind fun b s2 => o2r (fJoin a b) s2) k) t P
  rw [rb_bind]; exact h
theorem x_sl {l h : DP} (hh : Sim (rb (m s) fun d s1 => rb (l s1) fun lo s2 => rb (h s2) fun hi s3 => rb (o2r (fSl d lo hi) s3) k) t P) : Sim (rb (dSl m l h s) k) t P := by
  unfold dSl
  rw [rb_bind]
  simp only [rb_bind]
  exact hh
theorem x_p0 {kp : Option Int → S → Ro} (h : Sim (kp none s) t P) : Sim (rb (dP0 s) kp) t P := h
def p1K (d : D) (s1 : S) : Rs (Option Int) := match d with
  | .int i => .ok (some i) s1
  | _ => .no
theorem x_p1 {kp : Option Int → S → Ro} (h : Sim (rb (m s) fun d s1 => rb (p1K d s1) kp) t P) : Sim (rb (dP1 m s) kp) t P := by
  have e : dP1 m s = (m s).bind fun d s1 => p1K d s1 := rfl
  rw [e, rb_bind]; exact h
theorem x_p1K {kp : Option Int → S → Ro} {z : Int} (h : Sim (kp (some z) s) t P) : Sim (rb (p1K (eI z) s) kp) t P := h
def fmtK (d : D) (s1 : S) : Rs D := match d with
  | .str y => if y.length ≤ lim then .ok (.str y) s1 else .no
  | .int i => if i.natAbs.log2 < 1920 then .ok (.str (toString i)) s1 else .no
  | _ => .no
theorem x_fmt (h : Sim (rb (m s) fun d s1 => rb (fmtK d s1) k) t P) : Sim (rb (dFmt m s) k) t P := by
  have e : dFmt m s = (m s).bind fun d s1 => fmtK d s1 := rfl
  rw [e, rb_bind]; exact h
@[irreducible] def fmtO (y : Str) : Option Str := if y.length ≤ lim then some y else none
theorem x_fmtS {y : Str} {T : Str → Rc σ β ρ} (h : ∀ y, Sim (k (eS y) s) (T y) P) : Sim (rb (fmtK (eS y) s) k) (bindO (fmtO y) T) P := by
  unfold fmtO
  split
  · rename_i g
    show Sim (rb (if y.length ≤ lim then .ok (.str y) s else .no) k) _ P
    rw [if_pos g]
    exact h y
  · first | trivial | exact q_no
theorem x_fmtI {y : Int} {T : Str → Rc σ β ρ} (h : ∀ y, Sim (k (eS y) s) (T y) P) : Sim (rb (fmtK (eI y) s) k) (bindO (strI y) T) P := by
  unfold strI
  split
  · rename_i g
    show Sim (rb (if y.natAbs.log2 < 1920 then .ok (.str (toString y)) s else .no) k) _ P
    rw [if_pos g]
    exact h _
  · first | trivial | exact q_no
def jsK (d : D) (acc : Str) (mj : List DE) (s1 : S) : Rs D := match d with
  | .str y => if (acc ++ y).length ≤ lim then dJs mj (acc ++ y) s1 else .no
  | _ => .no
theorem x_jsC {acc : Str} {mj : List DE} (h : Sim (rb (m s) fun d s1 => rb (jsK d acc mj s1) k) t P) : Sim (rb (dJs (m :: mj) acc s) k) t P := by
  have e : dJs (m :: mj) acc s = (m s).bind fun d s1 => jsK d acc mj s1 := rfl
  rw [e, rb_bind]; exact h
theorem x_jsN {acc : Str} (h : Sim (k (eS acc) s) t P) : Sim (rb (dJs [] acc s) k) t P := h
@[irreducible] def jcat (x y : Str) : Option Str := if (x ++ y).length ≤ lim then some (x ++ y) else none
theorem x_jsK {y acc : Str} {mj : List DE} {T : Str → Rc σ β ρ} (h : ∀ z, Sim (rb (dJs mj z s) k) (T z) P) : Sim (rb (jsK (eS y) acc mj s) k) (bindO (jcat acc y) T) P := by
  unfold jcat
  split
  · rename_i g
    show Sim (rb (if (acc ++ y).length ≤ lim then dJs mj (acc ++ y) s else .no) k) _ P
    rw [if_pos g]
    exact h _
  · first | trivial | exact q_no
/-! ### what is walked -/
def itK (d : D) (s1 : S) : Rs (List D) := match itemsD (rd d) with
  | some ds => .ok ds s1
  | none => .no
theorem x_it (h : Sim (rb (m s) fun d s1 => rb (itK d s1) kl) t P) : Sim (rb (dIt m s) kl) t P := by
  have e : dIt m s = (m s).bind fun d s1 => itK d s1 := rfl
  rw [e, rb_bind]; exact h
theorem x_itQ {e' : α → D} (hr : rd (eQ o kd e xs) = eQ false kd e' xs) (hk : sqk kd = true) (h : Sim (kl (xs.map e') s) t P) : Sim (rb (itK (eQ o kd e xs) s) kl) t P := by
  have e1 : itK (eQ o kd e xs) s = .ok (xs.map e') s := by
    unfold itK
    rw [hr]
    cases kd <;> first | (cases hk; done) | rfl
  rw [e1]; exact h
theorem x_itS {z : Str} (h : Sim (kl ((chars z).map eS) s) t P) : Sim (rb (itK (eS z) s) kl) t P := by
  have e1 : itK (eS z) s = .ok ((chars z).map eS) s := by
    unfold itK chars
    rw [List.map_map]
    rfl
  rw [e1]; exact h
theorem x_itD {T : List D → Rc σ β ρ} (h : ∀ ds, Sim (kl (ds.map eD) s) (T ds) P) : Sim (rb (itK d s) kl) (bindO (itemsD (rd d)) T) P := by
  unfold itK
  cases itemsD (rd d) with
  | none => first | trivial | exact q_no
  | some ds =>
    have := h ds
    rw [show ds.map eD = ds from List.map_id' ds] at this
    exact this
def rng1K (ds : List D) (s1 : S) : Rs (List D) := match ds with
  | [.int n] => if n < 4611686018427387904 ∧ -4611686018427387904 ≤ n then .ok ((List.range n.toNat).map fun k => .int (0 + (k : Nat))) s1 else .no
  | _ => .no
theorem x_rng1 (h : Sim (rb (ms s) fun ds s1 => rb (rng1K ds s1) kl) t P) : Sim (rb (dRng1 ms s) kl) t P := by
  have e : dRng1 ms s = (ms s).bind fun ds s1 => rng1K ds s1 := rfl
  rw [e, rb_bind]; exact h
theorem x_rng1K {z : Int} {T : List Int → Rc σ β ρ} (h : ∀ ns, Sim (kl (ns.map eI) s) (T ns) P) : Sim (rb (rng1K [eI z] s) kl) (bindO (rng1O z) T) P := by
  unfold rng1O
  split
  · rename_i g
    have := h (rngL 0 z.toNat)
    unfold rngL at this
    rw [List.map_map] at this
    show Sim (rb (if _ then _ else _) kl) _ P
    rw [if_pos g]
    exact this
  · first | trivial | exact q_no
def rng2K (ds : List D) (s1 : S) : Rs (List D) := match ds with
  | [.int a, .int b] => if (-4611686018427387904 ≤ a ∧ a < 4611686018427387904) ∧ -4611686018427387904 ≤ b ∧ b < 4611686018427387904 then .ok ((List.range (b - a).toNat).map fun k => .int (a + (k : Nat))) s1 else .no
  | _ => .no
theorem x_rng2 (h : Sim (rb (ms s) fun ds s1 => rb (rng2K ds s1) kl) t P) : Sim (rb (dRng2 ms s) kl) t P := by
  have e : dRng2 ms s = (ms s).bind fun ds s1 => rng2K ds s1 := rfl
  rw [e, rb_bind]; exact h
theorem x_rng2K {y z : Int} {T : List Int → Rc σ β ρ} (h : ∀ ns, Sim (kl (ns.map eI) s) (T ns) P) : Sim (rb (rng2K [eI y, eI z] s) kl) (bindO (rng2O y z) T) P := by
  unfold rng2O
  split
  · rename_i g
    have := h (rngL y (z - y).toNat)
    unfold rngL at this
    rw [List.map_map] at this
    show Sim (rb (if _ then _ else _) kl) _ P
    rw [if_pos g]
    exact this
  · first | trivial | exact q_no
def revK (d : D) (s1 : S) : Rs (List D) := match rd d with
  | .bx _ .tup ds => .ok ds.reverse s1
  | .bx _ .lst ds => .ok ds.reverse s1
  | .bx _ .scr ds => .ok ds.reverse s1
  | _ => .no
theorem x_rev (h : Sim (rb (m s) fun d s1 => rb (revK d s1) kl) t P) : Sim (rb (dRev m s) kl) t P := by
  have e : dRev m s = (m s).bind fun d s1 => revK d s1 := rfl
  rw [e, rb_bind]; exact h
theorem x_revQ {e' : α → D} (hr : rd (eQ o kd e xs) = eQ false kd e' xs) (hk : sqk kd = true) (h : Sim (kl (xs.reverse.map e') s) t P) : Sim (rb (revK (eQ o kd e xs) s) kl) t P := by
  have e1 : revK (eQ o kd e xs) s = .ok (xs.reverse.map e') s := by
    unfold revK
    rw [hr, List.map_reverse]
    cases kd <;> first | (cases hk; done) | rfl
  rw [e1]; exact h
def enumK (ds : List D) (s1 : S) : Rs (List D) := match ds with
  | [d] => (match rd d with
    | .bx _ .tup ds => .ok (enD 0 ds) s1
    | .bx _ .lst ds => .ok (enD 0 ds) s1
    | .bx _ .scr ds => .ok (enD 0 ds) s1
    | _ => .no)
  | _ => .no
theorem x_enum (h : Sim (rb (ms s) fun ds s1 => rb (enumK ds s1) kl) t P) : Sim (rb (dEnum ms s) kl) t P := by
  have e : dEnum ms s = (ms s).bind fun ds s1 => enumK ds s1 := rfl
  rw [e, rb_bind]; exact h
theorem x_enumQ {e' : α → D} (hr : rd (eQ o kd e xs) = eQ false kd e' xs) (hk : sqk kd = true) (h : Sim (kl ((enumL 0 xs).map (eP2 false .tup eI e')) s) t P) : Sim (rb (enumK [eQ o kd e xs] s) kl) t P := by
  have e1 : enumK [eQ o kd e xs] s = .ok ((enumL 0 xs).map (eP2 false .tup eI e')) s := by
    unfold enumK
    simp only [hr]
    rw [← enD_map]
    cases kd <;> first | (cases hk; done) | rfl
  rw [e1]; exact h
def enumDO (d : D) : Option (List (Int × D)) := (seqT (rd d)).map fun ds => enumL 0 ds
theorem x_enumD {T : List (Int × D) → Rc σ β ρ} (h : ∀ ds, Sim (kl (ds.map (eP2 false .tup eI eD)) s) (T ds) P) : Sim (rb (enumK [d] s) kl) (bindO (enumDO d) T) P := by
  have key : ∀ ds, enumDO d = some ds → enumK [d] s = .ok (ds.map (eP2 false .tup eI eD)) s := fun ds hd => by
    unfold enumDO at hd
    obtain ⟨xs, h1, rfl⟩ := Option.map_eq_some_iff.mp hd
    unfold enumK
    have h2 := enD_map (e := eD) xs 0
    rw [show xs.map eD = xs from List.map_id' xs] at h2
    rw [← h2]
    unfold seqT at h1
    split at h1 <;> first | (cases h1; done) | (rename_i q; injection h1 with h1; subst h1; simp only [q])
  cases q : enumDO d with
  | none => first | trivial | exact q_no
  | some ds =>
    rw [key ds q]
    exact h ds
theorem c_ts {tg : DG} (h : Sim (rb (m s) fun d s1 => tgtK tg (rd d) s1 R) t P) : Sim (sq (dTs m tg s) R) t P := by
  have e : sq (dTs m tg s) R = rb (m s) fun d s1 => tgtK tg (rd d) s1 R := by
    show sq (rb (m s) _) R = _
    rw [sq_rb]
    congr 1
    funext d s1
    unfold tgtK
    cases tg (rd d) s1 <;> rfl
  rw [e]; exact h
theorem g_d {tg : DG} (hd : d = d') (h : Sim (tgtK tg d' s R) t P) : Sim (tgtK tg d s R) t P := hd ▸ h
/-! ### comprehensions -/
def compT (f : α → σ → Rc σ Empty (γ × σ)) : List α → σ → Fn (List γ × σ)
  | [], v => .rt ([], v)
  | x :: xs, v => match f x v with
    | .rt (c, v1) => (match compT f xs v1 with
      | .rt (cs, v2) => .rt (c :: cs, v2)
      | _ => .no)
    | .nx v1 => compT f xs v1
    | _ => .no
@[irreducible] def compG (f : α → σ → Rc σ Empty (γ × σ)) (l : List α) (v : σ) : Fn (List γ × σ) := if l.length < lim then compT f l v else .no
@[irreducible] def mapO (f : α → γ) (l : List α) : Option (List γ) := if l.length < lim then some (l.map f) else none
@[irreducible] def filO (p : α → Bool) (f : α → γ) (l : List α) : Option (List γ) := if l.length < lim then some ((l.filter p).map f) else none
def stepK (vs : List Nat) (tg : DG) (test : DT) (elt : DE) (d : D) (s : S) : Ro := tgtK tg d s fun s2 => rb (test s2) fun b s3 => if b = true then rb (elt s3) fun d s4 => .rt d (wipeD s4 vs) else .nx (wipeD s3 vs)
theorem x_comp {vs : List Nat} {tg : DG} {test : DT} {elt : DE} (h : Sim (rb (ms s) fun ds s1 => rb (dCompL vs tg test elt ds [] (wipeD s1 vs)) fun acc s2 => k (mL acc) (wipeD s2 vs)) t P) : Sim (rb (dComp ms vs tg test elt s) k) t P := by
  have e : rb (dComp ms vs tg test elt s) k = rb (ms s) fun ds s1 => rb (dCompL vs tg test elt ds [] (wipeD s1 vs)) fun acc s2 => k (mL acc) (wipeD s2 vs) := by
    unfold dComp
    rw [rb_bind]
    congr 1
    funext ds s1
    rw [rb_bind]
    rfl
  rw [e]; exact h
theorem comp_sim {vs : List Nat} {tg : DG} {test : DT} {elt : DE} {e : α → D} {e' : γ → D} {f : α → σ' → Rc σ' Empty (γ × σ')} (I : σ' → S → Prop) (step : ∀ x v s, I v s → Sim (stepK vs tg test elt (e x) s) (f x v) ⟨I, fun e => e.elim, fun q d s => d = e' q.1 ∧ I q.2 s, fun _ _ => True⟩) :
    ∀ (l : List α) (v : σ') (s : S) (acc : List D), I v s → acc.length + l.length < lim → ∀ cs v2, compT f l v = .rt (cs, v2) → ∃ s2, dCompL vs tg test elt (l.map e) acc s = .ok (acc ++ cs.map e') s2 ∧ I v2 s2
  | [], v, s, acc, h, hl, cs, v2, hc => by
    have hc : Rc.rt (([] : List γ), v) = (Rc.rt (cs, v2) : Fn _) := hc
    injection hc with hc
    injection hc with h1 h2
    subst h1 h2
    exact ⟨s, by simp [dCompL], h⟩
  | x :: xs, v, s, acc, h, hl, cs, v2, hc => by
    have st := step x v s h
    simp only [List.length_cons] at hl
    unfold compT at hc
    show ∃ s2, dCompL vs tg test elt (e x :: xs.map e) acc s = _ ∧ _
    unfold dCompL
    unfold stepK tgtK at st
    cases z : f x v with
    | rt q =>
      obtain ⟨c, v1⟩ := q
      rw [z] at st hc
      obtain ⟨d, s5, h1, h2, h3⟩ := st
      cases q1 : tg (e x) s with
      | none => rw [q1] at h1; cases h1
      | some s2 =>
        rw [q1] at h1
        simp only [] at h1 ⊢
        cases q2 : test s2 with
        | no => rw [q2] at h1; cases h1
        | ex _ _ => rw [q2] at h1; cases h1
        | ok b s3 =>
          rw [q2] at h1
          simp only [rb_ok] at h1
          cases b with
          | false => cases h1
          | true =>
            rw [if_pos rfl] at h1
            simp only []
            cases q3 : elt s3 with
            | no => rw [q3] at h1; cases h1
            | ex _ _ => rw [q3] at h1; cases h1
            | ok d1 s4 =>
              rw [q3] at h1
              have h1 : Ro.rt d1 (wipeD s4 vs) = .rt d s5 := h1
              injection h1 with h4 h5
              subst h4 h5
              simp only [if_pos (show acc.length < lim by omega)]
              simp only [] at hc
              cases q4 : compT f xs v1 with
              | rt q =>
                obtain ⟨cs1, v3⟩ := q
                rw [q4] at hc
                have hc : Rc.rt (c :: cs1, v3) = (Rc.rt (cs, v2) : Fn _) := hc
                injection hc with hc
                injection hc with h6 h7
                subst h6 h7
                obtain ⟨s6, h8, h9⟩ := comp_sim I step xs v1 (wipeD s4 vs) (acc ++ [d1]) h3 (by simp; omega) cs1 v3 q4
                refine ⟨s6, ?_, h9⟩
                rw [h8]
                simp [h2]
              | nx e => exact e.elim
              | bk e => exact e.elim
              | ct e => exact e.elim
              | ex _ => rw [q4] at hc; cases hc
              | no => rw [q4] at hc; cases hc
    | nx v1 =>
      rw [z] at st hc
      obtain ⟨s5, h1, h3⟩ := st
      cases q1 : tg (e x) s with
      | none => rw [q1] at h1; cases h1
      | some s2 =>
        rw [q1] at h1
        simp only [] at h1 ⊢
        cases q2 : test s2 with
        | no => rw [q2] at h1; cases h1
        | ex _ _ => rw [q2] at h1; cases h1
        | ok b s3 =>
          rw [q2] at h1
          simp only [rb_ok] at h1
          cases b with
          | true =>
            rw [if_pos rfl] at h1
            cases q3 : elt s3 with
            | no => rw [q3] at h1; cases h1
            | ex _ _ => rw [q3] at h1; cases h1
            | ok d1 s4 => rw [q3] at h1; cases h1
          | false =>
            rw [if_neg (by decide)] at h1
            injection h1 with h5
            subst h5
            exact comp_sim I step xs v1 (wipeD s3 vs) acc h3 (by omega) cs v2 hc
    | bk e => exact e.elim
    | ct e => exact e.elim
    | ex _ => rw [z] at hc; cases hc
    | no => rw [z] at hc; cases hc
theorem q_comp {vs : List Nat} {tg : DG} {test : DT} {elt : DE} {l : List α} {e : α → D} (e' : γ → D) {v0 : σ'} {f : α → σ' → Rc σ' Empty (γ × σ')} {T : List γ × σ' → Rc σ β ρ} (I : σ' → S → Prop) (hs : wipeD s vs = s') (h0 : I v0 s')
    (step : ∀ x v s, I v s → Sim (stepK vs tg test elt (e x) s) (f x v) ⟨I, fun e => e.elim, fun q d s => d = e' q.1 ∧ I q.2 s, fun _ _ => True⟩) (hR : ∀ ys v s, I v s → Sim (k (eQ true .lst e' ys) (wipeD s vs)) (T (ys, v)) P) :
    Sim (rb (dCompL vs tg test elt (l.map e) [] (wipeD s vs)) fun acc s2 => k (mL acc) (wipeD s2 vs)) (callT (compG f l v0) T) P := by
  unfold compG
  split
  · rename_i g
    rw [hs]
    cases q : compT f l v0 with
    | rt p =>
      obtain ⟨cs, v2⟩ := p
      obtain ⟨s2, h1, h2⟩ := comp_sim I step l v0 s' [] h0 (by simpa using g) cs v2 q
      rw [h1]
      exact hR cs v2 s2 h2
    | nx e => exact e.elim
    | bk e => exact e.elim
    | ct e => exact e.elim
    | ex x =>
      exfalso
      have key : ∀ (l : List α) v x, compT f l v ≠ .ex x := by
        intro l
        induction l with
        | nil => intro v x h; cases h
        | cons y l ih =>
          intro v x h
          unfold compT at h
          split at h
          · split at h <;> cases h
          · exact ih _ _ h
          · cases h
      exact key l v0 x q
    | no => first | trivial | exact q_no
  · first | trivial | exact q_no
theorem compT_pure {p : α → Bool} {g : α → γ} : ∀ l : List α, compT (fun x (_ : Unit) => if p x = true then (.rt (g x, ()) : Rc Unit Empty (γ × Unit)) else .nx ()) l () = .rt ((l.filter p).map g, ())
  | [] => rfl
  | x :: xs => by
    have ih := compT_pure (p := p) (g := g) xs
    unfold compT
    by_cases h : p x = true
    · simp [h, ih]
    · simp [h, ih]
theorem q_compF {vs : List Nat} {tg : DG} {test : DT} {elt : DE} {l : List α} {e : α → D} (e' : γ → D) (p : α → Bool) (g : α → γ) {T : List γ → Rc σ β ρ} (hs : wipeD s vs = s') (hs2 : wipeD s' vs = s')
    (step : ∀ x, Sim (stepK vs tg test elt (e x) s') (if p x = true then (.rt (g x) : Rc Unit Empty γ) else .nx ()) ⟨fun _ s => s = s', fun e => e.elim, fun q d s => d = e' q ∧ s = s', fun _ _ => True⟩) (hR : ∀ ys, Sim (k (eQ true .lst e' ys) s') (T ys) P) :
    Sim (rb (dCompL vs tg test elt (l.map e) [] (wipeD s vs)) fun acc s2 => k (mL acc) (wipeD s2 vs)) (bindO (filO p g l) T) P := by
  unfold filO
  split
  · rename_i hl
    have h := q_comp (P := P) (T := fun z => T z.1) (l := l) (v0 := ()) (k := k) (tg := tg) (test := test) (elt := elt) (e := e) (f := fun x (_ : Unit) => if p x = true then (.rt (g x, ()) : Rc Unit Empty (γ × Unit)) else .nx ()) e' (fun _ s => s = s') hs rfl (fun x v s h => by
      rw [h]
      have st := step x
      by_cases hp : p x = true
      · simp only [hp, if_true] at st ⊢
        obtain ⟨d, s2, h1, h2, h3⟩ := st
        exact ⟨d, s2, h1, h2, h3⟩
      · simp only [hp] at st ⊢
        obtain ⟨s2, h1, h2⟩ := st
        exact ⟨s2, h1, h2⟩) fun ys v s h => by
          rw [h, hs2]
          exact hR ys
    unfold compG at h
    rw [if_pos hl, compT_pure] at h
    exact h
  · first | trivial | exact q_no
theorem q_compP {vs : List Nat} {tg : DG} {test : DT} {elt : DE} {l : List α} {e : α → D} (e' : γ → D) (g : α → γ) {T : List γ → Rc σ β ρ} (hs : wipeD s vs = s') (hs2 : wipeD s' vs = s')
    (step : ∀ x, Sim (stepK vs tg test elt (e x) s') (.rt (g x) : Rc Unit Empty γ) ⟨fun _ s => s = s', fun e => e.elim, fun q d s => d = e' q ∧ s = s', fun _ _ => True⟩) (hR : ∀ ys, Sim (k (eQ true .lst e' ys) s') (T ys) P) :
    Sim (rb (dCompL vs tg test elt (l.map e) [] (wipeD s vs)) fun acc s2 => k (mL acc) (wipeD s2 vs)) (bindO (mapO g l) T) P := by
  have h := q_compF (P := P) (T := T) (l := l) (k := k) e' (fun _ => true) g hs hs2 (fun x => by simpa using step x) hR
  have e1 : filO (fun _ => true) g l = mapO g l := by
    unfold filO mapO
    rw [List.filter_eq_self.mpr (fun _ _ => rfl)]
  rw [e1] at h
  exact h
theorem t_yes (h : Sim (kb true s) t P) : Sim (rb (dYes s) kb) t P := h
theorem q_step {vs : List Nat} {tg : DG} {test : DT} {elt : DE} (h : Sim (tgtK tg d s fun s2 => rb (test s2) fun b s3 => if b = true then rb (elt s3) fun d s4 => .rt d (wipeD s4 vs) else .nx (wipeD s3 vs)) t P) : Sim (stepK vs tg test elt d s) t P := h
theorem q_true {r1 r2 : Ro} (h : Sim r1 t P) : Sim (if true = true then r1 else r2) t P := by rw [if_pos rfl]; exact h
theorem q_rtw {v : ρ} {vs : List Nat} (hs : wipeD s vs = s') (h : P.rt v d s') : Sim (.rt d (wipeD s vs)) (.rt v : Rc σ β ρ) P := ⟨d, _, rfl, hs ▸ h⟩
theorem q_nxw {v : σ} {vs : List Nat} (hs : wipeD s vs = s') (h : P.nx v s') : Sim (.nx (wipeD s vs)) (.nx v : Rc σ β ρ) P := ⟨_, rfl, hs ▸ h⟩
end
end TL

set_option maxHeartbeats 1000000
/-! TL4: more steps. -/
namespace TL
open PySem L2 DL
section
variable {σ σ' β β' ρ ρ' α γ δ κ : Type}
variable {t : Rc σ β ρ} {T : α → Rc σ β ρ} {P : Post σ β ρ} {r : Ro} {s s1 s' : S} {R : DC} {k : D → S → Ro} {kb : Bool → S → Ro} {kl : List D → S → Ro} {m ma mb mc : DE} {ms : DA} {u w : DT} {i j n : Nat} {d d' d1 d2 : D} {a b : DC} {f g : D → D → Option D} {e : α → D} {o : Bool} {kd : BK} {xs : List α}
theorem lt_of_some {α : Type} {l : List α} (h : (l[j]?).isSome = true) : j < l.length := by
  obtain ⟨x, hx⟩ := Option.isSome_iff_exists.mp h
  exact (List.getElem?_eq_some_iff.mp hx).1
theorem y_asg (e : α → D) (v : α) {st : α → S} (hj : (s[j]?).isSome = true) (hs : ∀ x, s.set j (some (e x)) = st x) (h : ∀ x, Sim (R (st x)) (T x) P) : Sim (asgK j (e v) s R) (bindV v T) P := x_asg e v (lt_of_some hj) hs h
theorem y_asgN (hj : (s[j]?).isSome = true) (hs : s.set j (some d) = s') (h : Sim (R s') t P) : Sim (asgK j d s R) t P := x_asgN (lt_of_some hj) hs h
theorem y_nm (hj : (s[j]?).isSome = true) (hs : s.set j (some d) = s') (h : Sim (R s') t P) : Sim (tgtK (gNm j) d s R) t P := g_nm (lt_of_some hj) hs h
theorem x_posl {ds : List D} {r r' : Ro} (n : Nat) (hl : ds.length = n) (hn : n ≤ lim) (h : Sim r t P) : Sim (if ds.length ≤ lim then r else r') t P := x_pos (by omega) h
def caseO {δ : Type} (x : Option α) (t1 : δ) (t2 : α → δ) : δ := match x with
  | none => t1
  | some v => t2 v
@[simp] theorem caseO_none {δ : Type} {t1 : δ} {t2 : α → δ} : caseO none t1 t2 = t1 := rfl
@[simp] theorem caseO_some {δ : Type} {x : α} {t1 : δ} {t2 : α → δ} : caseO (some x) t1 t2 = t2 x := rfl
theorem q_caseO {x : Option α} {r1 r2 : Ro} {t1 : Rc σ β ρ} {t2 : α → Rc σ β ρ} (h1 : x = none → Sim r1 t1 P) (h2 : ∀ v, x = some v → Sim r2 (t2 v) P) : Sim (if x.isNone = true then r1 else r2) (caseO x t1 t2) P := by
  cases x with
  | none => exact h1 rfl
  | some v => exact h2 v rfl
theorem q_caseON {x : Option α} {r1 r2 : Ro} {t1 : Rc σ β ρ} {t2 : α → Rc σ β ρ} (h1 : x = none → Sim r2 t1 P) (h2 : ∀ v, x = some v → Sim r1 (t2 v) P) : Sim (if (!x.isNone) = true then r1 else r2) (caseO x t1 t2) P := by
  cases x with
  | none => exact h1 rfl
  | some v => exact h2 v rfl
theorem q_joinO {x : Option α} {t1 : Rc σ' β ρ} {t2 : α → Rc σ' β ρ} {T : σ' → Rc σ β ρ} (J : σ' → S → Prop) (h1 : x = none → Sim (sq (a s) .nx) t1 ⟨J, P.lp, P.rt, P.ex⟩) (h2 : ∀ v, x = some v → Sim (sq (b s) .nx) (t2 v) ⟨J, P.lp, P.rt, P.ex⟩) (hR : ∀ v s', J v s' → Sim (R s') (T v) P) :
    Sim (if x.isNone = true then sq (a s) R else sq (b s) R) (bindC (caseO x t1 t2) T) P := by
  cases x with
  | none => exact q_join (c := true) (t2 := t1) (b := a) J (fun _ => h1 rfl) (fun _ => h1 rfl) hR
  | some v => exact q_join (c := false) (t1 := t2 v) (a := b) J (fun _ => h2 v rfl) (fun _ => h2 v rfl) hR
theorem q_joinON {x : Option α} {t1 : Rc σ' β ρ} {t2 : α → Rc σ' β ρ} {T : σ' → Rc σ β ρ} (J : σ' → S → Prop) (h1 : x = none → Sim (sq (b s) .nx) t1 ⟨J, P.lp, P.rt, P.ex⟩) (h2 : ∀ v, x = some v → Sim (sq (a s) .nx) (t2 v) ⟨J, P.lp, P.rt, P.ex⟩) (hR : ∀ v s', J v s' → Sim (R s') (T v) P) :
    Sim (if (!x.isNone) = true then sq (a s) R else sq (b s) R) (bindC (caseO x t1 t2) T) P := by
  cases x with
  | none => exact q_join (c := false) (t1 := t1) (a := b) J (fun _ => h1 rfl) (fun _ => h1 rfl) hR
  | some v => exact q_join (c := true) (t2 := t2 v) (b := a) J (fun _ => h2 v rfl) (fun _ => h2 v rfl) hR
def okl (ds : List D) (s : S) : Rs D := if ds.length ≤ lim then .ok (mL ds) s else .no
def okt (ds : List D) (s : S) : Rs D := if ds.length ≤ lim then .ok (dT (ds.map rd)) s else .no
theorem y_lst (h : Sim (rb (ms s) fun ds s1 => rb (okl ds s1) k) t P) : Sim (rb (dLst ms s) k) t P := by
  have e : rb (dLst ms s) k = rb (ms s) fun ds s1 => rb (okl ds s1) k := by
    rw [dLst_s, rb_bind]
    rfl
  rw [e]; exact h
theorem y_tup (h : Sim (rb (ms s) fun ds s1 => rb (okt ds s1) k) t P) : Sim (rb (dTup ms s) k) t P := by
  have e : rb (dTup ms s) k = rb (ms s) fun ds s1 => rb (okt ds s1) k := by
    rw [dTup_s, rb_bind]
    rfl
  rw [e]; exact h
theorem x_okl {ds : List D} (n : Nat) (hl : ds.length = n) (hn : n ≤ lim) (hd : mL ds = d') (h : Sim (k d' s) t P) : Sim (rb (okl ds s) k) t P := by
  unfold okl
  rw [if_pos (by omega), hd]
  exact h
theorem x_okt {ds : List D} (n : Nat) (hl : ds.length = n) (hn : n ≤ lim) (hd : dT (ds.map rd) = d') (h : Sim (k d' s) t P) : Sim (rb (okt ds s) k) t P := by
  unfold okt
  rw [if_pos (by omega), hd]
  exact h
def compR (vs : List Nat) (tg : DG) (test : DT) (elt : DE) (ds : List D) (s1 : S) : Rs D := (dCompL vs tg test elt ds [] (wipeD s1 vs)).bind fun acc s2 => .ok (mL acc) (wipeD s2 vs)
theorem y_comp {vs : List Nat} {tg : DG} {test : DT} {elt : DE} (h : Sim (rb (ms s) fun ds s1 => rb (compR vs tg test elt ds s1) k) t P) : Sim (rb (dComp ms vs tg test elt s) k) t P := by
  have e : rb (dComp ms vs tg test elt s) k = rb (ms s) fun ds s1 => rb (compR vs tg test elt ds s1) k := by
    unfold dComp
    rw [rb_bind]
    rfl
  rw [e]; exact h
theorem compR_e {vs : List Nat} {tg : DG} {test : DT} {elt : DE} {ds : List D} : rb (compR vs tg test elt ds s) k = rb (dCompL vs tg test elt ds [] (wipeD s vs)) fun acc s2 => k (mL acc) (wipeD s2 vs) := by
  unfold compR
  rw [rb_bind]
  rfl
theorem y_qcomp {vs : List Nat} {tg : DG} {test : DT} {elt : DE} {l : List α} {e : α → D} (e' : γ → D) {v0 : σ'} {f : α → σ' → Rc σ' Empty (γ × σ')} {T : List γ × σ' → Rc σ β ρ} (I : σ' → S → Prop) (hs : wipeD s vs = s') (h0 : I v0 s')
    (step : ∀ x v s, I v s → Sim (stepK vs tg test elt (e x) s) (f x v) ⟨I, fun e => e.elim, fun q d s => d = e' q.1 ∧ I q.2 s, fun _ _ => True⟩) (hR : ∀ ys v s, I v s → Sim (k (eQ true .lst e' ys) (wipeD s vs)) (T (ys, v)) P) :
    Sim (rb (compR vs tg test elt (l.map e) s) k) (callT (compG f l v0) T) P := by
  rw [compR_e]
  exact q_comp e' I hs h0 step hR
theorem y_qcompF {vs : List Nat} {tg : DG} {test : DT} {elt : DE} {l : List α} {e : α → D} (e' : γ → D) (p : α → Bool) (g : α → γ) {T : List γ → Rc σ β ρ} (hs : wipeD s vs = s') (hs2 : wipeD s' vs = s')
    (step : ∀ x, Sim (stepK vs tg test elt (e x) s') (if p x = true then (.rt (g x) : Rc Unit Empty γ) else .nx ()) ⟨fun _ s => s = s', fun e => e.elim, fun q d s => d = e' q ∧ s = s', fun _ _ => True⟩) (hR : ∀ ys, Sim (k (eQ true .lst e' ys) s') (T ys) P) :
    Sim (rb (compR vs tg test elt (l.map e) s) k) (bindO (filO p g l) T) P := by
  rw [compR_e]
  exact q_compF e' p g hs hs2 step hR
theorem y_qcompP {vs : List Nat} {tg : DG} {test : DT} {elt : DE} {l : List α} {e : α → D} (e' : γ → D) (g : α → γ) {T : List γ → Rc σ β ρ} (hs : wipeD s vs = s') (hs2 : wipeD s' vs = s')
    (step : ∀ x, Sim (stepK vs tg test elt (e x) s') (.rt (g x) : Rc Unit Empty γ) ⟨fun _ s => s = s', fun e => e.elim, fun q d s => d = e' q ∧ s = s', fun _ _ => True⟩) (hR : ∀ ys, Sim (k (eQ true .lst e' ys) s') (T ys) P) :
    Sim (rb (compR vs tg test elt (l.map e) s) k) (bindO (mapO g l) T) P := by
  rw [compR_e]
  exact q_compP e' g hs hs2 step hR
theorem x_dsC {F : List D → Rs D} {ls : Lends} {ds ds' : List D} (hd : ds = ds') (h : Sim (if ds'.length = n then clk (F ds') ls s k else .no) t P) : Sim (if ds.length = n then clk (F ds) ls s k else .no) t P := by rw [hd]; exact h
theorem x_dsM {F : List D → Rs D} {ls : Lends} {ds ds' : List D} (hd : ds = ds') (h : Sim (if ds'.length + 1 = n then mkK (F (d :: ds')) ls s k else .no) t P) : Sim (if ds.length + 1 = n then mkK (F (d :: ds)) ls s k else .no) t P := by rw [hd]; exact h
theorem x_dsN {F : List D → Rs D} {ls : Lends} {ds ds' : List D} (hd : ds = ds') (h : Sim (if ds'.length + 1 = n then clkN (F (d :: ds')) ls s k else .no) t P) : Sim (if ds.length + 1 = n then clkN (F (d :: ds)) ls s k else .no) t P := by rw [hd]; exact h
theorem co_O {k : BK} {xs : List α} : eQ o k e xs = eQ o k (eO e) (xs.map fun y => some y) := by
  unfold eQ
  rw [List.map_map]
  rfl
theorem co_N {k : BK} {xs : List Unit} : eQ o k eN xs = eQ o k (eO e) (xs.map fun _ => none) := by
  unfold eQ
  rw [List.map_map]
  rfl
theorem x_opd {e e' : D} (hd : d = d') (he : e = e') (h : Sim (rb (o2r (f d' e') s) k) t P) : Sim (rb (o2r (f d e) s) k) t P := by subst hd he; exact h
theorem x_itd (hd : d = d') (h : Sim (rb (itK d' s) kl) t P) : Sim (rb (itK d s) kl) t P := hd ▸ h
theorem dT_eq {ds ds' : List D} (h : ds = ds') : dT ds = dT ds' := by rw [h]
theorem cons_eq {ds ds' : List D} (hd : d = d') (h : ds = ds') : d :: ds = d' :: ds' := by rw [hd, h]
theorem nown_O (h : ∀ x, nown (e x) = true) (x : Option α) : nown (eO e x) = true := by cases x with
  | none => rfl
  | some x => exact h x
theorem ins_fz {k : BK} {ds ds' : List D} (h : fzs ds = ds') : fz (.bx o k ds) = .bx false k ds' := by
  show D.bx false k (fzs ds) = _
  rw [h]
theorem fzs_cons {ds ds' : List D} (h1 : fz d = d') (h2 : fzs ds = ds') : fzs (d :: ds) = d' :: ds' := by
  show fz d :: fzs ds = _
  rw [h1, h2]
theorem gb_one {p : Option D} : ∀ {ls : Lends} {ps s : S} {i : Nat}, ps[i]? = some p → ls[i]? = some (some j) → (ls.eraseIdx i).all (·.isNone) = true → gb ls ps s = s.set j p
  | [], ps, s, i, _, h, _ => by simp at h
  | o :: ls, [], s, i, h, _, _ => by simp at h
  | o :: ls, q :: ps, s, 0, h1, h2, h3 => by
    have h1 : q = p := by simpa using h1
    have h2 : o = some j := by simpa using h2
    subst h1 h2
    exact gb_all (ls := ls) (by simpa using h3)
  | none :: ls, q :: ps, s, i + 1, h1, h2, h3 => gb_one (ls := ls) (ps := ps) (s := s) (i := i) (by simpa using h1) (by simpa using h2) (by simpa using h3)
  | some _ :: ls, q :: ps, s, i + 1, h1, h2, h3 => by simp at h3
theorem gb_two {p p2 : Option D} {j2 : Nat} : ∀ {ls : Lends} {ps s : S} {i i2 : Nat}, i < i2 → ps[i]? = some p → ls[i]? = some (some j) → ps[i2]? = some p2 → ls[i2]? = some (some j2) → ((ls.eraseIdx i2).eraseIdx i).all (·.isNone) = true → gb ls ps s = (s.set j p).set j2 p2
  | [], ps, s, i, i2, _, _, h, _, _, _ => by simp at h
  | o :: ls, [], s, i, i2, _, h, _, _, _, _ => by simp at h
  | o :: ls, q :: ps, s, i, 0, hi, _, _, _, _, _ => by omega
  | o :: ls, q :: ps, s, 0, i2 + 1, hi, h1, h2, h4, h5, h3 => by
    have h1 : q = p := by simpa using h1
    have h2 : o = some j := by simpa using h2
    subst h1 h2
    exact gb_one (ls := ls) (ps := ps) (i := i2) (by simpa using h4) (by simpa using h5) (by simpa using h3)
  | none :: ls, q :: ps, s, i + 1, i2 + 1, hi, h1, h2, h4, h5, h3 => gb_two (ls := ls) (ps := ps) (s := s) (i := i) (i2 := i2) (by omega) (by simpa using h1) (by simpa using h2) (by simpa using h4) (by simpa using h5) (by simpa using h3)
  | some _ :: ls, q :: ps, s, i + 1, i2 + 1, hi, h1, h2, h4, h5, h3 => by simp at h3
theorem x_blcD {T : Bool → Rc σ β ρ} (h : ∀ c, Sim (kb c s) (T c) P) : Sim (rb (blc d s) kb) (bindO (boolO (some d)) T) P := by
  cases d with
  | bl b => exact h b
  | _ => first | trivial | exact q_no
/-! fixed places -/
theorem x_subNP {k' : BK} {ds : List D} {z : Int} (n q : Nat) (hs : s[j]? = some (some (.bx o k' ds))) (hk : sqk k' = true) (hl : ds.length = n) (hz : ixN n z = some q) (hd : ds[q]? = some d) (hn : nown d = true) (h : Sim (k d s) t P) : Sim (rb (subN j (eI z) s) k) t P := by
  have e : subN j (eI z) s = .ok d s := by
    unfold subN
    rw [hs]
    show (match place k' ds.length (.int z) with
      | some j' => pick s j j'
      | none => .no) = _
    rw [place_Q hk, hl, hz]
    exact pick_n hs hd hn
  rw [e]; exact h
theorem x_setP {ds : List D} {z : Int} {e : α → D} (v : α) {st : α → S} (n q : Nat) (hs : s[j]? = some (some (.bx true .lst ds))) (hl : ds.length = n) (hz : ixN n z = some q) (he : D.bx true .lst (ds.set q d) = e v) (hs' : ∀ x, s.set j (some (e x)) = st x) (h : ∀ x, Sim (R (st x)) (T x) P) : Sim (sq (setAt s j (eI z) d) R) (bindV v T) P := by
  have e1 : setAt s j (eI z) d = .nx (st v) := by
    unfold setAt
    rw [hs]
    show (match ixN ds.length z with
      | some j' => Ro.nx (s.set j (some (mL (ds.set j' d))))
      | none => .no) = _
    rw [hl, hz, ← hs' v, ← he]
  rw [e1]; exact h v
def setFR (c j i : Nat) (e : D) (s1 : S) : Ro := match s1[i]? with
  | some (some (.bx true (.ins c' fs) ds)) => if c' = c ∧ ds.length < 1000 then .nx (s1.set i (some (mI c (putNs fs j) (putVs fs ds j e)))) else .no
  | _ => .no
theorem y_setF {c : Nat} {mv : DE} (h : Sim (rb (mv s) fun e s1 => sq (setFR c j i e s1) R) t P) : Sim (sq (dSetF c j i mv s) R) t P := by
  have e : sq (dSetF c j i mv s) R = rb (mv s) fun e s1 => sq (setFR c j i e s1) R := by
    show sq (rb (mv s) fun e s1 => setFR c j i e s1) R = _
    rw [sq_rb]
  rw [e]; exact h
theorem x_setF2 (e : α → D) (v : α) {st : α → S} {c : Nat} {fs : List Nat} {ds : List D} (n : Nat) (hs : s[i]? = some (some (.bx true (.ins c fs) ds))) (hl : ds.length = n) (hn : n < 1000) (hs' : ∀ x, s.set i (some (mI c (putNs fs j) (putVs fs ds j (e x)))) = st x) (h : ∀ x, Sim (R (st x)) (T x) P) : Sim (sq (setFR c j i (e v) s) R) (bindV v T) P := by
  unfold setFR
  rw [hs]
  simp only [hl, true_and, if_pos hn, hs']
  exact h v
/-! keys -/
theorem set_rd (hd : rd d = d') (h : s.set j (some d') = s') : s.set j (some (rd d)) = s' := by rw [hd]; exact h
theorem keys_M {ek : κ → Key} {ev : κ → D} (h : ∀ x, keyD (ek x) = ev x) {mp : List (κ × α)} : (mp.map fun p => ek p.1).map keyD = (mp.map (·.1)).map ev := by
  rw [List.map_map, List.map_map]
  exact List.map_congr_left fun x _ => h x.1
def keysD : D → Option (List D)
  | .bx _ (.dct ks) _ => some (ks.map keyD)
  | _ => none
theorem c_forKD {tg : DG} {body : DC} {T : List D → Rc σ β ρ} (hs : s[j]? = some (some d)) (hd : rd d = d') (hs' : s.set j (some d') = s') (h : ∀ ks, Sim (sq (noex (dForL tg body (ks.map eD) s')) R) (T ks) P) : Sim (sq (dForK j tg body s) R) (bindO (keysD d') T) P := by
  cases q : keysD d' with
  | none => first | trivial | exact q_no
  | some ks =>
    have e1 : dForK j tg body s = noex (dForL tg body (ks.map eD) s') := by
      rw [show ks.map eD = ks from List.map_id' ks]
      subst hd
      cases d with
      | bx o' k' ds =>
        cases k' with
        | dct kk =>
          have : ks = kk.map keyD := by
            cases o' <;> (injection q with q; exact q.symm)
          subst this
          unfold dForK
          rw [hs]
          simp only [hs']
        | _ => cases o' <;> cases q
      | _ => cases q
    rw [e1]; exact h ks
theorem q_forX {tg : DG} {body : DC} {e : α → D} {l : List α} {v0 : σ'} {fT : α → σ' → Rc σ' σ' ρ} {T : σ' → Rc σ β ρ} (I : σ' → S → Prop) (h0 : I v0 s) (step : ∀ x v s, I v s → Sim (tgtK tg (e x) s fun s2 => sq (body s2) .nx) (fT x v) ⟨I, I, P.rt, P.ex⟩) (hR : ∀ v s', I v s' → Sim (R s') (T v) P) :
    Sim (sq (noex (dForL tg body (l.map e) s)) R) (bindC (noexC (forT fT l v0)) T) P := by
  refine sim_bindC (J := I) ?_ hR
  have h := sim_for (β := β) (pl := P.lp) I step l v0 s h0
  cases z : forT (β := β) fT l v0 with
  | nx v => rw [z] at h; obtain ⟨s2, h1, h2⟩ := h; rw [h1]; exact ⟨s2, rfl, h2⟩
  | ct v => rw [z] at h; obtain ⟨s2, h1, h2⟩ := h; rw [h1]; exact ⟨s2, rfl, h2⟩
  | bk v => rw [z] at h; obtain ⟨s2, h1, h2⟩ := h; rw [h1]; exact ⟨s2, rfl, h2⟩
  | rt v => rw [z] at h; obtain ⟨d, s2, h1, h2⟩ := h; rw [h1]; exact ⟨d, s2, rfl, h2⟩
  | ex v => first | trivial | exact q_no
  | no => first | trivial | exact q_no
/-! quiet ones -/
def QE (q : Option D) (o : Option α) (e : α → D) : Prop := ∀ v, o = some v → q = some (e v)
theorem qe_v {x : α} (h : s[j]? = some (some (e x))) : QE (qv j s) (some x) e := fun v hv => by
  cases hv
  unfold qv
  rw [h]
theorem qe_c {z : Int} : QE (qc (.int z) s) (some z) eI := fun v hv => by cases hv; rfl
def qadd (x y : Option Int) : Option Int := x.bind fun a => y.map fun b => a + b
def qsub (x y : Option Int) : Option Int := x.bind fun a => y.map fun b => a - b
def qmn (x y : Option Int) : Option Int := x.bind fun a => y.map fun b => if b < a then b else a
@[simp] theorem qadd_s {x y : Int} : qadd (some x) (some y) = some (x + y) := rfl
@[simp] theorem qsub_s {x y : Int} : qsub (some x) (some y) = some (x - y) := rfl
@[simp] theorem qmn_s {x y : Int} : qmn (some x) (some y) = some (if y < x then y else x) := rfl
theorem q2 {x y : Option Int} {h : Int → Int → Int} {v : Int} (hv : (x.bind fun a => y.map fun b => h a b) = some v) : ∃ a b, x = some a ∧ y = some b ∧ v = h a b := by
  obtain ⟨a, h1, h2⟩ := Option.bind_eq_some_iff.mp hv
  obtain ⟨b, h3, h4⟩ := Option.map_eq_some_iff.mp h2
  exact ⟨a, b, h1, h3, h4.symm⟩
theorem qe_add {qa qb : DQ} {oa ob : Option Int} (ha : QE (qa s) oa eI) (hb : QE (qb s) ob eI) : QE (qop addI qa qb s) (qadd oa ob) eI := fun v hv => by
  obtain ⟨x, y, rfl, rfl, rfl⟩ := q2 hv
  unfold qop
  rw [ha x rfl, hb y rfl]
  rfl
theorem qe_sub {qa qb : DQ} {oa ob : Option Int} (ha : QE (qa s) oa eI) (hb : QE (qb s) ob eI) : QE (qop fSub qa qb s) (qsub oa ob) eI := fun v hv => by
  obtain ⟨x, y, rfl, rfl, rfl⟩ := q2 hv
  unfold qop
  rw [ha x rfl, hb y rfl]
  rfl
theorem qe_min {qa qb : DQ} {oa ob : Option Int} (ha : QE (qa s) oa eI) (hb : QE (qb s) ob eI) : QE (qmin qa qb s) (qmn oa ob) eI := fun v hv => by
  obtain ⟨x, y, rfl, rfl, rfl⟩ := q2 hv
  unfold qmin
  rw [ha x rfl, hb y rfl]
  rfl
def qat (xs : List α) (a : Option Int) : Option α := a.bind fun i => atI xs i
def qat2 (xs : List (List α)) (a b : Option Int) : Option α := a.bind fun i => b.bind fun j => (atI xs i).bind fun r => atI r j
@[simp] theorem qat_s {xs : List α} {i : Int} : qat xs (some i) = atI xs i := rfl
@[simp] theorem qat2_s {xs : List (List α)} {i j : Int} : qat2 xs (some i) (some j) = (atI xs i).bind fun r => atI r j := rfl
theorem atI_get {xs : List α} {i : Int} {x : α} (h : atI xs i = some x) : ∃ q, ixN xs.length i = some q ∧ xs[q]? = some x := by
  unfold atI at h
  exact Option.bind_eq_some_iff.mp h
theorem qe_s1 {qa : DQ} {oa : Option Int} (hs : s[j]? = some (some (eQ o kd e xs))) (hk : sqk kd = true) (ha : QE (qa s) oa eI) : QE (qs1 j qa s) (qat xs oa) e := fun v hv => by
  obtain ⟨i, rfl, h2⟩ := Option.bind_eq_some_iff.mp hv
  obtain ⟨q, h3, h4⟩ := atI_get h2
  unfold qs1
  rw [hs]
  show (qa s).bind _ = _
  rw [ha i rfl]
  show (if (sv (.int i)).isSome = true then (place kd (xs.map e).length (.int i)).bind fun i => (xs.map e)[i]? else none) = _
  rw [if_pos (show (sv (D.int i)).isSome = true from rfl), place_Q hk, List.length_map, h3]
  simp [h4]
theorem qe_s2 {o' : Bool} {kd' : BK} {xs : List (List α)} {qa qb : DQ} {oa ob : Option Int} (hs : s[j]? = some (some (eQ o kd (eQ o' kd' e) xs))) (hk : sqk kd = true) (hk' : sqk kd' = true) (ha : QE (qa s) oa eI) (hb : QE (qb s) ob eI) : QE (qs2 j qa qb s) (qat2 xs oa ob) e := fun v hv => by
  obtain ⟨i, rfl, g1⟩ := Option.bind_eq_some_iff.mp hv
  obtain ⟨i', rfl, g2⟩ := Option.bind_eq_some_iff.mp g1
  obtain ⟨r, h5, h6⟩ := Option.bind_eq_some_iff.mp g2
  obtain ⟨q, h3, h4⟩ := atI_get h5
  obtain ⟨q', h7, h8⟩ := atI_get h6
  unfold qs2
  rw [hs]
  show (qa s).bind _ = _
  rw [ha i rfl]
  show (if (sv (.int i)).isSome = true then (place kd (xs.map (eQ o' kd' e)).length (.int i)).bind fun i => match (xs.map (eQ o' kd' e))[i]? with
    | some (.bx _ k' es) => (qb s).bind fun b => if (sv b).isSome = true then (place k' es.length b).bind fun i' => es[i']? else none
    | _ => none else none) = _
  rw [if_pos (show (sv (D.int i)).isSome = true from rfl), place_Q hk, List.length_map, h3]
  have h9 : (xs.map (eQ o' kd' e))[q]? = some (.bx o' kd' (r.map e)) := by rw [List.getElem?_map, h4]; rfl
  simp only [Option.bind_some, h9]
  rw [hb i' rfl]
  show (if (sv (.int i')).isSome = true then (place kd' (r.map e).length (.int i')).bind fun i' => (r.map e)[i']? else none) = _
  rw [if_pos (show (sv (D.int i')).isSome = true from rfl), place_Q hk', List.length_map, h7]
  simp [h8]
theorem x_q {q : DQ} {o : Option α} {e : α → D} (h : QE (q s) o e) (hs : ∀ x, (sv (e x)).isSome = true) (hk : ∀ x, Sim (k (e x) s) (T x) P) : Sim (rb (dQ q s) k) (bindO o T) P := by
  cases o with
  | none => first | trivial | exact q_no
  | some x =>
    have e1 : dQ q s = .ok (e x) s := by
      unfold dQ
      rw [h x rfl]
      show (if (sv (e x)).isSome = true then Rs.ok (e x) s else .no) = _
      rw [if_pos (hs x)]
    rw [e1]; exact hk x
def set2O (xs : List (List α)) (a b : Option Int) (v : α) : Option (List (List α)) := a.bind fun i => b.bind fun j => (ixN xs.length i).bind fun q => (xs[q]?).bind fun r => (ixN r.length j).map fun q' => xs.set q (r.set q' v)
def set2R (j : Nat) (qa qb : DQ) (e : D) (s1 : S) : Ro := match ix2 j qa qb s1 with
  | some (i, i', ds, es) => .nx (s1.set j (some (mL (ds.set i (mL (es.set i' (rd e)))))))
  | none => .no
theorem c_set2 {qa qb : DQ} {mv : DE} (h : Sim (rb (mv s) fun e s1 => sq (set2R j qa qb e s1) R) t P) : Sim (sq (dSet2 j qa qb mv s) R) t P := by
  have e : sq (dSet2 j qa qb mv s) R = rb (mv s) fun e s1 => sq (set2R j qa qb e s1) R := by
    show sq (rb (mv s) fun e s1 => set2R j qa qb e s1) R = _
    rw [sq_rb]
  rw [e]; exact h
theorem x_set2 (e : α → D) {xs : List (List α)} {v : α} {T : List (List α) → Rc σ β ρ} {st : List (List α) → S} {qa qb : DQ} {oa ob : Option Int} (hs : s[j]? = some (some (eQ true .lst (eQ true .lst e) xs))) (ha : QE (qa s) oa eI) (hb : QE (qb s) ob eI) (hr : ∀ x, rd (e x) = e x) (hs' : ∀ ys, s.set j (some (eQ true .lst (eQ true .lst e) ys)) = st ys) (h : ∀ ys, Sim (R (st ys)) (T ys) P) : Sim (sq (set2R j qa qb (e v) s) R) (bindO (set2O xs oa ob v) T) P := by
  cases q : set2O xs oa ob v with
  | none => first | trivial | exact q_no
  | some ys =>
    unfold set2O at q
    obtain ⟨i, rfl, g1⟩ := Option.bind_eq_some_iff.mp q
    obtain ⟨i', rfl, g2⟩ := Option.bind_eq_some_iff.mp g1
    obtain ⟨p, h1, g3⟩ := Option.bind_eq_some_iff.mp g2
    obtain ⟨row, h2, g4⟩ := Option.bind_eq_some_iff.mp g3
    obtain ⟨p', h3, rfl⟩ := Option.map_eq_some_iff.mp g4
    have e1 : ix2 j qa qb s = some (p, p', xs.map (eQ true .lst e), row.map e) := by
      unfold ix2
      rw [hs]
      show (qa s).bind _ = _
      rw [ha i rfl]
      show (if (sv (.int i)).isSome = true then (place .lst (xs.map (eQ true .lst e)).length (.int i)).bind fun i => match (xs.map (eQ true .lst e))[i]? with
        | some (.bx true .lst es) => (qb s).bind fun b => match b with
          | .int n => (ixN es.length n).map fun i' => (i, i', xs.map (eQ true .lst e), es)
          | _ => none
        | _ => none else none) = _
      rw [if_pos (show (sv (D.int i)).isSome = true from rfl), place_Q rfl, List.length_map, h1]
      have h9 : (xs.map (eQ true .lst e))[p]? = some (.bx true .lst (row.map e)) := by rw [List.getElem?_map, h2]; rfl
      simp only [Option.bind_some, h9]
      rw [hb i' rfl]
      show (ixN (row.map e).length i').map (fun i' => (p, i', xs.map (eQ true .lst e), row.map e)) = _
      rw [List.length_map, h3]
      rfl
    have e2 : set2R j qa qb (e v) s = .nx (st (xs.set p (row.set p' v))) := by
      unfold set2R
      rw [e1]
      show Ro.nx (s.set j (some (mL ((xs.map (eQ true .lst e)).set p (mL ((row.map e).set p' (rd (e v)))))))) = _
      rw [hr, ← hs' (xs.set p (row.set p' v))]
      unfold eQ
      rw [List.map_set, List.map_set]
    rw [e2]; exact h _
def qrow (row : List α) (b : Option Int) : Option α := b.bind fun j => atI row j
@[simp] theorem qrow_s {row : List α} {j : Int} : qrow row (some j) = atI row j := rfl
theorem qe_al {jw q : Nat} {xs : List (List α)} {row : List α} {qb : DQ} {ob : Option Int} (hw : s[jw]? = some (some (eQ true .lst (eQ true .lst e) xs))) (hi : xs[q]? = some row) (hb : QE (qb s) ob eI) : QE (qal jw q qb s) (qrow row ob) e := fun v hv => by
  obtain ⟨z, rfl, h2⟩ := Option.bind_eq_some_iff.mp hv
  obtain ⟨q', h3, h4⟩ := atI_get h2
  have e1 : alL jw q s = some (xs.map (eQ true .lst e), row.map e) := by
    unfold alL
    rw [hw]
    show (match (xs.map (eQ true .lst e))[q]? with
      | some (.bx true .lst es) => some (xs.map (eQ true .lst e), es)
      | _ => none) = _
    have h9 : (xs.map (eQ true .lst e))[q]? = some (.bx true .lst (row.map e)) := by rw [List.getElem?_map, hi]; rfl
    rw [h9]
  unfold qal
  rw [e1, hb z rfl]
  show (if (sv (.int z)).isSome = true then (place .lst (row.map e).length (.int z)).bind fun k => (row.map e)[k]? else none) = _
  rw [if_pos (show (sv (D.int z)).isSome = true from rfl), place_Q rfl, List.length_map, h3]
  simp [h4]
def aliasO (xs : List (List α)) (a b : Option Int) (v : List α → Option α) : Option (List (List α)) := a.bind fun i => b.bind fun j => (ixN xs.length i).bind fun q => (xs[q]?).bind fun r => (v r).bind fun x => (ixN r.length j).map fun q' => xs.set q (r.set q' x)
theorem c_alias {jr jw : Nat} {e : α → D} (xs : List (List α)) {qa qb : DQ} {qe : Nat → DQ} {oa ob : Option Int} {v : List α → Option α} {T : List (List α) → Rc σ β ρ} {st : List (List α) → S} (hne : jr ≠ jw) (hj : (s[jr]?).isSome = true) (hs : s[jw]? = some (some (eQ true .lst (eQ true .lst e) xs))) (hs1 : s.set jr none = s1) (ha : QE (qa s) oa eI) (hb : QE (qb s1) ob eI) (hv : ∀ q row, xs[q]? = some row → QE (qe q s1) (v row) e) (hsv : ∀ x, (sv (e x)).isSome = true) (hs' : ∀ ys, s1.set jw (some (eQ true .lst (eQ true .lst e) ys)) = st ys) (h : ∀ ys, Sim (R (st ys)) (T ys) P) :
    Sim (sq (dAlias jr jw qa (fun i => zSet jw i qb (qe i)) s) R) (bindO (aliasO xs oa ob v) T) P := by
  cases q : aliasO xs oa ob v with
  | none => first | trivial | exact q_no
  | some ys =>
    unfold aliasO at q
    obtain ⟨i, rfl, g1⟩ := Option.bind_eq_some_iff.mp q
    obtain ⟨i', rfl, g2⟩ := Option.bind_eq_some_iff.mp g1
    obtain ⟨p, h1, g3⟩ := Option.bind_eq_some_iff.mp g2
    obtain ⟨row, h2, g4⟩ := Option.bind_eq_some_iff.mp g3
    obtain ⟨x, h5, g5⟩ := Option.bind_eq_some_iff.mp g4
    obtain ⟨p', h3, rfl⟩ := Option.map_eq_some_iff.mp g5
    have hw : s1[jw]? = some (some (eQ true .lst (eQ true .lst e) xs)) := by
      rw [← hs1, List.getElem?_set_ne hne]; exact hs
    have h9 : (xs.map (eQ true .lst e))[p]? = some (.bx true .lst (row.map e)) := by rw [List.getElem?_map, h2]; rfl
    have e1 : alL jw p s1 = some (xs.map (eQ true .lst e), row.map e) := by
      unfold alL
      rw [hw]
      show (match (xs.map (eQ true .lst e))[p]? with
        | some (.bx true .lst es) => some (xs.map (eQ true .lst e), es)
        | _ => none) = _
      rw [h9]
    have e2 : zSet jw p qb (qe p) s1 = some (st (xs.set p (row.set p' x))) := by
      unfold zSet
      rw [e1, hv p row h2 x h5]
      show (if (sv (e x)).isSome = true then (match qb s1 with
        | some (.int n) => (ixN (row.map e).length n).map fun k => s1.set jw (some (mL ((xs.map (eQ true .lst e)).set p (mL ((row.map e).set k (e x))))))
        | _ => none) else none) = _
      rw [if_pos (hsv x), hb i' rfl]
      show (ixN (row.map e).length i').map (fun k => s1.set jw (some (mL ((xs.map (eQ true .lst e)).set p (mL ((row.map e).set k (e x))))))) = _
      rw [List.length_map, h3, ← hs' (xs.set p (row.set p' x))]
      unfold eQ
      rw [List.map_set, List.map_set]
      rfl
    have e3 : dAlias jr jw qa (fun i => zSet jw i qb (qe i)) s = .nx (st (xs.set p (row.set p' x))) := by
      unfold dAlias
      rw [hs]
      show (match qa s with
        | some a => if (sv a).isSome = true ∧ jr < s.length ∧ jr ≠ jw then (match place .lst (xs.map (eQ true .lst e)).length a with
          | some i => (match (xs.map (eQ true .lst e))[i]? with
            | some (.bx true .lst _) => (match zSet jw i qb (qe i) (s.set jr none) with
              | some s' => Ro.nx s'
              | none => .no)
            | _ => .no)
          | none => .no) else .no
        | none => .no) = _
      rw [ha i rfl]
      show (if (sv (.int i)).isSome = true ∧ jr < s.length ∧ jr ≠ jw then (match place .lst (xs.map (eQ true .lst e)).length (.int i) with
          | some i => (match (xs.map (eQ true .lst e))[i]? with
            | some (.bx true .lst _) => (match zSet jw i qb (qe i) (s.set jr none) with
              | some s' => Ro.nx s'
              | none => .no)
            | _ => .no)
          | none => .no) else .no) = _
      rw [if_pos ⟨rfl, lt_of_some hj, hne⟩, place_Q rfl, List.length_map, h1]
      simp only [h9, hs1, e2]
    rw [e3]; exact h _
/-! ### dict comprehensions and displays -/
def dcompT [DecidableEq κ] (f : α → Fn (κ × γ)) : List α → List (κ × γ) → Fn (List (κ × γ))
  | [], acc => .rt acc
  | x :: xs, acc => match f x with
    | .rt (c, v) => dcompT f xs (putL acc c v)
    | _ => .no
@[irreducible] def dcompG [DecidableEq κ] (f : α → Fn (κ × γ)) (l : List α) : Fn (List (κ × γ)) := if l.length < lim then dcompT f l [] else .no
def keyK (kd : D) (s : S) (k : Key → S → Ro) : Ro := match keyOf kd with
  | some kk => k kk s
  | none => .no
def dstepK (vs : List Nat) (tg : DG) (mk mv : DE) (d : D) (s : S) : Ro := tgtK tg d s fun s1 => rb (mk s1) fun kd s2 => keyK kd s2 fun kk s3 => rb (mv s3) fun v s4 => .rt (mL [keyD kk, v]) (wipeD s4 vs)
theorem q_dstep {vs : List Nat} {tg : DG} {mk mv : DE} (h : Sim (tgtK tg d s fun s1 => rb (mk s1) fun kd s2 => keyK kd s2 fun kk s3 => rb (mv s3) fun v s4 => .rt (mL [keyD kk, v]) (wipeD s4 vs)) t P) : Sim (dstepK vs tg mk mv d s) t P := h
theorem q_dkey {kk : Key} {k : Key → S → Ro} (hk : keyOf d = some kk) (h : Sim (k kk s) t P) : Sim (keyK d s k) t P := by
  unfold keyK
  rw [hk]; exact h
theorem x_dcomp {vs : List Nat} {tg : DG} {mk mv : DE} (h : Sim (rb (ms s) fun ds s1 => rb (dDcL vs tg dYes mk mv ds [] [] (wipeD s1 vs)) fun acc s2 => k (mD acc.1 acc.2) (wipeD s2 vs)) t P) : Sim (rb (dDComp ms vs tg dYes mk mv s) k) t P := by
  have e : rb (dDComp ms vs tg dYes mk mv s) k = rb (ms s) fun ds s1 => rb (dDcL vs tg dYes mk mv ds [] [] (wipeD s1 vs)) fun acc s2 => k (mD acc.1 acc.2) (wipeD s2 vs) := by
    unfold dDComp
    rw [rb_bind]
    congr 1
    funext ds s1
    rw [rb_bind]
    rfl
  rw [e]; exact h
theorem keyD_inj {a b : Key} (h : keyD a = keyD b) : a = b := by
  cases a <;> cases b <;> simp [keyD] at h ⊢ <;> exact h
theorem dcomp_sim [DecidableEq κ] {vs : List Nat} {tg : DG} {mk mv : DE} {e : α → D} {ek : κ → Key} {e' : γ → D} {ev : κ → D} {f : α → Fn (κ × γ)} (inj : ∀ a b, ek a = ek b → a = b) (hv : ∀ x, keyD (ek x) = ev x) (step : ∀ x, Sim (dstepK vs tg mk mv (e x) s') (f x) ⟨fun e => e.elim, fun e => e.elim, fun q d s => d = mL [ev q.1, e' q.2] ∧ s = s', fun _ _ => True⟩) :
    ∀ (l : List α) (acc : List (κ × γ)), acc.length + l.length < lim → ∀ ys, dcompT f l acc = .rt ys → dDcL vs tg dYes mk mv (l.map e) (acc.map fun p => ek p.1) (acc.map fun p => e' p.2) s' = .ok (ys.map (fun p => ek p.1), ys.map fun p => e' p.2) s'
  | [], acc, hl, ys, h => by
    have h : Rc.rt acc = (Rc.rt ys : Fn _) := h
    injection h with h
    subst h
    rfl
  | x :: xs, acc, hl, ys, h => by
    have st := step x
    unfold dcompT at h
    cases z : f x with
    | rt q =>
      obtain ⟨c, v⟩ := q
      rw [z] at st h
      obtain ⟨d, s5, h1, h2, h3⟩ := st
      rw [h3] at h1
      unfold dstepK tgtK at h1
      show dDcL vs tg dYes mk mv (e x :: xs.map e) _ _ _ = _
      unfold dDcL
      cases q1 : tg (e x) s' with
      | none => rw [q1] at h1; cases h1
      | some s2 =>
        rw [q1] at h1
        simp only [dYes] at h1 ⊢
        cases q2 : mk s2 with
        | no => rw [q2] at h1; cases h1
        | ex _ _ => rw [q2] at h1; cases h1
        | ok kd s3 =>
          rw [q2] at h1
          simp only [rb_ok] at h1 ⊢
          unfold keyK at h1
          cases q3 : keyOf kd with
          | none => rw [q3] at h1; cases h1
          | some kk =>
            rw [q3] at h1
            simp only [] at h1 ⊢
            cases q4 : mv s3 with
            | no => rw [q4] at h1; cases h1
            | ex _ _ => rw [q4] at h1; cases h1
            | ok d1 s4 =>
              rw [q4] at h1
              have h1 : Ro.rt (mL [keyD kk, d1]) (wipeD s4 vs) = .rt d s' := h1
              injection h1 with h4 h5
              subst h4
              have h2 : mL [keyD kk, d1] = mL [ev c, e' v] := h2
              injection h2 with _ _ h2
              injection h2 with h6 h7
              injection h7 with h7
              have h8 : kk = ek c := keyD_inj (h6.trans (hv c).symm)
              subst h7 h8
              simp only [List.length_cons] at hl
              have hlen : (putL acc c v).length ≤ acc.length + 1 := by
                clear h hl z
                induction acc with
                | nil => simp [putL]
                | cons p r ih =>
                  unfold putL
                  split
                  · simp
                  · simp; omega
              simp only [List.length_map, if_pos (show acc.length < lim by omega), h5]
              obtain ⟨p1, p2⟩ := put_M (e := e') inj (x := c) (v := v) acc
              rw [p1, p2]
              exact dcomp_sim inj hv step xs (putL acc c v) (by omega) ys h
    | nx e => exact e.elim
    | bk e => exact e.elim
    | ct e => exact e.elim
    | ex _ => rw [z] at h; cases h
    | no => rw [z] at h; cases h
def dcompR (vs : List Nat) (tg : DG) (mk mv : DE) (ds : List D) (s1 : S) : Rs D := (dDcL vs tg dYes mk mv ds [] [] (wipeD s1 vs)).bind fun acc s2 => .ok (mD acc.1 acc.2) (wipeD s2 vs)
theorem y_dcomp {vs : List Nat} {tg : DG} {mk mv : DE} (h : Sim (rb (ms s) fun ds s1 => rb (dcompR vs tg mk mv ds s1) k) t P) : Sim (rb (dDComp ms vs tg dYes mk mv s) k) t P := by
  have e : rb (dDComp ms vs tg dYes mk mv s) k = rb (ms s) fun ds s1 => rb (dcompR vs tg mk mv ds s1) k := by
    unfold dDComp
    rw [rb_bind]
    rfl
  rw [e]; exact h
theorem q_dcomp [DecidableEq κ] {vs : List Nat} {tg : DG} {mk mv : DE} {l : List α} {e : α → D} (ek : κ → Key) (e' : γ → D) (inj : ∀ a b, ek a = ek b → a = b) {ev : κ → D} (hv : ∀ x, keyD (ek x) = ev x) {f : α → Fn (κ × γ)} {T : List (κ × γ) → Rc σ β ρ} (hs : wipeD s vs = s') (hs2 : wipeD s' vs = s')
    (step : ∀ x, Sim (dstepK vs tg mk mv (e x) s') (f x) ⟨fun e => e.elim, fun e => e.elim, fun q d s => d = mL [ev q.1, e' q.2] ∧ s = s', fun _ _ => True⟩) (hR : ∀ ys, Sim (k (eM true ek e' ys) s') (T ys) P) :
    Sim (rb (dDcL vs tg dYes mk mv (l.map e) [] [] (wipeD s vs)) fun acc s2 => k (mD acc.1 acc.2) (wipeD s2 vs)) (callT (dcompG f l) T) P := by
  unfold dcompG
  split
  · rename_i g
    cases q : dcompT f l [] with
    | rt ys =>
      have h := dcomp_sim inj hv step l [] (by simpa using g) ys q
      rw [hs]
      rw [show dDcL vs tg dYes mk mv (l.map e) [] [] s' = _ from h]
      show Sim (k (mD _ _) (wipeD s' vs)) (T ys) P
      rw [hs2]
      exact hR ys
    | nx e => exact e.elim
    | bk e => exact e.elim
    | ct e => exact e.elim
    | ex x =>
      exfalso
      have key : ∀ (l : List α) acc x, dcompT f l acc ≠ .ex x := by
        intro l
        induction l with
        | nil => intro v x h; cases h
        | cons y l ih =>
          intro v x h
          unfold dcompT at h
          split at h
          · exact ih _ _ h
          · cases h
      exact key l [] x q
    | no => first | trivial | exact q_no
  · first | trivial | exact q_no
theorem y_qdcomp [DecidableEq κ] {vs : List Nat} {tg : DG} {mk mv : DE} {l : List α} {e : α → D} (ek : κ → Key) (e' : γ → D) (inj : ∀ a b, ek a = ek b → a = b) {ev : κ → D} (hv : ∀ x, keyD (ek x) = ev x) {f : α → Fn (κ × γ)} {T : List (κ × γ) → Rc σ β ρ} (hs : wipeD s vs = s') (hs2 : wipeD s' vs = s')
    (step : ∀ x, Sim (dstepK vs tg mk mv (e x) s') (f x) ⟨fun e => e.elim, fun e => e.elim, fun q d s => d = mL [ev q.1, e' q.2] ∧ s = s', fun _ _ => True⟩) (hR : ∀ ys, Sim (k (eM true ek e' ys) s') (T ys) P) :
    Sim (rb (dcompR vs tg mk mv (l.map e) s) k) (callT (dcompG f l) T) P := by
  have e1 : rb (dcompR vs tg mk mv (l.map e) s) k = rb (dDcL vs tg dYes mk mv (l.map e) [] [] (wipeD s vs)) fun acc s2 => k (mD acc.1 acc.2) (wipeD s2 vs) := by
    unfold dcompR
    rw [rb_bind]
    rfl
  rw [e1]
  exact q_dcomp ek e' inj hv hs hs2 step hR
theorem x_disp {ps : List (DE × DE)} (h : Sim (rb (dPairs ps s) fun z s1 => if z.1.Nodup ∧ z.1.length ≤ 15 then k (mD z.1 z.2) s1 else .no) t P) : Sim (rb (dDisp ps s) k) t P := by
  have e : rb (dDisp ps s) k = rb (dPairs ps s) fun z s1 => if z.1.Nodup ∧ z.1.length ≤ 15 then k (mD z.1 z.2) s1 else .no := by
    unfold dDisp
    rw [rb_bind]
    congr 1
    funext z s1
    split <;> rfl
  rw [e]; exact h
def okd (z : List Key × List D) (s : S) : Rs D := if z.1.Nodup ∧ z.1.length ≤ 15 then .ok (mD z.1 z.2) s else .no
theorem y_disp {ps : List (DE × DE)} (h : Sim (rb (dPairs ps s) fun z s1 => rb (okd z s1) k) t P) : Sim (rb (dDisp ps s) k) t P := by
  have e : rb (dDisp ps s) k = rb (dPairs ps s) fun z s1 => rb (okd z s1) k := by
    unfold dDisp
    rw [rb_bind]
    rfl
  rw [e]; exact h
theorem x_okd {z : List Key × List D} (hz : z.1.Nodup ∧ z.1.length ≤ 15) (hd : mD z.1 z.2 = d') (h : Sim (k d' s) t P) : Sim (rb (okd z s) k) t P := by
  unfold okd
  rw [if_pos hz, hd]
  exact h
theorem x_prn {kp : List Key × List D → S → Ro} (h : Sim (kp ([], []) s) t P) : Sim (rb (dPairs [] s) kp) t P := h
def prK (kd : D) (mv : DE) (r : List (DE × DE)) (s1 : S) (kp : List Key × List D → S → Ro) : Ro := keyK kd s1 fun kk s1 => rb (mv s1) fun d s2 => rb (dPairs r s2) fun z s3 => kp (kk :: z.1, d :: z.2) s3
theorem x_prc {mk mv : DE} {r : List (DE × DE)} {kp : List Key × List D → S → Ro} (h : Sim (rb (mk s) fun kd s1 => prK kd mv r s1 kp) t P) : Sim (rb (dPairs ((mk, mv) :: r) s) kp) t P := by
  have e : rb (dPairs ((mk, mv) :: r) s) kp = rb (mk s) fun kd s1 => prK kd mv r s1 kp := by
    unfold dPairs
    rw [rb_bind]
    congr 1
    funext kd s1
    unfold prK keyK
    cases keyOf kd with
    | none => rfl
    | some kk =>
      simp only []
      rw [rb_bind]
      congr 1
      funext d s2
      rw [rb_bind]
      rfl
  rw [e]; exact h
theorem x_prk {mv : DE} {r : List (DE × DE)} {kp : List Key × List D → S → Ro} {kk : Key} (hk : keyOf d = some kk) (h : Sim (rb (mv s) fun d s2 => rb (dPairs r s2) fun z s3 => kp (kk :: z.1, d :: z.2) s3) t P) : Sim (prK d mv r s kp) t P := by
  unfold prK keyK
  rw [hk]; exact h
end
end TL

set_option maxHeartbeats 1000000
/-! TW: what typed programs come to, by rules. -/
namespace TL
open PySem L2 DL
structure Wp (σ β ρ : Type) where
  n : σ → Prop
  b : β → Prop
  c : β → Prop
  r : ρ → Prop
  x : Xc → Prop
section
variable {σ σ' β β' ρ ρ' α γ δ κ : Type}
def WX (t : Rc σ β ρ) (P : Wp σ β ρ) : Prop := match t with
  | .nx v => P.n v
  | .bk v => P.b v
  | .ct v => P.c v
  | .rt v => P.r v
  | .ex x => P.x x
  | .no => False
structure W (t : Rc σ β ρ) (P : Wp σ β ρ) : Prop where
  h : WX t P
abbrev Wr (t : Fn ρ) (R : ρ → Prop) : Prop := W t ⟨fun _ => False, fun _ => False, fun _ => False, R, fun _ => False⟩
variable {t : Rc σ β ρ} {P Q : Wp σ β ρ} {T : α → Rc σ β ρ}
theorem w_nx {v : σ} (h : P.n v) : W (.nx v : Rc σ β ρ) P := ⟨h⟩
theorem w_bk {v : β} (h : P.b v) : W (.bk v : Rc σ β ρ) P := ⟨h⟩
theorem w_ct {v : β} (h : P.c v) : W (.ct v : Rc σ β ρ) P := ⟨h⟩
theorem w_rt {v : ρ} (h : P.r v) : W (.rt v : Rc σ β ρ) P := ⟨h⟩
theorem w_ex {v : Xc} (h : P.x v) : W (.ex v : Rc σ β ρ) P := ⟨h⟩
theorem wr_iff {t : Fn ρ} {R : ρ → Prop} : Wr t R ↔ ∃ v, t = .rt v ∧ R v := by
  constructor
  · intro h
    have h := h.h
    cases t with
    | rt v => exact ⟨v, rfl, h⟩
    | _ => exact h.elim
  · rintro ⟨v, rfl, h⟩
    exact ⟨h⟩
theorem wr_of {t : Fn ρ} {R : ρ → Prop} {v : ρ} (e : t = .rt v) (h : R v) : Wr t R := wr_iff.mpr ⟨v, e, h⟩
theorem W.mono (h : W t P) (hn : ∀ v, P.n v → Q.n v) (hb : ∀ v, P.b v → Q.b v) (hc : ∀ v, P.c v → Q.c v) (hr : ∀ v, P.r v → Q.r v) (hx : ∀ v, P.x v → Q.x v) : W t Q := by
  have h := h.h
  cases t with
  | nx v => exact ⟨hn v h⟩
  | bk v => exact ⟨hb v h⟩
  | ct v => exact ⟨hc v h⟩
  | rt v => exact ⟨hr v h⟩
  | ex v => exact ⟨hx v h⟩
  | no => exact h.elim
theorem Wr.imp {t : Fn ρ} {R R' : ρ → Prop} (h : Wr t R) (hr : ∀ v, R v → R' v) : Wr t R' := W.mono h (fun _ z => z) (fun _ z => z) (fun _ z => z) hr (fun _ z => z)
theorem w_call {t : Fn α} {R : α → Prop} (ht : Wr t R) (h : ∀ v, R v → W (T v) P) : W (callT t T) P := by
  obtain ⟨v, rfl, hv⟩ := wr_iff.mp ht
  exact h v hv
theorem w_callX {t : Fn α} {R : α → Prop} {X : Xc → Prop} (ht : W t ⟨fun _ => False, fun _ => False, fun _ => False, R, X⟩) (h : ∀ v, R v → W (T v) P) (hx : ∀ x, X x → P.x x) : W (callT t T) P := by
  have ht := ht.h
  cases t with
  | rt v => exact h v ht
  | ex v => exact ⟨hx v ht⟩
  | _ => exact ht.elim
theorem w_callN {t : Fn α} {R : α → Prop} (ht : Wr t R) (h : ∀ v, R v → W (T v) P) : W (callN t T) P := by
  obtain ⟨v, rfl, hv⟩ := wr_iff.mp ht
  exact h v hv
theorem w_eq {t : Fn α} {v : α} (e : t = .rt v) (h : W (T v) P) : W (callT t T) P := by rw [e]; exact h
theorem w_eqN {t : Fn α} {v : α} (e : t = .rt v) (h : W (T v) P) : W (callN t T) P := by rw [e]; exact h
theorem w_o {o : Option α} {v : α} (e : o = some v) (h : W (T v) P) : W (bindO o T) P := by rw [e]; exact h
theorem w_v {v : α} (h : W (T v) P) : W (bindV v T) P := h
theorem w_c {t : Rc σ' β ρ} {T : σ' → Rc σ β ρ} (R : σ' → Prop) (h1 : W t ⟨R, P.b, P.c, P.r, P.x⟩) (h : ∀ v, R v → W (T v) P) : W (bindC t T) P := by
  have h1 := h1.h
  cases t with
  | nx v => exact h v h1
  | bk v => exact ⟨h1⟩
  | ct v => exact ⟨h1⟩
  | rt v => exact ⟨h1⟩
  | ex v => exact ⟨h1⟩
  | no => exact h1.elim
theorem w_cx {t : Rc σ' β ρ} {T : σ' → Rc σ β ρ} {v : σ'} (e : t = .nx v) (h : W (T v) P) : W (bindC t T) P := by rw [e]; exact h
theorem w_if {c : Bool} {t u : Rc σ β ρ} (h1 : c = true → W t P) (h2 : c = false → W u P) : W (if c = true then t else u) P := by
  cases c with
  | true => exact h1 rfl
  | false => exact h2 rfl
theorem w_ift {c : Bool} {t u : Rc σ β ρ} (hc : c = true) (h : W t P) : W (if c = true then t else u) P := by rw [if_pos hc]; exact h
theorem w_iff {c : Bool} {t u : Rc σ β ρ} (hc : c = false) (h : W u P) : W (if c = true then t else u) P := by rw [if_neg (by simp [hc])]; exact h
/-- a loop: I i v in front of the round i -/
theorem for_w {f : α → σ' → Rc σ' σ' ρ} {l : List α} (I : Nat → σ' → Prop) (B : σ' → Prop) {R : ρ → Prop} {X : Xc → Prop} {Pb Pc : β → Prop} : ∀ (m : List α) (k : Nat) (v : σ'), (∀ i, m[i]? = l[k + i]?) → k + m.length = l.length → I k v → (∀ i x v, l[i]? = some x → I i v → W (f x v) ⟨I (i + 1), B, I (i + 1), R, X⟩) → W (forT (β := β) f m v) ⟨fun v => I l.length v ∨ B v, Pb, Pc, R, X⟩
  | [], k, v, _, hk, h, _ => ⟨Or.inl (by simp at hk; exact hk ▸ h)⟩
  | x :: m, k, v, hm, hk, h, st => by
    have hx : l[k]? = some x := by
      have := hm 0
      simpa using this.symm
    have s1 := (st k x v hx h).h
    have rest : ∀ v, I (k + 1) v → W (forT (β := β) f m v) ⟨fun v => I l.length v ∨ B v, Pb, Pc, R, X⟩ := fun v h => for_w I B m (k + 1) v (fun i => by
      have := hm (i + 1)
      simp only [List.getElem?_cons_succ] at this
      rw [this]
      congr 1
      omega) (by simp only [List.length_cons] at hk; omega) h st
    unfold forT
    cases q : f x v with
    | nx v1 => rw [q] at s1; exact rest v1 s1
    | ct v1 => rw [q] at s1; exact rest v1 s1
    | bk v1 => rw [q] at s1; exact ⟨Or.inr s1⟩
    | rt v1 => rw [q] at s1; exact ⟨s1⟩
    | ex v1 => rw [q] at s1; exact ⟨s1⟩
    | no => rw [q] at s1; exact s1.elim
theorem w_for {f : α → σ' → Rc σ' σ' ρ} {l : List α} {v0 : σ'} {T : σ' → Rc σ β ρ} (I : Nat → σ' → Prop) (h0 : I 0 v0) (st : ∀ i x v, l[i]? = some x → I i v → W (f x v) ⟨I (i + 1), fun _ => False, I (i + 1), P.r, P.x⟩) (h : ∀ v, I l.length v → W (T v) P) : W (bindC (forT f l v0) T) P :=
  w_c (fun v => I l.length v ∨ False) (for_w I (fun _ => False) l 0 v0 (fun i => by rw [Nat.zero_add]) (by omega) h0 st) fun v hv => h v (hv.elim id False.elim)
theorem w_forB {f : α → σ' → Rc σ' σ' ρ} {l : List α} {v0 : σ'} {T : σ' → Rc σ β ρ} (I : Nat → σ' → Prop) (B : σ' → Prop) (h0 : I 0 v0) (st : ∀ i x v, l[i]? = some x → I i v → W (f x v) ⟨I (i + 1), B, I (i + 1), P.r, P.x⟩) (h : ∀ v, I l.length v ∨ B v → W (T v) P) : W (bindC (forT f l v0) T) P :=
  w_c (fun v => I l.length v ∨ B v) (for_w I B l 0 v0 (fun i => by rw [Nat.zero_add]) (by omega) h0 st) h
theorem w_noex {t : Rc σ β ρ} (h : W t ⟨P.n, P.b, P.c, P.r, fun _ => False⟩) : W (noexC t) P := by
  have h := h.h
  cases t with
  | ex v => exact h.elim
  | no => exact h.elim
  | _ => exact ⟨h⟩
theorem w_forK {f : α → σ' → Rc σ' σ' ρ} {l : List α} {v0 : σ'} {T : σ' → Rc σ β ρ} (I : Nat → σ' → Prop) (h0 : I 0 v0) (st : ∀ i x v, l[i]? = some x → I i v → W (f x v) ⟨I (i + 1), fun _ => False, I (i + 1), P.r, fun _ => False⟩) (h : ∀ v, I l.length v → W (T v) P) : W (bindC (noexC (forT f l v0)) T) P := by
  refine w_c (fun v => I l.length v ∨ False) (w_noex ?_) fun v hv => h v (hv.elim id False.elim)
  exact for_w I (fun _ => False) l 0 v0 (fun i => by rw [Nat.zero_add]) (by omega) h0 st
/-- a comprehension -/
theorem comp_w {f : α → σ → Rc σ Empty (γ × σ)} {l : List α} (I : Nat → List γ → σ → Prop) : ∀ (m : List α) (k : Nat) (acc : List γ) (v : σ), (∀ i, m[i]? = l[k + i]?) → k + m.length = l.length → I k acc v → (∀ i x acc v, l[i]? = some x → I i acc v → W (f x v) ⟨I (i + 1) acc, fun _ => False, fun _ => False, fun q => I (i + 1) (acc ++ [q.1]) q.2, fun _ => False⟩) → Wr (compT f m v) fun r => I l.length (acc ++ r.1) r.2
  | [], k, acc, v, _, hk, h, _ => ⟨by
    simp at hk
    show I l.length (acc ++ []) v
    rw [List.append_nil]
    exact hk ▸ h⟩
  | x :: m, k, acc, v, hm, hk, h, st => by
    have hx : l[k]? = some x := by
      have := hm 0
      simpa using this.symm
    have s1 := (st k x acc v hx h).h
    have rest : ∀ acc v, I (k + 1) acc v → Wr (compT f m v) fun r => I l.length (acc ++ r.1) r.2 := fun acc v h => comp_w I m (k + 1) acc v (fun i => by
      have := hm (i + 1)
      simp only [List.getElem?_cons_succ] at this
      rw [this]
      congr 1
      omega) (by simp only [List.length_cons] at hk; omega) h st
    unfold compT
    cases q : f x v with
    | nx v1 => rw [q] at s1; exact rest acc v1 s1
    | ct v1 => exact v1.elim
    | bk v1 => exact v1.elim
    | rt v1 =>
      rw [q] at s1
      obtain ⟨c, v1⟩ := v1
      obtain ⟨⟨cs, v2⟩, h1, h2⟩ := wr_iff.mp (rest (acc ++ [c]) v1 s1)
      simp only [h1]
      refine ⟨?_⟩
      show I l.length (acc ++ c :: cs) v2
      simpa using h2
    | ex v1 => rw [q] at s1; exact s1.elim
    | no => rw [q] at s1; exact s1.elim
theorem w_comp {f : α → σ' → Rc σ' Empty (γ × σ')} {l : List α} {v0 : σ'} (I : Nat → List γ → σ' → Prop) (hl : l.length < lim) (h0 : I 0 [] v0) (st : ∀ i x acc v, l[i]? = some x → I i acc v → W (f x v) ⟨I (i + 1) acc, fun _ => False, fun _ => False, fun q => I (i + 1) (acc ++ [q.1]) q.2, fun _ => False⟩) : Wr (compG f l v0) fun r => I l.length r.1 r.2 := by
  unfold compG
  rw [if_pos hl]
  exact comp_w I l 0 [] v0 (fun i => by rw [Nat.zero_add]) (by omega) h0 st
theorem compT_map {f : α → Unit → Rc Unit Empty (γ × Unit)} {g : α → γ} : ∀ l : List α, (∀ x ∈ l, f x () = .rt (g x, ())) → compT f l () = .rt (l.map g, ())
  | [], _ => rfl
  | x :: l, h => by
    unfold compT
    have ih := compT_map l fun y hy => h y (List.mem_cons_of_mem _ hy)
    rw [h x List.mem_cons_self]
    simp only [ih]
    rfl
theorem compG_map {f : α → Unit → Rc Unit Empty (γ × Unit)} {l : List α} (g : α → γ) (hl : l.length < lim) (h : ∀ x ∈ l, f x () = .rt (g x, ())) : compG f l () = .rt (l.map g, ()) := by
  unfold compG
  rw [if_pos hl, compT_map l h]
theorem mapO_eq {f : α → γ} {l : List α} (hl : l.length < lim) : mapO f l = some (l.map f) := by
  unfold mapO
  rw [if_pos hl]
theorem filO_eq {p : α → Bool} {f : α → γ} {l : List α} (hl : l.length < lim) : filO p f l = some ((l.filter p).map f) := by
  unfold filO
  rw [if_pos hl]
theorem rng1_eq {n : Int} (h0 : 0 ≤ n) (h : n < 1000000) : rng1O n = some (rngL 0 n.toNat) := by
  unfold rng1O
  rw [if_pos (by omega)]
theorem rng1_nat {n : Nat} (h : n < 1000000) : rng1O (n : Int) = some (rngL 0 n) := by
  rw [rng1_eq (by omega) (by omega)]
  rfl
theorem rngL_len {lo : Int} {n : Nat} : (rngL lo n).length = n := by simp [rngL]
theorem rngL_get {lo : Int} {n i : Nat} {x : Int} (h : (rngL lo n)[i]? = some x) : i < n ∧ x = lo + (i : Nat) := by
  unfold rngL at h
  rw [List.getElem?_map] at h
  obtain ⟨k, hk, rfl⟩ := Option.map_eq_some_iff.mp h
  have hi : i < n := by simpa using (List.getElem?_eq_some_iff.mp hk).1
  rw [List.getElem?_range hi] at hk
  cases hk
  exact ⟨hi, rfl⟩
theorem app_eq {xs : List α} {x : α} (h : xs.length < lim) : appO xs x = some (xs ++ [x]) := by
  unfold appO
  rw [if_pos h]
theorem catL_eq {xs ys : List α} (h : xs.length + ys.length ≤ lim) : catL xs ys = some (xs ++ ys) := by
  unfold catL
  rw [if_pos h]
theorem put_eq [DecidableEq κ] {m : List (κ × α)} {x : κ} {v : α} (h : m.length < lim) : putO m x v = some (putL m x v) := by
  unfold putO
  rw [if_pos h]
theorem putL_new [DecidableEq κ] {x : κ} {v : α} : ∀ {m : List (κ × α)}, x ∉ m.map (·.1) → putL m x v = m ++ [(x, v)]
  | [], _ => rfl
  | p :: m, h => by
    simp only [List.map_cons, List.mem_cons, not_or] at h
    unfold putL
    rw [if_neg (fun z => h.1 z.symm), putL_new h.2]
    rfl
theorem ixN_of {n : Nat} {v : Int} (h0 : 0 ≤ v) (h : v < n) : ixN n v = some v.toNat := by
  unfold ixN
  rw [if_pos h0, if_pos h]
theorem atI_of {xs : List α} {v : Int} (h0 : 0 ≤ v) (h : v < xs.length) : atI xs v = some (xs[v.toNat]'(by omega)) := by
  unfold atI
  rw [ixN_of h0 h]
  simp only [Option.bind_some]
  exact List.getElem?_eq_getElem (by omega)
theorem set_eq {xs : List α} {v : Int} {x : α} (h0 : 0 ≤ v) (h : v < xs.length) : setO xs v x = some (xs.set v.toNat x) := by
  unfold setO
  rw [ixN_of h0 h]
  rfl
theorem lookM_mem [DecidableEq κ] {x : κ} {v : α} : ∀ {m : List (κ × α)}, (m.map (·.1)).Nodup → (x, v) ∈ m → lookM m x = some v
  | [], _, h => by cases h
  | p :: m, nd, h => by
    rw [List.map_cons, List.nodup_cons] at nd
    rcases List.mem_cons.mp h with h | h
    · subst h
      simp [lookM]
    · have hp : ¬ p.1 = x := fun z => nd.1 (z ▸ List.mem_map.mpr ⟨(x, v), h, rfl⟩)
      have ih := lookM_mem nd.2 h
      unfold lookM at ih ⊢
      rw [List.find?_cons]
      simpa [hp] using ih
theorem lookM_some [DecidableEq κ] {x : κ} : ∀ {m : List (κ × α)}, x ∈ m.map (·.1) → ∃ v, lookM m x = some v ∧ (x, v) ∈ m
  | [], h => by cases h
  | p :: m, h => by
    by_cases hp : p.1 = x
    · exact ⟨p.2, by simp [lookM, hp], by rw [← hp]; exact List.mem_cons_self⟩
    · rw [List.map_cons, List.mem_cons] at h
      obtain ⟨v, h1, h2⟩ := lookM_some (h.resolve_left fun z => hp z.symm)
      refine ⟨v, ?_, List.mem_cons_of_mem _ h2⟩
      unfold lookM at h1 ⊢
      rw [List.find?_cons]
      simpa [hp] using h1
end
end TL

set_option maxHeartbeats 4000000
/-! law_k85_texts_by_hand: printed by gen.py -/
namespace LawP
open PySem L2 DL
def top (i : Nat) : Stmt := PySem.Challenge.pw_hintslie_k85_texts_by_hand.main.body.getD i (.Pass ⟨0, 0, 0, 0⟩)
def inC (s : Stmt) (i : Nat) : Stmt := match s with
  | .ClassDef _ _ _ b _ _ _ _ _ _ _ => b.getD i (.Pass ⟨0, 0, 0, 0⟩)
  | _ => .Pass ⟨0, 0, 0, 0⟩
abbrev st__law_cell : Stmt := top 39
abbrev st__law_stock : Stmt := top 40
abbrev st__law_draw : Stmt := top 41
abbrev st__law_word : Stmt := top 42
abbrev st__law_names : Stmt := top 43
abbrev st__law_moves : Stmt := top 44
abbrev st__law_prices : Stmt := top 45
abbrev st__law_requests : Stmt := top 46
abbrev st__law_turns : Stmt := top 47
abbrev st__law_ways : Stmt := top 52
abbrev st__law_offsets : Stmt := top 53
abbrev st__law_item : Stmt := top 48
abbrev st__law_system_text : Stmt := top 49
abbrev st_is_integer : Stmt := top 8
abbrev st_is_number : Stmt := top 9
abbrev st_are_moves : Stmt := top 22
abbrev st_is_name : Stmt := top 10
abbrev st_are_prices : Stmt := top 23
abbrev st_are_requests : Stmt := top 24
abbrev st_least_ways : Stmt := top 25
abbrev st_System_init : Stmt := inC (top 26) 0
abbrev st__law_turned : Stmt := top 54
abbrev st_System_has : Stmt := inC (top 26) 3
abbrev st_System_served : Stmt := inC (top 26) 5
abbrev st_item_text : Stmt := top 2
abbrev st_system_text : Stmt := top 3
abbrev st__law_is : Stmt := top 55
abbrev st__law_machine_text : Stmt := top 50
abbrev st_are_turns : Stmt := top 31
abbrev st_copied_turns : Stmt := top 32
abbrev st_Machine_init : Stmt := inC (top 33) 0
abbrev st_Machine_turns : Stmt := inC (top 33) 1
abbrev st_machine_text : Stmt := top 4
abbrev st_hint_text : Stmt := top 5
abbrev st_view_text : Stmt := top 6
abbrev st__law_view_text : Stmt := top 51
abbrev st_first_offsets : Stmt := top 35
abbrev st_first_view : Stmt := top 37
abbrev st_renting : Stmt := top 28
abbrev st_law : Stmt := top 56
def fn : List DfQ := [⟨(fun K => He.ga K "_law_cell"), "_law_cell", "_law_cell", defArgs st__law_cell, defBody st__law_cell, defScope st__law_cell⟩,
  ⟨(fun K => He.ga K "_law_stock"), "_law_stock", "_law_stock", defArgs st__law_stock, defBody st__law_stock, defScope st__law_stock⟩,
  ⟨(fun K => He.ga K "_law_draw"), "_law_draw", "_law_draw", defArgs st__law_draw, defBody st__law_draw, defScope st__law_draw⟩,
  ⟨(fun K => He.ga K "_law_word"), "_law_word", "_law_word", defArgs st__law_word, defBody st__law_word, defScope st__law_word⟩,
  ⟨(fun K => He.ga K "_law_names"), "_law_names", "_law_names", defArgs st__law_names, defBody st__law_names, defScope st__law_names⟩,
  ⟨(fun K => He.ga K "_law_moves"), "_law_moves", "_law_moves", defArgs st__law_moves, defBody st__law_moves, defScope st__law_moves⟩,
  ⟨(fun K => He.ga K "_law_prices"), "_law_prices", "_law_prices", defArgs st__law_prices, defBody st__law_prices, defScope st__law_prices⟩,
  ⟨(fun K => He.ga K "_law_requests"), "_law_requests", "_law_requests", defArgs st__law_requests, defBody st__law_requests, defScope st__law_requests⟩,
  ⟨(fun K => He.ga K "_law_turns"), "_law_turns", "_law_turns", defArgs st__law_turns, defBody st__law_turns, defScope st__law_turns⟩,
  ⟨(fun K => He.ga K "_law_ways"), "_law_ways", "_law_ways", defArgs st__law_ways, defBody st__law_ways, defScope st__law_ways⟩,
  ⟨(fun K => He.ga K "_law_offsets"), "_law_offsets", "_law_offsets", defArgs st__law_offsets, defBody st__law_offsets, defScope st__law_offsets⟩,
  ⟨(fun K => He.ga K "_law_item"), "_law_item", "_law_item", defArgs st__law_item, defBody st__law_item, defScope st__law_item⟩,
  ⟨(fun K => He.ga K "_law_system_text"), "_law_system_text", "_law_system_text", defArgs st__law_system_text, defBody st__law_system_text, defScope st__law_system_text⟩,
  ⟨(fun K => He.ga K "is_integer"), "is_integer", "is_integer", defArgs st_is_integer, defBody st_is_integer, defScope st_is_integer⟩,
  ⟨(fun K => He.ga K "is_number"), "is_number", "is_number", defArgs st_is_number, defBody st_is_number, defScope st_is_number⟩,
  ⟨(fun K => He.ga K "are_moves"), "are_moves", "are_moves", defArgs st_are_moves, defBody st_are_moves, defScope st_are_moves⟩,
  ⟨(fun K => He.ga K "is_name"), "is_name", "is_name", defArgs st_is_name, defBody st_is_name, defScope st_is_name⟩,
  ⟨(fun K => He.ga K "are_prices"), "are_prices", "are_prices", defArgs st_are_prices, defBody st_are_prices, defScope st_are_prices⟩,
  ⟨(fun K => He.ga K "are_requests"), "are_requests", "are_requests", defArgs st_are_requests, defBody st_are_requests, defScope st_are_requests⟩,
  ⟨(fun K => He.ga K "least_ways"), "least_ways", "least_ways", defArgs st_least_ways, defBody st_least_ways, defScope st_least_ways⟩,
  ⟨(fun K => He.ma K (He.ga K "System") "__init__"), "__init__", "System.__init__", defArgs st_System_init, defBody st_System_init, defScope st_System_init⟩,
  ⟨(fun K => He.ga K "_law_turned"), "_law_turned", "_law_turned", defArgs st__law_turned, defBody st__law_turned, defScope st__law_turned⟩,
  ⟨(fun K => He.ma K (He.ga K "System") "has"), "has", "System.has", defArgs st_System_has, defBody st_System_has, defScope st_System_has⟩,
  ⟨(fun K => He.ma K (He.ga K "System") "served"), "served", "System.served", defArgs st_System_served, defBody st_System_served, defScope st_System_served⟩,
  ⟨(fun K => He.ga K "item_text"), "item_text", "item_text", defArgs st_item_text, defBody st_item_text, defScope st_item_text⟩,
  ⟨(fun K => He.ga K "system_text"), "system_text", "system_text", defArgs st_system_text, defBody st_system_text, defScope st_system_text⟩,
  ⟨(fun K => He.ga K "_law_is"), "_law_is", "_law_is", defArgs st__law_is, defBody st__law_is, defScope st__law_is⟩,
  ⟨(fun K => He.ga K "_law_machine_text"), "_law_machine_text", "_law_machine_text", defArgs st__law_machine_text, defBody st__law_machine_text, defScope st__law_machine_text⟩,
  ⟨(fun K => He.ga K "are_turns"), "are_turns", "are_turns", defArgs st_are_turns, defBody st_are_turns, defScope st_are_turns⟩,
  ⟨(fun K => He.ga K "copied_turns"), "copied_turns", "copied_turns", defArgs st_copied_turns, defBody st_copied_turns, defScope st_copied_turns⟩,
  ⟨(fun K => He.ma K (He.ga K "Machine") "__init__"), "__init__", "Machine.__init__", defArgs st_Machine_init, defBody st_Machine_init, defScope st_Machine_init⟩,
  ⟨(fun K => pgA K (He.ma K (He.ga K "Machine") "turns")), "turns", "Machine.turns", defArgs st_Machine_turns, defBody st_Machine_turns, defScope st_Machine_turns⟩,
  ⟨(fun K => He.ga K "machine_text"), "machine_text", "machine_text", defArgs st_machine_text, defBody st_machine_text, defScope st_machine_text⟩,
  ⟨(fun K => He.ga K "hint_text"), "hint_text", "hint_text", defArgs st_hint_text, defBody st_hint_text, defScope st_hint_text⟩,
  ⟨(fun K => He.ga K "view_text"), "view_text", "view_text", defArgs st_view_text, defBody st_view_text, defScope st_view_text⟩,
  ⟨(fun K => He.ga K "_law_view_text"), "_law_view_text", "_law_view_text", defArgs st__law_view_text, defBody st__law_view_text, defScope st__law_view_text⟩,
  ⟨(fun K => He.ga K "first_offsets"), "first_offsets", "first_offsets", defArgs st_first_offsets, defBody st_first_offsets, defScope st_first_offsets⟩,
  ⟨(fun K => He.ga K "first_view"), "first_view", "first_view", defArgs st_first_view, defBody st_first_view, defScope st_first_view⟩,
  ⟨(fun K => He.ga K "renting"), "renting", "renting", defArgs st_renting, defBody st_renting, defScope st_renting⟩,
  ⟨(fun K => He.ga K "law"), "law", "law", defArgs st_law, defBody st_law, defScope st_law⟩]
def fa : List Fq := [.he (.glo "_law_stock"), .he (.glo "_law_draw"), .he (.glo "_law_names"), .he (.glo "_law_moves"), .he (.glo "_law_requests"), .he (.glo "_law_turns"), .he (.glo "_law_ways"), .he (.free "len"), .he (.glo "_law_offsets"), .he (.glo "_law_system_text"), .he (.free "dict"), .he (.cls "System"), .he (.mkr "System"), .he (.glo "System"), .he (.glo "_law_turned"), .he (.glo "system_text"), .he (.glo "_law_is"), .he (.glo "_law_machine_text"), .he (.free "tuple"), .he (.cls "Machine"), .he (.mkr "Machine"), .he (.glo "Machine"), .he (.glo "machine_text"), .he (.glo "view_text"), .he (.glo "_law_view_text"), .he (.glo "first_view"), .he (.free "str"), .he (.glo "renting"), .he (.glo "_law_cell"), .he (.free "abs"), .he (.free "int"), .he (.glo "_law_word"), .he (.free "range"), .he (.glo "_law_prices"), .he (.free "list"), .he (.free "min"), .he (.glo "_law_item"), .he (.free "sorted"), .he (.glo "are_moves"), .he (.glo "are_requests"), .he (.noat "System" "moves"), .he (.noat "System" "posts"), .he (.noat "System" "names"), .he (.noat "System" "prices"), .he (.glo "least_ways"), .he (.noat "System" "ways"), .he (.free "isinstance"), .he (.int "MOST_POSTS" 6), .he (.int "MOST_PRICE" 9), .he (.glo "is_number"), .he (.free "all"), .he (.free "enumerate"), .he (.glo "is_integer"), .he (.free "bool"), .he (.int "MOST_REQUESTS" 5), .he (.glo "is_name"), .he (.glo "are_prices"), .he (.free "any"), .he (.free "reversed"), .he (.meth "System" "served"), .he (.glo "item_text"), .he (.meth "System" "has"), .he (.glo "are_turns"), .he (.noat "Machine" "states"), .he (.glo "copied_turns"), .he (.noat "Machine" "steps"), .he (.int "MOST_STATES" 4), .prop "Machine" "turns", .he (.glo "hint_text"), .he (.glo "first_offsets"), .he (.glo "law")]
def clsN (c : Nat) : Str := (["HintError", "BadSystem", "NoPost", "NoRequest", "BadMachine", "BadNumber", "System", "Machine"] : List Str).getD c "object"
def attrs : List Str := ["moves", "append", "join", "names", "served", "posts", "turns", "__init__", "part", "post", "name", "prices", "ways", "has", "states", "steps", "requests", "__eq__", "way", "lets", "open_names", "all_names"]
def NN (K : PySem.W.Frag) : Nm := ⟨fun c => He.ga K (clsN c), attrs, by decide +kernel, by decide +kernel⟩
noncomputable section
def M__law_cell : DC := dSeq (dIf (dB (dOp (flat2 fLt) (dVar 1) (dCB (f1 (flat1 lenD)) (dCons (dVar 0) (dNil))))) (dSeq (dRet (dCB (f1 (flat1 fInt)) (dCons (dOp subV (dMv 0) (dMv 1)) (dNil)))) (dSkip)) (dSkip)) (dSeq (dRet (dC (.int 0))) (dSkip))
def F__law_cell : List D → Rs D := fnOf [true, true] 0 M__law_cell
theorem F__law_cell_s (a0 a1 : D) : F__law_cell [a0, a1] = fnc (M__law_cell [some a0, some a1]) [true, true] := fnOf_s rfl
def M__law_stock : DC := dSeq (dAsg 2 (dCB (f1 (flat1 fAbs)) (dCons (dCall 2 F__law_cell [none, none] (dCons (dMv 0) (dCons (dVar 1) (dNil)))) (dNil)))) (dSeq (dIf (dB (dOp (flat2 fGe) (dVar 2) (dOp fPow (dC (.int 10)) (dC (.int 18))))) (dSeq (dRet (dLst (dCons (dMv 2) (dCons (dC (.int 0)) (dCons (dC (.bl true)) (dNil)))))) (dSkip)) (dSkip)) (dSeq (dRet (dLst (dCons (dOp fAdd (dOp fMulA (dMv 2) (dC (.int 64))) (dMv 1)) (dCons (dC (.int 0)) (dCons (dC (.bl false)) (dNil)))))) (dSkip)))
def F__law_stock : List D → Rs D := fnOf [true, true] 1 M__law_stock
theorem F__law_stock_s (a0 a1 : D) : F__law_stock [a0, a1] = fnc (M__law_stock [some a0, some a1, none]) [true, true] := fnOf_s rfl
def M__law_draw : DC := dSeq (dAsg 2 (dSubS 0 (dC (.int 0)))) (dSeq (dIf (dB (dSubS 0 (dC (.int 2)))) (dSeq (dSetS 0 (dC (.int 0)) (dOp fDiv (dVar 2) (dVar 1))) (dSeq (dRet (dOp fMod (dCB (f1 (flat1 fInt)) (dCons (dMv 2) (dNil))) (dMv 1))) (dSkip))) (dSkip)) (dSeq (dSetS 0 (dC (.int 1)) (dOp fAdd (dSubS 0 (dC (.int 1))) (dC (.int 1)))) (dSeq (dAsg 3 (dOp fMod (dCB (f1 (flat1 fInt)) (dCons (dOp fAdd (dOp fAdd (dOp fMulA (dMv 2) (dC (.int 48271))) (dOp fMulA (dSubS 0 (dC (.int 1))) (dC (.int 69997)))) (dC (.int 30103))) (dNil))) (dC (.int 2147483647)))) (dSeq (dAsg 3 (dOp fMod (dCB (f1 (flat1 fInt)) (dCons (dOp fMulA (dVar 3) (dOp fAdd (dOp fDiv (dVar 3) (dC (.int 1009))) (dC (.int 69621)))) (dNil))) (dC (.int 2147483629)))) (dSeq (dAsg 3 (dOp fMod (dCB (f1 (flat1 fInt)) (dCons (dOp fMulA (dVar 3) (dOp fAdd (dOp fAdd (dOp fDiv (dVar 3) (dC (.int 2003))) (dC (.int 40692))) (dSubS 0 (dC (.int 1))))) (dNil))) (dC (.int 2147483399)))) (dSeq (dRet (dOp fMod (dCB (f1 (flat1 fInt)) (dCons (dOp fDiv (dMv 3) (dC (.int 7))) (dNil))) (dMv 1))) (dSkip)))))))
def F__law_draw : List D → Rs D := fnOf [true, true] 2 M__law_draw
theorem F__law_draw_s (a0 a1 : D) : F__law_draw [a0, a1] = fnc (M__law_draw [some a0, some a1, none, none]) [true, true] := fnOf_s rfl
def B__law_word_0 : DC := dSeq (dAsg 2 (dOp fAdd (dMv 2) (dOp subV (dVar 1) (dCall 2 F__law_draw [some 0, none] (dLend 0 (dCons (dC (.int 26)) (dNil))))))) (dSkip)
def M__law_word : DC := dSeq (dAsg 1 (dC (.str "abcdefghijklmnopqrstuvwxyz"))) (dSeq (dAsg 2 (dC (.str ""))) (dSeq (dFor (dRng1 (dCons (dOp fAdd (dC (.int 1)) (dCall 2 F__law_draw [some 0, none] (dLend 0 (dCons (dC (.int 8)) (dNil))))) (dNil))) (gNm 3) (B__law_word_0)) (dSeq (dRet (dMv 2)) (dSkip))))
def F__law_word : List D → Rs D := fnOf [true] 3 M__law_word
theorem F__law_word_s (a0 : D) : F__law_word [a0] = fnc (M__law_word [some a0, none, none, none]) [true] := fnOf_s rfl
def B__law_names_0 : DC := dSeq (dAsg 4 (dCall 2 F__law_draw [some 0, none] (dLend 0 (dCons (dC (.int 3)) (dNil))))) (dSeq (dAsg 5 (dCall 1 F__law_word [some 0] (dLend 0 (dNil)))) (dSeq (dIf (dAnd (dB (dOpL fNeX 2 (dLst (dNil)))) (dB (dOp (flat2 fEqX) (dMv 4) (dC (.int 0))))) (dSeq (dAsg 5 (dSl (dOp fAdd (dSubS 2 (dUn fNeg (dC (.int 1)))) (dMv 5)) (dP0) (dP1 (dC (.int 8))))) (dSkip)) (dSkip)) (dSeq (dIf (dB (dOpS fNin (dVar 5) 2)) (dSeq (dApp 2 (dMv 5)) (dSkip)) (dSkip)) (dSkip))))
def M__law_names : DC := dSeq (dAsg 2 (dLst (dNil))) (dSeq (dFor (dRng1 (dCons (dMv 1) (dNil))) (gNm 3) (B__law_names_0)) (dSeq (dRet (dMv 2)) (dSkip)))
def F__law_names : List D → Rs D := fnOf [true, true] 4 M__law_names
theorem F__law_names_s (a0 a1 : D) : F__law_names [a0, a1] = fnc (M__law_names [some a0, some a1, none, none, none, none]) [true, true] := fnOf_s rfl
def E__law_moves_0 : DE := dOp fMulA (dCall 2 F__law_draw [some 0, none] (dLend 0 (dCons (dOp fAdd (dVar 2) (dC (.int 1))) (dNil)))) (dCB (f1 (flat1 fInt)) (dCons (dOp (flat2 fNeX) (dVar 4) (dVar 6)) (dNil)))
def B__law_moves_1 : DC := dSeq (dApp 3 (dCB (f1 fTup) (dCons (dComp (dRng1 (dCons (dVar 1) (dNil))) [5, 6] (gNm 6) (dYes) (E__law_moves_0)) (dNil)))) (dSkip)
def M__law_moves : DC := dSeq (dAsg 3 (dLst (dNil))) (dSeq (dFor (dRng1 (dCons (dVar 1) (dNil))) (gNm 4) (B__law_moves_1)) (dSeq (dRet (dCB (f1 fTup) (dCons (dMv 3) (dNil)))) (dSkip)))
def F__law_moves : List D → Rs D := fnOf [true, true, true] 4 M__law_moves
theorem F__law_moves_s (a0 a1 a2 : D) : F__law_moves [a0, a1, a2] = fnc (M__law_moves [some a0, some a1, some a2, none, none, none, none]) [true, true, true] := fnOf_s rfl
def B__law_prices_0 : DC := dSeq (dAsg 6 (dCall 2 F__law_draw [some 0, none] (dLend 0 (dCons (dOp fAdd (dVar 2) (dC (.int 3))) (dNil))))) (dSeq (dIf (dB (dOp (flat2 fLe) (dVar 6) (dVar 2))) (dSeq (dApp 4 (dMv 6)) (dSkip)) (dSeq (dApp 4 (dC .non)) (dSkip))) (dSkip))
def M__law_prices : DC := dSeq (dAsg 3 (dCall 2 F__law_draw [some 0, none] (dLend 0 (dCons (dVar 1) (dNil))))) (dSeq (dAsg 4 (dLst (dNil))) (dSeq (dFor (dRng1 (dCons (dVar 1) (dNil))) (gNm 5) (B__law_prices_0)) (dSeq (dIf (dB (dOpL fEqX 4 (dOp fMulA (dLst (dCons (dC .non) (dNil))) (dMv 1)))) (dSeq (dSetS 4 (dVar 3) (dCall 2 F__law_draw [some 0, none] (dLend 0 (dCons (dOp fAdd (dMv 2) (dC (.int 1))) (dNil))))) (dSkip)) (dSkip)) (dSeq (dRet (dCB (f1 fTup) (dCons (dMv 4) (dNil)))) (dSkip)))))
def F__law_prices : List D → Rs D := fnOf [true, true, true] 4 M__law_prices
theorem F__law_prices_s (a0 a1 a2 : D) : F__law_prices [a0, a1, a2] = fnc (M__law_prices [some a0, some a1, some a2, none, none, none, none]) [true, true, true] := fnOf_s rfl
def B__law_requests_0 : DC := dSeq (dSetS 4 (dVar 5) (dCall 3 F__law_prices [some 0, none, none] (dLend 0 (dCons (dVar 2) (dCons (dVar 3) (dNil)))))) (dSkip)
def M__law_requests : DC := dSeq (dAsg 4 (dC (mD [] []))) (dSeq (dFor (dIt (dMv 1)) (gNm 5) (B__law_requests_0)) (dSeq (dRet (dMv 4)) (dSkip)))
def F__law_requests : List D → Rs D := fnOf [true, true, true, true] 2 M__law_requests
theorem F__law_requests_s (a0 a1 a2 a3 : D) : F__law_requests [a0, a1, a2, a3] = fnc (M__law_requests [some a0, some a1, some a2, some a3, none, none]) [true, true, true, true] := fnOf_s rfl
def B__law_turns_0 : DC := dSeq (dIf (dB (dOp (flat2 fGt) (dCall 2 F__law_draw [some 0, none] (dLend 0 (dCons (dC (.int 3)) (dNil)))) (dC (.int 0)))) (dSeq (dSetS 6 (dVar 7) (dCall 2 F__law_draw [some 0, none] (dLend 0 (dCons (dVar 2) (dNil))))) (dSkip)) (dSkip)) (dSkip)
def B__law_turns_1 : DC := dSeq (dAsg 5 (dCall 2 F__law_draw [some 0, none] (dLend 0 (dCons (dCB (f1 (flat1 lenD)) (dCons (dVar 1) (dNil))) (dNil))))) (dSeq (dAsg 6 (dC (mD [] []))) (dSeq (dFor (dIt (dVar 1)) (gNm 7) (B__law_turns_0)) (dSeq (dIf (dB (dOpL fEqX 6 (dC (mD [] [])))) (dSeq (dSetS 6 (dOp subV (dVar 1) (dVar 5)) (dCall 2 F__law_draw [some 0, none] (dLend 0 (dCons (dVar 2) (dNil))))) (dSkip)) (dSkip)) (dSeq (dApp 3 (dMv 6)) (dSkip)))))
def M__law_turns : DC := dSeq (dAsg 3 (dLst (dNil))) (dSeq (dFor (dRng1 (dCons (dVar 2) (dNil))) (gNm 4) (B__law_turns_1)) (dSeq (dRet (dCB (f1 fTup) (dCons (dMv 3) (dNil)))) (dSkip)))
def F__law_turns : List D → Rs D := fnOf [true, true, true] 5 M__law_turns
theorem F__law_turns_s (a0 a1 a2 : D) : F__law_turns [a0, a1, a2] = fnc (M__law_turns [some a0, some a1, some a2, none, none, none, none, none]) [true, true, true] := fnOf_s rfl
def E__law_ways_0 : DE := dCB (f1 fList) (dCons (dVar 1) (dNil))
def B__law_ways_1 : DC := dSeq (dAlias 1 2 (qv 4) (fun i => zSet 2 i (qv 5) (qmin (qal 2 i (qv 5)) (qop addI (qs2 2 (qv 4) (qv 3)) (qs2 2 (qv 3) (qv 5)))))) (dSkip)
def B__law_ways_2 : DC := dSeq (dFor (dRng1 (dCons (dCB (f1 (flat1 lenD)) (dCons (dVar 0) (dNil))) (dNil))) (gNm 5) (B__law_ways_1)) (dSkip)
def B__law_ways_3 : DC := dSeq (dFor (dRng1 (dCons (dCB (f1 (flat1 lenD)) (dCons (dVar 0) (dNil))) (dNil))) (gNm 4) (B__law_ways_2)) (dSkip)
def M__law_ways : DC := dSeq (dAsg 2 (dComp (dIt (dVar 0)) [6, 1] (gNm 1) (dYes) (E__law_ways_0))) (dSeq (dFor (dRng1 (dCons (dCB (f1 (flat1 lenD)) (dCons (dVar 0) (dNil))) (dNil))) (gNm 3) (B__law_ways_3)) (dSeq (dRet (dMv 2)) (dSkip)))
def F__law_ways : List D → Rs D := fnOf [true] 6 M__law_ways
theorem F__law_ways_s (a0 : D) : F__law_ways [a0] = fnc (M__law_ways [some a0, none, none, none, none, none, none]) [true] := fnOf_s rfl
def E__law_offsets_0 : DE := dCall 2 F__law_draw [some 0, none] (dLend 0 (dCons (dC (.int 60)) (dNil)))
def E__law_offsets_1 : DE := dOp fAdd (dOp subV (dVar 2) (dVar 8)) (dOp subV (dOp subV (dVar 1) (dVar 8)) (dVar 4))
def B__law_offsets_2 : DC := dSeq (dApp 3 (dCB (f1 (flat1 fMin1)) (dCons (dComp (dRng1 (dCons (dCB (f1 (flat1 lenD)) (dCons (dVar 1) (dNil))) (dNil))) [6, 8] (gNm 8) (dYes) (E__law_offsets_1)) (dNil)))) (dSkip)
def E__law_offsets_3 : DE := dOp fSub (dVar 9) (dVar 5)
def M__law_offsets : DC := dSeq (dAsg 2 (dComp (dIt (dVar 1)) [6, 7] (gNm 7) (dYes) (E__law_offsets_0))) (dSeq (dAsg 3 (dLst (dNil))) (dSeq (dFor (dRng1 (dCons (dCB (f1 (flat1 lenD)) (dCons (dVar 1) (dNil))) (dNil))) (gNm 4) (B__law_offsets_2)) (dSeq (dAsg 5 (dCB (f1 (flat1 fMin1)) (dCons (dVar 3) (dNil)))) (dSeq (dRet (dCB (f1 fTup) (dCons (dComp (dIt (dMv 3)) [6, 9] (gNm 9) (dYes) (E__law_offsets_3)) (dNil)))) (dSkip)))))
def F__law_offsets : List D → Rs D := fnOf [true, true] 8 M__law_offsets
theorem F__law_offsets_s (a0 a1 : D) : F__law_offsets [a0, a1] = fnc (M__law_offsets [some a0, some a1, none, none, none, none, none, none, none, none]) [true, true] := fnOf_s rfl
def M__law_item : DC := dSeq (dIf (dB (dOp (flat2 fIs) (dVar 0) (dC .non))) (dSeq (dRet (dC (.str "-"))) (dSkip)) (dSkip)) (dSeq (dRet (dCB (f1 (flat1 fStr)) (dCons (dMv 0) (dNil)))) (dSkip))
def F__law_item : List D → Rs D := fnOf [true] 0 M__law_item
theorem F__law_item_s (a0 : D) : F__law_item [a0] = fnc (M__law_item [some a0]) [true] := fnOf_s rfl
def E__law_system_text_0 : DE := dCB (f1 (flat1 fStr)) (dCons (dVar 6) (dNil))
def B__law_system_text_1 : DC := dSeq (dAsg 2 (dOp fAdd (dOp fAdd (dOp fAdd (dMv 2) (dC (.str "post "))) (dJoin (dC (.str " ")) (dComp (dIt (dMv 3)) [5, 6] (gNm 6) (dYes) (E__law_system_text_0)))) (dC (.str "\n")))) (dSkip)
def E__law_system_text_2 : DE := dCall 1 F__law_item [none] (dCons (dVar 7) (dNil))
def B__law_system_text_3 : DC := dSeq (dAsg 2 (dOp fAdd (dOp fAdd (dOp fAdd (dOp fAdd (dOp fAdd (dMv 2) (dC (.str "request "))) (dVar 4)) (dC (.str " "))) (dJoin (dC (.str " ")) (dComp (dIt (dOp subV (dVar 1) (dVar 4))) [5, 7] (gNm 7) (dYes) (E__law_system_text_2)))) (dC (.str "\n")))) (dSkip)
def M__law_system_text : DC := dSeq (dAsg 2 (dC (.str ""))) (dSeq (dFor (dIt (dMv 0)) (gNm 3) (B__law_system_text_1)) (dSeq (dFor (dIt (dCB (f1 fSort) (dCons (dVar 1) (dNil)))) (gNm 4) (B__law_system_text_3)) (dSeq (dRet (dMv 2)) (dSkip))))
def F__law_system_text : List D → Rs D := fnOf [true, true] 6 M__law_system_text
theorem F__law_system_text_s (a0 a1 : D) : F__law_system_text [a0, a1] = fnc (M__law_system_text [some a0, some a1, none, none, none, none, none, none]) [true, true] := fnOf_s rfl
def M_is_integer : DC := dSeq (dRet (dAndV (dUn (fIsi .int) (dVar 0)) (dNotV (dUn (fIsi .bool) (dVar 0))))) (dSkip)
def F_is_integer : List D → Rs D := fnOf [true] 0 M_is_integer
theorem F_is_integer_s (a0 : D) : F_is_integer [a0] = fnc (M_is_integer [some a0]) [true] := fnOf_s rfl
def M_is_number : DC := dSeq (dRet (dAndV (dCall 1 F_is_integer [none] (dCons (dVar 0) (dNil))) (dChn fLe fLe (dMv 1) (dVar 0) (dMv 2)))) (dSkip)
def F_is_number : List D → Rs D := fnOf [true, true, true] 0 M_is_number
theorem F_is_number_s (a0 a1 a2 : D) : F_is_number [a0, a1, a2] = fnc (M_is_number [some a0, some a1, some a2]) [true, true, true] := fnOf_s rfl
def E_are_moves_0 : DE := dCall 3 F_is_number [none, none, none] (dCons (dVar 4) (dCons (dC (.int 0)) (dCons (dC (.int 9)) (dNil))))
def B_are_moves_1 : DC := dSeq (dIf (dOr (dNot (dB (dUn (fIsi .tuple) (dVar 2)))) (dB (dOp (flat2 fNeX) (dCB (f1 (flat1 lenD)) (dCons (dVar 2) (dNil))) (dCB (f1 (flat1 lenD)) (dCons (dVar 0) (dNil)))))) (dSeq (dRet (dC (.bl false))) (dSkip)) (dSkip)) (dSeq (dIf (dOr (dNot (dB (dCB (f1 (flat1 fAll)) (dCons (dComp (dIt (dVar 2)) [3, 4] (gNm 4) (dYes) (E_are_moves_0)) (dNil))))) (dB (dOp (flat2 fNeX) (dOp subV (dVar 2) (dMv 1)) (dC (.int 0))))) (dSeq (dRet (dC (.bl false))) (dSkip)) (dSkip)) (dSkip))
def M_are_moves : DC := dSeq (dIf (dOr (dNot (dB (dUn (fIsi .tuple) (dVar 0)))) (dNot (dB (dChn fLe fLe (dC (.int 1)) (dCB (f1 (flat1 lenD)) (dCons (dVar 0) (dNil))) (dC (.int 6)))))) (dSeq (dRet (dC (.bl false))) (dSkip)) (dSkip)) (dSeq (dFor (dEnum (dCons (dVar 0) (dNil))) (gTp 2 (dgCons (gNm 1) (dgCons (gNm 2) (dgNil)))) (B_are_moves_1)) (dSeq (dRet (dC (.bl true))) (dSkip)))
def F_are_moves : List D → Rs D := fnOf [true] 4 M_are_moves
theorem F_are_moves_s (a0 : D) : F_are_moves [a0] = fnc (M_are_moves [some a0, none, none, none, none]) [true] := fnOf_s rfl
def E_is_name_0 : DE := dChn fLe fLe (dC (.str "a")) (dVar 2) (dC (.str "z"))
def M_is_name : DC := dSeq (dIf (dOr (dNot (dB (dUn (fIsi .str) (dVar 0)))) (dNot (dB (dChn fLe fLe (dC (.int 1)) (dCB (f1 (flat1 lenD)) (dCons (dVar 0) (dNil))) (dC (.int 8)))))) (dSeq (dRet (dC (.bl false))) (dSkip)) (dSkip)) (dSeq (dRet (dCB (f1 (flat1 fAll)) (dCons (dComp (dIt (dMv 0)) [1, 2] (gNm 2) (dYes) (E_is_name_0)) (dNil)))) (dSkip))
def F_is_name : List D → Rs D := fnOf [true] 2 M_is_name
theorem F_is_name_s (a0 : D) : F_is_name [a0] = fnc (M_is_name [some a0, none, none]) [true] := fnOf_s rfl
def E_are_prices_0 : DE := dOrV (dOp (flat2 fIs) (dVar 3) (dC .non)) (dCall 3 F_is_number [none, none, none] (dCons (dVar 3) (dCons (dC (.int 0)) (dCons (dC (.int 9)) (dNil)))))
def E_are_prices_1 : DE := dOp (flat2 fIsN) (dVar 3) (dC .non)
def M_are_prices : DC := dSeq (dIf (dOr (dNot (dB (dUn (fIsi .tuple) (dVar 0)))) (dB (dOp (flat2 fNeX) (dCB (f1 (flat1 lenD)) (dCons (dVar 0) (dNil))) (dMv 1)))) (dSeq (dRet (dC (.bl false))) (dSkip)) (dSkip)) (dSeq (dIf (dNot (dB (dCB (f1 (flat1 fAll)) (dCons (dComp (dIt (dVar 0)) [2, 3] (gNm 3) (dYes) (E_are_prices_0)) (dNil))))) (dSeq (dRet (dC (.bl false))) (dSkip)) (dSkip)) (dSeq (dRet (dCB (f1 (flat1 fAny)) (dCons (dComp (dIt (dMv 0)) [2, 3] (gNm 3) (dYes) (E_are_prices_1)) (dNil)))) (dSkip)))
def F_are_prices : List D → Rs D := fnOf [true, true] 2 M_are_prices
theorem F_are_prices_s (a0 a1 : D) : F_are_prices [a0, a1] = fnc (M_are_prices [some a0, some a1, none, none]) [true, true] := fnOf_s rfl
def B_are_requests_0 : DC := dSeq (dIf (dOr (dNot (dB (dCall 1 F_is_name [none] (dCons (dVar 2) (dNil))))) (dNot (dB (dCall 2 F_are_prices [none, none] (dCons (dOp subV (dVar 0) (dVar 2)) (dCons (dVar 1) (dNil))))))) (dSeq (dRet (dC (.bl false))) (dSkip)) (dSkip)) (dSkip)
def M_are_requests : DC := dSeq (dIf (dOr (dNot (dB (dUn (fIsi .dict) (dVar 0)))) (dNot (dB (dChn fLe fLe (dC (.int 1)) (dCB (f1 (flat1 lenD)) (dCons (dVar 0) (dNil))) (dC (.int 5)))))) (dSeq (dRet (dC (.bl false))) (dSkip)) (dSkip)) (dSeq (dForK 0 (gNm 2) (B_are_requests_0)) (dSeq (dRet (dC (.bl true))) (dSkip)))
def F_are_requests : List D → Rs D := fnOf [true, true] 1 M_are_requests
theorem F_are_requests_s (a0 a1 : D) : F_are_requests [a0, a1] = fnc (M_are_requests [some a0, some a1, none]) [true, true] := fnOf_s rfl
def E_least_ways_0 : DE := dCB (f1 fList) (dCons (dVar 7) (dNil))
def B_least_ways_1 : DC := dSeq (dSet2 2 (qv 4) (qv 5) (dCB (f2 (flat2 fMin2)) (dCons (dQ (qs2 2 (qv 4) (qv 5))) (dCons (dOp fAdd (dQ (qs2 2 (qv 4) (qv 3))) (dQ (qs2 2 (qv 3) (qv 5)))) (dNil))))) (dSkip)
def B_least_ways_2 : DC := dSeq (dFor (dRng1 (dCons (dVar 1) (dNil))) (gNm 5) (B_least_ways_1)) (dSkip)
def B_least_ways_3 : DC := dSeq (dFor (dRng1 (dCons (dVar 1) (dNil))) (gNm 4) (B_least_ways_2)) (dSkip)
def E_least_ways_4 : DE := dCB (f1 fTup) (dCons (dVar 7) (dNil))
def M_least_ways : DC := dSeq (dAsg 1 (dCB (f1 (flat1 lenD)) (dCons (dVar 0) (dNil)))) (dSeq (dAsg 2 (dComp (dIt (dMv 0)) [6, 7] (gNm 7) (dYes) (E_least_ways_0))) (dSeq (dFor (dRng1 (dCons (dVar 1) (dNil))) (gNm 3) (B_least_ways_3)) (dSeq (dRet (dCB (f1 fTup) (dCons (dComp (dIt (dMv 2)) [6, 7] (gNm 7) (dYes) (E_least_ways_4)) (dNil)))) (dSkip))))
def F_least_ways : List D → Rs D := fnOf [true] 7 M_least_ways
theorem F_least_ways_s (a0 : D) : F_least_ways [a0] = fnc (M_least_ways [some a0, none, none, none, none, none, none, none]) [true] := fnOf_s rfl
def E_System_init_0 : DE := dVar 4
def E_System_init_1 : DE := dOp subV (dVar 2) (dVar 4)
def M_System_init : DC := dSeq (dIf (dNot (dB (dCall 1 F_are_moves [none] (dCons (dVar 1) (dNil))))) (dSeq ((fun _ => .no)) (dSkip)) (dSkip)) (dSeq (dIf (dNot (dB (dCall 2 F_are_requests [none, none] (dCons (dVar 2) (dCons (dCB (f1 (flat1 lenD)) (dCons (dVar 1) (dNil))) (dNil)))))) (dSeq ((fun _ => .no)) (dSkip)) (dSkip)) (dSeq (dSetF 6 0 0 (dVar 1)) (dSeq (dSetF 6 5 0 (dCB (f1 (flat1 lenD)) (dCons (dVar 1) (dNil)))) (dSeq (dSetF 6 3 0 (dCB (f1 fTup) (dCons (dCB (f1 fSort) (dCons (dVar 2) (dNil))) (dNil)))) (dSeq (dSetF 6 11 0 (dDComp (dIt (dFldS 6 3 0)) [3, 4] (gNm 4) (dYes) (E_System_init_0) (E_System_init_1))) (dSeq (dSetF 6 12 0 (dCall 1 F_least_ways [none] (dCons (dMv 1) (dNil)))) (dSkip)))))))
def F_System_init : List D → Rs D := fnOf [true, true, true] 2 M_System_init
theorem F_System_init_s (a0 a1 a2 : D) : F_System_init [a0, a1, a2] = fnc (M_System_init [some a0, some a1, some a2, none, none]) [true, true, true] := fnOf_s rfl
def B__law_turned_0 : DC := dSeq (dSetS 1 (dVar 2) (dOp subV (dVar 0) (dVar 2))) (dSkip)
def M__law_turned : DC := dSeq (dAsg 1 (dC (mD [] []))) (dSeq (dFor (dRev (dCB (f1 fList) (dCons (dVar 0) (dNil)))) (gNm 2) (B__law_turned_0)) (dSeq (dRet (dVar 1)) (dSkip)))
def F__law_turned : List D → Rs D := fnOf [true] 2 M__law_turned
theorem F__law_turned_s (a0 : D) : F__law_turned [a0] = fnc (M__law_turned [some a0, none, none]) [true] := fnOf_s rfl
def M_System_has : DC := dSeq (dRet (dAndV (dCall 1 F_is_name [none] (dCons (dVar 1) (dNil))) (dOp (flat2 fIn) (dVar 1) (dUn (fldV 6 11) (dVar 0))))) (dSkip)
def F_System_has : List D → Rs D := fnOf [true, true] 0 M_System_has
theorem F_System_has_s (a0 a1 : D) : F_System_has [a0, a1] = fnc (M_System_has [some a0, some a1]) [true, true] := fnOf_s rfl
def M_System_served : DC := dSeq (dIf (dNot (dB (dMeth 6 13 2 F_System_has [none] (dVar 0) (dCons (dVar 1) (dNil))))) (dSeq ((fun _ => .no)) (dSkip)) (dSkip)) (dSeq (dIf (dNot (dB (dCall 3 F_is_number [none, none, none] (dCons (dVar 2) (dCons (dC (.int 0)) (dCons (dOp fSub (dUn (fldV 6 5) (dVar 0)) (dC (.int 1))) (dNil))))))) (dSeq ((fun _ => .no)) (dSkip)) (dSkip)) (dSeq (dRet (dOp subV (dOp subV (dUn (fldV 6 11) (dVar 0)) (dMv 1)) (dMv 2))) (dSkip)))
def F_System_served : List D → Rs D := fnOf [true, true, true] 0 M_System_served
theorem F_System_served_s (a0 a1 a2 : D) : F_System_served [a0, a1, a2] = fnc (M_System_served [some a0, some a1, some a2]) [true, true, true] := fnOf_s rfl
def M_item_text : DC := dSeq (dIf (dB (dOp (flat2 fIs) (dVar 0) (dC .non))) (dSeq (dRet (dC (.str "-"))) (dSkip)) (dSkip)) (dSeq (dRet (dCB (f1 (flat1 fStr)) (dCons (dMv 0) (dNil)))) (dSkip))
def F_item_text : List D → Rs D := fnOf [true] 0 M_item_text
theorem F_item_text_s (a0 : D) : F_item_text [a0] = fnc (M_item_text [some a0]) [true] := fnOf_s rfl
def E_system_text_0 : DE := dCB (f1 (flat1 fStr)) (dCons (dVar 6) (dNil))
def B_system_text_1 : DC := dSeq (dApp 1 (dJoin (dC (.str " ")) (dOp fAdd (dLst (dCons (dC (.str "post")) (dNil))) (dComp (dIt (dMv 2)) [5, 6] (gNm 6) (dYes) (E_system_text_0))))) (dSkip)
def E_system_text_2 : DE := dCall 1 F_item_text [none] (dCons (dMeth 6 4 3 F_System_served [none, none] (dVar 0) (dCons (dVar 3) (dCons (dVar 7) (dNil)))) (dNil))
def B_system_text_3 : DC := dSeq (dAsg 4 (dComp (dRng1 (dCons (dUn (fldV 6 5) (dVar 0)) (dNil))) [5, 7] (gNm 7) (dYes) (E_system_text_2))) (dSeq (dApp 1 (dJoin (dC (.str " ")) (dOp fAdd (dLst (dCons (dC (.str "request")) (dCons (dMv 3) (dNil)))) (dMv 4)))) (dSkip))
def E_system_text_4 : DE := dOp fAdd (dVar 8) (dC (.str "\n"))
def M_system_text : DC := dSeq (dAsg 1 (dLst (dNil))) (dSeq (dFor (dIt (dUn (fldV 6 0) (dVar 0))) (gNm 2) (B_system_text_1)) (dSeq (dFor (dIt (dUn (fldV 6 3) (dVar 0))) (gNm 3) (B_system_text_3)) (dSeq (dRet (dJoin (dC (.str "")) (dComp (dIt (dMv 1)) [5, 8] (gNm 8) (dYes) (E_system_text_4)))) (dSkip))))
def F_system_text : List D → Rs D := fnOf [true] 8 M_system_text
theorem F_system_text_s (a0 : D) : F_system_text [a0] = fnc (M_system_text [some a0, none, none, none, none, none, none, none, none]) [true] := fnOf_s rfl
def M__law_is : DC := dSeq (dRet (dAndV (dUn (fIsi .str) (dVar 0)) (dOp (flat2 fEqX) (dVar 0) (dMv 1)))) (dSkip)
def F__law_is : List D → Rs D := fnOf [true, true] 0 M__law_is
theorem F__law_is_s (a0 a1 : D) : F__law_is [a0, a1] = fnc (M__law_is [some a0, some a1]) [true, true] := fnOf_s rfl
def E__law_machine_text_0 : DE := dOp fAdd (dOp fAdd (dVar 4) (dC (.str ":"))) (dCB (f1 (flat1 fStr)) (dCons (dOp subV (dVar 2) (dVar 4)) (dNil)))
def B__law_machine_text_1 : DC := dSeq (dAsg 1 (dOp fAdd (dOp fAdd (dOp fAdd (dMv 1) (dC (.str "state "))) (dJoin (dC (.str " ")) (dComp (dIt (dCB (f1 fSort) (dCons (dVar 2) (dNil)))) [3, 4] (gNm 4) (dYes) (E__law_machine_text_0)))) (dC (.str "\n")))) (dSkip)
def M__law_machine_text : DC := dSeq (dAsg 1 (dC (.str ""))) (dSeq (dFor (dIt (dMv 0)) (gNm 2) (B__law_machine_text_1)) (dSeq (dRet (dMv 1)) (dSkip)))
def F__law_machine_text : List D → Rs D := fnOf [true] 4 M__law_machine_text
theorem F__law_machine_text_s (a0 : D) : F__law_machine_text [a0] = fnc (M__law_machine_text [some a0, none, none, none, none]) [true] := fnOf_s rfl
def B_are_turns_0 : DC := dSeq (dIf (dOr (dNot (dB (dCall 1 F_is_name [none] (dCons (dVar 2) (dNil))))) (dNot (dB (dCall 3 F_is_number [none, none, none] (dCons (dOp subV (dVar 1) (dVar 2)) (dCons (dC (.int 0)) (dCons (dOp fSub (dCB (f1 (flat1 lenD)) (dCons (dVar 0) (dNil))) (dC (.int 1))) (dNil)))))))) (dSeq (dRet (dC (.bl false))) (dSkip)) (dSkip)) (dSkip)
def B_are_turns_1 : DC := dSeq (dIf (dOr (dNot (dB (dUn (fIsi .dict) (dVar 1)))) (dB (dOp (flat2 fEqX) (dCB (f1 (flat1 lenD)) (dCons (dVar 1) (dNil))) (dC (.int 0))))) (dSeq (dRet (dC (.bl false))) (dSkip)) (dSkip)) (dSeq (dForK 1 (gNm 2) (B_are_turns_0)) (dSkip))
def M_are_turns : DC := dSeq (dIf (dOr (dNot (dB (dUn (fIsi .tuple) (dVar 0)))) (dNot (dB (dChn fLe fLe (dC (.int 1)) (dCB (f1 (flat1 lenD)) (dCons (dVar 0) (dNil))) (dC (.int 4)))))) (dSeq (dRet (dC (.bl false))) (dSkip)) (dSkip)) (dSeq (dFor (dIt (dVar 0)) (gNm 1) (B_are_turns_1)) (dSeq (dRet (dC (.bl true))) (dSkip)))
def F_are_turns : List D → Rs D := fnOf [true] 2 M_are_turns
theorem F_are_turns_s (a0 : D) : F_are_turns [a0] = fnc (M_are_turns [some a0, none, none]) [true] := fnOf_s rfl
def E_copied_turns_0 : DE := dVar 3
def E_copied_turns_1 : DE := dOp subV (dVar 2) (dVar 3)
def E_copied_turns_2 : DE := dDComp (dIt (dCB (f1 fSort) (dCons (dVar 2) (dNil)))) [1, 3] (gNm 3) (dYes) (E_copied_turns_0) (E_copied_turns_1)
def M_copied_turns : DC := dSeq (dRet (dCB (f1 fTup) (dCons (dComp (dIt (dMv 0)) [1, 2] (gNm 2) (dYes) (E_copied_turns_2)) (dNil)))) (dSkip)
def F_copied_turns : List D → Rs D := fnOf [true] 3 M_copied_turns
theorem F_copied_turns_s (a0 : D) : F_copied_turns [a0] = fnc (M_copied_turns [some a0, none, none, none]) [true] := fnOf_s rfl
def M_Machine_init : DC := dSeq (dIf (dNot (dB (dCall 1 F_are_turns [none] (dCons (dVar 1) (dNil))))) (dSeq ((fun _ => .no)) (dSkip)) (dSkip)) (dSeq (dSetF 7 14 0 (dCB (f1 (flat1 lenD)) (dCons (dVar 1) (dNil)))) (dSeq (dSetF 7 15 0 (dCall 1 F_copied_turns [none] (dCons (dMv 1) (dNil)))) (dSkip)))
def F_Machine_init : List D → Rs D := fnOf [true, true] 0 M_Machine_init
theorem F_Machine_init_s (a0 a1 : D) : F_Machine_init [a0, a1] = fnc (M_Machine_init [some a0, some a1]) [true, true] := fnOf_s rfl
def M_Machine_turns : DC := dSeq (dRet (dCall 1 F_copied_turns [none] (dCons (dUn (fldV 7 15) (dVar 0)) (dNil)))) (dSkip)
def F_Machine_turns : List D → Rs D := fnOf [true] 0 M_Machine_turns
theorem F_Machine_turns_s (a0 : D) : F_Machine_turns [a0] = fnc (M_Machine_turns [some a0]) [true] := fnOf_s rfl
def E_machine_text_0 : DE := dOp fAdd (dOp fAdd (dVar 5) (dC (.str ":"))) (dCB (f1 (flat1 fStr)) (dCons (dOp subV (dVar 2) (dVar 5)) (dNil)))
def B_machine_text_1 : DC := dSeq (dAsg 3 (dComp (dIt (dCB (f1 fSort) (dCons (dVar 2) (dNil)))) [4, 5] (gNm 5) (dYes) (E_machine_text_0))) (dSeq (dApp 1 (dOp fAdd (dJoin (dC (.str " ")) (dOp fAdd (dLst (dCons (dC (.str "state")) (dNil))) (dMv 3))) (dC (.str "\n")))) (dSkip))
def M_machine_text : DC := dSeq (dAsg 1 (dLst (dNil))) (dSeq (dFor (dIt (dProp 7 F_Machine_turns (dVar 0))) (gNm 2) (B_machine_text_1)) (dSeq (dRet (dJoin (dC (.str "")) (dMv 1))) (dSkip)))
def F_machine_text : List D → Rs D := fnOf [true] 5 M_machine_text
theorem F_machine_text_s (a0 : D) : F_machine_text [a0] = fnc (M_machine_text [some a0, none, none, none, none, none]) [true] := fnOf_s rfl
def M_hint_text : DC := dSeq (dIf (dB (dOp (flat2 fIs) (dVar 0) (dC .non))) (dSeq (dRet (dC (.str "-"))) (dSkip)) (dSkip)) (dSeq (dRet (dMv 0)) (dSkip))
def F_hint_text : List D → Rs D := fnOf [true] 0 M_hint_text
theorem F_hint_text_s (a0 : D) : F_hint_text [a0] = fnc (M_hint_text [some a0]) [true] := fnOf_s rfl
def E_view_text_0 : DE := dCB (f1 (flat1 fStr)) (dCons (dVar 7) (dNil))
def M_view_text : DC := dSeq (dTs (dMv 0) (gTp 4 (dgCons (gNm 1) (dgCons (gNm 2) (dgCons (gNm 3) (dgCons (gNm 4) (dgNil))))))) (dSeq (dAsg 5 (dJoin (dC (.str ",")) (dComp (dIt (dMv 3)) [6, 7] (gNm 7) (dYes) (E_view_text_0)))) (dSeq (dRet (dJs [dFmt (dMv 1), dC (.str " "), dFmt (dMv 2), dC (.str " "), dFmt (dMv 5), dC (.str " "), dFmt (dCall 1 F_hint_text [none] (dCons (dMv 4) (dNil)))] Str.empty)) (dSkip)))
def F_view_text : List D → Rs D := fnOf [true] 7 M_view_text
theorem F_view_text_s (a0 : D) : F_view_text [a0] = fnc (M_view_text [some a0, none, none, none, none, none, none, none]) [true] := fnOf_s rfl
def E__law_view_text_0 : DE := dCB (f1 (flat1 fStr)) (dCons (dVar 3) (dNil))
def M__law_view_text : DC := dSeq (dAsg 1 (dJoin (dC (.str ",")) (dComp (dIt (dOp subV (dVar 0) (dC (.int 2)))) [2, 3] (gNm 3) (dYes) (E__law_view_text_0)))) (dSeq (dRet (dOp fAdd (dOp fAdd (dOp fAdd (dOp fAdd (dOp fAdd (dOp fAdd (dCB (f1 (flat1 fStr)) (dCons (dOp subV (dVar 0) (dC (.int 0))) (dNil))) (dC (.str " "))) (dCB (f1 (flat1 fStr)) (dCons (dOp subV (dVar 0) (dC (.int 1))) (dNil)))) (dC (.str " "))) (dMv 1)) (dC (.str " "))) (dCall 1 F__law_item [none] (dCons (dOp subV (dVar 0) (dC (.int 3))) (dNil))))) (dSkip))
def F__law_view_text : List D → Rs D := fnOf [true] 3 M__law_view_text
theorem F__law_view_text_s (a0 : D) : F__law_view_text [a0] = fnc (M__law_view_text [some a0, none, none, none]) [true] := fnOf_s rfl
def M_first_offsets : DC := dSeq (dRet (dOp subV (dUn (fldV 6 12) (dVar 0)) (dC (.int 0)))) (dSkip)
def F_first_offsets : List D → Rs D := fnOf [true] 0 M_first_offsets
theorem F_first_offsets_s (a0 : D) : F_first_offsets [a0] = fnc (M_first_offsets [some a0]) [true] := fnOf_s rfl
def M_first_view : DC := dSeq (dRet (dTup (dCons (dC (.int 0)) (dCons (dC (.int 0)) (dCons (dCall 1 F_first_offsets [none] (dCons (dVar 0) (dNil))) (dCons (dC .non) (dNil))))))) (dSkip)
def F_first_view : List D → Rs D := fnOf [true] 0 M_first_view
theorem F_first_view_s (a0 : D) : F_first_view [a0] = fnc (M_first_view [some a0]) [true] := fnOf_s rfl
def M_renting : DC := dSeq (dIf (dNot (dB (dCall 3 F_is_number [none, none, none] (dCons (dVar 0) (dCons (dC (.int 1)) (dCons (dC (.int 9)) (dNil))))))) (dSeq ((fun _ => .no)) (dSkip)) (dSkip)) (dSeq (dRet (dMake 6 3 F_System_init [none, none] (dCons (dTup (dCons (dTup (dCons (dC (.int 0)) (dCons (dMv 0) (dNil)))) (dCons (dTup (dCons (dC (.int 0)) (dCons (dC (.int 0)) (dNil)))) (dNil)))) (dCons (dDisp [(dC (.str "day"), dTup (dCons (dC (.int 1)) (dCons (dC (.int 0)) (dNil)))), (dC (.str "over"), dTup (dCons (dC (.int 0)) (dCons (dC .non) (dNil))))]) (dNil))))) (dSkip))
def F_renting : List D → Rs D := fnOf [true] 0 M_renting
theorem F_renting_s (a0 : D) : F_renting [a0] = fnc (M_renting [some a0]) [true] := fnOf_s rfl
def E_law_0 : DE := dCB (f1 fDict) (dCons (dVar 16) (dNil))
def E_law_1 : DE := dCall 1 F__law_turned [none] (dCons (dVar 16) (dNil))
def E_law_2 : DE := dCB (f1 (flat1 fStr)) (dCons (dVar 17) (dNil))
def M_law : DC := dSeq (dAsg 1 (dCall 2 F__law_stock [none, none] (dCons (dVar 0) (dCons (dC (.int 0)) (dNil))))) (dSeq (dAsg 2 (dCall 2 F__law_names [some 1, none] (dLend 1 (dCons (dOp fAdd (dC (.int 1)) (dCall 2 F__law_draw [some 1, none] (dLend 1 (dCons (dC (.int 5)) (dNil))))) (dNil))))) (dSeq (dAsg 3 (dOp fAdd (dC (.int 1)) (dCall 2 F__law_draw [some 1, none] (dLend 1 (dCons (dC (.int 6)) (dNil)))))) (dSeq (dAsg 4 (dCall 3 F__law_moves [some 1, none, none] (dLend 1 (dCons (dVar 3) (dCons (dC (.int 9)) (dNil)))))) (dSeq (dAsg 5 (dCall 4 F__law_requests [some 1, none, none, none] (dLend 1 (dCons (dVar 2) (dCons (dVar 3) (dCons (dC (.int 9)) (dNil))))))) (dSeq (dAsg 1 (dCall 2 F__law_stock [none, none] (dCons (dVar 0) (dCons (dC (.int 1)) (dNil))))) (dSeq (dAsg 6 (dCall 3 F__law_turns [some 1, none, none] (dLend 1 (dCons (dVar 2) (dCons (dOp fAdd (dC (.int 1)) (dCall 2 F__law_draw [some 1, none] (dLend 1 (dCons (dC (.int 4)) (dNil))))) (dNil)))))) (dSeq (dAsg 1 (dCall 2 F__law_stock [none, none] (dCons (dVar 0) (dCons (dC (.int 2)) (dNil))))) (dSeq (dAsg 7 (dCall 1 F__law_ways [none] (dCons (dVar 4) (dNil)))) (dSeq (dAsg 8 (dOp subV (dOp fAdd (dVar 2) (dLst (dCons (dC .non) (dNil)))) (dCall 2 F__law_draw [some 1, none] (dLend 1 (dCons (dOp fAdd (dCB (f1 (flat1 lenD)) (dCons (dVar 2) (dNil))) (dC (.int 1))) (dNil)))))) (dSeq (dAsg 9 (dTup (dCons (dCall 2 F__law_draw [some 1, none] (dLend 1 (dCons (dC (.int 4)) (dNil)))) (dCons (dCall 2 F__law_draw [some 1, none] (dLend 1 (dCons (dMv 3) (dNil)))) (dCons (dCall 2 F__law_offsets [some 1, none] (dLend 1 (dCons (dVar 7) (dNil)))) (dCons (dMv 8) (dNil))))))) (dSeq (dAsg 10 (dOp fAdd (dC (.int 1)) (dCall 2 F__law_draw [none, none] (dCons (dCall 2 F__law_stock [none, none] (dCons (dMv 0) (dCons (dC (.int 3)) (dNil)))) (dCons (dC (.int 9)) (dNil)))))) (dSeq (dAsg 11 (dCall 2 F__law_system_text [none, none] (dCons (dVar 4) (dCons (dVar 5) (dNil))))) (dSeq (dAsg 12 (dMake 6 3 F_System_init [none, none] (dCons (dVar 4) (dCons (dCB (f1 fDict) (dCons (dVar 5) (dNil))) (dNil))))) (dSeq (dAsg 13 (dMake 6 3 F_System_init [none, none] (dCons (dMv 4) (dCons (dCall 1 F__law_turned [none] (dCons (dMv 5) (dNil))) (dNil))))) (dSeq (dIf (dOr (dNot (dB (dCall 2 F__law_is [none, none] (dCons (dCall 1 F_system_text [none] (dCons (dVar 12) (dNil))) (dCons (dVar 11) (dNil)))))) (dNot (dB (dCall 2 F__law_is [none, none] (dCons (dCall 1 F_system_text [none] (dCons (dVar 13) (dNil))) (dCons (dVar 11) (dNil))))))) (dSeq (dRet (dC (.bl false))) (dSkip)) (dSkip)) (dSeq (dAsg 11 (dCall 1 F__law_machine_text [none] (dCons (dVar 6) (dNil)))) (dSeq (dAsg 14 (dMake 7 2 F_Machine_init [none] (dCons (dCB (f1 fTup) (dCons (dComp (dIt (dVar 6)) [15, 16] (gNm 16) (dYes) (E_law_0)) (dNil))) (dNil)))) (dSeq (dAsg 13 (dMake 7 2 F_Machine_init [none] (dCons (dCB (f1 fTup) (dCons (dComp (dIt (dMv 6)) [15, 16] (gNm 16) (dYes) (E_law_1)) (dNil))) (dNil)))) (dSeq (dIf (dOr (dNot (dB (dCall 2 F__law_is [none, none] (dCons (dCall 1 F_machine_text [none] (dCons (dVar 14) (dNil))) (dCons (dVar 11) (dNil)))))) (dNot (dB (dCall 2 F__law_is [none, none] (dCons (dCall 1 F_machine_text [none] (dCons (dVar 13) (dNil))) (dCons (dVar 11) (dNil))))))) (dSeq (dRet (dC (.bl false))) (dSkip)) (dSkip)) (dSeq (dIf (dNot (dB (dCall 2 F__law_is [none, none] (dCons (dCall 1 F_view_text [none] (dCons (dVar 9) (dNil))) (dCons (dCall 1 F__law_view_text [none] (dCons (dVar 9) (dNil))) (dNil)))))) (dSeq (dRet (dC (.bl false))) (dSkip)) (dSkip)) (dSeq (dIf (dNot (dB (dCall 2 F__law_is [none, none] (dCons (dCall 1 F_view_text [none] (dCons (dCall 1 F_first_view [none] (dCons (dVar 12) (dNil))) (dNil))) (dCons (dOp fAdd (dOp fAdd (dC (.str "0 0 ")) (dJoin (dC (.str ",")) (dComp (dIt (dOp subV (dMv 7) (dC (.int 0)))) [15, 17] (gNm 17) (dYes) (E_law_2)))) (dC (.str " -"))) (dNil)))))) (dSeq (dRet (dC (.bl false))) (dSkip)) (dSkip)) (dSeq (dAsg 11 (dOp fAdd (dOp fAdd (dC (.str "post 0 ")) (dCB (f1 (flat1 fStr)) (dCons (dVar 10) (dNil)))) (dC (.str "\npost 0 0\nrequest day 1 0\nrequest over 0 -\n")))) (dSeq (dRet (dCall 2 F__law_is [none, none] (dCons (dCall 1 F_system_text [none] (dCons (dCall 1 F_renting [none] (dCons (dMv 10) (dNil))) (dNil))) (dCons (dMv 11) (dNil))))) (dSkip))))))))))))))))))))))))
def F_law : List D → Rs D := fnOf [true] 17 M_law
theorem F_law_s (a0 : D) : F_law [a0] = fnc (M_law [some a0, none, none, none, none, none, none, none, none, none, none, none, none, none, none, none, none, none]) [true] := fnOf_s rfl
end
end LawP

set_option maxHeartbeats 1000000
namespace LawP
open PySem L2 DL TL
noncomputable section
def T__law_cell (script1 : (List Int)) (k1 : Int) : Fn Int :=
  if decide (k1 < (script1.length : Int)) = true then
    bindO (atI script1 k1) fun x1 =>
    .rt x1
  else
    .rt 0
def T__law_stock (script1 : (List Int)) (k1 : Int) : Fn (Int × Int × Bool) :=
  callT (T__law_cell script1 k1) fun r1 =>
  bindV (absZ r1) fun number1 =>
  bindO (powO 10 18) fun x1 =>
  if decide (x1 ≤ number1) = true then
    .rt (number1, 0, true)
  else
    bindO (mulO number1 64) fun x2 =>
    .rt ((x2 + k1), 0, false)
def T__law_draw (stock1 : (Int × Int × Bool)) (many1 : Int) : Fn (Int × (Int × Int × Bool)) :=
  bindV stock1.1 fun number1 =>
  if stock1.2.2 = true then
    bindO (divO number1 many1) fun x3 =>
    bindV (x3, stock1.2.1, stock1.2.2) fun stock2 =>
    bindO (modO number1 many1) fun x4 =>
    .rt (x4, stock2)
  else
    bindV (stock1.1, (stock1.2.1 + 1), stock1.2.2) fun stock3 =>
    bindO (mulO number1 48271) fun x6 =>
    bindO (mulO stock3.2.1 69997) fun x8 =>
    bindO (modO ((x6 + x8) + 30103) 2147483647) fun x9 =>
    bindO (divO x9 1009) fun x10 =>
    bindO (mulO x9 (x10 + 69621)) fun x11 =>
    bindO (modO x11 2147483629) fun x12 =>
    bindO (divO x12 2003) fun x13 =>
    bindO (mulO x12 ((x13 + 40692) + stock3.2.1)) fun x15 =>
    bindO (modO x15 2147483399) fun x16 =>
    bindO (divO x16 7) fun x17 =>
    bindO (modO x17 many1) fun x18 =>
    .rt (x18, stock3)
def L__law_word_1  (k1 : Int) (v : ((Int × Int × Bool) × Str)) : Rc ((Int × Int × Bool) × Str) ((Int × Int × Bool) × Str) (Str × (Int × Int × Bool)) := match v with
  | (stock3, word1) =>
    callT (T__law_draw stock3 26) fun (r2, stock4) =>
    bindO (chrAt ("abcdefghijklmnopqrstuvwxyz" : Str) r2) fun sign1 =>
    bindO (catS word1 sign1) fun text1 =>
    .nx (stock4, text1)
def T__law_word (stock1 : (Int × Int × Bool)) : Fn (Str × (Int × Int × Bool)) :=
  callT (T__law_draw stock1 8) fun (r1, stock2) =>
  bindO (rng1O (1 + r1)) fun ns1 =>
  bindC (forT L__law_word_1 ns1 (stock2, ("" : Str))) fun (stock3, word1) =>
  .rt (word1, stock3)
def L__law_names_1  (k1 : Int) (v : ((Int × Int × Bool) × (List Str))) : Rc ((Int × Int × Bool) × (List Str)) ((Int × Int × Bool) × (List Str)) ((List Str) × (Int × Int × Bool)) := match v with
  | (stock2, names1) =>
    callT (T__law_draw stock2 3) fun (r1, stock3) =>
    callT (T__law_word stock3) fun (r2, stock4) =>
    bindO (boolO ((flat2 fNeX) ((eQ true .lst eS) names1) ((eQ true .lst eS) ([])))) fun b1 =>
    callT (if b1 = true then
      .rt (decide (r1 = 0))
    else .rt false) fun c1 =>
    bindC (if c1 = true then
      bindO (atI names1 (-1)) fun x2 =>
      bindO (catS x2 r2) fun text2 =>
      bindO (cutSO text2 none (some (8 : Int))) fun cut2 =>
      .nx cut2
    else
      .nx r2) fun name1 =>
    bindC (if (!decide (name1 ∈ names1)) = true then
      bindO (appO names1 name1) fun names4 =>
      .nx names4
    else
      .nx names1) fun names3 =>
    .nx (stock4, names3)
def T__law_names (stock1 : (Int × Int × Bool)) (many1 : Int) : Fn ((List Str) × (Int × Int × Bool)) :=
  bindO (rng1O many1) fun ns1 =>
  bindC (forT L__law_names_1 ns1 (stock1, [])) fun (stock2, names1) =>
  .rt (names1, stock2)
def C__law_moves_2 (most1 : Int) (a1 : Int) (b1 : Int) (stock4 : (Int × Int × Bool)) : Rc (Int × Int × Bool) Empty (Int × (Int × Int × Bool)) :=
  callT (T__law_draw stock4 (most1 + 1)) fun (r2, stock5) =>
  bindO (mulO r2 (if (!decide (a1 = b1)) then 1 else 0)) fun x2 =>
  .rt (x2, stock5)
def L__law_moves_1 (posts1 : Int) (most1 : Int) (a1 : Int) (v : ((Int × Int × Bool) × (List (List Int)))) : Rc ((Int × Int × Bool) × (List (List Int))) ((Int × Int × Bool) × (List (List Int))) ((List (List Int)) × (Int × Int × Bool)) := match v with
  | (stock2, moves1) =>
    bindO (rng1O posts1) fun ns2 =>
    callT (compG (C__law_moves_2 most1 a1) ns2 stock2) fun (ys1, stock4) =>
    bindO (appO moves1 ys1) fun moves2 =>
    .nx (stock4, moves2)
def T__law_moves (stock1 : (Int × Int × Bool)) (posts1 : Int) (most1 : Int) : Fn ((List (List Int)) × (Int × Int × Bool)) :=
  bindO (rng1O posts1) fun ns1 =>
  bindC (forT (L__law_moves_1 posts1 most1) ns1 (stock1, [])) fun (stock2, moves1) =>
  .rt (moves1, stock2)
def L__law_prices_1 (most1 : Int) (b1 : Int) (v : ((Int × Int × Bool) × (List (Option Int)))) : Rc ((Int × Int × Bool) × (List (Option Int))) ((Int × Int × Bool) × (List (Option Int))) ((List (Option Int)) × (Int × Int × Bool)) := match v with
  | (stock3, prices1) =>
    callT (T__law_draw stock3 (most1 + 3)) fun (r2, stock4) =>
    bindC (if decide (r2 ≤ most1) = true then
      bindO (appO prices1 (some r2)) fun prices5 =>
      .nx prices5
    else
      bindO (appO prices1 none) fun prices6 =>
      .nx prices6) fun prices4 =>
    .nx (stock4, prices4)
def T__law_prices (stock1 : (Int × Int × Bool)) (posts1 : Int) (most1 : Int) : Fn ((List (Option Int)) × (Int × Int × Bool)) :=
  callT (T__law_draw stock1 posts1) fun (r1, stock2) =>
  bindO (rng1O posts1) fun ns1 =>
  bindC (forT (L__law_prices_1 most1) ns1 (stock2, [])) fun (stock3, prices1) =>
  bindO (repO ([()]) posts1) fun xs1 =>
  bindO (boolO ((flat2 fEqX) ((eQ true .lst (eO eI)) prices1) ((eQ true .lst eN) xs1))) fun b2 =>
  bindC (if b2 = true then
    callT (T__law_draw stock3 (most1 + 1)) fun (r4, stock7) =>
    bindO (setO prices1 r1 (some r4)) fun prices9 =>
    .nx (stock7, prices9)
  else
    .nx (stock3, prices1)) fun (stock6, prices8) =>
  .rt (prices8, stock6)
def L__law_requests_1 (posts1 : Int) (most1 : Int) (name1 : Str) (v : ((Int × Int × Bool) × (List (Str × (List (Option Int)))))) : Rc ((Int × Int × Bool) × (List (Str × (List (Option Int))))) ((Int × Int × Bool) × (List (Str × (List (Option Int))))) ((List (Str × (List (Option Int)))) × (Int × Int × Bool)) := match v with
  | (stock2, requests1) =>
    callT (T__law_prices stock2 posts1 most1) fun (r1, stock3) =>
    bindO (putO requests1 name1 r1) fun requests2 =>
    .nx (stock3, requests2)
def T__law_requests (stock1 : (Int × Int × Bool)) (names1 : (List Str)) (posts1 : Int) (most1 : Int) : Fn ((List (Str × (List (Option Int)))) × (Int × Int × Bool)) :=
  bindC (forT (L__law_requests_1 posts1 most1) names1 (stock1, [])) fun (stock2, requests1) =>
  .rt (requests1, stock2)
def L__law_turns_2 (states1 : Int) (name1 : Str) (v : ((Int × Int × Bool) × (List (Str × Int)))) : Rc ((Int × Int × Bool) × (List (Str × Int))) ((Int × Int × Bool) × (List (Str × Int))) ((List (List (Str × Int))) × (Int × Int × Bool)) := match v with
  | (stock4, row1) =>
    callT (T__law_draw stock4 3) fun (r2, stock5) =>
    bindC (if decide (0 < r2) = true then
      callT (T__law_draw stock5 states1) fun (r4, stock8) =>
      bindO (putO row1 name1 r4) fun row4 =>
      .nx (stock8, row4)
    else
      .nx (stock5, row1)) fun (stock7, row3) =>
    .nx (stock7, row3)
def L__law_turns_1 (names1 : (List Str)) (states1 : Int) (state1 : Int) (v : ((Int × Int × Bool) × (List (List (Str × Int))))) : Rc ((Int × Int × Bool) × (List (List (Str × Int)))) ((Int × Int × Bool) × (List (List (Str × Int)))) ((List (List (Str × Int))) × (Int × Int × Bool)) := match v with
  | (stock2, turns1) =>
    callT (T__law_draw stock2 (names1.length : Int)) fun (r1, stock3) =>
    bindC (forT (L__law_turns_2 states1) names1 (stock3, [])) fun (stock4, row1) =>
    bindC (if (row1).isEmpty = true then
      callT (T__law_draw stock4 states1) fun (r6, stock11) =>
      bindO (atI names1 r1) fun x2 =>
      bindO (putO row1 x2 r6) fun row7 =>
      .nx (stock11, row7)
    else
      .nx (stock4, row1)) fun (stock10, row6) =>
    bindO (appO turns1 row6) fun turns2 =>
    .nx (stock10, turns2)
def T__law_turns (stock1 : (Int × Int × Bool)) (names1 : (List Str)) (states1 : Int) : Fn ((List (List (Str × Int))) × (Int × Int × Bool)) :=
  bindO (rng1O states1) fun ns1 =>
  bindC (forT (L__law_turns_1 names1 states1) ns1 (stock1, [])) fun (stock2, turns1) =>
  .rt (turns1, stock2)
def L__law_ways_3 (c1 : Int) (a1 : Int) (b1 : Int) (ways3 : (List (List Int))) : Rc (List (List Int)) (List (List Int)) (List (List Int)) :=
  bindO (aliasO ways3 (some a1) (some b1) (fun row => (qmn (qrow row (some b1)) (qadd (qat2 ways3 (some a1) (some c1)) (qat2 ways3 (some c1) (some b1)))))) fun ways4 =>
  .nx ways4
def L__law_ways_2 (moves1 : (List (List Int))) (c1 : Int) (a1 : Int) (ways2 : (List (List Int))) : Rc (List (List Int)) (List (List Int)) (List (List Int)) :=
  bindO (rng1O (moves1.length : Int)) fun ns3 =>
  bindC (forT (L__law_ways_3 c1 a1) ns3 ways2) fun ways3 =>
  .nx ways3
def L__law_ways_1 (moves1 : (List (List Int))) (c1 : Int) (ways1 : (List (List Int))) : Rc (List (List Int)) (List (List Int)) (List (List Int)) :=
  bindO (rng1O (moves1.length : Int)) fun ns2 =>
  bindC (forT (L__law_ways_2 moves1 c1) ns2 ways1) fun ways2 =>
  .nx ways2
def T__law_ways (moves1 : (List (List Int))) : Fn (List (List Int)) :=
  bindO (mapO (fun (row1 : (List Int)) => row1) moves1) fun ys1 =>
  bindO (rng1O (moves1.length : Int)) fun ns1 =>
  bindC (forT (L__law_ways_1 moves1) ns1 ys1) fun ways1 =>
  .rt ways1
def C__law_offsets_3 (ways1 : (List (List Int))) (b1 : Int) (a1 : Int) (base2 : (List Int)) : Rc (List Int) Empty (Int × (List Int)) :=
  bindO (atI base2 a1) fun x4 =>
  bindO (atI ways1 a1) fun x5 =>
  bindO (atI x5 b1) fun x6 =>
  .rt ((x4 + x6), base2)
def L__law_offsets_2 (ways1 : (List (List Int))) (b1 : Int) (v : ((List Int) × (List Int))) : Rc ((List Int) × (List Int)) ((List Int) × (List Int)) ((List Int) × (Int × Int × Bool)) := match v with
  | (base1, offsets1) =>
    bindO (rng1O (ways1.length : Int)) fun ns2 =>
    callT (compG (C__law_offsets_3 ways1 b1) ns2 base1) fun (ys2, base2) =>
    bindO (leastI ys2) fun x7 =>
    bindO (appO offsets1 x7) fun offsets2 =>
    .nx (base2, offsets2)
def C__law_offsets_1  (post1 : (List Int)) (stock3 : (Int × Int × Bool)) : Rc (Int × Int × Bool) Empty (Int × (Int × Int × Bool)) :=
  callT (T__law_draw stock3 60) fun (r2, stock4) =>
  .rt (r2, stock4)
def T__law_offsets (stock1 : (Int × Int × Bool)) (ways1 : (List (List Int))) : Fn ((List Int) × (Int × Int × Bool)) :=
  callT (compG C__law_offsets_1 ways1 stock1) fun (ys1, stock3) =>
  bindO (rng1O (ways1.length : Int)) fun ns1 =>
  bindC (forT (L__law_offsets_2 ways1) ns1 (ys1, [])) fun (base1, offsets1) =>
  bindO (leastI offsets1) fun x8 =>
  bindO (mapO (fun (offset1 : Int) => (offset1 - x8)) offsets1) fun ys3 =>
  .rt (ys3, stock3)
def T__law_item (item1 : (Option Int)) : Fn Str :=
  caseO item1
    (.rt ("-" : Str))
    fun item2 =>
      bindO (strI item2) fun text1 =>
      .rt text1
def C__law_system_text_4  (item1 : (Option Int)) (_ : Unit) : Rc Unit Empty (Str × Unit) :=
  callT (T__law_item item1) fun r2 =>
  .rt (r2, ())
def L__law_system_text_3 (requests1 : (List (Str × (List (Option Int))))) (name1 : Str) (text8 : Str) : Rc Str Str Str :=
  bindO (catS text8 ("request " : Str)) fun text9 =>
  bindO (catS text9 name1) fun text10 =>
  bindO (catS text10 (" " : Str)) fun text11 =>
  bindO (lookM requests1 name1) fun x1 =>
  callT (compG C__law_system_text_4 x1 ()) fun (ys2, _) =>
  bindO (joinO (" " : Str) ys2) fun text12 =>
  bindO (catS text11 text12) fun text13 =>
  bindO (catS text13 ("\n" : Str)) fun text14 =>
  .nx text14
def C__law_system_text_2  (step1 : Int) (_ : Unit) : Rc Unit Empty (Str × Unit) :=
  bindO (strI step1) fun text4 =>
  .rt (text4, ())
def L__law_system_text_1  (row1 : (List Int)) (text1 : Str) : Rc Str Str Str :=
  bindO (catS text1 ("post " : Str)) fun text2 =>
  callT (compG C__law_system_text_2 row1 ()) fun (ys1, _) =>
  bindO (joinO (" " : Str) ys1) fun text5 =>
  bindO (catS text2 text5) fun text6 =>
  bindO (catS text6 ("\n" : Str)) fun text7 =>
  .nx text7
def T__law_system_text (moves1 : (List (List Int))) (requests1 : (List (Str × (List (Option Int))))) : Fn Str :=
  bindC (forT L__law_system_text_1 moves1 ("" : Str)) fun text1 =>
  bindO (sortSO (requests1.map (·.1))) fun names1 =>
  bindC (forT (L__law_system_text_3 requests1) names1 text1) fun text8 =>
  .rt text8
def T_is_integer (thing1 : D) : Fn Bool :=
  bindO (isiO .int (rd thing1)) fun b1 =>
  callT (if b1 = true then
    bindO (isiO .bool (rd thing1)) fun b3 =>
    .rt (!b3)
  else .rt false) fun c1 =>
  .rt c1
def T_is_number (thing1 : D) (low1 : Int) (high1 : Int) : Fn Bool :=
  callT (T_is_integer (rd thing1)) fun r1 =>
  callT (if r1 = true then
    bindO (boolO (flat2 fLe (eI low1) (eD (rd thing1)))) fun c4 =>
    callT (if c4 = true then
      bindO (boolO ((flat2 fLe) (eD (rd thing1)) (eI high1))) fun b2 =>
      .rt b2
    else .rt false) fun c5 =>
    .rt c5
  else .rt false) fun c3 =>
  .rt c3
def C_are_moves_2  (step1 : D) (_ : Unit) : Rc Unit Empty (Bool × Unit) :=
  callT (T_is_number (rd step1) 0 9) fun r2 =>
  .rt (r2, ())
def L_are_moves_1 (moves1 : D) (it1 : (Int × D)) (_ : Unit) : Rc Unit Unit Bool :=
  bindO (isiO .tuple (rd it1.2)) fun b2 =>
  callT (if (!b2) = true then .rt true else
    bindO (intO (flat1 lenD (eD (rd it1.2)))) fun n5 =>
    bindO (intO (flat1 lenD (eD (rd moves1)))) fun n6 =>
    .rt (!decide (n5 = n6))) fun c2 =>
  if c2 = true then
    .rt false
  else
    bindO (itemsD (rd (rd it1.2))) fun ds2 =>
    callT (compG C_are_moves_2 ds2 ()) fun (ys1, _) =>
    callT (if (!(ys1.all id)) = true then .rt true else
      bindO (subV (eD (rd it1.2)) (eI it1.1)) fun x2 =>
      bindO (boolO ((flat2 fNeX) (eD x2) (eI 0))) fun b4 =>
      .rt b4) fun c3 =>
    if c3 = true then
      .rt false
    else
      .nx ()
def T_are_moves (moves1 : D) : Fn Bool :=
  bindO (isiO .tuple (rd moves1)) fun b1 =>
  callT (if (!b1) = true then .rt true else
    bindO (intO (flat1 lenD (eD (rd moves1)))) fun n2 =>
    .rt (!(decide (1 ≤ n2) && decide (n2 ≤ 6)))) fun c1 =>
  if c1 = true then
    .rt false
  else
    bindO (enumDO (rd moves1)) fun ds1 =>
    bindC (forT (L_are_moves_1 moves1) ds1 ()) fun _ =>
    .rt true
def C_is_name_1  (sign1 : D) (_ : Unit) : Rc Unit Empty (Bool × Unit) :=
  bindO (boolO (flat2 fLe (eS ("a" : Str)) (eD (rd sign1)))) fun c4 =>
  callT (if c4 = true then
    bindO (boolO ((flat2 fLe) (eD (rd sign1)) (eS ("z" : Str)))) fun b3 =>
    .rt b3
  else .rt false) fun c5 =>
  .rt (c5, ())
def T_is_name (thing1 : D) : Fn Bool :=
  bindO (isiO .str (rd thing1)) fun b1 =>
  callT (if (!b1) = true then .rt true else
    bindO (intO (flat1 lenD (eD (rd thing1)))) fun n2 =>
    .rt (!(decide (1 ≤ n2) && decide (n2 ≤ 8)))) fun c1 =>
  if c1 = true then
    .rt false
  else
    bindO (itemsD (rd (rd thing1))) fun ds1 =>
    callT (compG C_is_name_1 ds1 ()) fun (ys1, _) =>
    .rt (ys1.all id)
def C_are_prices_1  (item1 : D) (_ : Unit) : Rc Unit Empty (Bool × Unit) :=
  callT (if (isNon (rd item1)) = true then .rt true else
    callT (T_is_number (rd item1) 0 9) fun r4 =>
    .rt r4) fun c3 =>
  .rt (c3, ())
def T_are_prices (row1 : D) (posts1 : Int) : Fn Bool :=
  bindO (isiO .tuple (rd row1)) fun b1 =>
  callT (if (!b1) = true then .rt true else
    bindO (intO (flat1 lenD (eD (rd row1)))) fun n2 =>
    .rt (!decide (n2 = posts1))) fun c1 =>
  if c1 = true then
    .rt false
  else
    bindO (itemsD (rd (rd row1))) fun ds1 =>
    callT (compG C_are_prices_1 ds1 ()) fun (ys1, _) =>
    if (!(ys1.all id)) = true then
      .rt false
    else
      bindO (itemsD (rd (rd row1))) fun ds2 =>
      bindO (mapO (fun (item2 : D) => (!isNon (rd item2))) ds2) fun ys2 =>
      .rt (ys2.any id)
def L_are_requests_1 (requests1 : D) (posts1 : Int) (name1 : D) (_ : Unit) : Rc Unit Unit Bool :=
  callT (T_is_name (rd name1)) fun r1 =>
  callT (if (!r1) = true then .rt true else
    bindO (subV (eD (rd requests1)) (eD (rd name1))) fun x2 =>
    callT (T_are_prices x2 posts1) fun r3 =>
    .rt (!r3)) fun c2 =>
  if c2 = true then
    .rt false
  else
    .nx ()
def T_are_requests (requests1 : D) (posts1 : Int) : Fn Bool :=
  bindO (isiO .dict (rd requests1)) fun b1 =>
  callT (if (!b1) = true then .rt true else
    bindO (intO (flat1 lenD (eD (rd requests1)))) fun n2 =>
    .rt (!(decide (1 ≤ n2) && decide (n2 ≤ 5)))) fun c1 =>
  if c1 = true then
    .rt false
  else
    bindO (keysD (rd requests1)) fun ks1 =>
    bindC (noexC (forT (L_are_requests_1 requests1 posts1) ks1 ())) fun _ =>
    .rt true
def L_least_ways_3 (c1 : Int) (a1 : Int) (b1 : Int) (ways3 : (List (List Int))) : Rc (List (List Int)) (List (List Int)) (List (List Int)) :=
  bindO (qat2 ways3 (some a1) (some b1)) fun x1 =>
  bindO (qat2 ways3 (some a1) (some c1)) fun x2 =>
  bindO (qat2 ways3 (some c1) (some b1)) fun x3 =>
  bindO (set2O ways3 (some a1) (some b1) (if (x2 + x3) < x1 then (x2 + x3) else x1)) fun ways4 =>
  .nx ways4
def L_least_ways_2 (posts1 : Int) (c1 : Int) (a1 : Int) (ways2 : (List (List Int))) : Rc (List (List Int)) (List (List Int)) (List (List Int)) :=
  bindO (rng1O posts1) fun ns3 =>
  bindC (forT (L_least_ways_3 c1 a1) ns3 ways2) fun ways3 =>
  .nx ways3
def L_least_ways_1 (posts1 : Int) (c1 : Int) (ways1 : (List (List Int))) : Rc (List (List Int)) (List (List Int)) (List (List Int)) :=
  bindO (rng1O posts1) fun ns2 =>
  bindC (forT (L_least_ways_2 posts1 c1) ns2 ways1) fun ways2 =>
  .nx ways2
def T_least_ways (moves1 : (List (List Int))) : Fn (List (List Int)) :=
  bindV (moves1.length : Int) fun posts1 =>
  bindO (mapO (fun (row1 : (List Int)) => row1) moves1) fun ys1 =>
  bindO (rng1O posts1) fun ns1 =>
  bindC (forT (L_least_ways_1 posts1) ns1 ys1) fun ways1 =>
  bindO (mapO (fun (row2 : (List Int)) => row2) ways1) fun ys2 =>
  .rt ys2
structure O_System where
  moves : (List (List Int))
  posts : Int
  names : (List Str)
  prices : (List (Str × (List (Option Int))))
  ways : (List (List Int))
def eC_System (o : Bool) (x : O_System) : D := .bx o (.ins 6 [0, 5, 3, 11, 12]) [((eQ false .tup (eQ false .tup eI)) x.moves), (eI x.posts), ((eQ false .tup eS) x.names), ((eM o kS (eQ false .tup (eO eI))) x.prices), ((eQ false .tup (eQ false .tup eI)) x.ways)]
theorem fzC_System (o : Bool) (x : O_System) : fz (eC_System o x) = eC_System false x := ins_fz (fzs_cons ((fz_Q (fz_Q (fun _ => rfl))) _) (fzs_cons ((fun _ => rfl) _) (fzs_cons ((fz_Q (fun _ => rfl)) _) (fzs_cons ((fz_M (fz_Q (fz_O (fun _ => rfl)))) _) (fzs_cons ((fz_Q (fz_Q (fun _ => rfl))) _) rfl)))))
theorem rdC_System (o : Bool) (x : O_System) : rd (eC_System o x) = eC_System false x := by cases o with | true => exact fzC_System true x | false => rfl
def C_System_init_1 (requests1 : (List (Str × (List (Option Int))))) (name1 : Str) : Rc Empty Empty (Str × (List (Option Int))) :=
  bindO (lookM requests1 name1) fun x2 =>
  .rt (name1, x2)
def T_System_init (moves1 : (List (List Int))) (requests1 : (List (Str × (List (Option Int))))) : Fn O_System :=
  callT (T_are_moves ((eQ false .tup (eQ false .tup eI)) moves1)) fun r1 =>
  if (!r1) = true then
    .no
  else
    callT (T_are_requests ((eM false kS (eQ false .tup (eO eI))) requests1) (moves1.length : Int)) fun r2 =>
    if (!r2) = true then
      .no
    else
      bindV moves1 fun moves2 =>
      bindV (moves1.length : Int) fun posts1 =>
      bindO (sortSO (requests1.map (·.1))) fun names1 =>
      bindV names1 fun names2 =>
      callT (dcompG (C_System_init_1 requests1) names2) fun m1 =>
      bindV m1 fun prices1 =>
      callT (T_least_ways moves1) fun r3 =>
      bindV r3 fun ways1 =>
      .rt (⟨moves2, posts1, names2, prices1, ways1⟩ : O_System)
def L__law_turned_1 (row1 : (List (Str × (List (Option Int))))) (name1 : Str) (other1 : (List (Str × (List (Option Int))))) : Rc (List (Str × (List (Option Int)))) (List (Str × (List (Option Int)))) (List (Str × (List (Option Int)))) :=
  bindO (lookM row1 name1) fun x1 =>
  bindO (putO other1 name1 x1) fun other2 =>
  .nx other2
def T__law_turned (row1 : (List (Str × (List (Option Int))))) : Fn (List (Str × (List (Option Int)))) :=
  bindC (forT (L__law_turned_1 row1) ((row1.map (·.1)).reverse) ([])) fun other1 =>
  .rt other1
def T_System_has (self1 : O_System) (name1 : Str) : Fn Bool :=
  callT (T_is_name (eS name1)) fun r1 =>
  .rt (r1 && (keyM self1.prices name1))
def T_System_served (self1 : O_System) (name1 : Str) (post1 : Int) : Fn (Option Int) :=
  callN (T_System_has self1 name1) fun r1 =>
  if (!r1) = true then
    .no
  else
    callT (T_is_number (eI post1) 0 (self1.posts - 1)) fun r2 =>
    if (!r2) = true then
      .no
    else
      bindO (lookM self1.prices name1) fun x1 =>
      bindO (atI x1 post1) fun x2 =>
      .rt x2
def T_item_text (item1 : (Option Int)) : Fn Str :=
  caseO item1
    (.rt ("-" : Str))
    fun item2 =>
      bindO (strI item2) fun text1 =>
      .rt text1
def C_system_text_5  (line1 : Str) (_ : Unit) : Rc Unit Empty (Str × Unit) :=
  bindO (catS line1 ("\n" : Str)) fun text6 =>
  .rt (text6, ())
def C_system_text_4 (system1 : O_System) (name1 : Str) (post1 : Int) (_ : Unit) : Rc Unit Empty (Str × Unit) :=
  callN (T_System_served system1 name1 post1) fun r3 =>
  callT (T_item_text r3) fun r4 =>
  .rt (r4, ())
def L_system_text_3 (system1 : O_System) (name1 : Str) (lines3 : (List Str)) : Rc (List Str) (List Str) Str :=
  bindO (rng1O system1.posts) fun ns1 =>
  callT (compG (C_system_text_4 system1 name1) ns1 ()) fun (ys2, _) =>
  bindO (catL ([("request" : Str), name1]) ys2) fun xs2 =>
  bindO (joinO (" " : Str) xs2) fun text4 =>
  bindO (appO lines3 text4) fun lines4 =>
  .nx lines4
def C_system_text_2  (step1 : Int) (_ : Unit) : Rc Unit Empty (Str × Unit) :=
  bindO (strI step1) fun text2 =>
  .rt (text2, ())
def L_system_text_1  (row1 : (List Int)) (lines1 : (List Str)) : Rc (List Str) (List Str) Str :=
  callT (compG C_system_text_2 row1 ()) fun (ys1, _) =>
  bindO (catL ([("post" : Str)]) ys1) fun xs1 =>
  bindO (joinO (" " : Str) xs1) fun text3 =>
  bindO (appO lines1 text3) fun lines2 =>
  .nx lines2
def T_system_text (system1 : O_System) : Fn Str :=
  bindC (forT L_system_text_1 system1.moves ([])) fun lines1 =>
  bindC (forT (L_system_text_3 system1) system1.names lines1) fun lines3 =>
  callT (compG C_system_text_5 lines3 ()) fun (ys3, _) =>
  bindO (joinO ("" : Str) ys3) fun text7 =>
  .rt text7
def T__law_is (text1 : Str) (due1 : Str) : Fn Bool :=
  callT (if true = true then
    .rt (decide (text1 = due1))
  else .rt false) fun c1 =>
  .rt c1
def C__law_machine_text_2 (row1 : (List (Str × Int))) (name1 : Str) (_ : Unit) : Rc Unit Empty (Str × Unit) :=
  bindO (catS name1 (":" : Str)) fun text6 =>
  bindO (lookM row1 name1) fun x2 =>
  bindO (strI x2) fun text7 =>
  bindO (catS text6 text7) fun text8 =>
  .rt (text8, ())
def L__law_machine_text_1  (row1 : (List (Str × Int))) (text1 : Str) : Rc Str Str Str :=
  bindO (catS text1 ("state " : Str)) fun text2 =>
  bindO (sortSO (row1.map (·.1))) fun names1 =>
  callT (compG (C__law_machine_text_2 row1) names1 ()) fun (ys1, _) =>
  bindO (joinO (" " : Str) ys1) fun text9 =>
  bindO (catS text2 text9) fun text10 =>
  bindO (catS text10 ("\n" : Str)) fun text11 =>
  .nx text11
def T__law_machine_text (turns1 : (List (List (Str × Int)))) : Fn Str :=
  bindC (forT L__law_machine_text_1 turns1 ("" : Str)) fun text1 =>
  .rt text1
def L_are_turns_2 (turns1 : D) (row1 : D) (name1 : D) (_ : Unit) : Rc Unit Unit Bool :=
  callT (T_is_name (rd name1)) fun r1 =>
  callT (if (!r1) = true then .rt true else
    bindO (subV (eD (rd row1)) (eD (rd name1))) fun x2 =>
    bindO (intO (flat1 lenD (eD (rd turns1)))) fun n6 =>
    callT (T_is_number x2 0 (n6 - 1)) fun r3 =>
    .rt (!r3)) fun c3 =>
  if c3 = true then
    .rt false
  else
    .nx ()
def L_are_turns_1 (turns1 : D) (row1 : D) (_ : Unit) : Rc Unit Unit Bool :=
  bindO (isiO .dict (rd row1)) fun b2 =>
  callT (if (!b2) = true then .rt true else
    bindO (intO (flat1 lenD (eD (rd row1)))) fun n4 =>
    .rt (decide (n4 = 0))) fun c2 =>
  if c2 = true then
    .rt false
  else
    bindO (keysD (rd row1)) fun ks1 =>
    bindC (noexC (forT (L_are_turns_2 turns1 row1) ks1 ())) fun _ =>
    .nx ()
def T_are_turns (turns1 : D) : Fn Bool :=
  bindO (isiO .tuple (rd turns1)) fun b1 =>
  callT (if (!b1) = true then .rt true else
    bindO (intO (flat1 lenD (eD (rd turns1)))) fun n2 =>
    .rt (!(decide (1 ≤ n2) && decide (n2 ≤ 4)))) fun c1 =>
  if c1 = true then
    .rt false
  else
    bindO (itemsD (rd (rd turns1))) fun ds1 =>
    bindC (forT (L_are_turns_1 turns1) ds1 ()) fun _ =>
    .rt true
def C_copied_turns_2 (row1 : (List (Str × Int))) (name2 : Str) : Rc Empty Empty (Str × Int) :=
  bindO (lookM row1 name2) fun x4 =>
  .rt (name2, x4)
def C_copied_turns_1  (row1 : (List (Str × Int))) (_ : Unit) : Rc Unit Empty ((List (Str × Int)) × Unit) :=
  bindO (sortSO (row1.map (·.1))) fun names2 =>
  callT (dcompG (C_copied_turns_2 row1) names2) fun m2 =>
  .rt (m2, ())
def T_copied_turns (turns1 : (List (List (Str × Int)))) : Fn (List (List (Str × Int))) :=
  callT (compG C_copied_turns_1 turns1 ()) fun (ys1, _) =>
  .rt ys1
structure O_Machine where
  states : Int
  steps : (List (List (Str × Int)))
def eC_Machine (o : Bool) (x : O_Machine) : D := .bx o (.ins 7 [14, 15]) [(eI x.states), ((eQ false .tup (eM false kS eI)) x.steps)]
theorem fzC_Machine (o : Bool) (x : O_Machine) : fz (eC_Machine o x) = eC_Machine false x := ins_fz (fzs_cons ((fun _ => rfl) _) (fzs_cons ((fz_Q (fz_M (fun _ => rfl))) _) rfl))
theorem rdC_Machine (o : Bool) (x : O_Machine) : rd (eC_Machine o x) = eC_Machine false x := by cases o with | true => exact fzC_Machine true x | false => rfl
def T_Machine_init (turns1 : (List (List (Str × Int)))) : Fn O_Machine :=
  callT (T_are_turns ((eQ false .tup (eM false kS eI)) turns1)) fun r1 =>
  if (!r1) = true then
    .no
  else
    bindV (turns1.length : Int) fun states1 =>
    callT (T_copied_turns turns1) fun r2 =>
    bindV r2 fun steps1 =>
    .rt (⟨states1, steps1⟩ : O_Machine)
def L__law_turned_2_1 (row1 : (List (Str × Int))) (name1 : Str) (other1 : (List (Str × Int))) : Rc (List (Str × Int)) (List (Str × Int)) (List (Str × Int)) :=
  bindO (lookM row1 name1) fun x1 =>
  bindO (putO other1 name1 x1) fun other2 =>
  .nx other2
def T__law_turned_2 (row1 : (List (Str × Int))) : Fn (List (Str × Int)) :=
  bindC (forT (L__law_turned_2_1 row1) ((row1.map (·.1)).reverse) ([])) fun other1 =>
  .rt other1
def T_Machine_turns (self1 : O_Machine) : Fn (List (List (Str × Int))) :=
  callT (T_copied_turns self1.steps) fun r1 =>
  .rt r1
def C_machine_text_2 (row1 : (List (Str × Int))) (name1 : Str) (_ : Unit) : Rc Unit Empty (Str × Unit) :=
  bindO (catS name1 (":" : Str)) fun text4 =>
  bindO (lookM row1 name1) fun x2 =>
  bindO (strI x2) fun text5 =>
  bindO (catS text4 text5) fun text6 =>
  .rt (text6, ())
def L_machine_text_1  (row1 : (List (Str × Int))) (lines1 : (List Str)) : Rc (List Str) (List Str) Str :=
  bindO (sortSO (row1.map (·.1))) fun names1 =>
  callT (compG (C_machine_text_2 row1) names1 ()) fun (ys1, _) =>
  bindO (catL ([("state" : Str)]) ys1) fun xs1 =>
  bindO (joinO (" " : Str) xs1) fun text7 =>
  bindO (catS text7 ("\n" : Str)) fun text8 =>
  bindO (appO lines1 text8) fun lines2 =>
  .nx lines2
def T_machine_text (machine1 : O_Machine) : Fn Str :=
  callN (T_Machine_turns machine1) fun r1 =>
  bindC (forT L_machine_text_1 r1 ([])) fun lines1 =>
  bindO (joinO ("" : Str) lines1) fun text9 =>
  .rt text9
def T_hint_text (hint1 : (Option Str)) : Fn Str :=
  caseO hint1
    (.rt ("-" : Str))
    fun hint2 =>
      .rt hint2
def C_view_text_1  (offset1 : Int) (_ : Unit) : Rc Unit Empty (Str × Unit) :=
  bindO (strI offset1) fun text2 =>
  .rt (text2, ())
def T_view_text (view1 : (Int × Int × (List Int) × (Option Str))) : Fn Str :=
  callT (compG C_view_text_1 view1.2.2.1 ()) fun (ys1, _) =>
  bindO (joinO ("," : Str) ys1) fun text3 =>
  bindO (strI view1.1) fun text4 =>
  bindO (jcat Str.empty text4) fun text5 =>
  bindO (jcat text5 (" " : Str)) fun text6 =>
  bindO (strI view1.2.1) fun text7 =>
  bindO (jcat text6 text7) fun text8 =>
  bindO (jcat text8 (" " : Str)) fun text9 =>
  bindO (fmtO text3) fun text10 =>
  bindO (jcat text9 text10) fun text11 =>
  bindO (jcat text11 (" " : Str)) fun text12 =>
  callT (T_hint_text view1.2.2.2) fun r1 =>
  bindO (fmtO r1) fun text13 =>
  bindO (jcat text12 text13) fun text14 =>
  .rt text14
def T__law_item_2 (item1 : (Option Str)) : Fn Str :=
  caseO item1
    (.rt ("-" : Str))
    fun item2 =>
      .rt item2
def C__law_view_text_1  (offset1 : Int) (_ : Unit) : Rc Unit Empty (Str × Unit) :=
  bindO (strI offset1) fun text2 =>
  .rt (text2, ())
def T__law_view_text (view1 : (Int × Int × (List Int) × (Option Str))) : Fn Str :=
  callT (compG C__law_view_text_1 view1.2.2.1 ()) fun (ys1, _) =>
  bindO (joinO ("," : Str) ys1) fun text3 =>
  bindO (strI view1.1) fun text4 =>
  bindO (catS text4 (" " : Str)) fun text5 =>
  bindO (strI view1.2.1) fun text6 =>
  bindO (catS text5 text6) fun text7 =>
  bindO (catS text7 (" " : Str)) fun text8 =>
  bindO (catS text8 text3) fun text9 =>
  bindO (catS text9 (" " : Str)) fun text10 =>
  callT (T__law_item_2 view1.2.2.2) fun r1 =>
  bindO (catS text10 r1) fun text11 =>
  .rt text11
def T_first_offsets (system1 : O_System) : Fn (List Int) :=
  bindO (atI system1.ways 0) fun x1 =>
  .rt x1
def T_first_view (system1 : O_System) : Fn (Int × Int × (List Int) × Unit) :=
  callT (T_first_offsets system1) fun r1 =>
  .rt (0, 0, r1, ())
def C_view_text_2_1  (offset1 : Int) (_ : Unit) : Rc Unit Empty (Str × Unit) :=
  bindO (strI offset1) fun text2 =>
  .rt (text2, ())
def T_view_text_2 (view1 : (Int × Int × (List Int) × Unit)) : Fn Str :=
  callT (compG C_view_text_2_1 view1.2.2.1 ()) fun (ys1, _) =>
  bindO (joinO ("," : Str) ys1) fun text3 =>
  bindO (strI view1.1) fun text4 =>
  bindO (jcat Str.empty text4) fun text5 =>
  bindO (jcat text5 (" " : Str)) fun text6 =>
  bindO (strI view1.2.1) fun text7 =>
  bindO (jcat text6 text7) fun text8 =>
  bindO (jcat text8 (" " : Str)) fun text9 =>
  bindO (fmtO text3) fun text10 =>
  bindO (jcat text9 text10) fun text11 =>
  bindO (jcat text11 (" " : Str)) fun text12 =>
  callT (T_hint_text none) fun r1 =>
  bindO (fmtO r1) fun text13 =>
  bindO (jcat text12 text13) fun text14 =>
  .rt text14
def T_renting (price1 : Int) : Fn O_System :=
  callT (T_is_number (eI price1) 1 9) fun r1 =>
  if (!r1) = true then
    .no
  else
    callN (T_System_init ([[0, price1], [0, 0]]) (([(("day" : Str), (1, (some 0))), (("over" : Str), (0, none))] : (List (Str × (Int × (Option Int))))).map fun p => (p.1, [(some p.2.1), p.2.2]))) fun o1 =>
    .rt o1
def C_system_text_2_5  (line1 : Str) (_ : Unit) : Rc Unit Empty (Str × Unit) :=
  bindO (catS line1 ("\n" : Str)) fun text6 =>
  .rt (text6, ())
def C_system_text_2_4 (system1 : O_System) (name1 : Str) (post1 : Int) (_ : Unit) : Rc Unit Empty (Str × Unit) :=
  callN (T_System_served system1 name1 post1) fun r3 =>
  callT (T_item_text r3) fun r4 =>
  .rt (r4, ())
def L_system_text_2_3 (system1 : O_System) (name1 : Str) (lines3 : (List Str)) : Rc (List Str) (List Str) Str :=
  bindO (rng1O system1.posts) fun ns1 =>
  callT (compG (C_system_text_2_4 system1 name1) ns1 ()) fun (ys2, _) =>
  bindO (catL ([("request" : Str), name1]) ys2) fun xs2 =>
  bindO (joinO (" " : Str) xs2) fun text4 =>
  bindO (appO lines3 text4) fun lines4 =>
  .nx lines4
def C_system_text_2_2  (step1 : Int) (_ : Unit) : Rc Unit Empty (Str × Unit) :=
  bindO (strI step1) fun text2 =>
  .rt (text2, ())
def L_system_text_2_1  (row1 : (List Int)) (lines1 : (List Str)) : Rc (List Str) (List Str) Str :=
  callT (compG C_system_text_2_2 row1 ()) fun (ys1, _) =>
  bindO (catL ([("post" : Str)]) ys1) fun xs1 =>
  bindO (joinO (" " : Str) xs1) fun text3 =>
  bindO (appO lines1 text3) fun lines2 =>
  .nx lines2
def T_system_text_2 (system1 : O_System) : Fn Str :=
  bindC (forT L_system_text_2_1 system1.moves ([])) fun lines1 =>
  bindC (forT (L_system_text_2_3 system1) system1.names lines1) fun lines3 =>
  callT (compG C_system_text_2_5 lines3 ()) fun (ys3, _) =>
  bindO (joinO ("" : Str) ys3) fun text7 =>
  .rt text7
def C_law_2  (way1 : Int) (_ : Unit) : Rc Unit Empty (Str × Unit) :=
  bindO (strI way1) fun text2 =>
  .rt (text2, ())
def C_law_1  (row2 : (List (Str × Int))) (_ : Unit) : Rc Unit Empty ((List (Str × Int)) × Unit) :=
  callT (T__law_turned_2 row2) fun r28 =>
  .rt (r28, ())
def T_law (script1 : (List Int)) : Fn Bool :=
  callT (T__law_stock script1 0) fun r1 =>
  callT (T__law_draw r1 5) fun (r2, stock1) =>
  callT (T__law_names stock1 (1 + r2)) fun (r3, stock2) =>
  callT (T__law_draw stock2 6) fun (r4, stock3) =>
  bindV (1 + r4) fun posts1 =>
  callT (T__law_moves stock3 posts1 9) fun (r5, stock4) =>
  callT (T__law_requests stock4 r3 posts1 9) fun (r6, stock5) =>
  callT (T__law_stock script1 1) fun r7 =>
  callT (T__law_draw r7 4) fun (r8, stock6) =>
  callT (T__law_turns stock6 r3 (1 + r8)) fun (r9, stock7) =>
  callT (T__law_stock script1 2) fun r10 =>
  callT (T__law_ways r5) fun r11 =>
  bindO (catL ((r3 : (List Str)).map fun y => (some y)) (([()] : (List Unit)).map fun y => none)) fun xs1 =>
  callT (T__law_draw r10 ((r3.length : Int) + 1)) fun (r12, stock8) =>
  bindO (atI xs1 r12) fun x1 =>
  callT (T__law_draw stock8 4) fun (r13, stock9) =>
  callT (T__law_draw stock9 posts1) fun (r14, stock10) =>
  callT (T__law_offsets stock10 r11) fun (r15, stock11) =>
  bindV (r13, r14, r15, x1) fun view1 =>
  callT (T__law_stock script1 3) fun r16 =>
  callT (T__law_draw r16 9) fun (r17, z1) =>
  bindV (1 + r17) fun price1 =>
  callT (T__law_system_text r5 r6) fun r18 =>
  callN (T_System_init r5 r6) fun o1 =>
  callT (T__law_turned r6) fun r19 =>
  callN (T_System_init r5 r19) fun o2 =>
  callT (T_system_text o1) fun r20 =>
  callT (T__law_is r20 r18) fun r21 =>
  callT (if (!r21) = true then .rt true else
    callT (T_system_text o2) fun r24 =>
    callT (T__law_is r24 r18) fun r25 =>
    .rt (!r25)) fun c1 =>
  if c1 = true then
    .rt false
  else
    callT (T__law_machine_text r9) fun r26 =>
    bindO (mapO (fun (row1 : (List (Str × Int))) => row1) r9) fun ys1 =>
    callN (T_Machine_init ys1) fun o3 =>
    callT (compG C_law_1 r9 ()) fun (ys2, _) =>
    callN (T_Machine_init ys2) fun o4 =>
    callT (T_machine_text o3) fun r29 =>
    callT (T__law_is r29 r26) fun r30 =>
    callT (if (!r30) = true then .rt true else
      callT (T_machine_text o4) fun r33 =>
      callT (T__law_is r33 r26) fun r34 =>
      .rt (!r34)) fun c2 =>
    if c2 = true then
      .rt false
    else
      callT (T_view_text view1) fun r35 =>
      callT (T__law_view_text view1) fun r36 =>
      callT (T__law_is r35 r36) fun r37 =>
      if (!r37) = true then
        .rt false
      else
        callT (T_first_view o1) fun r38 =>
        callT (T_view_text_2 r38) fun r39 =>
        bindO (atI r11 0) fun x2 =>
        callT (compG C_law_2 x2 ()) fun (ys3, _) =>
        bindO (joinO ("," : Str) ys3) fun text3 =>
        bindO (catS ("0 0 " : Str) text3) fun text4 =>
        bindO (catS text4 (" -" : Str)) fun text5 =>
        callT (T__law_is r39 text5) fun r40 =>
        if (!r40) = true then
          .rt false
        else
          bindO (strI price1) fun text6 =>
          bindO (catS ("post 0 " : Str) text6) fun text7 =>
          bindO (catS text7 ("\npost 0 0\nrequest day 1 0\nrequest over 0 -\n" : Str)) fun text8 =>
          callT (T_renting price1) fun r41 =>
          callT (T_system_text_2 r41) fun r42 =>
          callT (T__law_is r42 text8) fun r43 =>
          .rt r43
end
end LawP

set_option maxHeartbeats 1000000
namespace LawP
open PySem L2 DL TL 
theorem tk__law_cell (script1 : (List Int)) (k1 : Int) : SimF (F__law_cell [((eQ false .scr eI) script1), (eI k1)]) (T__law_cell script1 k1) (fun q d _ => d = eI q) := by
  rw [F__law_cell_s]
  refine f_start ?_
  refine c_seq ?_
  refine c_if ?_
  refine x_b ?_
  refine x_op ?_
  refine x_vf rfl ((fun _ => rfl) _) ?_
  refine x_cb ?_
  refine x_cons ?_
  refine x_vf rfl ((fun _ => rfl) _) ?_
  refine x_nil ?_
  refine x_some (t_lenQ rfl) ?_
  refine x_some t_ltI ?_
  refine x_blc ?_
  refine q_if (fun _ => ?_) (fun _ => ?_)
  · refine c_seq ?_
    refine c_ret ?_
    refine x_cb ?_
    refine x_cons ?_
    refine x_op ?_
    refine x_m rfl (s' := [none, some (eI k1)]) rfl ?_
    refine x_m rfl (s' := [none, none]) rfl ?_
    refine x_optI eI (t_subQ rfl (fun _ => rfl)) fun x1 => ?_
    refine x_nil ?_
    refine x_some t_intI ?_
    exact q_rt rfl
  · refine c_skip ?_
    refine c_seq ?_
    refine c_ret ?_
    refine x_c ?_
    exact q_rt rfl
theorem tk__law_stock (script1 : (List Int)) (k1 : Int) : SimF (F__law_stock [((eQ false .scr eI) script1), (eI k1)]) (T__law_stock script1 k1) (fun q d _ => d = (eP3 true .lst eI eI eB) q) := by
  rw [F__law_stock_s]
  refine f_start ?_
  refine c_seq ?_
  refine c_asg ?_
  refine x_cb ?_
  refine x_cons ?_
  refine x_call ?_
  refine x_cons ?_
  refine x_m rfl (s' := [none, some (eI k1), none]) rfl ?_
  refine x_cons ?_
  refine x_vf rfl ((fun _ => rfl) _) ?_
  refine x_nil ?_
  refine x_pos rfl ?_
  refine x_callK _ (tk__law_cell script1 k1) ?_ (fun _ _ => trivial)
  rintro r1 _ ps rfl
  rw [(gb_all rfl : gb [none, none] ps [none, some (eI k1), none] = _)]
  refine x_nil ?_
  refine x_some t_absI ?_
  refine y_asg eI (absZ r1) (st := fun number1 => [none, some (eI k1), some (eI number1)]) rfl (fun _ => rfl) fun number1 => ?_
  refine c_seq ?_
  refine c_if ?_
  refine x_b ?_
  refine x_op ?_
  refine x_vf rfl ((fun _ => rfl) _) ?_
  refine x_op ?_
  refine x_c ?_
  refine x_c ?_
  refine x_optI eI t_powI fun x1 => ?_
  refine x_some t_geI ?_
  refine x_blc ?_
  refine q_if (fun _ => ?_) (fun _ => ?_)
  · refine c_seq ?_
    refine c_ret ?_
    refine y_lst ?_
    refine x_cons ?_
    refine x_m rfl (s' := [none, some (eI k1), none]) rfl ?_
    refine x_cons ?_
    refine x_c ?_
    refine x_cons ?_
    refine x_c ?_
    refine x_nil ?_
    refine x_okl (d' := ((eP3 true .lst eI eI eB) (number1, 0, true))) 3 rfl (by decide) rfl ?_
    exact q_rt rfl
  · refine c_skip ?_
    refine c_seq ?_
    refine c_ret ?_
    refine y_lst ?_
    refine x_cons ?_
    refine x_op ?_
    refine x_op ?_
    refine x_m rfl (s' := [none, some (eI k1), none]) rfl ?_
    refine x_c ?_
    refine x_optI eI t_mulI fun x2 => ?_
    refine x_m rfl (s' := [none, none, none]) rfl ?_
    refine x_some t_addI ?_
    refine x_cons ?_
    refine x_c ?_
    refine x_cons ?_
    refine x_c ?_
    refine x_nil ?_
    refine x_okl (d' := ((eP3 true .lst eI eI eB) ((x2 + k1), 0, false))) 3 rfl (by decide) rfl ?_
    exact q_rt rfl
theorem tk__law_draw (stock1 : (Int × Int × Bool)) (many1 : Int) : SimF (F__law_draw [((eP3 true .lst eI eI eB) stock1), (eI many1)]) (T__law_draw stock1 many1) (fun q d ps => d = eI q.1 ∧ ps[0]? = some (some ((eP3 true .lst eI eI eB) q.2))) := by
  rw [F__law_draw_s]
  refine f_start ?_
  refine c_seq ?_
  refine c_asg ?_
  refine x_subS rfl ?_
  refine x_c ?_
  refine x_subNP (d := (eI stock1.1)) 3 0 rfl rfl rfl (by decide) rfl rfl ?_
  refine y_asg eI stock1.1 (st := fun number1 => [some ((eP3 true .lst eI eI eB) stock1), some (eI many1), some (eI number1), none]) rfl (fun _ => rfl) fun number1 => ?_
  refine c_seq ?_
  refine c_if ?_
  refine x_b ?_
  refine x_subS rfl ?_
  refine x_c ?_
  refine x_subNP (d := (eB stock1.2.2)) 3 2 rfl rfl rfl (by decide) rfl rfl ?_
  refine x_blc ?_
  refine q_if (fun _ => ?_) (fun _ => ?_)
  · refine c_seq ?_
    refine c_setS ?_
    refine x_op ?_
    refine x_vf rfl ((fun _ => rfl) _) ?_
    refine x_vf rfl ((fun _ => rfl) _) ?_
    refine x_optI eI t_divI fun x3 => ?_
    refine x_setSK rfl ?_
    refine x_c ?_
    refine x_setP (e := (eP3 true .lst eI eI eB)) (x3, stock1.2.1, stock1.2.2) (st := fun stock2 => [some ((eP3 true .lst eI eI eB) stock2), some (eI many1), some (eI number1), none]) 3 0 rfl rfl (by decide) rfl (fun _ => rfl) fun stock2 => ?_
    refine c_seq ?_
    refine c_ret ?_
    refine x_op ?_
    refine x_cb ?_
    refine x_cons ?_
    refine x_m rfl (s' := [some ((eP3 true .lst eI eI eB) stock2), some (eI many1), none, none]) rfl ?_
    refine x_nil ?_
    refine x_some t_intI ?_
    refine x_m rfl (s' := [some ((eP3 true .lst eI eI eB) stock2), none, none, none]) rfl ?_
    refine x_optI eI t_modI fun x4 => ?_
    exact q_rt ⟨rfl, rfl⟩
  · refine c_skip ?_
    refine c_seq ?_
    refine c_setS ?_
    refine x_op ?_
    refine x_subS rfl ?_
    refine x_c ?_
    refine x_subNP (d := (eI stock1.2.1)) 3 1 rfl rfl rfl (by decide) rfl rfl ?_
    refine x_c ?_
    refine x_some t_addI ?_
    refine x_setSK rfl ?_
    refine x_c ?_
    refine x_setP (e := (eP3 true .lst eI eI eB)) (stock1.1, (stock1.2.1 + 1), stock1.2.2) (st := fun stock3 => [some ((eP3 true .lst eI eI eB) stock3), some (eI many1), some (eI number1), none]) 3 1 rfl rfl (by decide) rfl (fun _ => rfl) fun stock3 => ?_
    refine c_seq ?_
    refine c_asg ?_
    refine x_op ?_
    refine x_cb ?_
    refine x_cons ?_
    refine x_op ?_
    refine x_op ?_
    refine x_op ?_
    refine x_m rfl (s' := [some ((eP3 true .lst eI eI eB) stock3), some (eI many1), none, none]) rfl ?_
    refine x_c ?_
    refine x_optI eI t_mulI fun x6 => ?_
    refine x_op ?_
    refine x_subS rfl ?_
    refine x_c ?_
    refine x_subNP (d := (eI stock3.2.1)) 3 1 rfl rfl rfl (by decide) rfl rfl ?_
    refine x_c ?_
    refine x_optI eI t_mulI fun x8 => ?_
    refine x_some t_addI ?_
    refine x_c ?_
    refine x_some t_addI ?_
    refine x_nil ?_
    refine x_some t_intI ?_
    refine x_c ?_
    refine x_optI eI t_modI fun x9 => ?_
    refine y_asgN rfl (s' := [some ((eP3 true .lst eI eI eB) stock3), some (eI many1), none, some (eI x9)]) rfl ?_
    refine c_seq ?_
    refine c_asg ?_
    refine x_op ?_
    refine x_cb ?_
    refine x_cons ?_
    refine x_op ?_
    refine x_vf rfl ((fun _ => rfl) _) ?_
    refine x_op ?_
    refine x_op ?_
    refine x_vf rfl ((fun _ => rfl) _) ?_
    refine x_c ?_
    refine x_optI eI t_divI fun x10 => ?_
    refine x_c ?_
    refine x_some t_addI ?_
    refine x_optI eI t_mulI fun x11 => ?_
    refine x_nil ?_
    refine x_some t_intI ?_
    refine x_c ?_
    refine x_optI eI t_modI fun x12 => ?_
    refine y_asgN rfl (s' := [some ((eP3 true .lst eI eI eB) stock3), some (eI many1), none, some (eI x12)]) rfl ?_
    refine c_seq ?_
    refine c_asg ?_
    refine x_op ?_
    refine x_cb ?_
    refine x_cons ?_
    refine x_op ?_
    refine x_vf rfl ((fun _ => rfl) _) ?_
    refine x_op ?_
    refine x_op ?_
    refine x_op ?_
    refine x_vf rfl ((fun _ => rfl) _) ?_
    refine x_c ?_
    refine x_optI eI t_divI fun x13 => ?_
    refine x_c ?_
    refine x_some t_addI ?_
    refine x_subS rfl ?_
    refine x_c ?_
    refine x_subNP (d := (eI stock3.2.1)) 3 1 rfl rfl rfl (by decide) rfl rfl ?_
    refine x_some t_addI ?_
    refine x_optI eI t_mulI fun x15 => ?_
    refine x_nil ?_
    refine x_some t_intI ?_
    refine x_c ?_
    refine x_optI eI t_modI fun x16 => ?_
    refine y_asgN rfl (s' := [some ((eP3 true .lst eI eI eB) stock3), some (eI many1), none, some (eI x16)]) rfl ?_
    refine c_seq ?_
    refine c_ret ?_
    refine x_op ?_
    refine x_cb ?_
    refine x_cons ?_
    refine x_op ?_
    refine x_m rfl (s' := [some ((eP3 true .lst eI eI eB) stock3), some (eI many1), none, none]) rfl ?_
    refine x_c ?_
    refine x_optI eI t_divI fun x17 => ?_
    refine x_nil ?_
    refine x_some t_intI ?_
    refine x_m rfl (s' := [some ((eP3 true .lst eI eI eB) stock3), none, none, none]) rfl ?_
    refine x_optI eI t_modI fun x18 => ?_
    exact q_rt ⟨rfl, rfl⟩
theorem tk__law_word (stock1 : (Int × Int × Bool)) : SimF (F__law_word [((eP3 true .lst eI eI eB) stock1)]) (T__law_word stock1) (fun q d ps => d = eS q.1 ∧ ps[0]? = some (some ((eP3 true .lst eI eI eB) q.2))) := by
  rw [F__law_word_s]
  refine f_start ?_
  refine c_seq ?_
  refine c_asg ?_
  refine x_c ?_
  refine y_asgN rfl (s' := [some ((eP3 true .lst eI eI eB) stock1), some (eS ("abcdefghijklmnopqrstuvwxyz" : Str)), none, none]) rfl ?_
  refine c_seq ?_
  refine c_asg ?_
  refine x_c ?_
  refine y_asgN rfl (s' := [some ((eP3 true .lst eI eI eB) stock1), some (eS ("abcdefghijklmnopqrstuvwxyz" : Str)), some (eS ("" : Str)), none]) rfl ?_
  refine c_seq ?_
  refine c_for ?_
  refine x_rng1 ?_
  refine x_cons ?_
  refine x_op ?_
  refine x_c ?_
  refine x_call ?_
  refine x_lend rfl ?_
  refine x_cons ?_
  refine x_c ?_
  refine x_nil ?_
  refine x_lck rfl (s' := [none, some (eS ("abcdefghijklmnopqrstuvwxyz" : Str)), some (eS ("" : Str)), none]) rfl ?_
  refine x_pos rfl ?_
  refine x_callK _ (tk__law_draw stock1 8) ?_ (fun _ _ => trivial)
  rintro ⟨r1, stock2⟩ _ ps ⟨rfl, h0⟩
  rw [((gb_one h0 rfl rfl).trans rfl : gb [some 0, none] ps [none, some (eS ("abcdefghijklmnopqrstuvwxyz" : Str)), some (eS ("" : Str)), none] = [some ((eP3 true .lst eI eI eB) stock2), some (eS ("abcdefghijklmnopqrstuvwxyz" : Str)), some (eS ("" : Str)), none])]
  refine x_some t_addI ?_
  refine x_nil ?_
  refine x_rng1K fun ns1 => ?_
  refine q_for (fun (v : ((Int × Int × Bool) × Str)) (s : S) => match v with | (stock3, word1) => ∃ u1 : Option D, s = [some ((eP3 true .lst eI eI eB) stock3), some (eS ("abcdefghijklmnopqrstuvwxyz" : Str)), some (eS word1), u1]) ⟨_, rfl⟩ ?_ ?_
  · rintro k1 ⟨stock3, word1⟩ _ ⟨u1, rfl⟩
    refine y_nm rfl (s' := [some ((eP3 true .lst eI eI eB) stock3), some (eS ("abcdefghijklmnopqrstuvwxyz" : Str)), some (eS word1), some (eI k1)]) rfl ?_
    refine c_seq ?_
    refine c_asg ?_
    refine x_op ?_
    refine x_m rfl (s' := [some ((eP3 true .lst eI eI eB) stock3), some (eS ("abcdefghijklmnopqrstuvwxyz" : Str)), none, some (eI k1)]) rfl ?_
    refine x_op ?_
    refine x_vf rfl ((fun _ => rfl) _) ?_
    refine x_call ?_
    refine x_lend rfl ?_
    refine x_cons ?_
    refine x_c ?_
    refine x_nil ?_
    refine x_lck rfl (s' := [none, some (eS ("abcdefghijklmnopqrstuvwxyz" : Str)), none, some (eI k1)]) rfl ?_
    refine x_pos rfl ?_
    refine x_callK _ (tk__law_draw stock3 26) ?_ (fun _ _ => trivial)
    rintro ⟨r2, stock4⟩ _ ps ⟨rfl, h0⟩
    rw [((gb_one h0 rfl rfl).trans rfl : gb [some 0, none] ps [none, some (eS ("abcdefghijklmnopqrstuvwxyz" : Str)), none, some (eI k1)] = [some ((eP3 true .lst eI eI eB) stock4), some (eS ("abcdefghijklmnopqrstuvwxyz" : Str)), none, some (eI k1)])]
    refine x_optI eS t_subS fun sign1 => ?_
    refine x_optI eS t_addS fun text1 => ?_
    refine y_asgN rfl (s' := [some ((eP3 true .lst eI eI eB) stock4), some (eS ("abcdefghijklmnopqrstuvwxyz" : Str)), some (eS text1), some (eI k1)]) rfl ?_
    refine c_skip ?_
    exact q_nx ⟨_, rfl⟩
  rintro ⟨stock3, word1⟩ _ ⟨u1, rfl⟩
  refine c_seq ?_
  refine c_ret ?_
  refine x_m rfl (s' := [some ((eP3 true .lst eI eI eB) stock3), some (eS ("abcdefghijklmnopqrstuvwxyz" : Str)), none, u1]) rfl ?_
  exact q_rt ⟨rfl, rfl⟩
theorem tk__law_names (stock1 : (Int × Int × Bool)) (many1 : Int) : SimF (F__law_names [((eP3 true .lst eI eI eB) stock1), (eI many1)]) (T__law_names stock1 many1) (fun q d ps => d = (eQ true .lst eS) q.1 ∧ ps[0]? = some (some ((eP3 true .lst eI eI eB) q.2))) := by
  rw [F__law_names_s]
  refine f_start ?_
  refine c_seq ?_
  refine c_asg ?_
  refine y_lst ?_
  refine x_nil ?_
  refine x_okl (d' := ((eQ true .lst eS) ([]))) 0 rfl (by decide) rfl ?_
  refine y_asgN rfl (s' := [some ((eP3 true .lst eI eI eB) stock1), some (eI many1), some ((eQ true .lst eS) ([])), none, none, none]) rfl ?_
  refine c_seq ?_
  refine c_for ?_
  refine x_rng1 ?_
  refine x_cons ?_
  refine x_m rfl (s' := [some ((eP3 true .lst eI eI eB) stock1), none, some ((eQ true .lst eS) ([])), none, none, none]) rfl ?_
  refine x_nil ?_
  refine x_rng1K fun ns1 => ?_
  refine q_for (fun (v : ((Int × Int × Bool) × (List Str))) (s : S) => match v with | (stock2, names1) => ∃ u1 u2 u3 : Option D, s = [some ((eP3 true .lst eI eI eB) stock2), none, some ((eQ true .lst eS) names1), u1, u2, u3]) ⟨_, _, _, rfl⟩ ?_ ?_
  · rintro k1 ⟨stock2, names1⟩ _ ⟨u1, u2, u3, rfl⟩
    refine y_nm rfl (s' := [some ((eP3 true .lst eI eI eB) stock2), none, some ((eQ true .lst eS) names1), some (eI k1), u2, u3]) rfl ?_
    refine c_seq ?_
    refine c_asg ?_
    refine x_call ?_
    refine x_lend rfl ?_
    refine x_cons ?_
    refine x_c ?_
    refine x_nil ?_
    refine x_lck rfl (s' := [none, none, some ((eQ true .lst eS) names1), some (eI k1), u2, u3]) rfl ?_
    refine x_pos rfl ?_
    refine x_callK _ (tk__law_draw stock2 3) ?_ (fun _ _ => trivial)
    rintro ⟨r1, stock3⟩ _ ps ⟨rfl, h0⟩
    rw [((gb_one h0 rfl rfl).trans rfl : gb [some 0, none] ps [none, none, some ((eQ true .lst eS) names1), some (eI k1), u2, u3] = [some ((eP3 true .lst eI eI eB) stock3), none, some ((eQ true .lst eS) names1), some (eI k1), u2, u3])]
    refine y_asgN rfl (s' := [some ((eP3 true .lst eI eI eB) stock3), none, some ((eQ true .lst eS) names1), some (eI k1), some (eI r1), u3]) rfl ?_
    refine c_seq ?_
    refine c_asg ?_
    refine x_call ?_
    refine x_lend rfl ?_
    refine x_nil ?_
    refine x_lck rfl (s' := [none, none, some ((eQ true .lst eS) names1), some (eI k1), some (eI r1), u3]) rfl ?_
    refine x_pos rfl ?_
    refine x_callK _ (tk__law_word stock3) ?_ (fun _ _ => trivial)
    rintro ⟨r2, stock4⟩ _ ps ⟨rfl, h0⟩
    rw [((gb_one h0 rfl rfl).trans rfl : gb [some 0] ps [none, none, some ((eQ true .lst eS) names1), some (eI k1), some (eI r1), u3] = [some ((eP3 true .lst eI eI eB) stock4), none, some ((eQ true .lst eS) names1), some (eI k1), some (eI r1), u3])]
    refine y_asgN rfl (s' := [some ((eP3 true .lst eI eI eB) stock4), none, some ((eQ true .lst eS) names1), some (eI k1), some (eI r1), some (eS r2)]) rfl ?_
    refine c_seq ?_
    refine c_if ?_
    refine x_and ?_
    refine x_b ?_
    refine x_opL rfl ?_
    refine y_lst ?_
    refine x_nil ?_
    refine x_okl (d' := ((eQ true .lst eS) ([]))) 0 rfl (by decide) rfl ?_
    refine x_opLK rfl ?_
    refine x_optI eB t_bool fun b1 => ?_
    refine x_blc ?_
    refine x_andJ (fun (_ : Bool) (s : S) => ∃ u4 : Option D, s = [some ((eP3 true .lst eI eI eB) stock4), none, some ((eQ true .lst eS) names1), some (eI k1), u4, some (eS r2)]) (fun _ => ?_) ⟨_, rfl⟩ ?_
    · refine x_b ?_
      refine x_op ?_
      refine x_m rfl (s' := [some ((eP3 true .lst eI eI eB) stock4), none, some ((eQ true .lst eS) names1), some (eI k1), none, some (eS r2)]) rfl ?_
      refine x_c ?_
      refine x_some t_eqI ?_
      refine x_blc ?_
      exact q_rt ⟨rfl, ⟨_, rfl⟩⟩
    rintro c1 _ ⟨u4, rfl⟩
    refine q_join (fun (name1 : Str) (s : S) => s = [some ((eP3 true .lst eI eI eB) stock4), none, some ((eQ true .lst eS) names1), some (eI k1), u4, some (eS name1)]) (fun _ => ?_) (fun _ => ?_) ?_
    · refine c_seq ?_
      refine c_asg ?_
      refine x_sl ?_
      refine x_op ?_
      refine x_subS rfl ?_
      refine x_un ?_
      refine x_c ?_
      refine x_some t_negI ?_
      refine x_subNQ rfl rfl (fun _ => rfl) fun x2 => ?_
      refine x_m rfl (s' := [some ((eP3 true .lst eI eI eB) stock4), none, some ((eQ true .lst eS) names1), some (eI k1), u4, none]) rfl ?_
      refine x_optI eS t_addS fun text2 => ?_
      refine x_p0 ?_
      refine x_p1 ?_
      refine x_c ?_
      refine x_p1K ?_
      refine x_optI eS t_slS fun cut2 => ?_
      refine y_asgN rfl (s' := [some ((eP3 true .lst eI eI eB) stock4), none, some ((eQ true .lst eS) names1), some (eI k1), u4, some (eS cut2)]) rfl ?_
      refine c_skip ?_
      exact q_nx rfl
    · refine c_skip ?_
      exact q_nx rfl
    rintro name1 _ rfl
    refine c_seq ?_
    refine c_if ?_
    refine x_b ?_
    refine x_opS ?_
    refine x_vf rfl ((fun _ => rfl) _) ?_
    refine x_opSK rfl ?_
    refine x_some (t_ninS rfl) ?_
    refine x_blc ?_
    refine q_join (fun (names3 : (List Str)) (s : S) => ∃ u5 : Option D, s = [some ((eP3 true .lst eI eI eB) stock4), none, some ((eQ true .lst eS) names3), some (eI k1), u4, u5]) (fun _ => ?_) (fun _ => ?_) ?_
    · refine c_seq ?_
      refine x_app rfl ?_
      refine x_m rfl (s' := [some ((eP3 true .lst eI eI eB) stock4), none, some ((eQ true .lst eS) names1), some (eI k1), u4, none]) rfl ?_
      refine x_appK eS (xs := names1) (v := name1) (st := fun names4 => [some ((eP3 true .lst eI eI eB) stock4), none, some ((eQ true .lst eS) names4), some (eI k1), u4, none]) rfl (fun _ => rfl) fun names4 => ?_
      refine c_skip ?_
      exact q_nx ⟨_, rfl⟩
    · refine c_skip ?_
      exact q_nx ⟨_, rfl⟩
    rintro names3 _ ⟨u5, rfl⟩
    refine c_skip ?_
    exact q_nx ⟨_, _, _, rfl⟩
  rintro ⟨stock2, names1⟩ _ ⟨u1, u2, u3, rfl⟩
  refine c_seq ?_
  refine c_ret ?_
  refine x_m rfl (s' := [some ((eP3 true .lst eI eI eB) stock2), none, none, u1, u2, u3]) rfl ?_
  exact q_rt ⟨rfl, rfl⟩
theorem tk__law_moves (stock1 : (Int × Int × Bool)) (posts1 : Int) (most1 : Int) : SimF (F__law_moves [((eP3 true .lst eI eI eB) stock1), (eI posts1), (eI most1)]) (T__law_moves stock1 posts1 most1) (fun q d ps => d = (eQ false .tup (eQ false .tup eI)) q.1 ∧ ps[0]? = some (some ((eP3 true .lst eI eI eB) q.2))) := by
  rw [F__law_moves_s]
  refine f_start ?_
  refine c_seq ?_
  refine c_asg ?_
  refine y_lst ?_
  refine x_nil ?_
  refine x_okl (d' := ((eQ true .lst (eQ false .tup eI)) ([]))) 0 rfl (by decide) rfl ?_
  refine y_asgN rfl (s' := [some ((eP3 true .lst eI eI eB) stock1), some (eI posts1), some (eI most1), some ((eQ true .lst (eQ false .tup eI)) ([])), none, none, none]) rfl ?_
  refine c_seq ?_
  refine c_for ?_
  refine x_rng1 ?_
  refine x_cons ?_
  refine x_vf rfl ((fun _ => rfl) _) ?_
  refine x_nil ?_
  refine x_rng1K fun ns1 => ?_
  refine q_for (fun (v : ((Int × Int × Bool) × (List (List Int)))) (s : S) => match v with | (stock2, moves1) => ∃ u1 u2 u3 : Option D, s = [some ((eP3 true .lst eI eI eB) stock2), some (eI posts1), some (eI most1), some ((eQ true .lst (eQ false .tup eI)) moves1), u1, u2, u3]) ⟨_, _, _, rfl⟩ ?_ ?_
  · rintro a1 ⟨stock2, moves1⟩ _ ⟨u1, u2, u3, rfl⟩
    refine y_nm rfl (s' := [some ((eP3 true .lst eI eI eB) stock2), some (eI posts1), some (eI most1), some ((eQ true .lst (eQ false .tup eI)) moves1), some (eI a1), u2, u3]) rfl ?_
    refine c_seq ?_
    refine x_app rfl ?_
    refine x_cb ?_
    refine x_cons ?_
    refine y_comp ?_
    refine x_rng1 ?_
    refine x_cons ?_
    refine x_vf rfl ((fun _ => rfl) _) ?_
    refine x_nil ?_
    refine x_rng1K fun ns2 => ?_
    refine y_qcomp eI (v0 := stock2) (fun (stock4 : (Int × Int × Bool)) (s : S) => s = [some ((eP3 true .lst eI eI eB) stock4), some (eI posts1), some (eI most1), some ((eQ true .lst (eQ false .tup eI)) moves1), some (eI a1), none, none]) (s' := [some ((eP3 true .lst eI eI eB) stock2), some (eI posts1), some (eI most1), some ((eQ true .lst (eQ false .tup eI)) moves1), some (eI a1), none, none]) ?_ rfl ?_ ?_
    · rfl
    · rintro b1 stock4 _ rfl
      refine q_step ?_
      refine y_nm rfl (s' := [some ((eP3 true .lst eI eI eB) stock4), some (eI posts1), some (eI most1), some ((eQ true .lst (eQ false .tup eI)) moves1), some (eI a1), none, some (eI b1)]) rfl ?_
      refine t_yes ?_
      refine q_true ?_
      refine x_op ?_
      refine x_call ?_
      refine x_lend rfl ?_
      refine x_cons ?_
      refine x_op ?_
      refine x_vf rfl ((fun _ => rfl) _) ?_
      refine x_c ?_
      refine x_some t_addI ?_
      refine x_nil ?_
      refine x_lck rfl (s' := [none, some (eI posts1), some (eI most1), some ((eQ true .lst (eQ false .tup eI)) moves1), some (eI a1), none, some (eI b1)]) rfl ?_
      refine x_pos rfl ?_
      refine x_callK _ (tk__law_draw stock4 (most1 + 1)) ?_ (fun _ _ => trivial)
      rintro ⟨r2, stock5⟩ _ ps ⟨rfl, h0⟩
      rw [((gb_one h0 rfl rfl).trans rfl : gb [some 0, none] ps [none, some (eI posts1), some (eI most1), some ((eQ true .lst (eQ false .tup eI)) moves1), some (eI a1), none, some (eI b1)] = [some ((eP3 true .lst eI eI eB) stock5), some (eI posts1), some (eI most1), some ((eQ true .lst (eQ false .tup eI)) moves1), some (eI a1), none, some (eI b1)])]
      refine x_cb ?_
      refine x_cons ?_
      refine x_op ?_
      refine x_vf rfl ((fun _ => rfl) _) ?_
      refine x_vf rfl ((fun _ => rfl) _) ?_
      refine x_some t_neI ?_
      refine x_nil ?_
      refine x_some t_intB ?_
      refine x_optI eI t_mulI fun x2 => ?_
      exact q_rtw rfl ⟨rfl, rfl⟩
    rintro ys1 stock4 _ rfl
    rw [show wipeD [some ((eP3 true .lst eI eI eB) stock4), some (eI posts1), some (eI most1), some ((eQ true .lst (eQ false .tup eI)) moves1), some (eI a1), none, none] [5, 6] = [some ((eP3 true .lst eI eI eB) stock4), some (eI posts1), some (eI most1), some ((eQ true .lst (eQ false .tup eI)) moves1), some (eI a1), none, none] from rfl]
    refine x_nil ?_
    refine x_some (t_tupL (fun _ => rfl)) ?_
    refine x_appK (eQ false .tup eI) (xs := moves1) (v := ys1) (st := fun moves2 => [some ((eP3 true .lst eI eI eB) stock4), some (eI posts1), some (eI most1), some ((eQ true .lst (eQ false .tup eI)) moves2), some (eI a1), none, none]) rfl (fun _ => rfl) fun moves2 => ?_
    refine c_skip ?_
    exact q_nx ⟨_, _, _, rfl⟩
  rintro ⟨stock2, moves1⟩ _ ⟨u1, u2, u3, rfl⟩
  refine c_seq ?_
  refine c_ret ?_
  refine x_cb ?_
  refine x_cons ?_
  refine x_m rfl (s' := [some ((eP3 true .lst eI eI eB) stock2), some (eI posts1), some (eI most1), none, u1, u2, u3]) rfl ?_
  refine x_nil ?_
  refine x_some (t_tupL (fun _ => rfl)) ?_
  exact q_rt ⟨rfl, rfl⟩
theorem tk__law_prices (stock1 : (Int × Int × Bool)) (posts1 : Int) (most1 : Int) : SimF (F__law_prices [((eP3 true .lst eI eI eB) stock1), (eI posts1), (eI most1)]) (T__law_prices stock1 posts1 most1) (fun q d ps => d = (eQ false .tup (eO eI)) q.1 ∧ ps[0]? = some (some ((eP3 true .lst eI eI eB) q.2))) := by
  rw [F__law_prices_s]
  refine f_start ?_
  refine c_seq ?_
  refine c_asg ?_
  refine x_call ?_
  refine x_lend rfl ?_
  refine x_cons ?_
  refine x_vf rfl ((fun _ => rfl) _) ?_
  refine x_nil ?_
  refine x_lck rfl (s' := [none, some (eI posts1), some (eI most1), none, none, none, none]) rfl ?_
  refine x_pos rfl ?_
  refine x_callK _ (tk__law_draw stock1 posts1) ?_ (fun _ _ => trivial)
  rintro ⟨r1, stock2⟩ _ ps ⟨rfl, h0⟩
  rw [((gb_one h0 rfl rfl).trans rfl : gb [some 0, none] ps [none, some (eI posts1), some (eI most1), none, none, none, none] = [some ((eP3 true .lst eI eI eB) stock2), some (eI posts1), some (eI most1), none, none, none, none])]
  refine y_asgN rfl (s' := [some ((eP3 true .lst eI eI eB) stock2), some (eI posts1), some (eI most1), some (eI r1), none, none, none]) rfl ?_
  refine c_seq ?_
  refine c_asg ?_
  refine y_lst ?_
  refine x_nil ?_
  refine x_okl (d' := ((eQ true .lst (eO eI)) ([]))) 0 rfl (by decide) rfl ?_
  refine y_asgN rfl (s' := [some ((eP3 true .lst eI eI eB) stock2), some (eI posts1), some (eI most1), some (eI r1), some ((eQ true .lst (eO eI)) ([])), none, none]) rfl ?_
  refine c_seq ?_
  refine c_for ?_
  refine x_rng1 ?_
  refine x_cons ?_
  refine x_vf rfl ((fun _ => rfl) _) ?_
  refine x_nil ?_
  refine x_rng1K fun ns1 => ?_
  refine q_for (fun (v : ((Int × Int × Bool) × (List (Option Int)))) (s : S) => match v with | (stock3, prices1) => ∃ u1 u2 : Option D, s = [some ((eP3 true .lst eI eI eB) stock3), some (eI posts1), some (eI most1), some (eI r1), some ((eQ true .lst (eO eI)) prices1), u1, u2]) ⟨_, _, rfl⟩ ?_ ?_
  · rintro b1 ⟨stock3, prices1⟩ _ ⟨u1, u2, rfl⟩
    refine y_nm rfl (s' := [some ((eP3 true .lst eI eI eB) stock3), some (eI posts1), some (eI most1), some (eI r1), some ((eQ true .lst (eO eI)) prices1), some (eI b1), u2]) rfl ?_
    refine c_seq ?_
    refine c_asg ?_
    refine x_call ?_
    refine x_lend rfl ?_
    refine x_cons ?_
    refine x_op ?_
    refine x_vf rfl ((fun _ => rfl) _) ?_
    refine x_c ?_
    refine x_some t_addI ?_
    refine x_nil ?_
    refine x_lck rfl (s' := [none, some (eI posts1), some (eI most1), some (eI r1), some ((eQ true .lst (eO eI)) prices1), some (eI b1), u2]) rfl ?_
    refine x_pos rfl ?_
    refine x_callK _ (tk__law_draw stock3 (most1 + 3)) ?_ (fun _ _ => trivial)
    rintro ⟨r2, stock4⟩ _ ps ⟨rfl, h0⟩
    rw [((gb_one h0 rfl rfl).trans rfl : gb [some 0, none] ps [none, some (eI posts1), some (eI most1), some (eI r1), some ((eQ true .lst (eO eI)) prices1), some (eI b1), u2] = [some ((eP3 true .lst eI eI eB) stock4), some (eI posts1), some (eI most1), some (eI r1), some ((eQ true .lst (eO eI)) prices1), some (eI b1), u2])]
    refine y_asgN rfl (s' := [some ((eP3 true .lst eI eI eB) stock4), some (eI posts1), some (eI most1), some (eI r1), some ((eQ true .lst (eO eI)) prices1), some (eI b1), some (eI r2)]) rfl ?_
    refine c_seq ?_
    refine c_if ?_
    refine x_b ?_
    refine x_op ?_
    refine x_vf rfl ((fun _ => rfl) _) ?_
    refine x_vf rfl ((fun _ => rfl) _) ?_
    refine x_some t_leI ?_
    refine x_blc ?_
    refine q_join (fun (prices4 : (List (Option Int))) (s : S) => ∃ u3 : Option D, s = [some ((eP3 true .lst eI eI eB) stock4), some (eI posts1), some (eI most1), some (eI r1), some ((eQ true .lst (eO eI)) prices4), some (eI b1), u3]) (fun _ => ?_) (fun _ => ?_) ?_
    · refine c_seq ?_
      refine x_app rfl ?_
      refine x_m rfl (s' := [some ((eP3 true .lst eI eI eB) stock4), some (eI posts1), some (eI most1), some (eI r1), some ((eQ true .lst (eO eI)) prices1), some (eI b1), none]) rfl ?_
      refine x_appK (eO eI) (xs := prices1) (v := (some r2)) (st := fun prices5 => [some ((eP3 true .lst eI eI eB) stock4), some (eI posts1), some (eI most1), some (eI r1), some ((eQ true .lst (eO eI)) prices5), some (eI b1), none]) rfl (fun _ => rfl) fun prices5 => ?_
      refine c_skip ?_
      exact q_nx ⟨_, rfl⟩
    · refine c_seq ?_
      refine x_app rfl ?_
      refine x_c ?_
      refine x_appK (eO eI) (xs := prices1) (v := none) (st := fun prices6 => [some ((eP3 true .lst eI eI eB) stock4), some (eI posts1), some (eI most1), some (eI r1), some ((eQ true .lst (eO eI)) prices6), some (eI b1), some (eI r2)]) rfl (fun _ => rfl) fun prices6 => ?_
      refine c_skip ?_
      exact q_nx ⟨_, rfl⟩
    rintro prices4 _ ⟨u3, rfl⟩
    refine c_skip ?_
    exact q_nx ⟨_, _, rfl⟩
  rintro ⟨stock3, prices1⟩ _ ⟨u1, u2, rfl⟩
  refine c_seq ?_
  refine c_if ?_
  refine x_b ?_
  refine x_opL rfl ?_
  refine x_op ?_
  refine y_lst ?_
  refine x_cons ?_
  refine x_c ?_
  refine x_nil ?_
  refine x_okl (d' := ((eQ true .lst eN) ([()]))) 1 rfl (by decide) rfl ?_
  refine x_m rfl (s' := [some ((eP3 true .lst eI eI eB) stock3), none, some (eI most1), some (eI r1), some ((eQ true .lst (eO eI)) prices1), u1, u2]) rfl ?_
  refine x_optI (eQ true .lst eN) (t_repL (fun _ => rfl)) fun xs1 => ?_
  refine x_opLK rfl ?_
  refine x_optI eB t_bool fun b2 => ?_
  refine x_blc ?_
  refine q_join (fun (v : ((Int × Int × Bool) × (List (Option Int)))) (s : S) => match v with | (stock6, prices8) => ∃ u4 : Option D, s = [some ((eP3 true .lst eI eI eB) stock6), none, u4, some (eI r1), some ((eQ true .lst (eO eI)) prices8), u1, u2]) (fun _ => ?_) (fun _ => ?_) ?_
  · refine c_seq ?_
    refine c_setS ?_
    refine x_call ?_
    refine x_lend rfl ?_
    refine x_cons ?_
    refine x_op ?_
    refine x_m rfl (s' := [some ((eP3 true .lst eI eI eB) stock3), none, none, some (eI r1), some ((eQ true .lst (eO eI)) prices1), u1, u2]) rfl ?_
    refine x_c ?_
    refine x_some t_addI ?_
    refine x_nil ?_
    refine x_lck rfl (s' := [none, none, none, some (eI r1), some ((eQ true .lst (eO eI)) prices1), u1, u2]) rfl ?_
    refine x_pos rfl ?_
    refine x_callK _ (tk__law_draw stock3 (most1 + 1)) ?_ (fun _ _ => trivial)
    rintro ⟨r4, stock7⟩ _ ps ⟨rfl, h0⟩
    rw [((gb_one h0 rfl rfl).trans rfl : gb [some 0, none] ps [none, none, none, some (eI r1), some ((eQ true .lst (eO eI)) prices1), u1, u2] = [some ((eP3 true .lst eI eI eB) stock7), none, none, some (eI r1), some ((eQ true .lst (eO eI)) prices1), u1, u2])]
    refine x_setSK rfl ?_
    refine x_vf rfl ((fun _ => rfl) _) ?_
    refine x_setAtQ (eO eI) (v := (some r4)) (st := fun prices9 => [some ((eP3 true .lst eI eI eB) stock7), none, none, some (eI r1), some ((eQ true .lst (eO eI)) prices9), u1, u2]) rfl (fun _ => rfl) fun prices9 => ?_
    refine c_skip ?_
    exact q_nx ⟨_, rfl⟩
  · refine c_skip ?_
    exact q_nx ⟨_, rfl⟩
  rintro ⟨stock6, prices8⟩ _ ⟨u4, rfl⟩
  refine c_seq ?_
  refine c_ret ?_
  refine x_cb ?_
  refine x_cons ?_
  refine x_m rfl (s' := [some ((eP3 true .lst eI eI eB) stock6), none, u4, some (eI r1), none, u1, u2]) rfl ?_
  refine x_nil ?_
  refine x_some (t_tupL (rd_O (fun _ => rfl))) ?_
  exact q_rt ⟨rfl, rfl⟩
theorem tk__law_requests (stock1 : (Int × Int × Bool)) (names1 : (List Str)) (posts1 : Int) (most1 : Int) : SimF (F__law_requests [((eP3 true .lst eI eI eB) stock1), ((eQ false .lst eS) names1), (eI posts1), (eI most1)]) (T__law_requests stock1 names1 posts1 most1) (fun q d ps => d = (eM true kS (eQ false .tup (eO eI))) q.1 ∧ ps[0]? = some (some ((eP3 true .lst eI eI eB) q.2))) := by
  rw [F__law_requests_s]
  refine f_start ?_
  refine c_seq ?_
  refine c_asg ?_
  refine x_c ?_
  refine y_asgN rfl (s' := [some ((eP3 true .lst eI eI eB) stock1), some ((eQ false .lst eS) names1), some (eI posts1), some (eI most1), some ((eM true kS (eQ false .tup (eO eI))) ([])), none]) rfl ?_
  refine c_seq ?_
  refine c_for ?_
  refine x_it ?_
  refine x_m rfl (s' := [some ((eP3 true .lst eI eI eB) stock1), none, some (eI posts1), some (eI most1), some ((eM true kS (eQ false .tup (eO eI))) ([])), none]) rfl ?_
  refine x_itQ rfl rfl ?_
  refine q_for (fun (v : ((Int × Int × Bool) × (List (Str × (List (Option Int)))))) (s : S) => match v with | (stock2, requests1) => ∃ u1 : Option D, s = [some ((eP3 true .lst eI eI eB) stock2), none, some (eI posts1), some (eI most1), some ((eM true kS (eQ false .tup (eO eI))) requests1), u1]) ⟨_, rfl⟩ ?_ ?_
  · rintro name1 ⟨stock2, requests1⟩ _ ⟨u1, rfl⟩
    refine y_nm rfl (s' := [some ((eP3 true .lst eI eI eB) stock2), none, some (eI posts1), some (eI most1), some ((eM true kS (eQ false .tup (eO eI))) requests1), some (eS name1)]) rfl ?_
    refine c_seq ?_
    refine c_setS ?_
    refine x_call ?_
    refine x_lend rfl ?_
    refine x_cons ?_
    refine x_vf rfl ((fun _ => rfl) _) ?_
    refine x_cons ?_
    refine x_vf rfl ((fun _ => rfl) _) ?_
    refine x_nil ?_
    refine x_lck rfl (s' := [none, none, some (eI posts1), some (eI most1), some ((eM true kS (eQ false .tup (eO eI))) requests1), some (eS name1)]) rfl ?_
    refine x_pos rfl ?_
    refine x_callK _ (tk__law_prices stock2 posts1 most1) ?_ (fun _ _ => trivial)
    rintro ⟨r1, stock3⟩ _ ps ⟨rfl, h0⟩
    rw [((gb_one h0 rfl rfl).trans rfl : gb [some 0, none, none] ps [none, none, some (eI posts1), some (eI most1), some ((eM true kS (eQ false .tup (eO eI))) requests1), some (eS name1)] = [some ((eP3 true .lst eI eI eB) stock3), none, some (eI posts1), some (eI most1), some ((eM true kS (eQ false .tup (eO eI))) requests1), some (eS name1)])]
    refine x_setSK rfl ?_
    refine x_vf rfl ((fun _ => rfl) _) ?_
    refine x_setAtM (eQ false .tup (eO eI)) (v := r1) (st := fun requests2 => [some ((eP3 true .lst eI eI eB) stock3), none, some (eI posts1), some (eI most1), some ((eM true kS (eQ false .tup (eO eI))) requests2), some (eS name1)]) kS_inj (fun _ => rfl) rfl (fun _ => rfl) fun requests2 => ?_
    refine c_skip ?_
    exact q_nx ⟨_, rfl⟩
  rintro ⟨stock2, requests1⟩ _ ⟨u1, rfl⟩
  refine c_seq ?_
  refine c_ret ?_
  refine x_m rfl (s' := [some ((eP3 true .lst eI eI eB) stock2), none, some (eI posts1), some (eI most1), none, u1]) rfl ?_
  exact q_rt ⟨rfl, rfl⟩
theorem tk__law_turns (stock1 : (Int × Int × Bool)) (names1 : (List Str)) (states1 : Int) : SimF (F__law_turns [((eP3 true .lst eI eI eB) stock1), ((eQ false .lst eS) names1), (eI states1)]) (T__law_turns stock1 names1 states1) (fun q d ps => d = (eQ false .tup (eM false kS eI)) q.1 ∧ ps[0]? = some (some ((eP3 true .lst eI eI eB) q.2))) := by
  rw [F__law_turns_s]
  refine f_start ?_
  refine c_seq ?_
  refine c_asg ?_
  refine y_lst ?_
  refine x_nil ?_
  refine x_okl (d' := ((eQ true .lst (eM true kS eI)) ([]))) 0 rfl (by decide) rfl ?_
  refine y_asgN rfl (s' := [some ((eP3 true .lst eI eI eB) stock1), some ((eQ false .lst eS) names1), some (eI states1), some ((eQ true .lst (eM true kS eI)) ([])), none, none, none, none]) rfl ?_
  refine c_seq ?_
  refine c_for ?_
  refine x_rng1 ?_
  refine x_cons ?_
  refine x_vf rfl ((fun _ => rfl) _) ?_
  refine x_nil ?_
  refine x_rng1K fun ns1 => ?_
  refine q_for (fun (v : ((Int × Int × Bool) × (List (List (Str × Int))))) (s : S) => match v with | (stock2, turns1) => ∃ u1 u2 u3 u4 : Option D, s = [some ((eP3 true .lst eI eI eB) stock2), some ((eQ false .lst eS) names1), some (eI states1), some ((eQ true .lst (eM true kS eI)) turns1), u1, u2, u3, u4]) ⟨_, _, _, _, rfl⟩ ?_ ?_
  · rintro state1 ⟨stock2, turns1⟩ _ ⟨u1, u2, u3, u4, rfl⟩
    refine y_nm rfl (s' := [some ((eP3 true .lst eI eI eB) stock2), some ((eQ false .lst eS) names1), some (eI states1), some ((eQ true .lst (eM true kS eI)) turns1), some (eI state1), u2, u3, u4]) rfl ?_
    refine c_seq ?_
    refine c_asg ?_
    refine x_call ?_
    refine x_lend rfl ?_
    refine x_cons ?_
    refine x_cb ?_
    refine x_cons ?_
    refine x_vf rfl ((fun _ => rfl) _) ?_
    refine x_nil ?_
    refine x_some (t_lenQ rfl) ?_
    refine x_nil ?_
    refine x_lck rfl (s' := [none, some ((eQ false .lst eS) names1), some (eI states1), some ((eQ true .lst (eM true kS eI)) turns1), some (eI state1), u2, u3, u4]) rfl ?_
    refine x_pos rfl ?_
    refine x_callK _ (tk__law_draw stock2 (names1.length : Int)) ?_ (fun _ _ => trivial)
    rintro ⟨r1, stock3⟩ _ ps ⟨rfl, h0⟩
    rw [((gb_one h0 rfl rfl).trans rfl : gb [some 0, none] ps [none, some ((eQ false .lst eS) names1), some (eI states1), some ((eQ true .lst (eM true kS eI)) turns1), some (eI state1), u2, u3, u4] = [some ((eP3 true .lst eI eI eB) stock3), some ((eQ false .lst eS) names1), some (eI states1), some ((eQ true .lst (eM true kS eI)) turns1), some (eI state1), u2, u3, u4])]
    refine y_asgN rfl (s' := [some ((eP3 true .lst eI eI eB) stock3), some ((eQ false .lst eS) names1), some (eI states1), some ((eQ true .lst (eM true kS eI)) turns1), some (eI state1), some (eI r1), u3, u4]) rfl ?_
    refine c_seq ?_
    refine c_asg ?_
    refine x_c ?_
    refine y_asgN rfl (s' := [some ((eP3 true .lst eI eI eB) stock3), some ((eQ false .lst eS) names1), some (eI states1), some ((eQ true .lst (eM true kS eI)) turns1), some (eI state1), some (eI r1), some ((eM true kS eI) ([])), u4]) rfl ?_
    refine c_seq ?_
    refine c_for ?_
    refine x_it ?_
    refine x_vf rfl ((fun _ => rfl) _) ?_
    refine x_itQ rfl rfl ?_
    refine q_for (fun (v : ((Int × Int × Bool) × (List (Str × Int)))) (s : S) => match v with | (stock4, row1) => ∃ u5 : Option D, s = [some ((eP3 true .lst eI eI eB) stock4), some ((eQ false .lst eS) names1), some (eI states1), some ((eQ true .lst (eM true kS eI)) turns1), some (eI state1), some (eI r1), some ((eM true kS eI) row1), u5]) ⟨_, rfl⟩ ?_ ?_
    · rintro name1 ⟨stock4, row1⟩ _ ⟨u5, rfl⟩
      refine y_nm rfl (s' := [some ((eP3 true .lst eI eI eB) stock4), some ((eQ false .lst eS) names1), some (eI states1), some ((eQ true .lst (eM true kS eI)) turns1), some (eI state1), some (eI r1), some ((eM true kS eI) row1), some (eS name1)]) rfl ?_
      refine c_seq ?_
      refine c_if ?_
      refine x_b ?_
      refine x_op ?_
      refine x_call ?_
      refine x_lend rfl ?_
      refine x_cons ?_
      refine x_c ?_
      refine x_nil ?_
      refine x_lck rfl (s' := [none, some ((eQ false .lst eS) names1), some (eI states1), some ((eQ true .lst (eM true kS eI)) turns1), some (eI state1), some (eI r1), some ((eM true kS eI) row1), some (eS name1)]) rfl ?_
      refine x_pos rfl ?_
      refine x_callK _ (tk__law_draw stock4 3) ?_ (fun _ _ => trivial)
      rintro ⟨r2, stock5⟩ _ ps ⟨rfl, h0⟩
      rw [((gb_one h0 rfl rfl).trans rfl : gb [some 0, none] ps [none, some ((eQ false .lst eS) names1), some (eI states1), some ((eQ true .lst (eM true kS eI)) turns1), some (eI state1), some (eI r1), some ((eM true kS eI) row1), some (eS name1)] = [some ((eP3 true .lst eI eI eB) stock5), some ((eQ false .lst eS) names1), some (eI states1), some ((eQ true .lst (eM true kS eI)) turns1), some (eI state1), some (eI r1), some ((eM true kS eI) row1), some (eS name1)])]
      refine x_c ?_
      refine x_some t_gtI ?_
      refine x_blc ?_
      refine q_join (fun (v : ((Int × Int × Bool) × (List (Str × Int)))) (s : S) => match v with | (stock7, row3) => s = [some ((eP3 true .lst eI eI eB) stock7), some ((eQ false .lst eS) names1), some (eI states1), some ((eQ true .lst (eM true kS eI)) turns1), some (eI state1), some (eI r1), some ((eM true kS eI) row3), some (eS name1)]) (fun _ => ?_) (fun _ => ?_) ?_
      · refine c_seq ?_
        refine c_setS ?_
        refine x_call ?_
        refine x_lend rfl ?_
        refine x_cons ?_
        refine x_vf rfl ((fun _ => rfl) _) ?_
        refine x_nil ?_
        refine x_lck rfl (s' := [none, some ((eQ false .lst eS) names1), some (eI states1), some ((eQ true .lst (eM true kS eI)) turns1), some (eI state1), some (eI r1), some ((eM true kS eI) row1), some (eS name1)]) rfl ?_
        refine x_pos rfl ?_
        refine x_callK _ (tk__law_draw stock5 states1) ?_ (fun _ _ => trivial)
        rintro ⟨r4, stock8⟩ _ ps ⟨rfl, h0⟩
        rw [((gb_one h0 rfl rfl).trans rfl : gb [some 0, none] ps [none, some ((eQ false .lst eS) names1), some (eI states1), some ((eQ true .lst (eM true kS eI)) turns1), some (eI state1), some (eI r1), some ((eM true kS eI) row1), some (eS name1)] = [some ((eP3 true .lst eI eI eB) stock8), some ((eQ false .lst eS) names1), some (eI states1), some ((eQ true .lst (eM true kS eI)) turns1), some (eI state1), some (eI r1), some ((eM true kS eI) row1), some (eS name1)])]
        refine x_setSK rfl ?_
        refine x_vf rfl ((fun _ => rfl) _) ?_
        refine x_setAtM eI (v := r4) (st := fun row4 => [some ((eP3 true .lst eI eI eB) stock8), some ((eQ false .lst eS) names1), some (eI states1), some ((eQ true .lst (eM true kS eI)) turns1), some (eI state1), some (eI r1), some ((eM true kS eI) row4), some (eS name1)]) kS_inj (fun _ => rfl) rfl (fun _ => rfl) fun row4 => ?_
        refine c_skip ?_
        exact q_nx rfl
      · refine c_skip ?_
        exact q_nx rfl
      rintro ⟨stock7, row3⟩ _ rfl
      refine c_skip ?_
      exact q_nx ⟨_, rfl⟩
    rintro ⟨stock4, row1⟩ _ ⟨u5, rfl⟩
    refine c_seq ?_
    refine c_if ?_
    refine x_b ?_
    refine x_opL rfl ?_
    refine x_c ?_
    refine x_opLK rfl ?_
    refine x_some t_eqM0 ?_
    refine x_blc ?_
    refine q_join (fun (v : ((Int × Int × Bool) × (List (Str × Int)))) (s : S) => match v with | (stock10, row6) => s = [some ((eP3 true .lst eI eI eB) stock10), some ((eQ false .lst eS) names1), some (eI states1), some ((eQ true .lst (eM true kS eI)) turns1), some (eI state1), some (eI r1), some ((eM true kS eI) row6), u5]) (fun _ => ?_) (fun _ => ?_) ?_
    · refine c_seq ?_
      refine c_setS ?_
      refine x_call ?_
      refine x_lend rfl ?_
      refine x_cons ?_
      refine x_vf rfl ((fun _ => rfl) _) ?_
      refine x_nil ?_
      refine x_lck rfl (s' := [none, some ((eQ false .lst eS) names1), some (eI states1), some ((eQ true .lst (eM true kS eI)) turns1), some (eI state1), some (eI r1), some ((eM true kS eI) row1), u5]) rfl ?_
      refine x_pos rfl ?_
      refine x_callK _ (tk__law_draw stock4 states1) ?_ (fun _ _ => trivial)
      rintro ⟨r6, stock11⟩ _ ps ⟨rfl, h0⟩
      rw [((gb_one h0 rfl rfl).trans rfl : gb [some 0, none] ps [none, some ((eQ false .lst eS) names1), some (eI states1), some ((eQ true .lst (eM true kS eI)) turns1), some (eI state1), some (eI r1), some ((eM true kS eI) row1), u5] = [some ((eP3 true .lst eI eI eB) stock11), some ((eQ false .lst eS) names1), some (eI states1), some ((eQ true .lst (eM true kS eI)) turns1), some (eI state1), some (eI r1), some ((eM true kS eI) row1), u5])]
      refine x_setSK rfl ?_
      refine x_op ?_
      refine x_vf rfl ((fun _ => rfl) _) ?_
      refine x_vf rfl ((fun _ => rfl) _) ?_
      refine x_optI eS (t_subQ rfl (fun _ => rfl)) fun x2 => ?_
      refine x_setAtM eI (v := r6) (st := fun row7 => [some ((eP3 true .lst eI eI eB) stock11), some ((eQ false .lst eS) names1), some (eI states1), some ((eQ true .lst (eM true kS eI)) turns1), some (eI state1), some (eI r1), some ((eM true kS eI) row7), u5]) kS_inj (fun _ => rfl) rfl (fun _ => rfl) fun row7 => ?_
      refine c_skip ?_
      exact q_nx rfl
    · refine c_skip ?_
      exact q_nx rfl
    rintro ⟨stock10, row6⟩ _ rfl
    refine c_seq ?_
    refine x_app rfl ?_
    refine x_m rfl (s' := [some ((eP3 true .lst eI eI eB) stock10), some ((eQ false .lst eS) names1), some (eI states1), some ((eQ true .lst (eM true kS eI)) turns1), some (eI state1), some (eI r1), none, u5]) rfl ?_
    refine x_appK (eM true kS eI) (xs := turns1) (v := row6) (st := fun turns2 => [some ((eP3 true .lst eI eI eB) stock10), some ((eQ false .lst eS) names1), some (eI states1), some ((eQ true .lst (eM true kS eI)) turns2), some (eI state1), some (eI r1), none, u5]) rfl (fun _ => rfl) fun turns2 => ?_
    refine c_skip ?_
    exact q_nx ⟨_, _, _, _, rfl⟩
  rintro ⟨stock2, turns1⟩ _ ⟨u1, u2, u3, u4, rfl⟩
  refine c_seq ?_
  refine c_ret ?_
  refine x_cb ?_
  refine x_cons ?_
  refine x_m rfl (s' := [some ((eP3 true .lst eI eI eB) stock2), some ((eQ false .lst eS) names1), some (eI states1), none, u1, u2, u3, u4]) rfl ?_
  refine x_nil ?_
  refine x_some (t_tupL (rd_M (fun _ => rfl))) ?_
  exact q_rt ⟨rfl, rfl⟩
theorem tk__law_ways (moves1 : (List (List Int))) : SimF (F__law_ways [((eQ false .tup (eQ false .tup eI)) moves1)]) (T__law_ways moves1) (fun q d _ => d = (eQ true .lst (eQ true .lst eI)) q) := by
  rw [F__law_ways_s]
  refine f_start ?_
  refine c_seq ?_
  refine c_asg ?_
  refine y_comp ?_
  refine x_it ?_
  refine x_vf rfl ((fun _ => rfl) _) ?_
  refine x_itQ rfl rfl ?_
  refine y_qcompP (eQ true .lst eI) (fun (row1 : (List Int)) => row1) (s' := [some ((eQ false .tup (eQ false .tup eI)) moves1), none, none, none, none, none, none]) ?_ ?_ ?_ ?_
  · rfl
  · rfl
  · intro row1
    refine q_step ?_
    refine y_nm rfl (s' := [some ((eQ false .tup (eQ false .tup eI)) moves1), some ((eQ false .tup eI) row1), none, none, none, none, none]) rfl ?_
    refine t_yes ?_
    refine q_true ?_
    refine x_cb ?_
    refine x_cons ?_
    refine x_vf rfl ((fun _ => rfl) _) ?_
    refine x_nil ?_
    refine x_some (t_lstQ rfl) ?_
    exact q_rtw rfl ⟨rfl, rfl⟩
  intro ys1
  refine y_asgN rfl (s' := [some ((eQ false .tup (eQ false .tup eI)) moves1), none, some ((eQ true .lst (eQ true .lst eI)) ys1), none, none, none, none]) rfl ?_
  refine c_seq ?_
  refine c_for ?_
  refine x_rng1 ?_
  refine x_cons ?_
  refine x_cb ?_
  refine x_cons ?_
  refine x_vf rfl ((fun _ => rfl) _) ?_
  refine x_nil ?_
  refine x_some (t_lenQ rfl) ?_
  refine x_nil ?_
  refine x_rng1K fun ns1 => ?_
  refine q_for (fun (ways1 : (List (List Int))) (s : S) => ∃ u1 u2 u3 u4 : Option D, s = [some ((eQ false .tup (eQ false .tup eI)) moves1), u1, some ((eQ true .lst (eQ true .lst eI)) ways1), u2, u3, u4, none]) ⟨_, _, _, _, rfl⟩ ?_ ?_
  · rintro c1 ways1 _ ⟨u1, u2, u3, u4, rfl⟩
    refine y_nm rfl (s' := [some ((eQ false .tup (eQ false .tup eI)) moves1), u1, some ((eQ true .lst (eQ true .lst eI)) ways1), some (eI c1), u3, u4, none]) rfl ?_
    refine c_seq ?_
    refine c_for ?_
    refine x_rng1 ?_
    refine x_cons ?_
    refine x_cb ?_
    refine x_cons ?_
    refine x_vf rfl ((fun _ => rfl) _) ?_
    refine x_nil ?_
    refine x_some (t_lenQ rfl) ?_
    refine x_nil ?_
    refine x_rng1K fun ns2 => ?_
    refine q_for (fun (ways2 : (List (List Int))) (s : S) => ∃ u5 u6 u7 : Option D, s = [some ((eQ false .tup (eQ false .tup eI)) moves1), u5, some ((eQ true .lst (eQ true .lst eI)) ways2), some (eI c1), u6, u7, none]) ⟨_, _, _, rfl⟩ ?_ ?_
    · rintro a1 ways2 _ ⟨u5, u6, u7, rfl⟩
      refine y_nm rfl (s' := [some ((eQ false .tup (eQ false .tup eI)) moves1), u5, some ((eQ true .lst (eQ true .lst eI)) ways2), some (eI c1), some (eI a1), u7, none]) rfl ?_
      refine c_seq ?_
      refine c_for ?_
      refine x_rng1 ?_
      refine x_cons ?_
      refine x_cb ?_
      refine x_cons ?_
      refine x_vf rfl ((fun _ => rfl) _) ?_
      refine x_nil ?_
      refine x_some (t_lenQ rfl) ?_
      refine x_nil ?_
      refine x_rng1K fun ns3 => ?_
      refine q_for (fun (ways3 : (List (List Int))) (s : S) => ∃ u8 u9 : Option D, s = [some ((eQ false .tup (eQ false .tup eI)) moves1), u8, some ((eQ true .lst (eQ true .lst eI)) ways3), some (eI c1), some (eI a1), u9, none]) ⟨_, _, rfl⟩ ?_ ?_
      · rintro b1 ways3 _ ⟨u8, u9, rfl⟩
        refine y_nm rfl (s' := [some ((eQ false .tup (eQ false .tup eI)) moves1), u8, some ((eQ true .lst (eQ true .lst eI)) ways3), some (eI c1), some (eI a1), some (eI b1), none]) rfl ?_
        refine c_seq ?_
        refine c_alias (e := eI) ways3 (by decide) rfl rfl (s1 := [some ((eQ false .tup (eQ false .tup eI)) moves1), none, some ((eQ true .lst (eQ true .lst eI)) ways3), some (eI c1), some (eI a1), some (eI b1), none]) rfl (qe_v rfl) (qe_v rfl) (v := fun row => (qmn (qrow row (some b1)) (qadd (qat2 ways3 (some a1) (some c1)) (qat2 ways3 (some c1) (some b1))))) (fun i row hi => have hw : ([some ((eQ false .tup (eQ false .tup eI)) moves1), none, some ((eQ true .lst (eQ true .lst eI)) ways3), some (eI c1), some (eI a1), some (eI b1), none] : S)[2]? = some (some ((eQ true .lst (eQ true .lst eI)) ways3)) := rfl; (qe_min (qe_al hw hi (qe_v rfl)) (qe_add (qe_s2 rfl rfl rfl (qe_v rfl) (qe_v rfl)) (qe_s2 rfl rfl rfl (qe_v rfl) (qe_v rfl))))) (fun _ => rfl) (st := fun ways4 => [some ((eQ false .tup (eQ false .tup eI)) moves1), none, some ((eQ true .lst (eQ true .lst eI)) ways4), some (eI c1), some (eI a1), some (eI b1), none]) (fun _ => rfl) fun ways4 => ?_
        refine c_skip ?_
        exact q_nx ⟨_, _, rfl⟩
      rintro ways3 _ ⟨u8, u9, rfl⟩
      refine c_skip ?_
      exact q_nx ⟨_, _, _, rfl⟩
    rintro ways2 _ ⟨u5, u6, u7, rfl⟩
    refine c_skip ?_
    exact q_nx ⟨_, _, _, _, rfl⟩
  rintro ways1 _ ⟨u1, u2, u3, u4, rfl⟩
  refine c_seq ?_
  refine c_ret ?_
  refine x_m rfl (s' := [some ((eQ false .tup (eQ false .tup eI)) moves1), u1, none, u2, u3, u4, none]) rfl ?_
  exact q_rt rfl
theorem tk__law_offsets (stock1 : (Int × Int × Bool)) (ways1 : (List (List Int))) : SimF (F__law_offsets [((eP3 true .lst eI eI eB) stock1), ((eQ false .lst (eQ false .lst eI)) ways1)]) (T__law_offsets stock1 ways1) (fun q d ps => d = (eQ false .tup eI) q.1 ∧ ps[0]? = some (some ((eP3 true .lst eI eI eB) q.2))) := by
  rw [F__law_offsets_s]
  refine f_start ?_
  refine c_seq ?_
  refine c_asg ?_
  refine y_comp ?_
  refine x_it ?_
  refine x_vf rfl ((fun _ => rfl) _) ?_
  refine x_itQ rfl rfl ?_
  refine y_qcomp eI (v0 := stock1) (fun (stock3 : (Int × Int × Bool)) (s : S) => s = [some ((eP3 true .lst eI eI eB) stock3), some ((eQ false .lst (eQ false .lst eI)) ways1), none, none, none, none, none, none, none, none]) (s' := [some ((eP3 true .lst eI eI eB) stock1), some ((eQ false .lst (eQ false .lst eI)) ways1), none, none, none, none, none, none, none, none]) ?_ rfl ?_ ?_
  · rfl
  · rintro post1 stock3 _ rfl
    refine q_step ?_
    refine y_nm rfl (s' := [some ((eP3 true .lst eI eI eB) stock3), some ((eQ false .lst (eQ false .lst eI)) ways1), none, none, none, none, none, some ((eQ false .lst eI) post1), none, none]) rfl ?_
    refine t_yes ?_
    refine q_true ?_
    refine x_call ?_
    refine x_lend rfl ?_
    refine x_cons ?_
    refine x_c ?_
    refine x_nil ?_
    refine x_lck rfl (s' := [none, some ((eQ false .lst (eQ false .lst eI)) ways1), none, none, none, none, none, some ((eQ false .lst eI) post1), none, none]) rfl ?_
    refine x_pos rfl ?_
    refine x_callK _ (tk__law_draw stock3 60) ?_ (fun _ _ => trivial)
    rintro ⟨r2, stock4⟩ _ ps ⟨rfl, h0⟩
    rw [((gb_one h0 rfl rfl).trans rfl : gb [some 0, none] ps [none, some ((eQ false .lst (eQ false .lst eI)) ways1), none, none, none, none, none, some ((eQ false .lst eI) post1), none, none] = [some ((eP3 true .lst eI eI eB) stock4), some ((eQ false .lst (eQ false .lst eI)) ways1), none, none, none, none, none, some ((eQ false .lst eI) post1), none, none])]
    exact q_rtw rfl ⟨rfl, rfl⟩
  rintro ys1 stock3 _ rfl
  rw [show wipeD [some ((eP3 true .lst eI eI eB) stock3), some ((eQ false .lst (eQ false .lst eI)) ways1), none, none, none, none, none, none, none, none] [6, 7] = [some ((eP3 true .lst eI eI eB) stock3), some ((eQ false .lst (eQ false .lst eI)) ways1), none, none, none, none, none, none, none, none] from rfl]
  refine y_asgN rfl (s' := [some ((eP3 true .lst eI eI eB) stock3), some ((eQ false .lst (eQ false .lst eI)) ways1), some ((eQ true .lst eI) ys1), none, none, none, none, none, none, none]) rfl ?_
  refine c_seq ?_
  refine c_asg ?_
  refine y_lst ?_
  refine x_nil ?_
  refine x_okl (d' := ((eQ true .lst eI) ([]))) 0 rfl (by decide) rfl ?_
  refine y_asgN rfl (s' := [some ((eP3 true .lst eI eI eB) stock3), some ((eQ false .lst (eQ false .lst eI)) ways1), some ((eQ true .lst eI) ys1), some ((eQ true .lst eI) ([])), none, none, none, none, none, none]) rfl ?_
  refine c_seq ?_
  refine c_for ?_
  refine x_rng1 ?_
  refine x_cons ?_
  refine x_cb ?_
  refine x_cons ?_
  refine x_vf rfl ((fun _ => rfl) _) ?_
  refine x_nil ?_
  refine x_some (t_lenQ rfl) ?_
  refine x_nil ?_
  refine x_rng1K fun ns1 => ?_
  refine q_for (fun (v : ((List Int) × (List Int))) (s : S) => match v with | (base1, offsets1) => ∃ u1 u2 u3 : Option D, ∃ ow1 : Bool, s = [some ((eP3 true .lst eI eI eB) stock3), some ((eQ false .lst (eQ false .lst eI)) ways1), some ((eQ ow1 .lst eI) base1), some ((eQ true .lst eI) offsets1), u1, none, u2, none, u3, none]) ⟨_, _, _, _, rfl⟩ ?_ ?_
  · rintro b1 ⟨base1, offsets1⟩ _ ⟨u1, u2, u3, ow1, rfl⟩
    refine y_nm rfl (s' := [some ((eP3 true .lst eI eI eB) stock3), some ((eQ false .lst (eQ false .lst eI)) ways1), some ((eQ ow1 .lst eI) base1), some ((eQ true .lst eI) offsets1), some (eI b1), none, u2, none, u3, none]) rfl ?_
    refine c_seq ?_
    refine x_app rfl ?_
    refine x_cb ?_
    refine x_cons ?_
    refine y_comp ?_
    refine x_rng1 ?_
    refine x_cons ?_
    refine x_cb ?_
    refine x_cons ?_
    refine x_vf rfl ((fun _ => rfl) _) ?_
    refine x_nil ?_
    refine x_some (t_lenQ rfl) ?_
    refine x_nil ?_
    refine x_rng1K fun ns2 => ?_
    refine y_qcomp eI (v0 := base1) (fun (base2 : (List Int)) (s : S) => ∃ ow2 : Bool, s = [some ((eP3 true .lst eI eI eB) stock3), some ((eQ false .lst (eQ false .lst eI)) ways1), some ((eQ ow2 .lst eI) base2), some ((eQ true .lst eI) offsets1), some (eI b1), none, none, none, none, none]) (s' := [some ((eP3 true .lst eI eI eB) stock3), some ((eQ false .lst (eQ false .lst eI)) ways1), some ((eQ ow1 .lst eI) base1), some ((eQ true .lst eI) offsets1), some (eI b1), none, none, none, none, none]) ?_ ⟨_, rfl⟩ ?_ ?_
    · rfl
    · rintro a1 base2 _ ⟨ow2, rfl⟩
      refine q_step ?_
      refine y_nm rfl (s' := [some ((eP3 true .lst eI eI eB) stock3), some ((eQ false .lst (eQ false .lst eI)) ways1), some ((eQ ow2 .lst eI) base2), some ((eQ true .lst eI) offsets1), some (eI b1), none, none, none, some (eI a1), none]) rfl ?_
      refine t_yes ?_
      refine q_true ?_
      refine x_op ?_
      refine x_op ?_
      refine x_v rfl ((rd_Qo (fun _ => rfl) (fun _ _ => rfl)) _) (s' := [some ((eP3 true .lst eI eI eB) stock3), some ((eQ false .lst (eQ false .lst eI)) ways1), some ((eQ false .lst eI) base2), some ((eQ true .lst eI) offsets1), some (eI b1), none, none, none, some (eI a1), none]) rfl ?_
      refine x_vf rfl ((fun _ => rfl) _) ?_
      refine x_optI eI (t_subQ rfl (fun _ => rfl)) fun x4 => ?_
      refine x_op ?_
      refine x_op ?_
      refine x_vf rfl ((fun _ => rfl) _) ?_
      refine x_vf rfl ((fun _ => rfl) _) ?_
      refine x_optI (eQ false .lst eI) (t_subQ rfl (fun _ => rfl)) fun x5 => ?_
      refine x_vf rfl ((fun _ => rfl) _) ?_
      refine x_optI eI (t_subQ rfl (fun _ => rfl)) fun x6 => ?_
      refine x_some t_addI ?_
      exact q_rtw rfl ⟨rfl, ⟨_, rfl⟩⟩
    rintro ys2 base2 _ ⟨ow2, rfl⟩
    rw [show wipeD [some ((eP3 true .lst eI eI eB) stock3), some ((eQ false .lst (eQ false .lst eI)) ways1), some ((eQ ow2 .lst eI) base2), some ((eQ true .lst eI) offsets1), some (eI b1), none, none, none, none, none] [6, 8] = [some ((eP3 true .lst eI eI eB) stock3), some ((eQ false .lst (eQ false .lst eI)) ways1), some ((eQ ow2 .lst eI) base2), some ((eQ true .lst eI) offsets1), some (eI b1), none, none, none, none, none] from rfl]
    refine x_nil ?_
    refine x_optI eI (t_minL rfl) fun x7 => ?_
    refine x_appK eI (xs := offsets1) (v := x7) (st := fun offsets2 => [some ((eP3 true .lst eI eI eB) stock3), some ((eQ false .lst (eQ false .lst eI)) ways1), some ((eQ ow2 .lst eI) base2), some ((eQ true .lst eI) offsets2), some (eI b1), none, none, none, none, none]) rfl (fun _ => rfl) fun offsets2 => ?_
    refine c_skip ?_
    exact q_nx ⟨_, _, _, _, rfl⟩
  rintro ⟨base1, offsets1⟩ _ ⟨u1, u2, u3, ow1, rfl⟩
  refine c_seq ?_
  refine c_asg ?_
  refine x_cb ?_
  refine x_cons ?_
  refine x_v rfl ((rd_Q (fun _ => rfl)) _) (s' := [some ((eP3 true .lst eI eI eB) stock3), some ((eQ false .lst (eQ false .lst eI)) ways1), some ((eQ ow1 .lst eI) base1), some ((eQ false .lst eI) offsets1), u1, none, u2, none, u3, none]) rfl ?_
  refine x_nil ?_
  refine x_optI eI (t_minL rfl) fun x8 => ?_
  refine y_asgN rfl (s' := [some ((eP3 true .lst eI eI eB) stock3), some ((eQ false .lst (eQ false .lst eI)) ways1), some ((eQ ow1 .lst eI) base1), some ((eQ false .lst eI) offsets1), u1, some (eI x8), u2, none, u3, none]) rfl ?_
  refine c_seq ?_
  refine c_ret ?_
  refine x_cb ?_
  refine x_cons ?_
  refine y_comp ?_
  refine x_it ?_
  refine x_m rfl (s' := [some ((eP3 true .lst eI eI eB) stock3), some ((eQ false .lst (eQ false .lst eI)) ways1), some ((eQ ow1 .lst eI) base1), none, u1, some (eI x8), u2, none, u3, none]) rfl ?_
  refine x_itQ rfl rfl ?_
  refine y_qcompP eI (fun (offset1 : Int) => (offset1 - x8)) (s' := [some ((eP3 true .lst eI eI eB) stock3), some ((eQ false .lst (eQ false .lst eI)) ways1), some ((eQ ow1 .lst eI) base1), none, u1, some (eI x8), none, none, u3, none]) ?_ ?_ ?_ ?_
  · rfl
  · rfl
  · intro offset1
    refine q_step ?_
    refine y_nm rfl (s' := [some ((eP3 true .lst eI eI eB) stock3), some ((eQ false .lst (eQ false .lst eI)) ways1), some ((eQ ow1 .lst eI) base1), none, u1, some (eI x8), none, none, u3, some (eI offset1)]) rfl ?_
    refine t_yes ?_
    refine q_true ?_
    refine x_op ?_
    refine x_vf rfl ((fun _ => rfl) _) ?_
    refine x_vf rfl ((fun _ => rfl) _) ?_
    refine x_some t_subI ?_
    exact q_rtw rfl ⟨rfl, rfl⟩
  intro ys3
  refine x_nil ?_
  refine x_some (t_tupL (fun _ => rfl)) ?_
  exact q_rt ⟨rfl, rfl⟩
theorem tk__law_item (item1 : (Option Int)) : SimF (F__law_item [((eO eI) item1)]) (T__law_item item1) (fun q d _ => d = eS q) := by
  rw [F__law_item_s]
  refine f_start ?_
  refine c_seq ?_
  refine c_if ?_
  refine x_b ?_
  refine x_op ?_
  refine x_vf rfl ((rd_O (fun _ => rfl)) _) ?_
  refine x_c ?_
  refine x_some (t_isO (fun _ => rfl)) ?_
  refine x_blc ?_
  refine q_caseO ?_ ?_
  · rintro rfl
    refine c_seq ?_
    refine c_ret ?_
    refine x_c ?_
    exact q_rt rfl
  · rintro item2 rfl
    refine c_skip ?_
    refine c_seq ?_
    refine c_ret ?_
    refine x_cb ?_
    refine x_cons ?_
    refine x_m rfl (s' := [none]) rfl ?_
    refine x_nil ?_
    refine x_optI eS t_strI fun text1 => ?_
    exact q_rt rfl
theorem tk__law_system_text (moves1 : (List (List Int))) (requests1 : (List (Str × (List (Option Int))))) : SimF (F__law_system_text [((eQ false .tup (eQ false .tup eI)) moves1), ((eM false kS (eQ false .tup (eO eI))) requests1)]) (T__law_system_text moves1 requests1) (fun q d _ => d = eS q) := by
  rw [F__law_system_text_s]
  refine f_start ?_
  refine c_seq ?_
  refine c_asg ?_
  refine x_c ?_
  refine y_asgN rfl (s' := [some ((eQ false .tup (eQ false .tup eI)) moves1), some ((eM false kS (eQ false .tup (eO eI))) requests1), some (eS ("" : Str)), none, none, none, none, none]) rfl ?_
  refine c_seq ?_
  refine c_for ?_
  refine x_it ?_
  refine x_m rfl (s' := [none, some ((eM false kS (eQ false .tup (eO eI))) requests1), some (eS ("" : Str)), none, none, none, none, none]) rfl ?_
  refine x_itQ rfl rfl ?_
  refine q_for (fun (text1 : Str) (s : S) => ∃ u1 u2 u3 : Option D, s = [none, some ((eM false kS (eQ false .tup (eO eI))) requests1), some (eS text1), u1, none, u2, u3, none]) ⟨_, _, _, rfl⟩ ?_ ?_
  · rintro row1 text1 _ ⟨u1, u2, u3, rfl⟩
    refine y_nm rfl (s' := [none, some ((eM false kS (eQ false .tup (eO eI))) requests1), some (eS text1), some ((eQ false .tup eI) row1), none, u2, u3, none]) rfl ?_
    refine c_seq ?_
    refine c_asg ?_
    refine x_op ?_
    refine x_op ?_
    refine x_op ?_
    refine x_m rfl (s' := [none, some ((eM false kS (eQ false .tup (eO eI))) requests1), none, some ((eQ false .tup eI) row1), none, u2, u3, none]) rfl ?_
    refine x_c ?_
    refine x_optI eS t_addS fun text2 => ?_
    refine x_join ?_
    refine x_c ?_
    refine x_joinK ?_
    refine y_comp ?_
    refine x_it ?_
    refine x_m rfl (s' := [none, some ((eM false kS (eQ false .tup (eO eI))) requests1), none, none, none, u2, u3, none]) rfl ?_
    refine x_itQ rfl rfl ?_
    refine y_qcomp eS (v0 := ()) (fun (_ : Unit) (s : S) => s = [none, some ((eM false kS (eQ false .tup (eO eI))) requests1), none, none, none, none, none, none]) (s' := [none, some ((eM false kS (eQ false .tup (eO eI))) requests1), none, none, none, none, none, none]) ?_ rfl ?_ ?_
    · rfl
    · rintro step1 _ _ rfl
      refine q_step ?_
      refine y_nm rfl (s' := [none, some ((eM false kS (eQ false .tup (eO eI))) requests1), none, none, none, none, some (eI step1), none]) rfl ?_
      refine t_yes ?_
      refine q_true ?_
      refine x_cb ?_
      refine x_cons ?_
      refine x_vf rfl ((fun _ => rfl) _) ?_
      refine x_nil ?_
      refine x_optI eS t_strI fun text4 => ?_
      exact q_rtw rfl ⟨rfl, rfl⟩
    rintro ys1 _ _ rfl
    rw [show wipeD [none, some ((eM false kS (eQ false .tup (eO eI))) requests1), none, none, none, none, none, none] [5, 6] = [none, some ((eM false kS (eQ false .tup (eO eI))) requests1), none, none, none, none, none, none] from rfl]
    refine x_optI eS (t_join rfl) fun text5 => ?_
    refine x_optI eS t_addS fun text6 => ?_
    refine x_c ?_
    refine x_optI eS t_addS fun text7 => ?_
    refine y_asgN rfl (s' := [none, some ((eM false kS (eQ false .tup (eO eI))) requests1), some (eS text7), none, none, none, none, none]) rfl ?_
    refine c_skip ?_
    exact q_nx ⟨_, _, _, rfl⟩
  rintro text1 _ ⟨u1, u2, u3, rfl⟩
  refine c_seq ?_
  refine c_for ?_
  refine x_it ?_
  refine x_cb ?_
  refine x_cons ?_
  refine x_vf rfl ((fun _ => rfl) _) ?_
  refine x_nil ?_
  refine x_optI (eQ true .lst eS) t_sortM fun names1 => ?_
  refine x_itQ ((rd_Q (fun _ => rfl)) _) rfl ?_
  refine q_for (fun (text8 : Str) (s : S) => ∃ u4 u5 u6 : Option D, s = [none, some ((eM false kS (eQ false .tup (eO eI))) requests1), some (eS text8), u1, u4, u5, u3, u6]) ⟨_, _, _, rfl⟩ ?_ ?_
  · rintro name1 text8 _ ⟨u4, u5, u6, rfl⟩
    refine y_nm rfl (s' := [none, some ((eM false kS (eQ false .tup (eO eI))) requests1), some (eS text8), u1, some (eS name1), u5, u3, u6]) rfl ?_
    refine c_seq ?_
    refine c_asg ?_
    refine x_op ?_
    refine x_op ?_
    refine x_op ?_
    refine x_op ?_
    refine x_op ?_
    refine x_m rfl (s' := [none, some ((eM false kS (eQ false .tup (eO eI))) requests1), none, u1, some (eS name1), u5, u3, u6]) rfl ?_
    refine x_c ?_
    refine x_optI eS t_addS fun text9 => ?_
    refine x_vf rfl ((fun _ => rfl) _) ?_
    refine x_optI eS t_addS fun text10 => ?_
    refine x_c ?_
    refine x_optI eS t_addS fun text11 => ?_
    refine x_join ?_
    refine x_c ?_
    refine x_joinK ?_
    refine y_comp ?_
    refine x_it ?_
    refine x_op ?_
    refine x_vf rfl ((fun _ => rfl) _) ?_
    refine x_vf rfl ((fun _ => rfl) _) ?_
    refine x_optI (eQ false .tup (eO eI)) (t_subM kS_inj (fun _ => rfl) (fun _ => rfl)) fun x1 => ?_
    refine x_itQ rfl rfl ?_
    refine y_qcomp eS (v0 := ()) (fun (_ : Unit) (s : S) => s = [none, some ((eM false kS (eQ false .tup (eO eI))) requests1), none, u1, some (eS name1), none, u3, none]) (s' := [none, some ((eM false kS (eQ false .tup (eO eI))) requests1), none, u1, some (eS name1), none, u3, none]) ?_ rfl ?_ ?_
    · rfl
    · rintro item1 _ _ rfl
      refine q_step ?_
      refine y_nm rfl (s' := [none, some ((eM false kS (eQ false .tup (eO eI))) requests1), none, u1, some (eS name1), none, u3, some ((eO eI) item1)]) rfl ?_
      refine t_yes ?_
      refine q_true ?_
      refine x_call ?_
      refine x_cons ?_
      refine x_vf rfl ((rd_O (fun _ => rfl)) _) ?_
      refine x_nil ?_
      refine x_pos rfl ?_
      refine x_callK _ (tk__law_item item1) ?_ (fun _ _ => trivial)
      rintro r2 _ ps rfl
      rw [(gb_all rfl : gb [none] ps [none, some ((eM false kS (eQ false .tup (eO eI))) requests1), none, u1, some (eS name1), none, u3, some ((eO eI) item1)] = _)]
      exact q_rtw rfl ⟨rfl, rfl⟩
    rintro ys2 _ _ rfl
    rw [show wipeD [none, some ((eM false kS (eQ false .tup (eO eI))) requests1), none, u1, some (eS name1), none, u3, none] [5, 7] = [none, some ((eM false kS (eQ false .tup (eO eI))) requests1), none, u1, some (eS name1), none, u3, none] from rfl]
    refine x_optI eS (t_join rfl) fun text12 => ?_
    refine x_optI eS t_addS fun text13 => ?_
    refine x_c ?_
    refine x_optI eS t_addS fun text14 => ?_
    refine y_asgN rfl (s' := [none, some ((eM false kS (eQ false .tup (eO eI))) requests1), some (eS text14), u1, some (eS name1), none, u3, none]) rfl ?_
    refine c_skip ?_
    exact q_nx ⟨_, _, _, rfl⟩
  rintro text8 _ ⟨u4, u5, u6, rfl⟩
  refine c_seq ?_
  refine c_ret ?_
  refine x_m rfl (s' := [none, some ((eM false kS (eQ false .tup (eO eI))) requests1), none, u1, u4, u5, u3, u6]) rfl ?_
  exact q_rt rfl
theorem tk_is_integer (thing1 : D) : SimF (F_is_integer [(eD thing1)]) (T_is_integer thing1) (fun q d _ => d = eB q) := by
  rw [F_is_integer_s]
  refine f_start ?_
  refine c_seq ?_
  refine c_ret ?_
  refine x_andV ?_
  refine x_un ?_
  refine x_v rfl rfl (s' := [some (eD (rd thing1))]) rfl ?_
  refine x_optI eB t_isiD fun b1 => ?_
  refine x_ancJ (fun (_ : Bool) (s : S) => s = [some (eD (rd thing1))]) (fun _ => ?_) rfl ?_
  · refine x_notV ?_
    refine x_un ?_
    refine x_vf rfl (rd_rd _) ?_
    refine x_optI eB t_isiD fun b3 => ?_
    refine x_ntc ?_
    exact q_rt ⟨rfl, rfl⟩
  rintro c1 _ rfl
  exact q_rt rfl
theorem tk_is_number (thing1 : D) (low1 : Int) (high1 : Int) : SimF (F_is_number [(eD thing1), (eI low1), (eI high1)]) (T_is_number thing1 low1 high1) (fun q d _ => d = eB q) := by
  rw [F_is_number_s]
  refine f_start ?_
  refine c_seq ?_
  refine c_ret ?_
  refine x_andV ?_
  refine x_call ?_
  refine x_cons ?_
  refine x_v rfl rfl (s' := [some (eD (rd thing1)), some (eI low1), some (eI high1)]) rfl ?_
  refine x_nil ?_
  refine x_pos rfl ?_
  refine x_callK _ (tk_is_integer (rd thing1)) ?_ (fun _ _ => trivial)
  rintro r1 _ ps rfl
  rw [(gb_all rfl : gb [none] ps [some (eD (rd thing1)), some (eI low1), some (eI high1)] = _)]
  refine x_ancJ (fun (_ : Bool) (s : S) => ∃ u2 u3 : Option D, s = [some (eD (rd thing1)), u2, u3]) (fun _ => ?_) ⟨_, _, rfl⟩ ?_
  · refine x_chn ?_
    refine x_m rfl (s' := [some (eD (rd thing1)), none, some (eI high1)]) rfl ?_
    refine x_vf rfl (rd_rd _) ?_
    refine x_chnJ (fun (_ : Bool) (s : S) => ∃ u4 : Option D, s = [some (eD (rd thing1)), none, u4]) (o1 := (boolO (flat2 fLe (eI low1) (eD (rd thing1))))) t_bool ?_ ⟨_, rfl⟩ ?_
    · refine x_m rfl (s' := [some (eD (rd thing1)), none, none]) rfl ?_
      refine x_optI eB t_bool fun b2 => ?_
      exact q_rt ⟨rfl, ⟨_, rfl⟩⟩
    rintro c5 _ ⟨u4, rfl⟩
    exact q_rt ⟨rfl, ⟨_, _, rfl⟩⟩
  rintro c3 _ ⟨u2, u3, rfl⟩
  exact q_rt rfl
theorem tk_are_moves (moves1 : D) : SimF (F_are_moves [(eD moves1)]) (T_are_moves moves1) (fun q d _ => d = eB q) := by
  rw [F_are_moves_s]
  refine f_start ?_
  refine c_seq ?_
  refine c_if ?_
  refine x_or ?_
  refine x_not ?_
  refine x_b ?_
  refine x_un ?_
  refine x_v rfl rfl (s' := [some (eD (rd moves1)), none, none, none, none]) rfl ?_
  refine x_optI eB t_isiD fun b1 => ?_
  refine x_blc ?_
  refine x_orJ (fun (_ : Bool) (s : S) => s = [some (eD (rd moves1)), none, none, none, none]) (fun _ => ?_) rfl ?_
  · refine x_not ?_
    refine x_b ?_
    refine x_chn ?_
    refine x_c ?_
    refine x_cb ?_
    refine x_cons ?_
    refine x_vf rfl (rd_rd _) ?_
    refine x_nil ?_
    refine x_optI eI t_int fun n2 => ?_
    refine x_chnP eI (v := 6) (c1 := decide (1 ≤ n2)) (c2 := decide (n2 ≤ 6)) rfl ?_ rfl ?_
    · refine x_c ?_
      exact q_pp (e := eI)
    refine x_blc ?_
    exact q_rt ⟨rfl, rfl⟩
  rintro c1 _ rfl
  refine q_if (fun _ => ?_) (fun _ => ?_)
  · refine c_seq ?_
    refine c_ret ?_
    refine x_c ?_
    exact q_rt rfl
  · refine c_skip ?_
    refine c_seq ?_
    refine c_for ?_
    refine x_enum ?_
    refine x_cons ?_
    refine x_vf rfl (rd_rd _) ?_
    refine x_nil ?_
    refine x_enumD fun ds1 => ?_
    refine q_for (fun (_ : Unit) (s : S) => ∃ u1 u2 u3 u4 : Option D, s = [some (eD (rd moves1)), u1, u2, u3, u4]) ⟨_, _, _, _, rfl⟩ ?_ ?_
    · rintro it1 _ _ ⟨u1, u2, u3, u4, rfl⟩
      refine g_tp rfl ?_
      refine gs_c ?_
      refine y_nm rfl (s' := [some (eD (rd moves1)), some (eI it1.1), u2, u3, u4]) rfl ?_
      refine gs_c ?_
      refine y_nm rfl (s' := [some (eD (rd moves1)), some (eI it1.1), some (eD it1.2), u3, u4]) rfl ?_
      refine gs_n ?_
      refine c_seq ?_
      refine c_if ?_
      refine x_or ?_
      refine x_not ?_
      refine x_b ?_
      refine x_un ?_
      refine x_v rfl rfl (s' := [some (eD (rd moves1)), some (eI it1.1), some (eD (rd it1.2)), u3, u4]) rfl ?_
      refine x_optI eB t_isiD fun b2 => ?_
      refine x_blc ?_
      refine x_orJ (fun (_ : Bool) (s : S) => s = [some (eD (rd moves1)), some (eI it1.1), some (eD (rd it1.2)), u3, u4]) (fun _ => ?_) rfl ?_
      · refine x_b ?_
        refine x_op ?_
        refine x_cb ?_
        refine x_cons ?_
        refine x_vf rfl (rd_rd _) ?_
        refine x_nil ?_
        refine x_optI eI t_int fun n5 => ?_
        refine x_cb ?_
        refine x_cons ?_
        refine x_vf rfl (rd_rd _) ?_
        refine x_nil ?_
        refine x_optI eI t_int fun n6 => ?_
        refine x_some t_neI ?_
        refine x_blc ?_
        exact q_rt ⟨rfl, rfl⟩
      rintro c2 _ rfl
      refine q_if (fun _ => ?_) (fun _ => ?_)
      · refine c_seq ?_
        refine c_ret ?_
        refine x_c ?_
        exact q_rt rfl
      · refine c_skip ?_
        refine c_seq ?_
        refine c_if ?_
        refine x_or ?_
        refine x_not ?_
        refine x_b ?_
        refine x_cb ?_
        refine x_cons ?_
        refine y_comp ?_
        refine x_it ?_
        refine x_vf rfl (rd_rd _) ?_
        refine x_itD fun ds2 => ?_
        refine y_qcomp eB (v0 := ()) (fun (_ : Unit) (s : S) => s = [some (eD (rd moves1)), some (eI it1.1), some (eD (rd it1.2)), none, none]) (s' := [some (eD (rd moves1)), some (eI it1.1), some (eD (rd it1.2)), none, none]) ?_ rfl ?_ ?_
        · rfl
        · rintro step1 _ _ rfl
          refine q_step ?_
          refine y_nm rfl (s' := [some (eD (rd moves1)), some (eI it1.1), some (eD (rd it1.2)), none, some (eD step1)]) rfl ?_
          refine t_yes ?_
          refine q_true ?_
          refine x_call ?_
          refine x_cons ?_
          refine x_v rfl rfl (s' := [some (eD (rd moves1)), some (eI it1.1), some (eD (rd it1.2)), none, some (eD (rd step1))]) rfl ?_
          refine x_cons ?_
          refine x_c ?_
          refine x_cons ?_
          refine x_c ?_
          refine x_nil ?_
          refine x_pos rfl ?_
          refine x_callK _ (tk_is_number (rd step1) 0 9) ?_ (fun _ _ => trivial)
          rintro r2 _ ps rfl
          rw [(gb_all rfl : gb [none, none, none] ps [some (eD (rd moves1)), some (eI it1.1), some (eD (rd it1.2)), none, some (eD (rd step1))] = _)]
          exact q_rtw rfl ⟨rfl, rfl⟩
        rintro ys1 _ _ rfl
        rw [show wipeD [some (eD (rd moves1)), some (eI it1.1), some (eD (rd it1.2)), none, none] [3, 4] = [some (eD (rd moves1)), some (eI it1.1), some (eD (rd it1.2)), none, none] from rfl]
        refine x_nil ?_
        refine x_some (t_allL rfl) ?_
        refine x_blc ?_
        refine x_orJ (fun (_ : Bool) (s : S) => ∃ u5 : Option D, s = [some (eD (rd moves1)), u5, some (eD (rd it1.2)), none, none]) (fun _ => ?_) ⟨_, rfl⟩ ?_
        · refine x_b ?_
          refine x_op ?_
          refine x_op ?_
          refine x_vf rfl (rd_rd _) ?_
          refine x_m rfl (s' := [some (eD (rd moves1)), none, some (eD (rd it1.2)), none, none]) rfl ?_
          refine x_optI eD t_any fun x2 => ?_
          refine x_c ?_
          refine x_optI eB t_bool fun b4 => ?_
          refine x_blc ?_
          exact q_rt ⟨rfl, ⟨_, rfl⟩⟩
        rintro c3 _ ⟨u5, rfl⟩
        refine q_if (fun _ => ?_) (fun _ => ?_)
        · refine c_seq ?_
          refine c_ret ?_
          refine x_c ?_
          exact q_rt rfl
        · refine c_skip ?_
          refine c_skip ?_
          exact q_nx ⟨_, _, _, _, rfl⟩
    rintro _ _ ⟨u1, u2, u3, u4, rfl⟩
    refine c_seq ?_
    refine c_ret ?_
    refine x_c ?_
    exact q_rt rfl
theorem tk_is_name (thing1 : D) : SimF (F_is_name [(eD thing1)]) (T_is_name thing1) (fun q d _ => d = eB q) := by
  rw [F_is_name_s]
  refine f_start ?_
  refine c_seq ?_
  refine c_if ?_
  refine x_or ?_
  refine x_not ?_
  refine x_b ?_
  refine x_un ?_
  refine x_v rfl rfl (s' := [some (eD (rd thing1)), none, none]) rfl ?_
  refine x_optI eB t_isiD fun b1 => ?_
  refine x_blc ?_
  refine x_orJ (fun (_ : Bool) (s : S) => s = [some (eD (rd thing1)), none, none]) (fun _ => ?_) rfl ?_
  · refine x_not ?_
    refine x_b ?_
    refine x_chn ?_
    refine x_c ?_
    refine x_cb ?_
    refine x_cons ?_
    refine x_vf rfl (rd_rd _) ?_
    refine x_nil ?_
    refine x_optI eI t_int fun n2 => ?_
    refine x_chnP eI (v := 8) (c1 := decide (1 ≤ n2)) (c2 := decide (n2 ≤ 8)) rfl ?_ rfl ?_
    · refine x_c ?_
      exact q_pp (e := eI)
    refine x_blc ?_
    exact q_rt ⟨rfl, rfl⟩
  rintro c1 _ rfl
  refine q_if (fun _ => ?_) (fun _ => ?_)
  · refine c_seq ?_
    refine c_ret ?_
    refine x_c ?_
    exact q_rt rfl
  · refine c_skip ?_
    refine c_seq ?_
    refine c_ret ?_
    refine x_cb ?_
    refine x_cons ?_
    refine y_comp ?_
    refine x_it ?_
    refine x_m rfl (s' := [none, none, none]) rfl ?_
    refine x_itD fun ds1 => ?_
    refine y_qcomp eB (v0 := ()) (fun (_ : Unit) (s : S) => s = [none, none, none]) (s' := [none, none, none]) ?_ rfl ?_ ?_
    · rfl
    · rintro sign1 _ _ rfl
      refine q_step ?_
      refine y_nm rfl (s' := [none, none, some (eD sign1)]) rfl ?_
      refine t_yes ?_
      refine q_true ?_
      refine x_chn ?_
      refine x_c ?_
      refine x_v rfl rfl (s' := [none, none, some (eD (rd sign1))]) rfl ?_
      refine x_chnJ (fun (_ : Bool) (s : S) => s = [none, none, some (eD (rd sign1))]) (o1 := (boolO (flat2 fLe (eS ("a" : Str)) (eD (rd sign1))))) t_bool ?_ rfl ?_
      · refine x_c ?_
        refine x_optI eB t_bool fun b3 => ?_
        exact q_rt ⟨rfl, rfl⟩
      rintro c5 _ rfl
      exact q_rtw rfl ⟨rfl, rfl⟩
    rintro ys1 _ _ rfl
    rw [show wipeD [none, none, none] [1, 2] = [none, none, none] from rfl]
    refine x_nil ?_
    refine x_some (t_allL rfl) ?_
    exact q_rt rfl
theorem tk_are_prices (row1 : D) (posts1 : Int) : SimF (F_are_prices [(eD row1), (eI posts1)]) (T_are_prices row1 posts1) (fun q d _ => d = eB q) := by
  rw [F_are_prices_s]
  refine f_start ?_
  refine c_seq ?_
  refine c_if ?_
  refine x_or ?_
  refine x_not ?_
  refine x_b ?_
  refine x_un ?_
  refine x_v rfl rfl (s' := [some (eD (rd row1)), some (eI posts1), none, none]) rfl ?_
  refine x_optI eB t_isiD fun b1 => ?_
  refine x_blc ?_
  refine x_orJ (fun (_ : Bool) (s : S) => ∃ u1 : Option D, s = [some (eD (rd row1)), u1, none, none]) (fun _ => ?_) ⟨_, rfl⟩ ?_
  · refine x_b ?_
    refine x_op ?_
    refine x_cb ?_
    refine x_cons ?_
    refine x_vf rfl (rd_rd _) ?_
    refine x_nil ?_
    refine x_optI eI t_int fun n2 => ?_
    refine x_m rfl (s' := [some (eD (rd row1)), none, none, none]) rfl ?_
    refine x_some t_neI ?_
    refine x_blc ?_
    exact q_rt ⟨rfl, ⟨_, rfl⟩⟩
  rintro c1 _ ⟨u1, rfl⟩
  refine q_if (fun _ => ?_) (fun _ => ?_)
  · refine c_seq ?_
    refine c_ret ?_
    refine x_c ?_
    exact q_rt rfl
  · refine c_skip ?_
    refine c_seq ?_
    refine c_if ?_
    refine x_not ?_
    refine x_b ?_
    refine x_cb ?_
    refine x_cons ?_
    refine y_comp ?_
    refine x_it ?_
    refine x_vf rfl (rd_rd _) ?_
    refine x_itD fun ds1 => ?_
    refine y_qcomp eB (v0 := ()) (fun (_ : Unit) (s : S) => s = [some (eD (rd row1)), u1, none, none]) (s' := [some (eD (rd row1)), u1, none, none]) ?_ rfl ?_ ?_
    · rfl
    · rintro item1 _ _ rfl
      refine q_step ?_
      refine y_nm rfl (s' := [some (eD (rd row1)), u1, none, some (eD item1)]) rfl ?_
      refine t_yes ?_
      refine q_true ?_
      refine x_orV ?_
      refine x_op ?_
      refine x_v rfl rfl (s' := [some (eD (rd row1)), u1, none, some (eD (rd item1))]) rfl ?_
      refine x_c ?_
      refine x_some t_isD ?_
      refine x_orcJ (fun (_ : Bool) (s : S) => s = [some (eD (rd row1)), u1, none, some (eD (rd item1))]) (fun _ => ?_) rfl ?_
      · refine x_call ?_
        refine x_cons ?_
        refine x_vf rfl (rd_rd _) ?_
        refine x_cons ?_
        refine x_c ?_
        refine x_cons ?_
        refine x_c ?_
        refine x_nil ?_
        refine x_pos rfl ?_
        refine x_callK _ (tk_is_number (rd item1) 0 9) ?_ (fun _ _ => trivial)
        rintro r4 _ ps rfl
        rw [(gb_all rfl : gb [none, none, none] ps [some (eD (rd row1)), u1, none, some (eD (rd item1))] = _)]
        exact q_rt ⟨rfl, rfl⟩
      rintro c3 _ rfl
      exact q_rtw rfl ⟨rfl, rfl⟩
    rintro ys1 _ _ rfl
    rw [show wipeD [some (eD (rd row1)), u1, none, none] [2, 3] = [some (eD (rd row1)), u1, none, none] from rfl]
    refine x_nil ?_
    refine x_some (t_allL rfl) ?_
    refine x_blc ?_
    refine q_if (fun _ => ?_) (fun _ => ?_)
    · refine c_seq ?_
      refine c_ret ?_
      refine x_c ?_
      exact q_rt rfl
    · refine c_skip ?_
      refine c_seq ?_
      refine c_ret ?_
      refine x_cb ?_
      refine x_cons ?_
      refine y_comp ?_
      refine x_it ?_
      refine x_m rfl (s' := [none, u1, none, none]) rfl ?_
      refine x_itD fun ds2 => ?_
      refine y_qcompP eB (fun (item2 : D) => (!isNon (rd item2))) (s' := [none, u1, none, none]) ?_ ?_ ?_ ?_
      · rfl
      · rfl
      · intro item2
        refine q_step ?_
        refine y_nm rfl (s' := [none, u1, none, some (eD item2)]) rfl ?_
        refine t_yes ?_
        refine q_true ?_
        refine x_op ?_
        refine x_v rfl rfl (s' := [none, u1, none, some (eD (rd item2))]) rfl ?_
        refine x_c ?_
        refine x_some t_nisD ?_
        exact q_rtw rfl ⟨rfl, rfl⟩
      intro ys2
      refine x_nil ?_
      refine x_some (t_anyL rfl) ?_
      exact q_rt rfl
theorem tk_are_requests (requests1 : D) (posts1 : Int) : SimF (F_are_requests [(eD requests1), (eI posts1)]) (T_are_requests requests1 posts1) (fun q d _ => d = eB q) := by
  rw [F_are_requests_s]
  refine f_start ?_
  refine c_seq ?_
  refine c_if ?_
  refine x_or ?_
  refine x_not ?_
  refine x_b ?_
  refine x_un ?_
  refine x_v rfl rfl (s' := [some (eD (rd requests1)), some (eI posts1), none]) rfl ?_
  refine x_optI eB t_isiD fun b1 => ?_
  refine x_blc ?_
  refine x_orJ (fun (_ : Bool) (s : S) => s = [some (eD (rd requests1)), some (eI posts1), none]) (fun _ => ?_) rfl ?_
  · refine x_not ?_
    refine x_b ?_
    refine x_chn ?_
    refine x_c ?_
    refine x_cb ?_
    refine x_cons ?_
    refine x_vf rfl (rd_rd _) ?_
    refine x_nil ?_
    refine x_optI eI t_int fun n2 => ?_
    refine x_chnP eI (v := 5) (c1 := decide (1 ≤ n2)) (c2 := decide (n2 ≤ 5)) rfl ?_ rfl ?_
    · refine x_c ?_
      exact q_pp (e := eI)
    refine x_blc ?_
    exact q_rt ⟨rfl, rfl⟩
  rintro c1 _ rfl
  refine q_if (fun _ => ?_) (fun _ => ?_)
  · refine c_seq ?_
    refine c_ret ?_
    refine x_c ?_
    exact q_rt rfl
  · refine c_skip ?_
    refine c_seq ?_
    refine c_forKD rfl (rd_rd _) (s' := [some (eD (rd requests1)), some (eI posts1), none]) rfl fun ks1 => ?_
    refine q_forX (fun (_ : Unit) (s : S) => ∃ u1 : Option D, s = [some (eD (rd requests1)), some (eI posts1), u1]) ⟨_, rfl⟩ ?_ ?_
    · rintro name1 _ _ ⟨u1, rfl⟩
      refine y_nm rfl (s' := [some (eD (rd requests1)), some (eI posts1), some (eD name1)]) rfl ?_
      refine c_seq ?_
      refine c_if ?_
      refine x_or ?_
      refine x_not ?_
      refine x_b ?_
      refine x_call ?_
      refine x_cons ?_
      refine x_v rfl rfl (s' := [some (eD (rd requests1)), some (eI posts1), some (eD (rd name1))]) rfl ?_
      refine x_nil ?_
      refine x_pos rfl ?_
      refine x_callK _ (tk_is_name (rd name1)) ?_ (fun _ _ => trivial)
      rintro r1 _ ps rfl
      rw [(gb_all rfl : gb [none] ps [some (eD (rd requests1)), some (eI posts1), some (eD (rd name1))] = _)]
      refine x_blc ?_
      refine x_orJ (fun (_ : Bool) (s : S) => s = [some (eD (rd requests1)), some (eI posts1), some (eD (rd name1))]) (fun _ => ?_) rfl ?_
      · refine x_not ?_
        refine x_b ?_
        refine x_call ?_
        refine x_cons ?_
        refine x_op ?_
        refine x_vf rfl (rd_rd _) ?_
        refine x_vf rfl (rd_rd _) ?_
        refine x_optI eD t_any fun x2 => ?_
        refine x_cons ?_
        refine x_vf rfl ((fun _ => rfl) _) ?_
        refine x_nil ?_
        refine x_pos rfl ?_
        refine x_callK _ (tk_are_prices x2 posts1) ?_ (fun _ _ => trivial)
        rintro r3 _ ps rfl
        rw [(gb_all rfl : gb [none, none] ps [some (eD (rd requests1)), some (eI posts1), some (eD (rd name1))] = _)]
        refine x_blc ?_
        exact q_rt ⟨rfl, rfl⟩
      rintro c2 _ rfl
      refine q_if (fun _ => ?_) (fun _ => ?_)
      · refine c_seq ?_
        refine c_ret ?_
        refine x_c ?_
        exact q_rt rfl
      · refine c_skip ?_
        refine c_skip ?_
        exact q_nx ⟨_, rfl⟩
    rintro _ _ ⟨u1, rfl⟩
    refine c_seq ?_
    refine c_ret ?_
    refine x_c ?_
    exact q_rt rfl
theorem tk_least_ways (moves1 : (List (List Int))) : SimF (F_least_ways [((eQ false .tup (eQ false .tup eI)) moves1)]) (T_least_ways moves1) (fun q d _ => d = (eQ false .tup (eQ false .tup eI)) q) := by
  rw [F_least_ways_s]
  refine f_start ?_
  refine c_seq ?_
  refine c_asg ?_
  refine x_cb ?_
  refine x_cons ?_
  refine x_vf rfl ((fun _ => rfl) _) ?_
  refine x_nil ?_
  refine x_some (t_lenQ rfl) ?_
  refine y_asg eI (moves1.length : Int) (st := fun posts1 => [some ((eQ false .tup (eQ false .tup eI)) moves1), some (eI posts1), none, none, none, none, none, none]) rfl (fun _ => rfl) fun posts1 => ?_
  refine c_seq ?_
  refine c_asg ?_
  refine y_comp ?_
  refine x_it ?_
  refine x_m rfl (s' := [none, some (eI posts1), none, none, none, none, none, none]) rfl ?_
  refine x_itQ rfl rfl ?_
  refine y_qcompP (eQ true .lst eI) (fun (row1 : (List Int)) => row1) (s' := [none, some (eI posts1), none, none, none, none, none, none]) ?_ ?_ ?_ ?_
  · rfl
  · rfl
  · intro row1
    refine q_step ?_
    refine y_nm rfl (s' := [none, some (eI posts1), none, none, none, none, none, some ((eQ false .tup eI) row1)]) rfl ?_
    refine t_yes ?_
    refine q_true ?_
    refine x_cb ?_
    refine x_cons ?_
    refine x_vf rfl ((fun _ => rfl) _) ?_
    refine x_nil ?_
    refine x_some (t_lstQ rfl) ?_
    exact q_rtw rfl ⟨rfl, rfl⟩
  intro ys1
  refine y_asgN rfl (s' := [none, some (eI posts1), some ((eQ true .lst (eQ true .lst eI)) ys1), none, none, none, none, none]) rfl ?_
  refine c_seq ?_
  refine c_for ?_
  refine x_rng1 ?_
  refine x_cons ?_
  refine x_vf rfl ((fun _ => rfl) _) ?_
  refine x_nil ?_
  refine x_rng1K fun ns1 => ?_
  refine q_for (fun (ways1 : (List (List Int))) (s : S) => ∃ u1 u2 u3 : Option D, s = [none, some (eI posts1), some ((eQ true .lst (eQ true .lst eI)) ways1), u1, u2, u3, none, none]) ⟨_, _, _, rfl⟩ ?_ ?_
  · rintro c1 ways1 _ ⟨u1, u2, u3, rfl⟩
    refine y_nm rfl (s' := [none, some (eI posts1), some ((eQ true .lst (eQ true .lst eI)) ways1), some (eI c1), u2, u3, none, none]) rfl ?_
    refine c_seq ?_
    refine c_for ?_
    refine x_rng1 ?_
    refine x_cons ?_
    refine x_vf rfl ((fun _ => rfl) _) ?_
    refine x_nil ?_
    refine x_rng1K fun ns2 => ?_
    refine q_for (fun (ways2 : (List (List Int))) (s : S) => ∃ u4 u5 : Option D, s = [none, some (eI posts1), some ((eQ true .lst (eQ true .lst eI)) ways2), some (eI c1), u4, u5, none, none]) ⟨_, _, rfl⟩ ?_ ?_
    · rintro a1 ways2 _ ⟨u4, u5, rfl⟩
      refine y_nm rfl (s' := [none, some (eI posts1), some ((eQ true .lst (eQ true .lst eI)) ways2), some (eI c1), some (eI a1), u5, none, none]) rfl ?_
      refine c_seq ?_
      refine c_for ?_
      refine x_rng1 ?_
      refine x_cons ?_
      refine x_vf rfl ((fun _ => rfl) _) ?_
      refine x_nil ?_
      refine x_rng1K fun ns3 => ?_
      refine q_for (fun (ways3 : (List (List Int))) (s : S) => ∃ u6 : Option D, s = [none, some (eI posts1), some ((eQ true .lst (eQ true .lst eI)) ways3), some (eI c1), some (eI a1), u6, none, none]) ⟨_, rfl⟩ ?_ ?_
      · rintro b1 ways3 _ ⟨u6, rfl⟩
        refine y_nm rfl (s' := [none, some (eI posts1), some ((eQ true .lst (eQ true .lst eI)) ways3), some (eI c1), some (eI a1), some (eI b1), none, none]) rfl ?_
        refine c_seq ?_
        refine c_set2 ?_
        refine x_cb ?_
        refine x_cons ?_
        refine x_q (e := eI) (o := (qat2 ways3 (some a1) (some b1))) (qe_s2 rfl rfl rfl (qe_v rfl) (qe_v rfl)) (fun _ => rfl) fun x1 => ?_
        refine x_cons ?_
        refine x_op ?_
        refine x_q (e := eI) (o := (qat2 ways3 (some a1) (some c1))) (qe_s2 rfl rfl rfl (qe_v rfl) (qe_v rfl)) (fun _ => rfl) fun x2 => ?_
        refine x_q (e := eI) (o := (qat2 ways3 (some c1) (some b1))) (qe_s2 rfl rfl rfl (qe_v rfl) (qe_v rfl)) (fun _ => rfl) fun x3 => ?_
        refine x_some t_addI ?_
        refine x_nil ?_
        refine x_some t_min2 ?_
        refine x_set2 eI (st := fun ways4 => [none, some (eI posts1), some ((eQ true .lst (eQ true .lst eI)) ways4), some (eI c1), some (eI a1), some (eI b1), none, none]) rfl (qe_v rfl) (qe_v rfl) (fun _ => rfl) (fun _ => rfl) fun ways4 => ?_
        refine c_skip ?_
        exact q_nx ⟨_, rfl⟩
      rintro ways3 _ ⟨u6, rfl⟩
      refine c_skip ?_
      exact q_nx ⟨_, _, rfl⟩
    rintro ways2 _ ⟨u4, u5, rfl⟩
    refine c_skip ?_
    exact q_nx ⟨_, _, _, rfl⟩
  rintro ways1 _ ⟨u1, u2, u3, rfl⟩
  refine c_seq ?_
  refine c_ret ?_
  refine x_cb ?_
  refine x_cons ?_
  refine y_comp ?_
  refine x_it ?_
  refine x_m rfl (s' := [none, some (eI posts1), none, u1, u2, u3, none, none]) rfl ?_
  refine x_itQ ((rd_Q (fz_Q (fun _ => rfl))) _) rfl ?_
  refine y_qcompP (eQ false .tup eI) (fun (row2 : (List Int)) => row2) (s' := [none, some (eI posts1), none, u1, u2, u3, none, none]) ?_ ?_ ?_ ?_
  · rfl
  · rfl
  · intro row2
    refine q_step ?_
    refine y_nm rfl (s' := [none, some (eI posts1), none, u1, u2, u3, none, some ((eQ false .lst eI) row2)]) rfl ?_
    refine t_yes ?_
    refine q_true ?_
    refine x_cb ?_
    refine x_cons ?_
    refine x_vf rfl ((fun _ => rfl) _) ?_
    refine x_nil ?_
    refine x_some (t_tupL (fun _ => rfl)) ?_
    exact q_rtw rfl ⟨rfl, rfl⟩
  intro ys2
  refine x_nil ?_
  refine x_some (t_tupL (fun _ => rfl)) ?_
  exact q_rt rfl
theorem tk_System_init {owp2 : Bool} (moves1 : (List (List Int))) (requests1 : (List (Str × (List (Option Int))))) : SimF (F_System_init [mI 6 [] [], ((eQ false .tup (eQ false .tup eI)) moves1), ((eM owp2 kS (eQ false .tup (eO eI))) requests1)]) (T_System_init moves1 requests1) (fun q d ps => d = .non ∧ ∃ r, ps = some (eC_System true q) :: r) := by
  rw [F_System_init_s]
  refine f_start ?_
  refine c_seq ?_
  refine c_if ?_
  refine x_not ?_
  refine x_b ?_
  refine x_call ?_
  refine x_cons ?_
  refine x_vf rfl ((fun _ => rfl) _) ?_
  refine x_nil ?_
  refine x_pos rfl ?_
  refine x_callK _ (tk_are_moves ((eQ false .tup (eQ false .tup eI)) moves1)) ?_ (fun _ _ => trivial)
  rintro r1 _ ps rfl
  rw [(gb_all rfl : gb [none] ps [some (mI 6 [] []), some ((eQ false .tup (eQ false .tup eI)) moves1), some ((eM owp2 kS (eQ false .tup (eO eI))) requests1), none, none] = _)]
  refine x_blc ?_
  refine q_if (fun _ => ?_) (fun _ => ?_)
  · refine c_seq ?_
    exact q_no
  · refine c_skip ?_
    refine c_seq ?_
    refine c_if ?_
    refine x_not ?_
    refine x_b ?_
    refine x_call ?_
    refine x_cons ?_
    refine x_v rfl ((rd_Mo (fz_Q (fz_O (fun _ => rfl))) (fun _ _ => rfl)) _) (s' := [some (mI 6 [] []), some ((eQ false .tup (eQ false .tup eI)) moves1), some ((eM false kS (eQ false .tup (eO eI))) requests1), none, none]) rfl ?_
    refine x_cons ?_
    refine x_cb ?_
    refine x_cons ?_
    refine x_vf rfl ((fun _ => rfl) _) ?_
    refine x_nil ?_
    refine x_some (t_lenQ rfl) ?_
    refine x_nil ?_
    refine x_pos rfl ?_
    refine x_callK _ (tk_are_requests ((eM false kS (eQ false .tup (eO eI))) requests1) (moves1.length : Int)) ?_ (fun _ _ => trivial)
    rintro r2 _ ps rfl
    rw [(gb_all rfl : gb [none, none] ps [some (mI 6 [] []), some ((eQ false .tup (eQ false .tup eI)) moves1), some ((eM false kS (eQ false .tup (eO eI))) requests1), none, none] = _)]
    refine x_blc ?_
    refine q_if (fun _ => ?_) (fun _ => ?_)
    · refine c_seq ?_
      exact q_no
    · refine c_skip ?_
      refine c_seq ?_
      refine y_setF ?_
      refine x_vf rfl ((fun _ => rfl) _) ?_
      refine x_setF2 (eQ false .tup (eQ false .tup eI)) moves1 (st := fun moves2 => [some (mI 6 [0] [((eQ false .tup (eQ false .tup eI)) moves2)]), some ((eQ false .tup (eQ false .tup eI)) moves1), some ((eM false kS (eQ false .tup (eO eI))) requests1), none, none]) 0 rfl rfl (by decide) (fun _ => rfl) fun moves2 => ?_
      refine c_seq ?_
      refine y_setF ?_
      refine x_cb ?_
      refine x_cons ?_
      refine x_vf rfl ((fun _ => rfl) _) ?_
      refine x_nil ?_
      refine x_some (t_lenQ rfl) ?_
      refine x_setF2 eI (moves1.length : Int) (st := fun posts1 => [some (mI 6 [0, 5] [((eQ false .tup (eQ false .tup eI)) moves2), (eI posts1)]), some ((eQ false .tup (eQ false .tup eI)) moves1), some ((eM false kS (eQ false .tup (eO eI))) requests1), none, none]) 1 rfl rfl (by decide) (fun _ => rfl) fun posts1 => ?_
      refine c_seq ?_
      refine y_setF ?_
      refine x_cb ?_
      refine x_cons ?_
      refine x_cb ?_
      refine x_cons ?_
      refine x_vf rfl ((fun _ => rfl) _) ?_
      refine x_nil ?_
      refine x_optI (eQ true .lst eS) t_sortM fun names1 => ?_
      refine x_nil ?_
      refine x_some (t_tupL (fun _ => rfl)) ?_
      refine x_setF2 (eQ false .tup eS) names1 (st := fun names2 => [some (mI 6 [0, 5, 3] [((eQ false .tup (eQ false .tup eI)) moves2), (eI posts1), ((eQ false .tup eS) names2)]), some ((eQ false .tup (eQ false .tup eI)) moves1), some ((eM false kS (eQ false .tup (eO eI))) requests1), none, none]) 2 rfl rfl (by decide) (fun _ => rfl) fun names2 => ?_
      refine c_seq ?_
      refine y_setF ?_
      refine y_dcomp ?_
      refine x_it ?_
      refine x_fldS (q := 2) rfl rfl rfl rfl rfl ?_
      refine x_itQ rfl rfl ?_
      refine y_qdcomp kS (eQ false .tup (eO eI)) kS_inj (ev := eS) (fun _ => rfl) (s' := [some (mI 6 [0, 5, 3] [((eQ false .tup (eQ false .tup eI)) moves2), (eI posts1), ((eQ false .tup eS) names2)]), some ((eQ false .tup (eQ false .tup eI)) moves1), some ((eM false kS (eQ false .tup (eO eI))) requests1), none, none]) ?_ ?_ ?_ ?_
      · rfl
      · rfl
      · intro name1
        refine q_dstep ?_
        refine y_nm rfl (s' := [some (mI 6 [0, 5, 3] [((eQ false .tup (eQ false .tup eI)) moves2), (eI posts1), ((eQ false .tup eS) names2)]), some ((eQ false .tup (eQ false .tup eI)) moves1), some ((eM false kS (eQ false .tup (eO eI))) requests1), none, some (eS name1)]) rfl ?_
        refine x_vf rfl ((fun _ => rfl) _) ?_
        refine q_dkey (by rfl) ?_
        refine x_op ?_
        refine x_vf rfl ((fun _ => rfl) _) ?_
        refine x_vf rfl ((fun _ => rfl) _) ?_
        refine x_optI (eQ false .tup (eO eI)) (t_subM kS_inj (fun _ => rfl) (fun _ => rfl)) fun x2 => ?_
        exact q_rtw rfl ⟨rfl, rfl⟩
      intro m1
      refine x_setF2 (eM true kS (eQ false .tup (eO eI))) m1 (st := fun prices1 => [some (mI 6 [0, 5, 3, 11] [((eQ false .tup (eQ false .tup eI)) moves2), (eI posts1), ((eQ false .tup eS) names2), ((eM true kS (eQ false .tup (eO eI))) prices1)]), some ((eQ false .tup (eQ false .tup eI)) moves1), some ((eM false kS (eQ false .tup (eO eI))) requests1), none, none]) 3 rfl rfl (by decide) (fun _ => rfl) fun prices1 => ?_
      refine c_seq ?_
      refine y_setF ?_
      refine x_call ?_
      refine x_cons ?_
      refine x_m rfl (s' := [some (mI 6 [0, 5, 3, 11] [((eQ false .tup (eQ false .tup eI)) moves2), (eI posts1), ((eQ false .tup eS) names2), ((eM true kS (eQ false .tup (eO eI))) prices1)]), none, some ((eM false kS (eQ false .tup (eO eI))) requests1), none, none]) rfl ?_
      refine x_nil ?_
      refine x_pos rfl ?_
      refine x_callK _ (tk_least_ways moves1) ?_ (fun _ _ => trivial)
      rintro r3 _ ps rfl
      rw [(gb_all rfl : gb [none] ps [some (mI 6 [0, 5, 3, 11] [((eQ false .tup (eQ false .tup eI)) moves2), (eI posts1), ((eQ false .tup eS) names2), ((eM true kS (eQ false .tup (eO eI))) prices1)]), none, some ((eM false kS (eQ false .tup (eO eI))) requests1), none, none] = _)]
      refine x_setF2 (eQ false .tup (eQ false .tup eI)) r3 (st := fun ways1 => [some (mI 6 [0, 5, 3, 11, 12] [((eQ false .tup (eQ false .tup eI)) moves2), (eI posts1), ((eQ false .tup eS) names2), ((eM true kS (eQ false .tup (eO eI))) prices1), ((eQ false .tup (eQ false .tup eI)) ways1)]), none, some ((eM false kS (eQ false .tup (eO eI))) requests1), none, none]) 4 rfl rfl (by decide) (fun _ => rfl) fun ways1 => ?_
      refine c_skip ?_
      exact q_rt ⟨rfl, _, rfl⟩
theorem tk__law_turned (row1 : (List (Str × (List (Option Int))))) : SimF (F__law_turned [((eM false kS (eQ false .tup (eO eI))) row1)]) (T__law_turned row1) (fun q d _ => d = (eM false kS (eQ false .tup (eO eI))) q) := by
  rw [F__law_turned_s]
  refine f_start ?_
  refine c_seq ?_
  refine c_asg ?_
  refine x_c ?_
  refine y_asgN rfl (s' := [some ((eM false kS (eQ false .tup (eO eI))) row1), some ((eM true kS (eQ false .tup (eO eI))) ([])), none]) rfl ?_
  refine c_seq ?_
  refine c_for ?_
  refine x_rev ?_
  refine x_cb ?_
  refine x_cons ?_
  refine x_vf rfl ((fun _ => rfl) _) ?_
  refine x_nil ?_
  refine x_some (t_lstM (ev := eS) (fun _ => rfl)) ?_
  refine x_revQ ((rd_Q (fun _ => rfl)) _) rfl ?_
  refine q_for (fun (other1 : (List (Str × (List (Option Int))))) (s : S) => ∃ u1 : Option D, s = [some ((eM false kS (eQ false .tup (eO eI))) row1), some ((eM true kS (eQ false .tup (eO eI))) other1), u1]) ⟨_, rfl⟩ ?_ ?_
  · rintro name1 other1 _ ⟨u1, rfl⟩
    refine y_nm rfl (s' := [some ((eM false kS (eQ false .tup (eO eI))) row1), some ((eM true kS (eQ false .tup (eO eI))) other1), some (eS name1)]) rfl ?_
    refine c_seq ?_
    refine c_setS ?_
    refine x_op ?_
    refine x_vf rfl ((fun _ => rfl) _) ?_
    refine x_vf rfl ((fun _ => rfl) _) ?_
    refine x_optI (eQ false .tup (eO eI)) (t_subM kS_inj (fun _ => rfl) (fun _ => rfl)) fun x1 => ?_
    refine x_setSK rfl ?_
    refine x_vf rfl ((fun _ => rfl) _) ?_
    refine x_setAtM (eQ false .tup (eO eI)) (v := x1) (st := fun other2 => [some ((eM false kS (eQ false .tup (eO eI))) row1), some ((eM true kS (eQ false .tup (eO eI))) other2), some (eS name1)]) kS_inj (fun _ => rfl) rfl (fun _ => rfl) fun other2 => ?_
    refine c_skip ?_
    exact q_nx ⟨_, rfl⟩
  rintro other1 _ ⟨u1, rfl⟩
  refine c_seq ?_
  refine c_ret ?_
  refine x_v rfl ((rd_M (fz_Q (fz_O (fun _ => rfl)))) _) (s' := [some ((eM false kS (eQ false .tup (eO eI))) row1), some ((eM false kS (eQ false .tup (eO eI))) other1), u1]) rfl ?_
  exact q_rt rfl
theorem tk_System_has (self1 : O_System) (name1 : Str) : SimF (F_System_has [((eC_System false) self1), (eS name1)]) (T_System_has self1 name1) (fun q d _ => d = eB q) := by
  rw [F_System_has_s]
  refine f_start ?_
  refine c_seq ?_
  refine c_ret ?_
  refine x_andV ?_
  refine x_call ?_
  refine x_cons ?_
  refine x_vf rfl ((fun _ => rfl) _) ?_
  refine x_nil ?_
  refine x_pos rfl ?_
  refine x_callK _ (tk_is_name (eS name1)) ?_ (fun _ _ => trivial)
  rintro r1 _ ps rfl
  rw [(gb_all rfl : gb [none] ps [some ((eC_System false) self1), some (eS name1)] = _)]
  refine x_ancP (c2 := (keyM self1.prices name1)) ?_ ?_
  · refine x_op ?_
    refine x_vf rfl ((fun _ => rfl) _) ?_
    refine x_un ?_
    refine x_vf rfl ((fun _ => rfl) _) ?_
    refine x_some (d := ((eM false kS (eQ false .tup (eO eI))) self1.prices)) (congrArg some ((fun _ => rfl) _)) ?_
    refine x_some (t_inM kS_inj (fun _ => rfl)) ?_
    exact q_pp (e := D.bl)
  exact q_rt rfl
theorem tk_System_served (self1 : O_System) (name1 : Str) (post1 : Int) : SimF (F_System_served [((eC_System false) self1), (eS name1), (eI post1)]) (T_System_served self1 name1 post1) (fun q d _ => d = (eO eI) q) := by
  rw [F_System_served_s]
  refine f_start ?_
  refine c_seq ?_
  refine c_if ?_
  refine x_not ?_
  refine x_b ?_
  refine x_meth ?_
  refine x_vf rfl ((fun _ => rfl) _) ?_
  refine x_methK rfl rfl rfl ?_
  refine x_cons ?_
  refine x_vf rfl ((fun _ => rfl) _) ?_
  refine x_nil ?_
  refine x_pos rfl ?_
  refine x_clkN _ (tk_System_has self1 name1) ?_
  rintro r1 _ ps rfl
  rw [(gb_all rfl : gb (none :: [none]) ps [some ((eC_System false) self1), some (eS name1), some (eI post1)] = _)]
  refine x_blc ?_
  refine q_if (fun _ => ?_) (fun _ => ?_)
  · refine c_seq ?_
    exact q_no
  · refine c_skip ?_
    refine c_seq ?_
    refine c_if ?_
    refine x_not ?_
    refine x_b ?_
    refine x_call ?_
    refine x_cons ?_
    refine x_vf rfl ((fun _ => rfl) _) ?_
    refine x_cons ?_
    refine x_c ?_
    refine x_cons ?_
    refine x_op ?_
    refine x_un ?_
    refine x_vf rfl ((fun _ => rfl) _) ?_
    refine x_some (d := (eI self1.posts)) (congrArg some ((fun _ => rfl) _)) ?_
    refine x_c ?_
    refine x_some t_subI ?_
    refine x_nil ?_
    refine x_pos rfl ?_
    refine x_callK _ (tk_is_number (eI post1) 0 (self1.posts - 1)) ?_ (fun _ _ => trivial)
    rintro r2 _ ps rfl
    rw [(gb_all rfl : gb [none, none, none] ps [some ((eC_System false) self1), some (eS name1), some (eI post1)] = _)]
    refine x_blc ?_
    refine q_if (fun _ => ?_) (fun _ => ?_)
    · refine c_seq ?_
      exact q_no
    · refine c_skip ?_
      refine c_seq ?_
      refine c_ret ?_
      refine x_op ?_
      refine x_op ?_
      refine x_un ?_
      refine x_vf rfl ((fun _ => rfl) _) ?_
      refine x_some (d := ((eM false kS (eQ false .tup (eO eI))) self1.prices)) (congrArg some ((fun _ => rfl) _)) ?_
      refine x_m rfl (s' := [some ((eC_System false) self1), none, some (eI post1)]) rfl ?_
      refine x_optI (eQ false .tup (eO eI)) (t_subM kS_inj (fun _ => rfl) (fun _ => rfl)) fun x1 => ?_
      refine x_m rfl (s' := [some ((eC_System false) self1), none, none]) rfl ?_
      refine x_optI (eO eI) (t_subQ rfl (rd_O (fun _ => rfl))) fun x2 => ?_
      exact q_rt rfl
theorem tk_item_text (item1 : (Option Int)) : SimF (F_item_text [((eO eI) item1)]) (T_item_text item1) (fun q d _ => d = eS q) := by
  rw [F_item_text_s]
  refine f_start ?_
  refine c_seq ?_
  refine c_if ?_
  refine x_b ?_
  refine x_op ?_
  refine x_vf rfl ((rd_O (fun _ => rfl)) _) ?_
  refine x_c ?_
  refine x_some (t_isO (fun _ => rfl)) ?_
  refine x_blc ?_
  refine q_caseO ?_ ?_
  · rintro rfl
    refine c_seq ?_
    refine c_ret ?_
    refine x_c ?_
    exact q_rt rfl
  · rintro item2 rfl
    refine c_skip ?_
    refine c_seq ?_
    refine c_ret ?_
    refine x_cb ?_
    refine x_cons ?_
    refine x_m rfl (s' := [none]) rfl ?_
    refine x_nil ?_
    refine x_optI eS t_strI fun text1 => ?_
    exact q_rt rfl
theorem tk_system_text (system1 : O_System) : SimF (F_system_text [((eC_System false) system1)]) (T_system_text system1) (fun q d _ => d = eS q) := by
  rw [F_system_text_s]
  refine f_start ?_
  refine c_seq ?_
  refine c_asg ?_
  refine y_lst ?_
  refine x_nil ?_
  refine x_okl (d' := ((eQ true .lst eS) ([]))) 0 rfl (by decide) rfl ?_
  refine y_asgN rfl (s' := [some ((eC_System false) system1), some ((eQ true .lst eS) ([])), none, none, none, none, none, none, none]) rfl ?_
  refine c_seq ?_
  refine c_for ?_
  refine x_it ?_
  refine x_un ?_
  refine x_vf rfl ((fun _ => rfl) _) ?_
  refine x_some (d := ((eQ false .tup (eQ false .tup eI)) system1.moves)) (congrArg some ((fun _ => rfl) _)) ?_
  refine x_itQ rfl rfl ?_
  refine q_for (fun (lines1 : (List Str)) (s : S) => ∃ u1 u2 u3 : Option D, s = [some ((eC_System false) system1), some ((eQ true .lst eS) lines1), u1, none, none, u2, u3, none, none]) ⟨_, _, _, rfl⟩ ?_ ?_
  · rintro row1 lines1 _ ⟨u1, u2, u3, rfl⟩
    refine y_nm rfl (s' := [some ((eC_System false) system1), some ((eQ true .lst eS) lines1), some ((eQ false .tup eI) row1), none, none, u2, u3, none, none]) rfl ?_
    refine c_seq ?_
    refine x_app rfl ?_
    refine x_join ?_
    refine x_c ?_
    refine x_joinK ?_
    refine x_op ?_
    refine y_lst ?_
    refine x_cons ?_
    refine x_c ?_
    refine x_nil ?_
    refine x_okl (d' := ((eQ true .lst eS) ([("post" : Str)]))) 1 rfl (by decide) rfl ?_
    refine y_comp ?_
    refine x_it ?_
    refine x_m rfl (s' := [some ((eC_System false) system1), some ((eQ true .lst eS) lines1), none, none, none, u2, u3, none, none]) rfl ?_
    refine x_itQ rfl rfl ?_
    refine y_qcomp eS (v0 := ()) (fun (_ : Unit) (s : S) => s = [some ((eC_System false) system1), some ((eQ true .lst eS) lines1), none, none, none, none, none, none, none]) (s' := [some ((eC_System false) system1), some ((eQ true .lst eS) lines1), none, none, none, none, none, none, none]) ?_ rfl ?_ ?_
    · rfl
    · rintro step1 _ _ rfl
      refine q_step ?_
      refine y_nm rfl (s' := [some ((eC_System false) system1), some ((eQ true .lst eS) lines1), none, none, none, none, some (eI step1), none, none]) rfl ?_
      refine t_yes ?_
      refine q_true ?_
      refine x_cb ?_
      refine x_cons ?_
      refine x_vf rfl ((fun _ => rfl) _) ?_
      refine x_nil ?_
      refine x_optI eS t_strI fun text2 => ?_
      exact q_rtw rfl ⟨rfl, rfl⟩
    rintro ys1 _ _ rfl
    rw [show wipeD [some ((eC_System false) system1), some ((eQ true .lst eS) lines1), none, none, none, none, none, none, none] [5, 6] = [some ((eC_System false) system1), some ((eQ true .lst eS) lines1), none, none, none, none, none, none, none] from rfl]
    refine x_optI (eQ true .lst eS) t_addL fun xs1 => ?_
    refine x_optI eS (t_join rfl) fun text3 => ?_
    refine x_appK eS (xs := lines1) (v := text3) (st := fun lines2 => [some ((eC_System false) system1), some ((eQ true .lst eS) lines2), none, none, none, none, none, none, none]) rfl (fun _ => rfl) fun lines2 => ?_
    refine c_skip ?_
    exact q_nx ⟨_, _, _, rfl⟩
  rintro lines1 _ ⟨u1, u2, u3, rfl⟩
  refine c_seq ?_
  refine c_for ?_
  refine x_it ?_
  refine x_un ?_
  refine x_vf rfl ((fun _ => rfl) _) ?_
  refine x_some (d := ((eQ false .tup eS) system1.names)) (congrArg some ((fun _ => rfl) _)) ?_
  refine x_itQ rfl rfl ?_
  refine q_for (fun (lines3 : (List Str)) (s : S) => ∃ u4 u5 u6 u7 : Option D, s = [some ((eC_System false) system1), some ((eQ true .lst eS) lines3), u1, u4, u5, u6, u3, u7, none]) ⟨_, _, _, _, rfl⟩ ?_ ?_
  · rintro name1 lines3 _ ⟨u4, u5, u6, u7, rfl⟩
    refine y_nm rfl (s' := [some ((eC_System false) system1), some ((eQ true .lst eS) lines3), u1, some (eS name1), u5, u6, u3, u7, none]) rfl ?_
    refine c_seq ?_
    refine c_asg ?_
    refine y_comp ?_
    refine x_rng1 ?_
    refine x_cons ?_
    refine x_un ?_
    refine x_vf rfl ((fun _ => rfl) _) ?_
    refine x_some (d := (eI system1.posts)) (congrArg some ((fun _ => rfl) _)) ?_
    refine x_nil ?_
    refine x_rng1K fun ns1 => ?_
    refine y_qcomp eS (v0 := ()) (fun (_ : Unit) (s : S) => s = [some ((eC_System false) system1), some ((eQ true .lst eS) lines3), u1, some (eS name1), u5, none, u3, none, none]) (s' := [some ((eC_System false) system1), some ((eQ true .lst eS) lines3), u1, some (eS name1), u5, none, u3, none, none]) ?_ rfl ?_ ?_
    · rfl
    · rintro post1 _ _ rfl
      refine q_step ?_
      refine y_nm rfl (s' := [some ((eC_System false) system1), some ((eQ true .lst eS) lines3), u1, some (eS name1), u5, none, u3, some (eI post1), none]) rfl ?_
      refine t_yes ?_
      refine q_true ?_
      refine x_call ?_
      refine x_cons ?_
      refine x_meth ?_
      refine x_vf rfl ((fun _ => rfl) _) ?_
      refine x_methK rfl rfl rfl ?_
      refine x_cons ?_
      refine x_vf rfl ((fun _ => rfl) _) ?_
      refine x_cons ?_
      refine x_vf rfl ((fun _ => rfl) _) ?_
      refine x_nil ?_
      refine x_pos rfl ?_
      refine x_clkN _ (tk_System_served system1 name1 post1) ?_
      rintro r3 _ ps rfl
      rw [(gb_all rfl : gb (none :: [none, none]) ps [some ((eC_System false) system1), some ((eQ true .lst eS) lines3), u1, some (eS name1), u5, none, u3, some (eI post1), none] = _)]
      refine x_nil ?_
      refine x_pos rfl ?_
      refine x_callK _ (tk_item_text r3) ?_ (fun _ _ => trivial)
      rintro r4 _ ps rfl
      rw [(gb_all rfl : gb [none] ps [some ((eC_System false) system1), some ((eQ true .lst eS) lines3), u1, some (eS name1), u5, none, u3, some (eI post1), none] = _)]
      exact q_rtw rfl ⟨rfl, rfl⟩
    rintro ys2 _ _ rfl
    rw [show wipeD [some ((eC_System false) system1), some ((eQ true .lst eS) lines3), u1, some (eS name1), u5, none, u3, none, none] [5, 7] = [some ((eC_System false) system1), some ((eQ true .lst eS) lines3), u1, some (eS name1), u5, none, u3, none, none] from rfl]
    refine y_asgN rfl (s' := [some ((eC_System false) system1), some ((eQ true .lst eS) lines3), u1, some (eS name1), some ((eQ true .lst eS) ys2), none, u3, none, none]) rfl ?_
    refine c_seq ?_
    refine x_app rfl ?_
    refine x_join ?_
    refine x_c ?_
    refine x_joinK ?_
    refine x_op ?_
    refine y_lst ?_
    refine x_cons ?_
    refine x_c ?_
    refine x_cons ?_
    refine x_m rfl (s' := [some ((eC_System false) system1), some ((eQ true .lst eS) lines3), u1, none, some ((eQ true .lst eS) ys2), none, u3, none, none]) rfl ?_
    refine x_nil ?_
    refine x_okl (d' := ((eQ true .lst eS) ([("request" : Str), name1]))) 2 rfl (by decide) rfl ?_
    refine x_m rfl (s' := [some ((eC_System false) system1), some ((eQ true .lst eS) lines3), u1, none, none, none, u3, none, none]) rfl ?_
    refine x_optI (eQ true .lst eS) t_addL fun xs2 => ?_
    refine x_optI eS (t_join rfl) fun text4 => ?_
    refine x_appK eS (xs := lines3) (v := text4) (st := fun lines4 => [some ((eC_System false) system1), some ((eQ true .lst eS) lines4), u1, none, none, none, u3, none, none]) rfl (fun _ => rfl) fun lines4 => ?_
    refine c_skip ?_
    exact q_nx ⟨_, _, _, _, rfl⟩
  rintro lines3 _ ⟨u4, u5, u6, u7, rfl⟩
  refine c_seq ?_
  refine c_ret ?_
  refine x_join ?_
  refine x_c ?_
  refine x_joinK ?_
  refine y_comp ?_
  refine x_it ?_
  refine x_m rfl (s' := [some ((eC_System false) system1), none, u1, u4, u5, u6, u3, u7, none]) rfl ?_
  refine x_itQ ((rd_Q (fun _ => rfl)) _) rfl ?_
  refine y_qcomp eS (v0 := ()) (fun (_ : Unit) (s : S) => s = [some ((eC_System false) system1), none, u1, u4, u5, none, u3, u7, none]) (s' := [some ((eC_System false) system1), none, u1, u4, u5, none, u3, u7, none]) ?_ rfl ?_ ?_
  · rfl
  · rintro line1 _ _ rfl
    refine q_step ?_
    refine y_nm rfl (s' := [some ((eC_System false) system1), none, u1, u4, u5, none, u3, u7, some (eS line1)]) rfl ?_
    refine t_yes ?_
    refine q_true ?_
    refine x_op ?_
    refine x_vf rfl ((fun _ => rfl) _) ?_
    refine x_c ?_
    refine x_optI eS t_addS fun text6 => ?_
    exact q_rtw rfl ⟨rfl, rfl⟩
  rintro ys3 _ _ rfl
  rw [show wipeD [some ((eC_System false) system1), none, u1, u4, u5, none, u3, u7, none] [5, 8] = [some ((eC_System false) system1), none, u1, u4, u5, none, u3, u7, none] from rfl]
  refine x_optI eS (t_join rfl) fun text7 => ?_
  exact q_rt rfl
theorem tk__law_is (text1 : Str) (due1 : Str) : SimF (F__law_is [(eS text1), (eS due1)]) (T__law_is text1 due1) (fun q d _ => d = eB q) := by
  rw [F__law_is_s]
  refine f_start ?_
  refine c_seq ?_
  refine c_ret ?_
  refine x_andV ?_
  refine x_un ?_
  refine x_vf rfl ((fun _ => rfl) _) ?_
  refine x_some (d := eB true) rfl ?_
  refine x_ancJ (fun (_ : Bool) (s : S) => ∃ u1 : Option D, s = [some (eS text1), u1]) (fun _ => ?_) ⟨_, rfl⟩ ?_
  · refine x_op ?_
    refine x_vf rfl ((fun _ => rfl) _) ?_
    refine x_m rfl (s' := [some (eS text1), none]) rfl ?_
    refine x_some t_eqS ?_
    exact q_rt ⟨rfl, ⟨_, rfl⟩⟩
  rintro c1 _ ⟨u1, rfl⟩
  exact q_rt rfl
theorem tk__law_machine_text (turns1 : (List (List (Str × Int)))) : SimF (F__law_machine_text [((eQ false .tup (eM false kS eI)) turns1)]) (T__law_machine_text turns1) (fun q d _ => d = eS q) := by
  rw [F__law_machine_text_s]
  refine f_start ?_
  refine c_seq ?_
  refine c_asg ?_
  refine x_c ?_
  refine y_asgN rfl (s' := [some ((eQ false .tup (eM false kS eI)) turns1), some (eS ("" : Str)), none, none, none]) rfl ?_
  refine c_seq ?_
  refine c_for ?_
  refine x_it ?_
  refine x_m rfl (s' := [none, some (eS ("" : Str)), none, none, none]) rfl ?_
  refine x_itQ rfl rfl ?_
  refine q_for (fun (text1 : Str) (s : S) => ∃ u1 u2 u3 : Option D, s = [none, some (eS text1), u1, u2, u3]) ⟨_, _, _, rfl⟩ ?_ ?_
  · rintro row1 text1 _ ⟨u1, u2, u3, rfl⟩
    refine y_nm rfl (s' := [none, some (eS text1), some ((eM false kS eI) row1), u2, u3]) rfl ?_
    refine c_seq ?_
    refine c_asg ?_
    refine x_op ?_
    refine x_op ?_
    refine x_op ?_
    refine x_m rfl (s' := [none, none, some ((eM false kS eI) row1), u2, u3]) rfl ?_
    refine x_c ?_
    refine x_optI eS t_addS fun text2 => ?_
    refine x_join ?_
    refine x_c ?_
    refine x_joinK ?_
    refine y_comp ?_
    refine x_it ?_
    refine x_cb ?_
    refine x_cons ?_
    refine x_vf rfl ((fun _ => rfl) _) ?_
    refine x_nil ?_
    refine x_optI (eQ true .lst eS) t_sortM fun names1 => ?_
    refine x_itQ ((rd_Q (fun _ => rfl)) _) rfl ?_
    refine y_qcomp eS (v0 := ()) (fun (_ : Unit) (s : S) => s = [none, none, some ((eM false kS eI) row1), none, none]) (s' := [none, none, some ((eM false kS eI) row1), none, none]) ?_ rfl ?_ ?_
    · rfl
    · rintro name1 _ _ rfl
      refine q_step ?_
      refine y_nm rfl (s' := [none, none, some ((eM false kS eI) row1), none, some (eS name1)]) rfl ?_
      refine t_yes ?_
      refine q_true ?_
      refine x_op ?_
      refine x_op ?_
      refine x_vf rfl ((fun _ => rfl) _) ?_
      refine x_c ?_
      refine x_optI eS t_addS fun text6 => ?_
      refine x_cb ?_
      refine x_cons ?_
      refine x_op ?_
      refine x_vf rfl ((fun _ => rfl) _) ?_
      refine x_vf rfl ((fun _ => rfl) _) ?_
      refine x_optI eI (t_subM kS_inj (fun _ => rfl) (fun _ => rfl)) fun x2 => ?_
      refine x_nil ?_
      refine x_optI eS t_strI fun text7 => ?_
      refine x_optI eS t_addS fun text8 => ?_
      exact q_rtw rfl ⟨rfl, rfl⟩
    rintro ys1 _ _ rfl
    rw [show wipeD [none, none, some ((eM false kS eI) row1), none, none] [3, 4] = [none, none, some ((eM false kS eI) row1), none, none] from rfl]
    refine x_optI eS (t_join rfl) fun text9 => ?_
    refine x_optI eS t_addS fun text10 => ?_
    refine x_c ?_
    refine x_optI eS t_addS fun text11 => ?_
    refine y_asgN rfl (s' := [none, some (eS text11), some ((eM false kS eI) row1), none, none]) rfl ?_
    refine c_skip ?_
    exact q_nx ⟨_, _, _, rfl⟩
  rintro text1 _ ⟨u1, u2, u3, rfl⟩
  refine c_seq ?_
  refine c_ret ?_
  refine x_m rfl (s' := [none, none, u1, u2, u3]) rfl ?_
  exact q_rt rfl
theorem tk_are_turns (turns1 : D) : SimF (F_are_turns [(eD turns1)]) (T_are_turns turns1) (fun q d _ => d = eB q) := by
  rw [F_are_turns_s]
  refine f_start ?_
  refine c_seq ?_
  refine c_if ?_
  refine x_or ?_
  refine x_not ?_
  refine x_b ?_
  refine x_un ?_
  refine x_v rfl rfl (s' := [some (eD (rd turns1)), none, none]) rfl ?_
  refine x_optI eB t_isiD fun b1 => ?_
  refine x_blc ?_
  refine x_orJ (fun (_ : Bool) (s : S) => s = [some (eD (rd turns1)), none, none]) (fun _ => ?_) rfl ?_
  · refine x_not ?_
    refine x_b ?_
    refine x_chn ?_
    refine x_c ?_
    refine x_cb ?_
    refine x_cons ?_
    refine x_vf rfl (rd_rd _) ?_
    refine x_nil ?_
    refine x_optI eI t_int fun n2 => ?_
    refine x_chnP eI (v := 4) (c1 := decide (1 ≤ n2)) (c2 := decide (n2 ≤ 4)) rfl ?_ rfl ?_
    · refine x_c ?_
      exact q_pp (e := eI)
    refine x_blc ?_
    exact q_rt ⟨rfl, rfl⟩
  rintro c1 _ rfl
  refine q_if (fun _ => ?_) (fun _ => ?_)
  · refine c_seq ?_
    refine c_ret ?_
    refine x_c ?_
    exact q_rt rfl
  · refine c_skip ?_
    refine c_seq ?_
    refine c_for ?_
    refine x_it ?_
    refine x_vf rfl (rd_rd _) ?_
    refine x_itD fun ds1 => ?_
    refine q_for (fun (_ : Unit) (s : S) => ∃ u1 u2 : Option D, s = [some (eD (rd turns1)), u1, u2]) ⟨_, _, rfl⟩ ?_ ?_
    · rintro row1 _ _ ⟨u1, u2, rfl⟩
      refine y_nm rfl (s' := [some (eD (rd turns1)), some (eD row1), u2]) rfl ?_
      refine c_seq ?_
      refine c_if ?_
      refine x_or ?_
      refine x_not ?_
      refine x_b ?_
      refine x_un ?_
      refine x_v rfl rfl (s' := [some (eD (rd turns1)), some (eD (rd row1)), u2]) rfl ?_
      refine x_optI eB t_isiD fun b2 => ?_
      refine x_blc ?_
      refine x_orJ (fun (_ : Bool) (s : S) => s = [some (eD (rd turns1)), some (eD (rd row1)), u2]) (fun _ => ?_) rfl ?_
      · refine x_b ?_
        refine x_op ?_
        refine x_cb ?_
        refine x_cons ?_
        refine x_vf rfl (rd_rd _) ?_
        refine x_nil ?_
        refine x_optI eI t_int fun n4 => ?_
        refine x_c ?_
        refine x_some t_eqI ?_
        refine x_blc ?_
        exact q_rt ⟨rfl, rfl⟩
      rintro c2 _ rfl
      refine q_if (fun _ => ?_) (fun _ => ?_)
      · refine c_seq ?_
        refine c_ret ?_
        refine x_c ?_
        exact q_rt rfl
      · refine c_skip ?_
        refine c_seq ?_
        refine c_forKD rfl (rd_rd _) (s' := [some (eD (rd turns1)), some (eD (rd row1)), u2]) rfl fun ks1 => ?_
        refine q_forX (fun (_ : Unit) (s : S) => ∃ u3 : Option D, s = [some (eD (rd turns1)), some (eD (rd row1)), u3]) ⟨_, rfl⟩ ?_ ?_
        · rintro name1 _ _ ⟨u3, rfl⟩
          refine y_nm rfl (s' := [some (eD (rd turns1)), some (eD (rd row1)), some (eD name1)]) rfl ?_
          refine c_seq ?_
          refine c_if ?_
          refine x_or ?_
          refine x_not ?_
          refine x_b ?_
          refine x_call ?_
          refine x_cons ?_
          refine x_v rfl rfl (s' := [some (eD (rd turns1)), some (eD (rd row1)), some (eD (rd name1))]) rfl ?_
          refine x_nil ?_
          refine x_pos rfl ?_
          refine x_callK _ (tk_is_name (rd name1)) ?_ (fun _ _ => trivial)
          rintro r1 _ ps rfl
          rw [(gb_all rfl : gb [none] ps [some (eD (rd turns1)), some (eD (rd row1)), some (eD (rd name1))] = _)]
          refine x_blc ?_
          refine x_orJ (fun (_ : Bool) (s : S) => s = [some (eD (rd turns1)), some (eD (rd row1)), some (eD (rd name1))]) (fun _ => ?_) rfl ?_
          · refine x_not ?_
            refine x_b ?_
            refine x_call ?_
            refine x_cons ?_
            refine x_op ?_
            refine x_vf rfl (rd_rd _) ?_
            refine x_vf rfl (rd_rd _) ?_
            refine x_optI eD t_any fun x2 => ?_
            refine x_cons ?_
            refine x_c ?_
            refine x_cons ?_
            refine x_op ?_
            refine x_cb ?_
            refine x_cons ?_
            refine x_vf rfl (rd_rd _) ?_
            refine x_nil ?_
            refine x_optI eI t_int fun n6 => ?_
            refine x_c ?_
            refine x_some t_subI ?_
            refine x_nil ?_
            refine x_pos rfl ?_
            refine x_callK _ (tk_is_number x2 0 (n6 - 1)) ?_ (fun _ _ => trivial)
            rintro r3 _ ps rfl
            rw [(gb_all rfl : gb [none, none, none] ps [some (eD (rd turns1)), some (eD (rd row1)), some (eD (rd name1))] = _)]
            refine x_blc ?_
            exact q_rt ⟨rfl, rfl⟩
          rintro c3 _ rfl
          refine q_if (fun _ => ?_) (fun _ => ?_)
          · refine c_seq ?_
            refine c_ret ?_
            refine x_c ?_
            exact q_rt rfl
          · refine c_skip ?_
            refine c_skip ?_
            exact q_nx ⟨_, rfl⟩
        rintro _ _ ⟨u3, rfl⟩
        refine c_skip ?_
        exact q_nx ⟨_, _, rfl⟩
    rintro _ _ ⟨u1, u2, rfl⟩
    refine c_seq ?_
    refine c_ret ?_
    refine x_c ?_
    exact q_rt rfl
theorem tk_copied_turns (turns1 : (List (List (Str × Int)))) : SimF (F_copied_turns [((eQ false .tup (eM false kS eI)) turns1)]) (T_copied_turns turns1) (fun q d _ => d = (eQ false .tup (eM false kS eI)) q) := by
  rw [F_copied_turns_s]
  refine f_start ?_
  refine c_seq ?_
  refine c_ret ?_
  refine x_cb ?_
  refine x_cons ?_
  refine y_comp ?_
  refine x_it ?_
  refine x_m rfl (s' := [none, none, none, none]) rfl ?_
  refine x_itQ rfl rfl ?_
  refine y_qcomp (eM true kS eI) (v0 := ()) (fun (_ : Unit) (s : S) => s = [none, none, none, none]) (s' := [none, none, none, none]) ?_ rfl ?_ ?_
  · rfl
  · rintro row1 _ _ rfl
    refine q_step ?_
    refine y_nm rfl (s' := [none, none, some ((eM false kS eI) row1), none]) rfl ?_
    refine t_yes ?_
    refine q_true ?_
    refine y_dcomp ?_
    refine x_it ?_
    refine x_cb ?_
    refine x_cons ?_
    refine x_vf rfl ((fun _ => rfl) _) ?_
    refine x_nil ?_
    refine x_optI (eQ true .lst eS) t_sortM fun names2 => ?_
    refine x_itQ ((rd_Q (fun _ => rfl)) _) rfl ?_
    refine y_qdcomp kS eI kS_inj (ev := eS) (fun _ => rfl) (s' := [none, none, some ((eM false kS eI) row1), none]) ?_ ?_ ?_ ?_
    · rfl
    · rfl
    · intro name2
      refine q_dstep ?_
      refine y_nm rfl (s' := [none, none, some ((eM false kS eI) row1), some (eS name2)]) rfl ?_
      refine x_vf rfl ((fun _ => rfl) _) ?_
      refine q_dkey (by rfl) ?_
      refine x_op ?_
      refine x_vf rfl ((fun _ => rfl) _) ?_
      refine x_vf rfl ((fun _ => rfl) _) ?_
      refine x_optI eI (t_subM kS_inj (fun _ => rfl) (fun _ => rfl)) fun x4 => ?_
      exact q_rtw rfl ⟨rfl, rfl⟩
    intro m2
    exact q_rtw rfl ⟨rfl, rfl⟩
  rintro ys1 _ _ rfl
  rw [show wipeD [none, none, none, none] [1, 2] = [none, none, none, none] from rfl]
  refine x_nil ?_
  refine x_some (t_tupL (rd_M (fun _ => rfl))) ?_
  exact q_rt rfl
theorem tk_Machine_init (turns1 : (List (List (Str × Int)))) : SimF (F_Machine_init [mI 7 [] [], ((eQ false .tup (eM false kS eI)) turns1)]) (T_Machine_init turns1) (fun q d ps => d = .non ∧ ∃ r, ps = some (eC_Machine true q) :: r) := by
  rw [F_Machine_init_s]
  refine f_start ?_
  refine c_seq ?_
  refine c_if ?_
  refine x_not ?_
  refine x_b ?_
  refine x_call ?_
  refine x_cons ?_
  refine x_vf rfl ((fun _ => rfl) _) ?_
  refine x_nil ?_
  refine x_pos rfl ?_
  refine x_callK _ (tk_are_turns ((eQ false .tup (eM false kS eI)) turns1)) ?_ (fun _ _ => trivial)
  rintro r1 _ ps rfl
  rw [(gb_all rfl : gb [none] ps [some (mI 7 [] []), some ((eQ false .tup (eM false kS eI)) turns1)] = _)]
  refine x_blc ?_
  refine q_if (fun _ => ?_) (fun _ => ?_)
  · refine c_seq ?_
    exact q_no
  · refine c_skip ?_
    refine c_seq ?_
    refine y_setF ?_
    refine x_cb ?_
    refine x_cons ?_
    refine x_vf rfl ((fun _ => rfl) _) ?_
    refine x_nil ?_
    refine x_some (t_lenQ rfl) ?_
    refine x_setF2 eI (turns1.length : Int) (st := fun states1 => [some (mI 7 [14] [(eI states1)]), some ((eQ false .tup (eM false kS eI)) turns1)]) 0 rfl rfl (by decide) (fun _ => rfl) fun states1 => ?_
    refine c_seq ?_
    refine y_setF ?_
    refine x_call ?_
    refine x_cons ?_
    refine x_m rfl (s' := [some (mI 7 [14] [(eI states1)]), none]) rfl ?_
    refine x_nil ?_
    refine x_pos rfl ?_
    refine x_callK _ (tk_copied_turns turns1) ?_ (fun _ _ => trivial)
    rintro r2 _ ps rfl
    rw [(gb_all rfl : gb [none] ps [some (mI 7 [14] [(eI states1)]), none] = _)]
    refine x_setF2 (eQ false .tup (eM false kS eI)) r2 (st := fun steps1 => [some (mI 7 [14, 15] [(eI states1), ((eQ false .tup (eM false kS eI)) steps1)]), none]) 1 rfl rfl (by decide) (fun _ => rfl) fun steps1 => ?_
    refine c_skip ?_
    exact q_rt ⟨rfl, _, rfl⟩
theorem tk__law_turned_2 (row1 : (List (Str × Int))) : SimF (F__law_turned [((eM false kS eI) row1)]) (T__law_turned_2 row1) (fun q d _ => d = (eM false kS eI) q) := by
  rw [F__law_turned_s]
  refine f_start ?_
  refine c_seq ?_
  refine c_asg ?_
  refine x_c ?_
  refine y_asgN rfl (s' := [some ((eM false kS eI) row1), some ((eM true kS eI) ([])), none]) rfl ?_
  refine c_seq ?_
  refine c_for ?_
  refine x_rev ?_
  refine x_cb ?_
  refine x_cons ?_
  refine x_vf rfl ((fun _ => rfl) _) ?_
  refine x_nil ?_
  refine x_some (t_lstM (ev := eS) (fun _ => rfl)) ?_
  refine x_revQ ((rd_Q (fun _ => rfl)) _) rfl ?_
  refine q_for (fun (other1 : (List (Str × Int))) (s : S) => ∃ u1 : Option D, s = [some ((eM false kS eI) row1), some ((eM true kS eI) other1), u1]) ⟨_, rfl⟩ ?_ ?_
  · rintro name1 other1 _ ⟨u1, rfl⟩
    refine y_nm rfl (s' := [some ((eM false kS eI) row1), some ((eM true kS eI) other1), some (eS name1)]) rfl ?_
    refine c_seq ?_
    refine c_setS ?_
    refine x_op ?_
    refine x_vf rfl ((fun _ => rfl) _) ?_
    refine x_vf rfl ((fun _ => rfl) _) ?_
    refine x_optI eI (t_subM kS_inj (fun _ => rfl) (fun _ => rfl)) fun x1 => ?_
    refine x_setSK rfl ?_
    refine x_vf rfl ((fun _ => rfl) _) ?_
    refine x_setAtM eI (v := x1) (st := fun other2 => [some ((eM false kS eI) row1), some ((eM true kS eI) other2), some (eS name1)]) kS_inj (fun _ => rfl) rfl (fun _ => rfl) fun other2 => ?_
    refine c_skip ?_
    exact q_nx ⟨_, rfl⟩
  rintro other1 _ ⟨u1, rfl⟩
  refine c_seq ?_
  refine c_ret ?_
  refine x_v rfl ((rd_M (fun _ => rfl)) _) (s' := [some ((eM false kS eI) row1), some ((eM false kS eI) other1), u1]) rfl ?_
  exact q_rt rfl
theorem tk_Machine_turns (self1 : O_Machine) : SimF (F_Machine_turns [((eC_Machine false) self1)]) (T_Machine_turns self1) (fun q d _ => d = (eQ false .tup (eM false kS eI)) q) := by
  rw [F_Machine_turns_s]
  refine f_start ?_
  refine c_seq ?_
  refine c_ret ?_
  refine x_call ?_
  refine x_cons ?_
  refine x_un ?_
  refine x_vf rfl ((fun _ => rfl) _) ?_
  refine x_some (d := ((eQ false .tup (eM false kS eI)) self1.steps)) (congrArg some ((fun _ => rfl) _)) ?_
  refine x_nil ?_
  refine x_pos rfl ?_
  refine x_callK _ (tk_copied_turns self1.steps) ?_ (fun _ _ => trivial)
  rintro r1 _ ps rfl
  rw [(gb_all rfl : gb [none] ps [some ((eC_Machine false) self1)] = _)]
  exact q_rt rfl
theorem tk_machine_text (machine1 : O_Machine) : SimF (F_machine_text [((eC_Machine false) machine1)]) (T_machine_text machine1) (fun q d _ => d = eS q) := by
  rw [F_machine_text_s]
  refine f_start ?_
  refine c_seq ?_
  refine c_asg ?_
  refine y_lst ?_
  refine x_nil ?_
  refine x_okl (d' := ((eQ true .lst eS) ([]))) 0 rfl (by decide) rfl ?_
  refine y_asgN rfl (s' := [some ((eC_Machine false) machine1), some ((eQ true .lst eS) ([])), none, none, none, none]) rfl ?_
  refine c_seq ?_
  refine c_for ?_
  refine x_it ?_
  refine x_prop ?_
  refine x_vf rfl ((fun _ => rfl) _) ?_
  refine x_propK rfl rfl ?_
  refine x_clkN _ (tk_Machine_turns machine1) ?_
  rintro r1 _ ps rfl
  rw [(gb_all rfl : gb [] ps [some ((eC_Machine false) machine1), some ((eQ true .lst eS) ([])), none, none, none, none] = _)]
  refine x_itQ rfl rfl ?_
  refine q_for (fun (lines1 : (List Str)) (s : S) => ∃ u1 u2 u3 u4 : Option D, s = [some ((eC_Machine false) machine1), some ((eQ true .lst eS) lines1), u1, u2, u3, u4]) ⟨_, _, _, _, rfl⟩ ?_ ?_
  · rintro row1 lines1 _ ⟨u1, u2, u3, u4, rfl⟩
    refine y_nm rfl (s' := [some ((eC_Machine false) machine1), some ((eQ true .lst eS) lines1), some ((eM false kS eI) row1), u2, u3, u4]) rfl ?_
    refine c_seq ?_
    refine c_asg ?_
    refine y_comp ?_
    refine x_it ?_
    refine x_cb ?_
    refine x_cons ?_
    refine x_vf rfl ((fun _ => rfl) _) ?_
    refine x_nil ?_
    refine x_optI (eQ true .lst eS) t_sortM fun names1 => ?_
    refine x_itQ ((rd_Q (fun _ => rfl)) _) rfl ?_
    refine y_qcomp eS (v0 := ()) (fun (_ : Unit) (s : S) => s = [some ((eC_Machine false) machine1), some ((eQ true .lst eS) lines1), some ((eM false kS eI) row1), u2, none, none]) (s' := [some ((eC_Machine false) machine1), some ((eQ true .lst eS) lines1), some ((eM false kS eI) row1), u2, none, none]) ?_ rfl ?_ ?_
    · rfl
    · rintro name1 _ _ rfl
      refine q_step ?_
      refine y_nm rfl (s' := [some ((eC_Machine false) machine1), some ((eQ true .lst eS) lines1), some ((eM false kS eI) row1), u2, none, some (eS name1)]) rfl ?_
      refine t_yes ?_
      refine q_true ?_
      refine x_op ?_
      refine x_op ?_
      refine x_vf rfl ((fun _ => rfl) _) ?_
      refine x_c ?_
      refine x_optI eS t_addS fun text4 => ?_
      refine x_cb ?_
      refine x_cons ?_
      refine x_op ?_
      refine x_vf rfl ((fun _ => rfl) _) ?_
      refine x_vf rfl ((fun _ => rfl) _) ?_
      refine x_optI eI (t_subM kS_inj (fun _ => rfl) (fun _ => rfl)) fun x2 => ?_
      refine x_nil ?_
      refine x_optI eS t_strI fun text5 => ?_
      refine x_optI eS t_addS fun text6 => ?_
      exact q_rtw rfl ⟨rfl, rfl⟩
    rintro ys1 _ _ rfl
    rw [show wipeD [some ((eC_Machine false) machine1), some ((eQ true .lst eS) lines1), some ((eM false kS eI) row1), u2, none, none] [4, 5] = [some ((eC_Machine false) machine1), some ((eQ true .lst eS) lines1), some ((eM false kS eI) row1), u2, none, none] from rfl]
    refine y_asgN rfl (s' := [some ((eC_Machine false) machine1), some ((eQ true .lst eS) lines1), some ((eM false kS eI) row1), some ((eQ true .lst eS) ys1), none, none]) rfl ?_
    refine c_seq ?_
    refine x_app rfl ?_
    refine x_op ?_
    refine x_join ?_
    refine x_c ?_
    refine x_joinK ?_
    refine x_op ?_
    refine y_lst ?_
    refine x_cons ?_
    refine x_c ?_
    refine x_nil ?_
    refine x_okl (d' := ((eQ true .lst eS) ([("state" : Str)]))) 1 rfl (by decide) rfl ?_
    refine x_m rfl (s' := [some ((eC_Machine false) machine1), some ((eQ true .lst eS) lines1), some ((eM false kS eI) row1), none, none, none]) rfl ?_
    refine x_optI (eQ true .lst eS) t_addL fun xs1 => ?_
    refine x_optI eS (t_join rfl) fun text7 => ?_
    refine x_c ?_
    refine x_optI eS t_addS fun text8 => ?_
    refine x_appK eS (xs := lines1) (v := text8) (st := fun lines2 => [some ((eC_Machine false) machine1), some ((eQ true .lst eS) lines2), some ((eM false kS eI) row1), none, none, none]) rfl (fun _ => rfl) fun lines2 => ?_
    refine c_skip ?_
    exact q_nx ⟨_, _, _, _, rfl⟩
  rintro lines1 _ ⟨u1, u2, u3, u4, rfl⟩
  refine c_seq ?_
  refine c_ret ?_
  refine x_join ?_
  refine x_c ?_
  refine x_joinK ?_
  refine x_m rfl (s' := [some ((eC_Machine false) machine1), none, u1, u2, u3, u4]) rfl ?_
  refine x_optI eS (t_join rfl) fun text9 => ?_
  exact q_rt rfl
theorem tk_hint_text (hint1 : (Option Str)) : SimF (F_hint_text [((eO eS) hint1)]) (T_hint_text hint1) (fun q d _ => d = eS q) := by
  rw [F_hint_text_s]
  refine f_start ?_
  refine c_seq ?_
  refine c_if ?_
  refine x_b ?_
  refine x_op ?_
  refine x_vf rfl ((rd_O (fun _ => rfl)) _) ?_
  refine x_c ?_
  refine x_some (t_isO (fun _ => rfl)) ?_
  refine x_blc ?_
  refine q_caseO ?_ ?_
  · rintro rfl
    refine c_seq ?_
    refine c_ret ?_
    refine x_c ?_
    exact q_rt rfl
  · rintro hint2 rfl
    refine c_skip ?_
    refine c_seq ?_
    refine c_ret ?_
    refine x_m rfl (s' := [none]) rfl ?_
    exact q_rt rfl
theorem tk_view_text (view1 : (Int × Int × (List Int) × (Option Str))) : SimF (F_view_text [((eP4 false .tup eI eI (eQ false .tup eI) (eO eS)) view1)]) (T_view_text view1) (fun q d _ => d = eS q) := by
  rw [F_view_text_s]
  refine f_start ?_
  refine c_seq ?_
  refine c_ts ?_
  refine x_m rfl (s' := [none, none, none, none, none, none, none, none]) rfl ?_
  refine g_tp rfl ?_
  refine gs_c ?_
  refine y_nm rfl (s' := [none, some (eI view1.1), none, none, none, none, none, none]) rfl ?_
  refine gs_c ?_
  refine y_nm rfl (s' := [none, some (eI view1.1), some (eI view1.2.1), none, none, none, none, none]) rfl ?_
  refine gs_c ?_
  refine y_nm rfl (s' := [none, some (eI view1.1), some (eI view1.2.1), some ((eQ false .tup eI) view1.2.2.1), none, none, none, none]) rfl ?_
  refine gs_c ?_
  refine y_nm rfl (s' := [none, some (eI view1.1), some (eI view1.2.1), some ((eQ false .tup eI) view1.2.2.1), some ((eO eS) view1.2.2.2), none, none, none]) rfl ?_
  refine gs_n ?_
  refine c_seq ?_
  refine c_asg ?_
  refine x_join ?_
  refine x_c ?_
  refine x_joinK ?_
  refine y_comp ?_
  refine x_it ?_
  refine x_m rfl (s' := [none, some (eI view1.1), some (eI view1.2.1), none, some ((eO eS) view1.2.2.2), none, none, none]) rfl ?_
  refine x_itQ rfl rfl ?_
  refine y_qcomp eS (v0 := ()) (fun (_ : Unit) (s : S) => s = [none, some (eI view1.1), some (eI view1.2.1), none, some ((eO eS) view1.2.2.2), none, none, none]) (s' := [none, some (eI view1.1), some (eI view1.2.1), none, some ((eO eS) view1.2.2.2), none, none, none]) ?_ rfl ?_ ?_
  · rfl
  · rintro offset1 _ _ rfl
    refine q_step ?_
    refine y_nm rfl (s' := [none, some (eI view1.1), some (eI view1.2.1), none, some ((eO eS) view1.2.2.2), none, none, some (eI offset1)]) rfl ?_
    refine t_yes ?_
    refine q_true ?_
    refine x_cb ?_
    refine x_cons ?_
    refine x_vf rfl ((fun _ => rfl) _) ?_
    refine x_nil ?_
    refine x_optI eS t_strI fun text2 => ?_
    exact q_rtw rfl ⟨rfl, rfl⟩
  rintro ys1 _ _ rfl
  rw [show wipeD [none, some (eI view1.1), some (eI view1.2.1), none, some ((eO eS) view1.2.2.2), none, none, none] [6, 7] = [none, some (eI view1.1), some (eI view1.2.1), none, some ((eO eS) view1.2.2.2), none, none, none] from rfl]
  refine x_optI eS (t_join rfl) fun text3 => ?_
  refine y_asgN rfl (s' := [none, some (eI view1.1), some (eI view1.2.1), none, some ((eO eS) view1.2.2.2), some (eS text3), none, none]) rfl ?_
  refine c_seq ?_
  refine c_ret ?_
  refine x_jsC ?_
  refine x_fmt ?_
  refine x_m rfl (s' := [none, none, some (eI view1.2.1), none, some ((eO eS) view1.2.2.2), some (eS text3), none, none]) rfl ?_
  refine x_fmtI fun text4 => ?_
  refine x_jsK fun text5 => ?_
  refine x_jsC ?_
  refine x_c ?_
  refine x_jsK fun text6 => ?_
  refine x_jsC ?_
  refine x_fmt ?_
  refine x_m rfl (s' := [none, none, none, none, some ((eO eS) view1.2.2.2), some (eS text3), none, none]) rfl ?_
  refine x_fmtI fun text7 => ?_
  refine x_jsK fun text8 => ?_
  refine x_jsC ?_
  refine x_c ?_
  refine x_jsK fun text9 => ?_
  refine x_jsC ?_
  refine x_fmt ?_
  refine x_m rfl (s' := [none, none, none, none, some ((eO eS) view1.2.2.2), none, none, none]) rfl ?_
  refine x_fmtS fun text10 => ?_
  refine x_jsK fun text11 => ?_
  refine x_jsC ?_
  refine x_c ?_
  refine x_jsK fun text12 => ?_
  refine x_jsC ?_
  refine x_fmt ?_
  refine x_call ?_
  refine x_cons ?_
  refine x_m rfl (s' := [none, none, none, none, none, none, none, none]) rfl ?_
  refine x_nil ?_
  refine x_pos rfl ?_
  refine x_callK _ (tk_hint_text view1.2.2.2) ?_ (fun _ _ => trivial)
  rintro r1 _ ps rfl
  rw [(gb_all rfl : gb [none] ps [none, none, none, none, none, none, none, none] = _)]
  refine x_fmtS fun text13 => ?_
  refine x_jsK fun text14 => ?_
  refine x_jsN ?_
  exact q_rt rfl
theorem tk__law_item_2 (item1 : (Option Str)) : SimF (F__law_item [((eO eS) item1)]) (T__law_item_2 item1) (fun q d _ => d = eS q) := by
  rw [F__law_item_s]
  refine f_start ?_
  refine c_seq ?_
  refine c_if ?_
  refine x_b ?_
  refine x_op ?_
  refine x_vf rfl ((rd_O (fun _ => rfl)) _) ?_
  refine x_c ?_
  refine x_some (t_isO (fun _ => rfl)) ?_
  refine x_blc ?_
  refine q_caseO ?_ ?_
  · rintro rfl
    refine c_seq ?_
    refine c_ret ?_
    refine x_c ?_
    exact q_rt rfl
  · rintro item2 rfl
    refine c_skip ?_
    refine c_seq ?_
    refine c_ret ?_
    refine x_cb ?_
    refine x_cons ?_
    refine x_m rfl (s' := [none]) rfl ?_
    refine x_nil ?_
    refine x_some t_strS ?_
    exact q_rt rfl
theorem tk__law_view_text (view1 : (Int × Int × (List Int) × (Option Str))) : SimF (F__law_view_text [((eP4 false .tup eI eI (eQ false .tup eI) (eO eS)) view1)]) (T__law_view_text view1) (fun q d _ => d = eS q) := by
  rw [F__law_view_text_s]
  refine f_start ?_
  refine c_seq ?_
  refine c_asg ?_
  refine x_join ?_
  refine x_c ?_
  refine x_joinK ?_
  refine y_comp ?_
  refine x_it ?_
  refine x_op ?_
  refine x_vf rfl ((fun _ => rfl) _) ?_
  refine x_c ?_
  refine x_some (d := ((eQ false .tup eI) view1.2.2.1)) (congrArg some ((fun _ => rfl) _)) ?_
  refine x_itQ rfl rfl ?_
  refine y_qcomp eS (v0 := ()) (fun (_ : Unit) (s : S) => s = [some ((eP4 false .tup eI eI (eQ false .tup eI) (eO eS)) view1), none, none, none]) (s' := [some ((eP4 false .tup eI eI (eQ false .tup eI) (eO eS)) view1), none, none, none]) ?_ rfl ?_ ?_
  · rfl
  · rintro offset1 _ _ rfl
    refine q_step ?_
    refine y_nm rfl (s' := [some ((eP4 false .tup eI eI (eQ false .tup eI) (eO eS)) view1), none, none, some (eI offset1)]) rfl ?_
    refine t_yes ?_
    refine q_true ?_
    refine x_cb ?_
    refine x_cons ?_
    refine x_vf rfl ((fun _ => rfl) _) ?_
    refine x_nil ?_
    refine x_optI eS t_strI fun text2 => ?_
    exact q_rtw rfl ⟨rfl, rfl⟩
  rintro ys1 _ _ rfl
  rw [show wipeD [some ((eP4 false .tup eI eI (eQ false .tup eI) (eO eS)) view1), none, none, none] [2, 3] = [some ((eP4 false .tup eI eI (eQ false .tup eI) (eO eS)) view1), none, none, none] from rfl]
  refine x_optI eS (t_join rfl) fun text3 => ?_
  refine y_asgN rfl (s' := [some ((eP4 false .tup eI eI (eQ false .tup eI) (eO eS)) view1), some (eS text3), none, none]) rfl ?_
  refine c_seq ?_
  refine c_ret ?_
  refine x_op ?_
  refine x_op ?_
  refine x_op ?_
  refine x_op ?_
  refine x_op ?_
  refine x_op ?_
  refine x_cb ?_
  refine x_cons ?_
  refine x_op ?_
  refine x_vf rfl ((fun _ => rfl) _) ?_
  refine x_c ?_
  refine x_some (d := (eI view1.1)) (congrArg some ((fun _ => rfl) _)) ?_
  refine x_nil ?_
  refine x_optI eS t_strI fun text4 => ?_
  refine x_c ?_
  refine x_optI eS t_addS fun text5 => ?_
  refine x_cb ?_
  refine x_cons ?_
  refine x_op ?_
  refine x_vf rfl ((fun _ => rfl) _) ?_
  refine x_c ?_
  refine x_some (d := (eI view1.2.1)) (congrArg some ((fun _ => rfl) _)) ?_
  refine x_nil ?_
  refine x_optI eS t_strI fun text6 => ?_
  refine x_optI eS t_addS fun text7 => ?_
  refine x_c ?_
  refine x_optI eS t_addS fun text8 => ?_
  refine x_m rfl (s' := [some ((eP4 false .tup eI eI (eQ false .tup eI) (eO eS)) view1), none, none, none]) rfl ?_
  refine x_optI eS t_addS fun text9 => ?_
  refine x_c ?_
  refine x_optI eS t_addS fun text10 => ?_
  refine x_call ?_
  refine x_cons ?_
  refine x_op ?_
  refine x_vf rfl ((fun _ => rfl) _) ?_
  refine x_c ?_
  refine x_some (d := ((eO eS) view1.2.2.2)) (congrArg some ((rd_O (fun _ => rfl)) _)) ?_
  refine x_nil ?_
  refine x_pos rfl ?_
  refine x_callK _ (tk__law_item_2 view1.2.2.2) ?_ (fun _ _ => trivial)
  rintro r1 _ ps rfl
  rw [(gb_all rfl : gb [none] ps [some ((eP4 false .tup eI eI (eQ false .tup eI) (eO eS)) view1), none, none, none] = _)]
  refine x_optI eS t_addS fun text11 => ?_
  exact q_rt rfl
theorem tk_first_offsets (system1 : O_System) : SimF (F_first_offsets [((eC_System false) system1)]) (T_first_offsets system1) (fun q d _ => d = (eQ false .tup eI) q) := by
  rw [F_first_offsets_s]
  refine f_start ?_
  refine c_seq ?_
  refine c_ret ?_
  refine x_op ?_
  refine x_un ?_
  refine x_vf rfl ((fun _ => rfl) _) ?_
  refine x_some (d := ((eQ false .tup (eQ false .tup eI)) system1.ways)) (congrArg some ((fun _ => rfl) _)) ?_
  refine x_c ?_
  refine x_optI (eQ false .tup eI) (t_subQ rfl (fun _ => rfl)) fun x1 => ?_
  exact q_rt rfl
theorem tk_first_view (system1 : O_System) : SimF (F_first_view [((eC_System false) system1)]) (T_first_view system1) (fun q d _ => d = (eP4 false .tup eI eI (eQ false .tup eI) eN) q) := by
  rw [F_first_view_s]
  refine f_start ?_
  refine c_seq ?_
  refine c_ret ?_
  refine y_tup ?_
  refine x_cons ?_
  refine x_c ?_
  refine x_cons ?_
  refine x_c ?_
  refine x_cons ?_
  refine x_call ?_
  refine x_cons ?_
  refine x_vf rfl ((fun _ => rfl) _) ?_
  refine x_nil ?_
  refine x_pos rfl ?_
  refine x_callK _ (tk_first_offsets system1) ?_ (fun _ _ => trivial)
  rintro r1 _ ps rfl
  rw [(gb_all rfl : gb [none] ps [some ((eC_System false) system1)] = _)]
  refine x_cons ?_
  refine x_c ?_
  refine x_nil ?_
  refine x_okt (d' := ((eP4 false .tup eI eI (eQ false .tup eI) eN) (0, 0, r1, ()))) 4 rfl (by decide) rfl ?_
  exact q_rt rfl
theorem tk_view_text_2 (view1 : (Int × Int × (List Int) × Unit)) : SimF (F_view_text [((eP4 false .tup eI eI (eQ false .tup eI) eN) view1)]) (T_view_text_2 view1) (fun q d _ => d = eS q) := by
  rw [F_view_text_s]
  refine f_start ?_
  refine c_seq ?_
  refine c_ts ?_
  refine x_m rfl (s' := [none, none, none, none, none, none, none, none]) rfl ?_
  refine g_tp rfl ?_
  refine gs_c ?_
  refine y_nm rfl (s' := [none, some (eI view1.1), none, none, none, none, none, none]) rfl ?_
  refine gs_c ?_
  refine y_nm rfl (s' := [none, some (eI view1.1), some (eI view1.2.1), none, none, none, none, none]) rfl ?_
  refine gs_c ?_
  refine y_nm rfl (s' := [none, some (eI view1.1), some (eI view1.2.1), some ((eQ false .tup eI) view1.2.2.1), none, none, none, none]) rfl ?_
  refine gs_c ?_
  refine y_nm rfl (s' := [none, some (eI view1.1), some (eI view1.2.1), some ((eQ false .tup eI) view1.2.2.1), some (eN view1.2.2.2), none, none, none]) rfl ?_
  refine gs_n ?_
  refine c_seq ?_
  refine c_asg ?_
  refine x_join ?_
  refine x_c ?_
  refine x_joinK ?_
  refine y_comp ?_
  refine x_it ?_
  refine x_m rfl (s' := [none, some (eI view1.1), some (eI view1.2.1), none, some (eN view1.2.2.2), none, none, none]) rfl ?_
  refine x_itQ rfl rfl ?_
  refine y_qcomp eS (v0 := ()) (fun (_ : Unit) (s : S) => s = [none, some (eI view1.1), some (eI view1.2.1), none, some (eN view1.2.2.2), none, none, none]) (s' := [none, some (eI view1.1), some (eI view1.2.1), none, some (eN view1.2.2.2), none, none, none]) ?_ rfl ?_ ?_
  · rfl
  · rintro offset1 _ _ rfl
    refine q_step ?_
    refine y_nm rfl (s' := [none, some (eI view1.1), some (eI view1.2.1), none, some (eN view1.2.2.2), none, none, some (eI offset1)]) rfl ?_
    refine t_yes ?_
    refine q_true ?_
    refine x_cb ?_
    refine x_cons ?_
    refine x_vf rfl ((fun _ => rfl) _) ?_
    refine x_nil ?_
    refine x_optI eS t_strI fun text2 => ?_
    exact q_rtw rfl ⟨rfl, rfl⟩
  rintro ys1 _ _ rfl
  rw [show wipeD [none, some (eI view1.1), some (eI view1.2.1), none, some (eN view1.2.2.2), none, none, none] [6, 7] = [none, some (eI view1.1), some (eI view1.2.1), none, some (eN view1.2.2.2), none, none, none] from rfl]
  refine x_optI eS (t_join rfl) fun text3 => ?_
  refine y_asgN rfl (s' := [none, some (eI view1.1), some (eI view1.2.1), none, some (eN view1.2.2.2), some (eS text3), none, none]) rfl ?_
  refine c_seq ?_
  refine c_ret ?_
  refine x_jsC ?_
  refine x_fmt ?_
  refine x_m rfl (s' := [none, none, some (eI view1.2.1), none, some (eN view1.2.2.2), some (eS text3), none, none]) rfl ?_
  refine x_fmtI fun text4 => ?_
  refine x_jsK fun text5 => ?_
  refine x_jsC ?_
  refine x_c ?_
  refine x_jsK fun text6 => ?_
  refine x_jsC ?_
  refine x_fmt ?_
  refine x_m rfl (s' := [none, none, none, none, some (eN view1.2.2.2), some (eS text3), none, none]) rfl ?_
  refine x_fmtI fun text7 => ?_
  refine x_jsK fun text8 => ?_
  refine x_jsC ?_
  refine x_c ?_
  refine x_jsK fun text9 => ?_
  refine x_jsC ?_
  refine x_fmt ?_
  refine x_m rfl (s' := [none, none, none, none, some (eN view1.2.2.2), none, none, none]) rfl ?_
  refine x_fmtS fun text10 => ?_
  refine x_jsK fun text11 => ?_
  refine x_jsC ?_
  refine x_c ?_
  refine x_jsK fun text12 => ?_
  refine x_jsC ?_
  refine x_fmt ?_
  refine x_call ?_
  refine x_cons ?_
  refine x_m rfl (s' := [none, none, none, none, none, none, none, none]) rfl ?_
  refine x_nil ?_
  refine x_dsC (ds' := [((eO eS) none)]) (cons_eq rfl rfl) ?_
  refine x_pos rfl ?_
  refine x_callK _ (tk_hint_text none) ?_ (fun _ _ => trivial)
  rintro r1 _ ps rfl
  rw [(gb_all rfl : gb [none] ps [none, none, none, none, none, none, none, none] = _)]
  refine x_fmtS fun text13 => ?_
  refine x_jsK fun text14 => ?_
  refine x_jsN ?_
  exact q_rt rfl
theorem tk_renting (price1 : Int) : SimF (F_renting [(eI price1)]) (T_renting price1) (fun q d _ => d = (eC_System true) q) := by
  rw [F_renting_s]
  refine f_start ?_
  refine c_seq ?_
  refine c_if ?_
  refine x_not ?_
  refine x_b ?_
  refine x_call ?_
  refine x_cons ?_
  refine x_vf rfl ((fun _ => rfl) _) ?_
  refine x_cons ?_
  refine x_c ?_
  refine x_cons ?_
  refine x_c ?_
  refine x_nil ?_
  refine x_pos rfl ?_
  refine x_callK _ (tk_is_number (eI price1) 1 9) ?_ (fun _ _ => trivial)
  rintro r1 _ ps rfl
  rw [(gb_all rfl : gb [none, none, none] ps [some (eI price1)] = _)]
  refine x_blc ?_
  refine q_if (fun _ => ?_) (fun _ => ?_)
  · refine c_seq ?_
    exact q_no
  · refine c_skip ?_
    refine c_seq ?_
    refine c_ret ?_
    refine x_make ?_
    refine x_cons ?_
    refine y_tup ?_
    refine x_cons ?_
    refine y_tup ?_
    refine x_cons ?_
    refine x_c ?_
    refine x_cons ?_
    refine x_m rfl (s' := [none]) rfl ?_
    refine x_nil ?_
    refine x_okt (d' := ((eP2 false .tup eI eI) (0, price1))) 2 rfl (by decide) rfl ?_
    refine x_cons ?_
    refine y_tup ?_
    refine x_cons ?_
    refine x_c ?_
    refine x_cons ?_
    refine x_c ?_
    refine x_nil ?_
    refine x_okt (d' := ((eP2 false .tup eI eI) (0, 0))) 2 rfl (by decide) rfl ?_
    refine x_nil ?_
    refine x_okt (d' := ((eP2 false .tup (eP2 false .tup eI eI) (eP2 false .tup eI eI)) ((0, price1), (0, 0)))) 2 rfl (by decide) rfl ?_
    refine x_cons ?_
    refine y_disp ?_
    refine x_prc ?_
    refine x_c ?_
    refine x_prk rfl ?_
    refine y_tup ?_
    refine x_cons ?_
    refine x_c ?_
    refine x_cons ?_
    refine x_c ?_
    refine x_nil ?_
    refine x_okt (d' := ((eP2 false .tup eI eI) (1, 0))) 2 rfl (by decide) rfl ?_
    refine x_prc ?_
    refine x_c ?_
    refine x_prk rfl ?_
    refine y_tup ?_
    refine x_cons ?_
    refine x_c ?_
    refine x_cons ?_
    refine x_c ?_
    refine x_nil ?_
    refine x_okt (d' := ((eP2 false .tup eI eN) (0, ()))) 2 rfl (by decide) rfl ?_
    refine x_prn ?_
    refine x_okd (by decide : ([kS ("day" : Str), kS ("over" : Str)] : List Key).Nodup ∧ ([kS ("day" : Str), kS ("over" : Str)] : List Key).length ≤ 15) (d' := ((eM true kS (eP2 false .tup eI (eO eI))) ([(("day" : Str), (1, (some 0))), (("over" : Str), (0, none))]))) rfl ?_
    refine x_nil ?_
    refine x_dsM (ds' := [((eQ false .tup (eQ false .tup eI)) ([[0, price1], [0, 0]])), ((eM true kS (eQ false .tup (eO eI))) (([(("day" : Str), (1, (some 0))), (("over" : Str), (0, none))] : (List (Str × (Int × (Option Int))))).map fun p => (p.1, [(some p.2.1), p.2.2])))]) (cons_eq rfl (cons_eq rfl rfl)) ?_
    refine x_pos rfl ?_
    refine x_mkK (e := eC_System true) (by decide) ?_ fun o1 => ?_
    · exact tk_System_init _ _
    exact q_rt rfl
theorem tk_system_text_2 (system1 : O_System) : SimF (F_system_text [((eC_System true) system1)]) (T_system_text_2 system1) (fun q d _ => d = eS q) := by
  rw [F_system_text_s]
  refine f_start ?_
  refine c_seq ?_
  refine c_asg ?_
  refine y_lst ?_
  refine x_nil ?_
  refine x_okl (d' := ((eQ true .lst eS) ([]))) 0 rfl (by decide) rfl ?_
  refine y_asgN rfl (s' := [some ((eC_System true) system1), some ((eQ true .lst eS) ([])), none, none, none, none, none, none, none]) rfl ?_
  refine c_seq ?_
  refine c_for ?_
  refine x_it ?_
  refine x_un ?_
  refine x_v rfl ((rdC_System true) _) (s' := [some ((eC_System false) system1), some ((eQ true .lst eS) ([])), none, none, none, none, none, none, none]) rfl ?_
  refine x_some (d := ((eQ false .tup (eQ false .tup eI)) system1.moves)) (congrArg some ((fun _ => rfl) _)) ?_
  refine x_itQ rfl rfl ?_
  refine q_for (fun (lines1 : (List Str)) (s : S) => ∃ u1 u2 u3 : Option D, s = [some ((eC_System false) system1), some ((eQ true .lst eS) lines1), u1, none, none, u2, u3, none, none]) ⟨_, _, _, rfl⟩ ?_ ?_
  · rintro row1 lines1 _ ⟨u1, u2, u3, rfl⟩
    refine y_nm rfl (s' := [some ((eC_System false) system1), some ((eQ true .lst eS) lines1), some ((eQ false .tup eI) row1), none, none, u2, u3, none, none]) rfl ?_
    refine c_seq ?_
    refine x_app rfl ?_
    refine x_join ?_
    refine x_c ?_
    refine x_joinK ?_
    refine x_op ?_
    refine y_lst ?_
    refine x_cons ?_
    refine x_c ?_
    refine x_nil ?_
    refine x_okl (d' := ((eQ true .lst eS) ([("post" : Str)]))) 1 rfl (by decide) rfl ?_
    refine y_comp ?_
    refine x_it ?_
    refine x_m rfl (s' := [some ((eC_System false) system1), some ((eQ true .lst eS) lines1), none, none, none, u2, u3, none, none]) rfl ?_
    refine x_itQ rfl rfl ?_
    refine y_qcomp eS (v0 := ()) (fun (_ : Unit) (s : S) => s = [some ((eC_System false) system1), some ((eQ true .lst eS) lines1), none, none, none, none, none, none, none]) (s' := [some ((eC_System false) system1), some ((eQ true .lst eS) lines1), none, none, none, none, none, none, none]) ?_ rfl ?_ ?_
    · rfl
    · rintro step1 _ _ rfl
      refine q_step ?_
      refine y_nm rfl (s' := [some ((eC_System false) system1), some ((eQ true .lst eS) lines1), none, none, none, none, some (eI step1), none, none]) rfl ?_
      refine t_yes ?_
      refine q_true ?_
      refine x_cb ?_
      refine x_cons ?_
      refine x_vf rfl ((fun _ => rfl) _) ?_
      refine x_nil ?_
      refine x_optI eS t_strI fun text2 => ?_
      exact q_rtw rfl ⟨rfl, rfl⟩
    rintro ys1 _ _ rfl
    rw [show wipeD [some ((eC_System false) system1), some ((eQ true .lst eS) lines1), none, none, none, none, none, none, none] [5, 6] = [some ((eC_System false) system1), some ((eQ true .lst eS) lines1), none, none, none, none, none, none, none] from rfl]
    refine x_optI (eQ true .lst eS) t_addL fun xs1 => ?_
    refine x_optI eS (t_join rfl) fun text3 => ?_
    refine x_appK eS (xs := lines1) (v := text3) (st := fun lines2 => [some ((eC_System false) system1), some ((eQ true .lst eS) lines2), none, none, none, none, none, none, none]) rfl (fun _ => rfl) fun lines2 => ?_
    refine c_skip ?_
    exact q_nx ⟨_, _, _, rfl⟩
  rintro lines1 _ ⟨u1, u2, u3, rfl⟩
  refine c_seq ?_
  refine c_for ?_
  refine x_it ?_
  refine x_un ?_
  refine x_vf rfl ((fun _ => rfl) _) ?_
  refine x_some (d := ((eQ false .tup eS) system1.names)) (congrArg some ((fun _ => rfl) _)) ?_
  refine x_itQ rfl rfl ?_
  refine q_for (fun (lines3 : (List Str)) (s : S) => ∃ u4 u5 u6 u7 : Option D, s = [some ((eC_System false) system1), some ((eQ true .lst eS) lines3), u1, u4, u5, u6, u3, u7, none]) ⟨_, _, _, _, rfl⟩ ?_ ?_
  · rintro name1 lines3 _ ⟨u4, u5, u6, u7, rfl⟩
    refine y_nm rfl (s' := [some ((eC_System false) system1), some ((eQ true .lst eS) lines3), u1, some (eS name1), u5, u6, u3, u7, none]) rfl ?_
    refine c_seq ?_
    refine c_asg ?_
    refine y_comp ?_
    refine x_rng1 ?_
    refine x_cons ?_
    refine x_un ?_
    refine x_vf rfl ((fun _ => rfl) _) ?_
    refine x_some (d := (eI system1.posts)) (congrArg some ((fun _ => rfl) _)) ?_
    refine x_nil ?_
    refine x_rng1K fun ns1 => ?_
    refine y_qcomp eS (v0 := ()) (fun (_ : Unit) (s : S) => s = [some ((eC_System false) system1), some ((eQ true .lst eS) lines3), u1, some (eS name1), u5, none, u3, none, none]) (s' := [some ((eC_System false) system1), some ((eQ true .lst eS) lines3), u1, some (eS name1), u5, none, u3, none, none]) ?_ rfl ?_ ?_
    · rfl
    · rintro post1 _ _ rfl
      refine q_step ?_
      refine y_nm rfl (s' := [some ((eC_System false) system1), some ((eQ true .lst eS) lines3), u1, some (eS name1), u5, none, u3, some (eI post1), none]) rfl ?_
      refine t_yes ?_
      refine q_true ?_
      refine x_call ?_
      refine x_cons ?_
      refine x_meth ?_
      refine x_vf rfl ((fun _ => rfl) _) ?_
      refine x_methK rfl rfl rfl ?_
      refine x_cons ?_
      refine x_vf rfl ((fun _ => rfl) _) ?_
      refine x_cons ?_
      refine x_vf rfl ((fun _ => rfl) _) ?_
      refine x_nil ?_
      refine x_pos rfl ?_
      refine x_clkN _ (tk_System_served system1 name1 post1) ?_
      rintro r3 _ ps rfl
      rw [(gb_all rfl : gb (none :: [none, none]) ps [some ((eC_System false) system1), some ((eQ true .lst eS) lines3), u1, some (eS name1), u5, none, u3, some (eI post1), none] = _)]
      refine x_nil ?_
      refine x_pos rfl ?_
      refine x_callK _ (tk_item_text r3) ?_ (fun _ _ => trivial)
      rintro r4 _ ps rfl
      rw [(gb_all rfl : gb [none] ps [some ((eC_System false) system1), some ((eQ true .lst eS) lines3), u1, some (eS name1), u5, none, u3, some (eI post1), none] = _)]
      exact q_rtw rfl ⟨rfl, rfl⟩
    rintro ys2 _ _ rfl
    rw [show wipeD [some ((eC_System false) system1), some ((eQ true .lst eS) lines3), u1, some (eS name1), u5, none, u3, none, none] [5, 7] = [some ((eC_System false) system1), some ((eQ true .lst eS) lines3), u1, some (eS name1), u5, none, u3, none, none] from rfl]
    refine y_asgN rfl (s' := [some ((eC_System false) system1), some ((eQ true .lst eS) lines3), u1, some (eS name1), some ((eQ true .lst eS) ys2), none, u3, none, none]) rfl ?_
    refine c_seq ?_
    refine x_app rfl ?_
    refine x_join ?_
    refine x_c ?_
    refine x_joinK ?_
    refine x_op ?_
    refine y_lst ?_
    refine x_cons ?_
    refine x_c ?_
    refine x_cons ?_
    refine x_m rfl (s' := [some ((eC_System false) system1), some ((eQ true .lst eS) lines3), u1, none, some ((eQ true .lst eS) ys2), none, u3, none, none]) rfl ?_
    refine x_nil ?_
    refine x_okl (d' := ((eQ true .lst eS) ([("request" : Str), name1]))) 2 rfl (by decide) rfl ?_
    refine x_m rfl (s' := [some ((eC_System false) system1), some ((eQ true .lst eS) lines3), u1, none, none, none, u3, none, none]) rfl ?_
    refine x_optI (eQ true .lst eS) t_addL fun xs2 => ?_
    refine x_optI eS (t_join rfl) fun text4 => ?_
    refine x_appK eS (xs := lines3) (v := text4) (st := fun lines4 => [some ((eC_System false) system1), some ((eQ true .lst eS) lines4), u1, none, none, none, u3, none, none]) rfl (fun _ => rfl) fun lines4 => ?_
    refine c_skip ?_
    exact q_nx ⟨_, _, _, _, rfl⟩
  rintro lines3 _ ⟨u4, u5, u6, u7, rfl⟩
  refine c_seq ?_
  refine c_ret ?_
  refine x_join ?_
  refine x_c ?_
  refine x_joinK ?_
  refine y_comp ?_
  refine x_it ?_
  refine x_m rfl (s' := [some ((eC_System false) system1), none, u1, u4, u5, u6, u3, u7, none]) rfl ?_
  refine x_itQ ((rd_Q (fun _ => rfl)) _) rfl ?_
  refine y_qcomp eS (v0 := ()) (fun (_ : Unit) (s : S) => s = [some ((eC_System false) system1), none, u1, u4, u5, none, u3, u7, none]) (s' := [some ((eC_System false) system1), none, u1, u4, u5, none, u3, u7, none]) ?_ rfl ?_ ?_
  · rfl
  · rintro line1 _ _ rfl
    refine q_step ?_
    refine y_nm rfl (s' := [some ((eC_System false) system1), none, u1, u4, u5, none, u3, u7, some (eS line1)]) rfl ?_
    refine t_yes ?_
    refine q_true ?_
    refine x_op ?_
    refine x_vf rfl ((fun _ => rfl) _) ?_
    refine x_c ?_
    refine x_optI eS t_addS fun text6 => ?_
    exact q_rtw rfl ⟨rfl, rfl⟩
  rintro ys3 _ _ rfl
  rw [show wipeD [some ((eC_System false) system1), none, u1, u4, u5, none, u3, u7, none] [5, 8] = [some ((eC_System false) system1), none, u1, u4, u5, none, u3, u7, none] from rfl]
  refine x_optI eS (t_join rfl) fun text7 => ?_
  exact q_rt rfl
theorem tk_law (script1 : (List Int)) : SimF (F_law [((eQ false .scr eI) script1)]) (T_law script1) (fun q d _ => d = eB q) := by
  rw [F_law_s]
  refine f_start ?_
  refine c_seq ?_
  refine c_asg ?_
  refine x_call ?_
  refine x_cons ?_
  refine x_vf rfl ((fun _ => rfl) _) ?_
  refine x_cons ?_
  refine x_c ?_
  refine x_nil ?_
  refine x_pos rfl ?_
  refine x_callK _ (tk__law_stock script1 0) ?_ (fun _ _ => trivial)
  rintro r1 _ ps rfl
  rw [(gb_all rfl : gb [none, none] ps [some ((eQ false .scr eI) script1), none, none, none, none, none, none, none, none, none, none, none, none, none, none, none, none, none] = _)]
  refine y_asgN rfl (s' := [some ((eQ false .scr eI) script1), some ((eP3 true .lst eI eI eB) r1), none, none, none, none, none, none, none, none, none, none, none, none, none, none, none, none]) rfl ?_
  refine c_seq ?_
  refine c_asg ?_
  refine x_call ?_
  refine x_lend rfl ?_
  refine x_cons ?_
  refine x_op ?_
  refine x_c ?_
  refine x_call ?_
  refine x_lend rfl ?_
  refine x_cons ?_
  refine x_c ?_
  refine x_nil ?_
  refine x_lck rfl (s' := [some ((eQ false .scr eI) script1), none, none, none, none, none, none, none, none, none, none, none, none, none, none, none, none, none]) rfl ?_
  refine x_pos rfl ?_
  refine x_callK _ (tk__law_draw r1 5) ?_ (fun _ _ => trivial)
  rintro ⟨r2, stock1⟩ _ ps ⟨rfl, h0⟩
  rw [((gb_one h0 rfl rfl).trans rfl : gb [some 1, none] ps [some ((eQ false .scr eI) script1), none, none, none, none, none, none, none, none, none, none, none, none, none, none, none, none, none] = [some ((eQ false .scr eI) script1), some ((eP3 true .lst eI eI eB) stock1), none, none, none, none, none, none, none, none, none, none, none, none, none, none, none, none])]
  refine x_some t_addI ?_
  refine x_nil ?_
  refine x_lck rfl (s' := [some ((eQ false .scr eI) script1), none, none, none, none, none, none, none, none, none, none, none, none, none, none, none, none, none]) rfl ?_
  refine x_pos rfl ?_
  refine x_callK _ (tk__law_names stock1 (1 + r2)) ?_ (fun _ _ => trivial)
  rintro ⟨r3, stock2⟩ _ ps ⟨rfl, h0⟩
  rw [((gb_one h0 rfl rfl).trans rfl : gb [some 1, none] ps [some ((eQ false .scr eI) script1), none, none, none, none, none, none, none, none, none, none, none, none, none, none, none, none, none] = [some ((eQ false .scr eI) script1), some ((eP3 true .lst eI eI eB) stock2), none, none, none, none, none, none, none, none, none, none, none, none, none, none, none, none])]
  refine y_asgN rfl (s' := [some ((eQ false .scr eI) script1), some ((eP3 true .lst eI eI eB) stock2), some ((eQ true .lst eS) r3), none, none, none, none, none, none, none, none, none, none, none, none, none, none, none]) rfl ?_
  refine c_seq ?_
  refine c_asg ?_
  refine x_op ?_
  refine x_c ?_
  refine x_call ?_
  refine x_lend rfl ?_
  refine x_cons ?_
  refine x_c ?_
  refine x_nil ?_
  refine x_lck rfl (s' := [some ((eQ false .scr eI) script1), none, some ((eQ true .lst eS) r3), none, none, none, none, none, none, none, none, none, none, none, none, none, none, none]) rfl ?_
  refine x_pos rfl ?_
  refine x_callK _ (tk__law_draw stock2 6) ?_ (fun _ _ => trivial)
  rintro ⟨r4, stock3⟩ _ ps ⟨rfl, h0⟩
  rw [((gb_one h0 rfl rfl).trans rfl : gb [some 1, none] ps [some ((eQ false .scr eI) script1), none, some ((eQ true .lst eS) r3), none, none, none, none, none, none, none, none, none, none, none, none, none, none, none] = [some ((eQ false .scr eI) script1), some ((eP3 true .lst eI eI eB) stock3), some ((eQ true .lst eS) r3), none, none, none, none, none, none, none, none, none, none, none, none, none, none, none])]
  refine x_some t_addI ?_
  refine y_asg eI (1 + r4) (st := fun posts1 => [some ((eQ false .scr eI) script1), some ((eP3 true .lst eI eI eB) stock3), some ((eQ true .lst eS) r3), some (eI posts1), none, none, none, none, none, none, none, none, none, none, none, none, none, none]) rfl (fun _ => rfl) fun posts1 => ?_
  refine c_seq ?_
  refine c_asg ?_
  refine x_call ?_
  refine x_lend rfl ?_
  refine x_cons ?_
  refine x_vf rfl ((fun _ => rfl) _) ?_
  refine x_cons ?_
  refine x_c ?_
  refine x_nil ?_
  refine x_lck rfl (s' := [some ((eQ false .scr eI) script1), none, some ((eQ true .lst eS) r3), some (eI posts1), none, none, none, none, none, none, none, none, none, none, none, none, none, none]) rfl ?_
  refine x_pos rfl ?_
  refine x_callK _ (tk__law_moves stock3 posts1 9) ?_ (fun _ _ => trivial)
  rintro ⟨r5, stock4⟩ _ ps ⟨rfl, h0⟩
  rw [((gb_one h0 rfl rfl).trans rfl : gb [some 1, none, none] ps [some ((eQ false .scr eI) script1), none, some ((eQ true .lst eS) r3), some (eI posts1), none, none, none, none, none, none, none, none, none, none, none, none, none, none] = [some ((eQ false .scr eI) script1), some ((eP3 true .lst eI eI eB) stock4), some ((eQ true .lst eS) r3), some (eI posts1), none, none, none, none, none, none, none, none, none, none, none, none, none, none])]
  refine y_asgN rfl (s' := [some ((eQ false .scr eI) script1), some ((eP3 true .lst eI eI eB) stock4), some ((eQ true .lst eS) r3), some (eI posts1), some ((eQ false .tup (eQ false .tup eI)) r5), none, none, none, none, none, none, none, none, none, none, none, none, none]) rfl ?_
  refine c_seq ?_
  refine c_asg ?_
  refine x_call ?_
  refine x_lend rfl ?_
  refine x_cons ?_
  refine x_v rfl ((rd_Q (fun _ => rfl)) _) (s' := [some ((eQ false .scr eI) script1), some ((eP3 true .lst eI eI eB) stock4), some ((eQ false .lst eS) r3), some (eI posts1), some ((eQ false .tup (eQ false .tup eI)) r5), none, none, none, none, none, none, none, none, none, none, none, none, none]) rfl ?_
  refine x_cons ?_
  refine x_vf rfl ((fun _ => rfl) _) ?_
  refine x_cons ?_
  refine x_c ?_
  refine x_nil ?_
  refine x_lck rfl (s' := [some ((eQ false .scr eI) script1), none, some ((eQ false .lst eS) r3), some (eI posts1), some ((eQ false .tup (eQ false .tup eI)) r5), none, none, none, none, none, none, none, none, none, none, none, none, none]) rfl ?_
  refine x_pos rfl ?_
  refine x_callK _ (tk__law_requests stock4 r3 posts1 9) ?_ (fun _ _ => trivial)
  rintro ⟨r6, stock5⟩ _ ps ⟨rfl, h0⟩
  rw [((gb_one h0 rfl rfl).trans rfl : gb [some 1, none, none, none] ps [some ((eQ false .scr eI) script1), none, some ((eQ false .lst eS) r3), some (eI posts1), some ((eQ false .tup (eQ false .tup eI)) r5), none, none, none, none, none, none, none, none, none, none, none, none, none] = [some ((eQ false .scr eI) script1), some ((eP3 true .lst eI eI eB) stock5), some ((eQ false .lst eS) r3), some (eI posts1), some ((eQ false .tup (eQ false .tup eI)) r5), none, none, none, none, none, none, none, none, none, none, none, none, none])]
  refine y_asgN rfl (s' := [some ((eQ false .scr eI) script1), some ((eP3 true .lst eI eI eB) stock5), some ((eQ false .lst eS) r3), some (eI posts1), some ((eQ false .tup (eQ false .tup eI)) r5), some ((eM true kS (eQ false .tup (eO eI))) r6), none, none, none, none, none, none, none, none, none, none, none, none]) rfl ?_
  refine c_seq ?_
  refine c_asg ?_
  refine x_call ?_
  refine x_cons ?_
  refine x_vf rfl ((fun _ => rfl) _) ?_
  refine x_cons ?_
  refine x_c ?_
  refine x_nil ?_
  refine x_pos rfl ?_
  refine x_callK _ (tk__law_stock script1 1) ?_ (fun _ _ => trivial)
  rintro r7 _ ps rfl
  rw [(gb_all rfl : gb [none, none] ps [some ((eQ false .scr eI) script1), some ((eP3 true .lst eI eI eB) stock5), some ((eQ false .lst eS) r3), some (eI posts1), some ((eQ false .tup (eQ false .tup eI)) r5), some ((eM true kS (eQ false .tup (eO eI))) r6), none, none, none, none, none, none, none, none, none, none, none, none] = _)]
  refine y_asgN rfl (s' := [some ((eQ false .scr eI) script1), some ((eP3 true .lst eI eI eB) r7), some ((eQ false .lst eS) r3), some (eI posts1), some ((eQ false .tup (eQ false .tup eI)) r5), some ((eM true kS (eQ false .tup (eO eI))) r6), none, none, none, none, none, none, none, none, none, none, none, none]) rfl ?_
  refine c_seq ?_
  refine c_asg ?_
  refine x_call ?_
  refine x_lend rfl ?_
  refine x_cons ?_
  refine x_vf rfl ((fun _ => rfl) _) ?_
  refine x_cons ?_
  refine x_op ?_
  refine x_c ?_
  refine x_call ?_
  refine x_lend rfl ?_
  refine x_cons ?_
  refine x_c ?_
  refine x_nil ?_
  refine x_lck rfl (s' := [some ((eQ false .scr eI) script1), none, some ((eQ false .lst eS) r3), some (eI posts1), some ((eQ false .tup (eQ false .tup eI)) r5), some ((eM true kS (eQ false .tup (eO eI))) r6), none, none, none, none, none, none, none, none, none, none, none, none]) rfl ?_
  refine x_pos rfl ?_
  refine x_callK _ (tk__law_draw r7 4) ?_ (fun _ _ => trivial)
  rintro ⟨r8, stock6⟩ _ ps ⟨rfl, h0⟩
  rw [((gb_one h0 rfl rfl).trans rfl : gb [some 1, none] ps [some ((eQ false .scr eI) script1), none, some ((eQ false .lst eS) r3), some (eI posts1), some ((eQ false .tup (eQ false .tup eI)) r5), some ((eM true kS (eQ false .tup (eO eI))) r6), none, none, none, none, none, none, none, none, none, none, none, none] = [some ((eQ false .scr eI) script1), some ((eP3 true .lst eI eI eB) stock6), some ((eQ false .lst eS) r3), some (eI posts1), some ((eQ false .tup (eQ false .tup eI)) r5), some ((eM true kS (eQ false .tup (eO eI))) r6), none, none, none, none, none, none, none, none, none, none, none, none])]
  refine x_some t_addI ?_
  refine x_nil ?_
  refine x_lck rfl (s' := [some ((eQ false .scr eI) script1), none, some ((eQ false .lst eS) r3), some (eI posts1), some ((eQ false .tup (eQ false .tup eI)) r5), some ((eM true kS (eQ false .tup (eO eI))) r6), none, none, none, none, none, none, none, none, none, none, none, none]) rfl ?_
  refine x_pos rfl ?_
  refine x_callK _ (tk__law_turns stock6 r3 (1 + r8)) ?_ (fun _ _ => trivial)
  rintro ⟨r9, stock7⟩ _ ps ⟨rfl, h0⟩
  rw [((gb_one h0 rfl rfl).trans rfl : gb [some 1, none, none] ps [some ((eQ false .scr eI) script1), none, some ((eQ false .lst eS) r3), some (eI posts1), some ((eQ false .tup (eQ false .tup eI)) r5), some ((eM true kS (eQ false .tup (eO eI))) r6), none, none, none, none, none, none, none, none, none, none, none, none] = [some ((eQ false .scr eI) script1), some ((eP3 true .lst eI eI eB) stock7), some ((eQ false .lst eS) r3), some (eI posts1), some ((eQ false .tup (eQ false .tup eI)) r5), some ((eM true kS (eQ false .tup (eO eI))) r6), none, none, none, none, none, none, none, none, none, none, none, none])]
  refine y_asgN rfl (s' := [some ((eQ false .scr eI) script1), some ((eP3 true .lst eI eI eB) stock7), some ((eQ false .lst eS) r3), some (eI posts1), some ((eQ false .tup (eQ false .tup eI)) r5), some ((eM true kS (eQ false .tup (eO eI))) r6), some ((eQ false .tup (eM false kS eI)) r9), none, none, none, none, none, none, none, none, none, none, none]) rfl ?_
  refine c_seq ?_
  refine c_asg ?_
  refine x_call ?_
  refine x_cons ?_
  refine x_vf rfl ((fun _ => rfl) _) ?_
  refine x_cons ?_
  refine x_c ?_
  refine x_nil ?_
  refine x_pos rfl ?_
  refine x_callK _ (tk__law_stock script1 2) ?_ (fun _ _ => trivial)
  rintro r10 _ ps rfl
  rw [(gb_all rfl : gb [none, none] ps [some ((eQ false .scr eI) script1), some ((eP3 true .lst eI eI eB) stock7), some ((eQ false .lst eS) r3), some (eI posts1), some ((eQ false .tup (eQ false .tup eI)) r5), some ((eM true kS (eQ false .tup (eO eI))) r6), some ((eQ false .tup (eM false kS eI)) r9), none, none, none, none, none, none, none, none, none, none, none] = _)]
  refine y_asgN rfl (s' := [some ((eQ false .scr eI) script1), some ((eP3 true .lst eI eI eB) r10), some ((eQ false .lst eS) r3), some (eI posts1), some ((eQ false .tup (eQ false .tup eI)) r5), some ((eM true kS (eQ false .tup (eO eI))) r6), some ((eQ false .tup (eM false kS eI)) r9), none, none, none, none, none, none, none, none, none, none, none]) rfl ?_
  refine c_seq ?_
  refine c_asg ?_
  refine x_call ?_
  refine x_cons ?_
  refine x_vf rfl ((fun _ => rfl) _) ?_
  refine x_nil ?_
  refine x_pos rfl ?_
  refine x_callK _ (tk__law_ways r5) ?_ (fun _ _ => trivial)
  rintro r11 _ ps rfl
  rw [(gb_all rfl : gb [none] ps [some ((eQ false .scr eI) script1), some ((eP3 true .lst eI eI eB) r10), some ((eQ false .lst eS) r3), some (eI posts1), some ((eQ false .tup (eQ false .tup eI)) r5), some ((eM true kS (eQ false .tup (eO eI))) r6), some ((eQ false .tup (eM false kS eI)) r9), none, none, none, none, none, none, none, none, none, none, none] = _)]
  refine y_asgN rfl (s' := [some ((eQ false .scr eI) script1), some ((eP3 true .lst eI eI eB) r10), some ((eQ false .lst eS) r3), some (eI posts1), some ((eQ false .tup (eQ false .tup eI)) r5), some ((eM true kS (eQ false .tup (eO eI))) r6), some ((eQ false .tup (eM false kS eI)) r9), some ((eQ true .lst (eQ true .lst eI)) r11), none, none, none, none, none, none, none, none, none, none]) rfl ?_
  refine c_seq ?_
  refine c_asg ?_
  refine x_op ?_
  refine x_op ?_
  refine x_vf rfl ((fun _ => rfl) _) ?_
  refine y_lst ?_
  refine x_cons ?_
  refine x_c ?_
  refine x_nil ?_
  refine x_okl (d' := ((eQ true .lst eN) ([()]))) 1 rfl (by decide) rfl ?_
  refine x_opd (d' := ((eQ false .lst (eO eS)) ((r3 : (List Str)).map fun y => (some y)))) (e' := ((eQ true .lst (eO eS)) (([()] : (List Unit)).map fun y => none))) co_O co_N ?_
  refine x_optI (eQ true .lst (eO eS)) t_addL fun xs1 => ?_
  refine x_call ?_
  refine x_lend rfl ?_
  refine x_cons ?_
  refine x_op ?_
  refine x_cb ?_
  refine x_cons ?_
  refine x_vf rfl ((fun _ => rfl) _) ?_
  refine x_nil ?_
  refine x_some (t_lenQ rfl) ?_
  refine x_c ?_
  refine x_some t_addI ?_
  refine x_nil ?_
  refine x_lck rfl (s' := [some ((eQ false .scr eI) script1), none, some ((eQ false .lst eS) r3), some (eI posts1), some ((eQ false .tup (eQ false .tup eI)) r5), some ((eM true kS (eQ false .tup (eO eI))) r6), some ((eQ false .tup (eM false kS eI)) r9), some ((eQ true .lst (eQ true .lst eI)) r11), none, none, none, none, none, none, none, none, none, none]) rfl ?_
  refine x_pos rfl ?_
  refine x_callK _ (tk__law_draw r10 ((r3.length : Int) + 1)) ?_ (fun _ _ => trivial)
  rintro ⟨r12, stock8⟩ _ ps ⟨rfl, h0⟩
  rw [((gb_one h0 rfl rfl).trans rfl : gb [some 1, none] ps [some ((eQ false .scr eI) script1), none, some ((eQ false .lst eS) r3), some (eI posts1), some ((eQ false .tup (eQ false .tup eI)) r5), some ((eM true kS (eQ false .tup (eO eI))) r6), some ((eQ false .tup (eM false kS eI)) r9), some ((eQ true .lst (eQ true .lst eI)) r11), none, none, none, none, none, none, none, none, none, none] = [some ((eQ false .scr eI) script1), some ((eP3 true .lst eI eI eB) stock8), some ((eQ false .lst eS) r3), some (eI posts1), some ((eQ false .tup (eQ false .tup eI)) r5), some ((eM true kS (eQ false .tup (eO eI))) r6), some ((eQ false .tup (eM false kS eI)) r9), some ((eQ true .lst (eQ true .lst eI)) r11), none, none, none, none, none, none, none, none, none, none])]
  refine x_optI (eO eS) (t_subQ rfl (rd_O (fun _ => rfl))) fun x1 => ?_
  refine y_asgN rfl (s' := [some ((eQ false .scr eI) script1), some ((eP3 true .lst eI eI eB) stock8), some ((eQ false .lst eS) r3), some (eI posts1), some ((eQ false .tup (eQ false .tup eI)) r5), some ((eM true kS (eQ false .tup (eO eI))) r6), some ((eQ false .tup (eM false kS eI)) r9), some ((eQ true .lst (eQ true .lst eI)) r11), some ((eO eS) x1), none, none, none, none, none, none, none, none, none]) rfl ?_
  refine c_seq ?_
  refine c_asg ?_
  refine y_tup ?_
  refine x_cons ?_
  refine x_call ?_
  refine x_lend rfl ?_
  refine x_cons ?_
  refine x_c ?_
  refine x_nil ?_
  refine x_lck rfl (s' := [some ((eQ false .scr eI) script1), none, some ((eQ false .lst eS) r3), some (eI posts1), some ((eQ false .tup (eQ false .tup eI)) r5), some ((eM true kS (eQ false .tup (eO eI))) r6), some ((eQ false .tup (eM false kS eI)) r9), some ((eQ true .lst (eQ true .lst eI)) r11), some ((eO eS) x1), none, none, none, none, none, none, none, none, none]) rfl ?_
  refine x_pos rfl ?_
  refine x_callK _ (tk__law_draw stock8 4) ?_ (fun _ _ => trivial)
  rintro ⟨r13, stock9⟩ _ ps ⟨rfl, h0⟩
  rw [((gb_one h0 rfl rfl).trans rfl : gb [some 1, none] ps [some ((eQ false .scr eI) script1), none, some ((eQ false .lst eS) r3), some (eI posts1), some ((eQ false .tup (eQ false .tup eI)) r5), some ((eM true kS (eQ false .tup (eO eI))) r6), some ((eQ false .tup (eM false kS eI)) r9), some ((eQ true .lst (eQ true .lst eI)) r11), some ((eO eS) x1), none, none, none, none, none, none, none, none, none] = [some ((eQ false .scr eI) script1), some ((eP3 true .lst eI eI eB) stock9), some ((eQ false .lst eS) r3), some (eI posts1), some ((eQ false .tup (eQ false .tup eI)) r5), some ((eM true kS (eQ false .tup (eO eI))) r6), some ((eQ false .tup (eM false kS eI)) r9), some ((eQ true .lst (eQ true .lst eI)) r11), some ((eO eS) x1), none, none, none, none, none, none, none, none, none])]
  refine x_cons ?_
  refine x_call ?_
  refine x_lend rfl ?_
  refine x_cons ?_
  refine x_m rfl (s' := [some ((eQ false .scr eI) script1), some ((eP3 true .lst eI eI eB) stock9), some ((eQ false .lst eS) r3), none, some ((eQ false .tup (eQ false .tup eI)) r5), some ((eM true kS (eQ false .tup (eO eI))) r6), some ((eQ false .tup (eM false kS eI)) r9), some ((eQ true .lst (eQ true .lst eI)) r11), some ((eO eS) x1), none, none, none, none, none, none, none, none, none]) rfl ?_
  refine x_nil ?_
  refine x_lck rfl (s' := [some ((eQ false .scr eI) script1), none, some ((eQ false .lst eS) r3), none, some ((eQ false .tup (eQ false .tup eI)) r5), some ((eM true kS (eQ false .tup (eO eI))) r6), some ((eQ false .tup (eM false kS eI)) r9), some ((eQ true .lst (eQ true .lst eI)) r11), some ((eO eS) x1), none, none, none, none, none, none, none, none, none]) rfl ?_
  refine x_pos rfl ?_
  refine x_callK _ (tk__law_draw stock9 posts1) ?_ (fun _ _ => trivial)
  rintro ⟨r14, stock10⟩ _ ps ⟨rfl, h0⟩
  rw [((gb_one h0 rfl rfl).trans rfl : gb [some 1, none] ps [some ((eQ false .scr eI) script1), none, some ((eQ false .lst eS) r3), none, some ((eQ false .tup (eQ false .tup eI)) r5), some ((eM true kS (eQ false .tup (eO eI))) r6), some ((eQ false .tup (eM false kS eI)) r9), some ((eQ true .lst (eQ true .lst eI)) r11), some ((eO eS) x1), none, none, none, none, none, none, none, none, none] = [some ((eQ false .scr eI) script1), some ((eP3 true .lst eI eI eB) stock10), some ((eQ false .lst eS) r3), none, some ((eQ false .tup (eQ false .tup eI)) r5), some ((eM true kS (eQ false .tup (eO eI))) r6), some ((eQ false .tup (eM false kS eI)) r9), some ((eQ true .lst (eQ true .lst eI)) r11), some ((eO eS) x1), none, none, none, none, none, none, none, none, none])]
  refine x_cons ?_
  refine x_call ?_
  refine x_lend rfl ?_
  refine x_cons ?_
  refine x_v rfl ((rd_Q (fz_Q (fun _ => rfl))) _) (s' := [some ((eQ false .scr eI) script1), some ((eP3 true .lst eI eI eB) stock10), some ((eQ false .lst eS) r3), none, some ((eQ false .tup (eQ false .tup eI)) r5), some ((eM true kS (eQ false .tup (eO eI))) r6), some ((eQ false .tup (eM false kS eI)) r9), some ((eQ false .lst (eQ false .lst eI)) r11), some ((eO eS) x1), none, none, none, none, none, none, none, none, none]) rfl ?_
  refine x_nil ?_
  refine x_lck rfl (s' := [some ((eQ false .scr eI) script1), none, some ((eQ false .lst eS) r3), none, some ((eQ false .tup (eQ false .tup eI)) r5), some ((eM true kS (eQ false .tup (eO eI))) r6), some ((eQ false .tup (eM false kS eI)) r9), some ((eQ false .lst (eQ false .lst eI)) r11), some ((eO eS) x1), none, none, none, none, none, none, none, none, none]) rfl ?_
  refine x_pos rfl ?_
  refine x_callK _ (tk__law_offsets stock10 r11) ?_ (fun _ _ => trivial)
  rintro ⟨r15, stock11⟩ _ ps ⟨rfl, h0⟩
  rw [((gb_one h0 rfl rfl).trans rfl : gb [some 1, none] ps [some ((eQ false .scr eI) script1), none, some ((eQ false .lst eS) r3), none, some ((eQ false .tup (eQ false .tup eI)) r5), some ((eM true kS (eQ false .tup (eO eI))) r6), some ((eQ false .tup (eM false kS eI)) r9), some ((eQ false .lst (eQ false .lst eI)) r11), some ((eO eS) x1), none, none, none, none, none, none, none, none, none] = [some ((eQ false .scr eI) script1), some ((eP3 true .lst eI eI eB) stock11), some ((eQ false .lst eS) r3), none, some ((eQ false .tup (eQ false .tup eI)) r5), some ((eM true kS (eQ false .tup (eO eI))) r6), some ((eQ false .tup (eM false kS eI)) r9), some ((eQ false .lst (eQ false .lst eI)) r11), some ((eO eS) x1), none, none, none, none, none, none, none, none, none])]
  refine x_cons ?_
  refine x_m rfl (s' := [some ((eQ false .scr eI) script1), some ((eP3 true .lst eI eI eB) stock11), some ((eQ false .lst eS) r3), none, some ((eQ false .tup (eQ false .tup eI)) r5), some ((eM true kS (eQ false .tup (eO eI))) r6), some ((eQ false .tup (eM false kS eI)) r9), some ((eQ false .lst (eQ false .lst eI)) r11), none, none, none, none, none, none, none, none, none, none]) rfl ?_
  refine x_nil ?_
  refine x_okt (d' := ((eP4 false .tup eI eI (eQ false .tup eI) (eO eS)) (r13, r14, r15, x1))) 4 rfl (by decide) (dT_eq (cons_eq ((fun _ => rfl) _) (cons_eq ((fun _ => rfl) _) (cons_eq ((fun _ => rfl) _) (cons_eq ((rd_O (fun _ => rfl)) _) rfl))))) ?_
  refine y_asg (eP4 false .tup eI eI (eQ false .tup eI) (eO eS)) (r13, r14, r15, x1) (st := fun view1 => [some ((eQ false .scr eI) script1), some ((eP3 true .lst eI eI eB) stock11), some ((eQ false .lst eS) r3), none, some ((eQ false .tup (eQ false .tup eI)) r5), some ((eM true kS (eQ false .tup (eO eI))) r6), some ((eQ false .tup (eM false kS eI)) r9), some ((eQ false .lst (eQ false .lst eI)) r11), none, some ((eP4 false .tup eI eI (eQ false .tup eI) (eO eS)) view1), none, none, none, none, none, none, none, none]) rfl (fun _ => rfl) fun view1 => ?_
  refine c_seq ?_
  refine c_asg ?_
  refine x_op ?_
  refine x_c ?_
  refine x_call ?_
  refine x_cons ?_
  refine x_call ?_
  refine x_cons ?_
  refine x_m rfl (s' := [none, some ((eP3 true .lst eI eI eB) stock11), some ((eQ false .lst eS) r3), none, some ((eQ false .tup (eQ false .tup eI)) r5), some ((eM true kS (eQ false .tup (eO eI))) r6), some ((eQ false .tup (eM false kS eI)) r9), some ((eQ false .lst (eQ false .lst eI)) r11), none, some ((eP4 false .tup eI eI (eQ false .tup eI) (eO eS)) view1), none, none, none, none, none, none, none, none]) rfl ?_
  refine x_cons ?_
  refine x_c ?_
  refine x_nil ?_
  refine x_pos rfl ?_
  refine x_callK _ (tk__law_stock script1 3) ?_ (fun _ _ => trivial)
  rintro r16 _ ps rfl
  rw [(gb_all rfl : gb [none, none] ps [none, some ((eP3 true .lst eI eI eB) stock11), some ((eQ false .lst eS) r3), none, some ((eQ false .tup (eQ false .tup eI)) r5), some ((eM true kS (eQ false .tup (eO eI))) r6), some ((eQ false .tup (eM false kS eI)) r9), some ((eQ false .lst (eQ false .lst eI)) r11), none, some ((eP4 false .tup eI eI (eQ false .tup eI) (eO eS)) view1), none, none, none, none, none, none, none, none] = _)]
  refine x_cons ?_
  refine x_c ?_
  refine x_nil ?_
  refine x_pos rfl ?_
  refine x_callK _ (tk__law_draw r16 9) ?_ (fun _ _ => trivial)
  rintro ⟨r17, z1⟩ _ ps ⟨rfl, h0⟩
  rw [(gb_all rfl : gb [none, none] ps [none, some ((eP3 true .lst eI eI eB) stock11), some ((eQ false .lst eS) r3), none, some ((eQ false .tup (eQ false .tup eI)) r5), some ((eM true kS (eQ false .tup (eO eI))) r6), some ((eQ false .tup (eM false kS eI)) r9), some ((eQ false .lst (eQ false .lst eI)) r11), none, some ((eP4 false .tup eI eI (eQ false .tup eI) (eO eS)) view1), none, none, none, none, none, none, none, none] = _)]
  refine x_some t_addI ?_
  refine y_asg eI (1 + r17) (st := fun price1 => [none, some ((eP3 true .lst eI eI eB) stock11), some ((eQ false .lst eS) r3), none, some ((eQ false .tup (eQ false .tup eI)) r5), some ((eM true kS (eQ false .tup (eO eI))) r6), some ((eQ false .tup (eM false kS eI)) r9), some ((eQ false .lst (eQ false .lst eI)) r11), none, some ((eP4 false .tup eI eI (eQ false .tup eI) (eO eS)) view1), some (eI price1), none, none, none, none, none, none, none]) rfl (fun _ => rfl) fun price1 => ?_
  refine c_seq ?_
  refine c_asg ?_
  refine x_call ?_
  refine x_cons ?_
  refine x_vf rfl ((fun _ => rfl) _) ?_
  refine x_cons ?_
  refine x_v rfl ((rd_M (fz_Q (fz_O (fun _ => rfl)))) _) (s' := [none, some ((eP3 true .lst eI eI eB) stock11), some ((eQ false .lst eS) r3), none, some ((eQ false .tup (eQ false .tup eI)) r5), some ((eM false kS (eQ false .tup (eO eI))) r6), some ((eQ false .tup (eM false kS eI)) r9), some ((eQ false .lst (eQ false .lst eI)) r11), none, some ((eP4 false .tup eI eI (eQ false .tup eI) (eO eS)) view1), some (eI price1), none, none, none, none, none, none, none]) rfl ?_
  refine x_nil ?_
  refine x_pos rfl ?_
  refine x_callK _ (tk__law_system_text r5 r6) ?_ (fun _ _ => trivial)
  rintro r18 _ ps rfl
  rw [(gb_all rfl : gb [none, none] ps [none, some ((eP3 true .lst eI eI eB) stock11), some ((eQ false .lst eS) r3), none, some ((eQ false .tup (eQ false .tup eI)) r5), some ((eM false kS (eQ false .tup (eO eI))) r6), some ((eQ false .tup (eM false kS eI)) r9), some ((eQ false .lst (eQ false .lst eI)) r11), none, some ((eP4 false .tup eI eI (eQ false .tup eI) (eO eS)) view1), some (eI price1), none, none, none, none, none, none, none] = _)]
  refine y_asgN rfl (s' := [none, some ((eP3 true .lst eI eI eB) stock11), some ((eQ false .lst eS) r3), none, some ((eQ false .tup (eQ false .tup eI)) r5), some ((eM false kS (eQ false .tup (eO eI))) r6), some ((eQ false .tup (eM false kS eI)) r9), some ((eQ false .lst (eQ false .lst eI)) r11), none, some ((eP4 false .tup eI eI (eQ false .tup eI) (eO eS)) view1), some (eI price1), some (eS r18), none, none, none, none, none, none]) rfl ?_
  refine c_seq ?_
  refine c_asg ?_
  refine x_make ?_
  refine x_cons ?_
  refine x_vf rfl ((fun _ => rfl) _) ?_
  refine x_cons ?_
  refine x_cb ?_
  refine x_cons ?_
  refine x_vf rfl ((fun _ => rfl) _) ?_
  refine x_nil ?_
  refine x_some t_dct ?_
  refine x_nil ?_
  refine x_pos rfl ?_
  refine x_mkK (e := eC_System true) (by decide) ?_ fun o1 => ?_
  · exact tk_System_init _ _
  refine y_asgN rfl (s' := [none, some ((eP3 true .lst eI eI eB) stock11), some ((eQ false .lst eS) r3), none, some ((eQ false .tup (eQ false .tup eI)) r5), some ((eM false kS (eQ false .tup (eO eI))) r6), some ((eQ false .tup (eM false kS eI)) r9), some ((eQ false .lst (eQ false .lst eI)) r11), none, some ((eP4 false .tup eI eI (eQ false .tup eI) (eO eS)) view1), some (eI price1), some (eS r18), some ((eC_System true) o1), none, none, none, none, none]) rfl ?_
  refine c_seq ?_
  refine c_asg ?_
  refine x_make ?_
  refine x_cons ?_
  refine x_m rfl (s' := [none, some ((eP3 true .lst eI eI eB) stock11), some ((eQ false .lst eS) r3), none, none, some ((eM false kS (eQ false .tup (eO eI))) r6), some ((eQ false .tup (eM false kS eI)) r9), some ((eQ false .lst (eQ false .lst eI)) r11), none, some ((eP4 false .tup eI eI (eQ false .tup eI) (eO eS)) view1), some (eI price1), some (eS r18), some ((eC_System true) o1), none, none, none, none, none]) rfl ?_
  refine x_cons ?_
  refine x_call ?_
  refine x_cons ?_
  refine x_m rfl (s' := [none, some ((eP3 true .lst eI eI eB) stock11), some ((eQ false .lst eS) r3), none, none, none, some ((eQ false .tup (eM false kS eI)) r9), some ((eQ false .lst (eQ false .lst eI)) r11), none, some ((eP4 false .tup eI eI (eQ false .tup eI) (eO eS)) view1), some (eI price1), some (eS r18), some ((eC_System true) o1), none, none, none, none, none]) rfl ?_
  refine x_nil ?_
  refine x_pos rfl ?_
  refine x_callK _ (tk__law_turned r6) ?_ (fun _ _ => trivial)
  rintro r19 _ ps rfl
  rw [(gb_all rfl : gb [none] ps [none, some ((eP3 true .lst eI eI eB) stock11), some ((eQ false .lst eS) r3), none, none, none, some ((eQ false .tup (eM false kS eI)) r9), some ((eQ false .lst (eQ false .lst eI)) r11), none, some ((eP4 false .tup eI eI (eQ false .tup eI) (eO eS)) view1), some (eI price1), some (eS r18), some ((eC_System true) o1), none, none, none, none, none] = _)]
  refine x_nil ?_
  refine x_pos rfl ?_
  refine x_mkK (e := eC_System true) (by decide) ?_ fun o2 => ?_
  · exact tk_System_init _ _
  refine y_asgN rfl (s' := [none, some ((eP3 true .lst eI eI eB) stock11), some ((eQ false .lst eS) r3), none, none, none, some ((eQ false .tup (eM false kS eI)) r9), some ((eQ false .lst (eQ false .lst eI)) r11), none, some ((eP4 false .tup eI eI (eQ false .tup eI) (eO eS)) view1), some (eI price1), some (eS r18), some ((eC_System true) o1), some ((eC_System true) o2), none, none, none, none]) rfl ?_
  refine c_seq ?_
  refine c_if ?_
  refine x_or ?_
  refine x_not ?_
  refine x_b ?_
  refine x_call ?_
  refine x_cons ?_
  refine x_call ?_
  refine x_cons ?_
  refine x_v rfl ((rdC_System true) _) (s' := [none, some ((eP3 true .lst eI eI eB) stock11), some ((eQ false .lst eS) r3), none, none, none, some ((eQ false .tup (eM false kS eI)) r9), some ((eQ false .lst (eQ false .lst eI)) r11), none, some ((eP4 false .tup eI eI (eQ false .tup eI) (eO eS)) view1), some (eI price1), some (eS r18), some ((eC_System false) o1), some ((eC_System true) o2), none, none, none, none]) rfl ?_
  refine x_nil ?_
  refine x_pos rfl ?_
  refine x_callK _ (tk_system_text o1) ?_ (fun _ _ => trivial)
  rintro r20 _ ps rfl
  rw [(gb_all rfl : gb [none] ps [none, some ((eP3 true .lst eI eI eB) stock11), some ((eQ false .lst eS) r3), none, none, none, some ((eQ false .tup (eM false kS eI)) r9), some ((eQ false .lst (eQ false .lst eI)) r11), none, some ((eP4 false .tup eI eI (eQ false .tup eI) (eO eS)) view1), some (eI price1), some (eS r18), some ((eC_System false) o1), some ((eC_System true) o2), none, none, none, none] = _)]
  refine x_cons ?_
  refine x_vf rfl ((fun _ => rfl) _) ?_
  refine x_nil ?_
  refine x_pos rfl ?_
  refine x_callK _ (tk__law_is r20 r18) ?_ (fun _ _ => trivial)
  rintro r21 _ ps rfl
  rw [(gb_all rfl : gb [none, none] ps [none, some ((eP3 true .lst eI eI eB) stock11), some ((eQ false .lst eS) r3), none, none, none, some ((eQ false .tup (eM false kS eI)) r9), some ((eQ false .lst (eQ false .lst eI)) r11), none, some ((eP4 false .tup eI eI (eQ false .tup eI) (eO eS)) view1), some (eI price1), some (eS r18), some ((eC_System false) o1), some ((eC_System true) o2), none, none, none, none] = _)]
  refine x_blc ?_
  refine x_orJ (fun (_ : Bool) (s : S) => ∃ ow1 : Bool, s = [none, some ((eP3 true .lst eI eI eB) stock11), some ((eQ false .lst eS) r3), none, none, none, some ((eQ false .tup (eM false kS eI)) r9), some ((eQ false .lst (eQ false .lst eI)) r11), none, some ((eP4 false .tup eI eI (eQ false .tup eI) (eO eS)) view1), some (eI price1), some (eS r18), some ((eC_System false) o1), some ((eC_System ow1) o2), none, none, none, none]) (fun _ => ?_) ⟨_, rfl⟩ ?_
  · refine x_not ?_
    refine x_b ?_
    refine x_call ?_
    refine x_cons ?_
    refine x_call ?_
    refine x_cons ?_
    refine x_v rfl ((rdC_System true) _) (s' := [none, some ((eP3 true .lst eI eI eB) stock11), some ((eQ false .lst eS) r3), none, none, none, some ((eQ false .tup (eM false kS eI)) r9), some ((eQ false .lst (eQ false .lst eI)) r11), none, some ((eP4 false .tup eI eI (eQ false .tup eI) (eO eS)) view1), some (eI price1), some (eS r18), some ((eC_System false) o1), some ((eC_System false) o2), none, none, none, none]) rfl ?_
    refine x_nil ?_
    refine x_pos rfl ?_
    refine x_callK _ (tk_system_text o2) ?_ (fun _ _ => trivial)
    rintro r24 _ ps rfl
    rw [(gb_all rfl : gb [none] ps [none, some ((eP3 true .lst eI eI eB) stock11), some ((eQ false .lst eS) r3), none, none, none, some ((eQ false .tup (eM false kS eI)) r9), some ((eQ false .lst (eQ false .lst eI)) r11), none, some ((eP4 false .tup eI eI (eQ false .tup eI) (eO eS)) view1), some (eI price1), some (eS r18), some ((eC_System false) o1), some ((eC_System false) o2), none, none, none, none] = _)]
    refine x_cons ?_
    refine x_vf rfl ((fun _ => rfl) _) ?_
    refine x_nil ?_
    refine x_pos rfl ?_
    refine x_callK _ (tk__law_is r24 r18) ?_ (fun _ _ => trivial)
    rintro r25 _ ps rfl
    rw [(gb_all rfl : gb [none, none] ps [none, some ((eP3 true .lst eI eI eB) stock11), some ((eQ false .lst eS) r3), none, none, none, some ((eQ false .tup (eM false kS eI)) r9), some ((eQ false .lst (eQ false .lst eI)) r11), none, some ((eP4 false .tup eI eI (eQ false .tup eI) (eO eS)) view1), some (eI price1), some (eS r18), some ((eC_System false) o1), some ((eC_System false) o2), none, none, none, none] = _)]
    refine x_blc ?_
    exact q_rt ⟨rfl, ⟨_, rfl⟩⟩
  rintro c1 _ ⟨ow1, rfl⟩
  refine q_if (fun _ => ?_) (fun _ => ?_)
  · refine c_seq ?_
    refine c_ret ?_
    refine x_c ?_
    exact q_rt rfl
  · refine c_skip ?_
    refine c_seq ?_
    refine c_asg ?_
    refine x_call ?_
    refine x_cons ?_
    refine x_vf rfl ((fun _ => rfl) _) ?_
    refine x_nil ?_
    refine x_pos rfl ?_
    refine x_callK _ (tk__law_machine_text r9) ?_ (fun _ _ => trivial)
    rintro r26 _ ps rfl
    rw [(gb_all rfl : gb [none] ps [none, some ((eP3 true .lst eI eI eB) stock11), some ((eQ false .lst eS) r3), none, none, none, some ((eQ false .tup (eM false kS eI)) r9), some ((eQ false .lst (eQ false .lst eI)) r11), none, some ((eP4 false .tup eI eI (eQ false .tup eI) (eO eS)) view1), some (eI price1), some (eS r18), some ((eC_System false) o1), some ((eC_System ow1) o2), none, none, none, none] = _)]
    refine y_asgN rfl (s' := [none, some ((eP3 true .lst eI eI eB) stock11), some ((eQ false .lst eS) r3), none, none, none, some ((eQ false .tup (eM false kS eI)) r9), some ((eQ false .lst (eQ false .lst eI)) r11), none, some ((eP4 false .tup eI eI (eQ false .tup eI) (eO eS)) view1), some (eI price1), some (eS r26), some ((eC_System false) o1), some ((eC_System ow1) o2), none, none, none, none]) rfl ?_
    refine c_seq ?_
    refine c_asg ?_
    refine x_make ?_
    refine x_cons ?_
    refine x_cb ?_
    refine x_cons ?_
    refine y_comp ?_
    refine x_it ?_
    refine x_vf rfl ((fun _ => rfl) _) ?_
    refine x_itQ rfl rfl ?_
    refine y_qcompP (eM true kS eI) (fun (row1 : (List (Str × Int))) => row1) (s' := [none, some ((eP3 true .lst eI eI eB) stock11), some ((eQ false .lst eS) r3), none, none, none, some ((eQ false .tup (eM false kS eI)) r9), some ((eQ false .lst (eQ false .lst eI)) r11), none, some ((eP4 false .tup eI eI (eQ false .tup eI) (eO eS)) view1), some (eI price1), some (eS r26), some ((eC_System false) o1), some ((eC_System ow1) o2), none, none, none, none]) ?_ ?_ ?_ ?_
    · rfl
    · rfl
    · intro row1
      refine q_step ?_
      refine y_nm rfl (s' := [none, some ((eP3 true .lst eI eI eB) stock11), some ((eQ false .lst eS) r3), none, none, none, some ((eQ false .tup (eM false kS eI)) r9), some ((eQ false .lst (eQ false .lst eI)) r11), none, some ((eP4 false .tup eI eI (eQ false .tup eI) (eO eS)) view1), some (eI price1), some (eS r26), some ((eC_System false) o1), some ((eC_System ow1) o2), none, none, some ((eM false kS eI) row1), none]) rfl ?_
      refine t_yes ?_
      refine q_true ?_
      refine x_cb ?_
      refine x_cons ?_
      refine x_vf rfl ((fun _ => rfl) _) ?_
      refine x_nil ?_
      refine x_some t_dct ?_
      exact q_rtw rfl ⟨rfl, rfl⟩
    intro ys1
    refine x_nil ?_
    refine x_some (t_tupL (rd_M (fun _ => rfl))) ?_
    refine x_nil ?_
    refine x_pos rfl ?_
    refine x_mkK (e := eC_Machine true) (by decide) ?_ fun o3 => ?_
    · exact tk_Machine_init _
    refine y_asgN rfl (s' := [none, some ((eP3 true .lst eI eI eB) stock11), some ((eQ false .lst eS) r3), none, none, none, some ((eQ false .tup (eM false kS eI)) r9), some ((eQ false .lst (eQ false .lst eI)) r11), none, some ((eP4 false .tup eI eI (eQ false .tup eI) (eO eS)) view1), some (eI price1), some (eS r26), some ((eC_System false) o1), some ((eC_System ow1) o2), some ((eC_Machine true) o3), none, none, none]) rfl ?_
    refine c_seq ?_
    refine c_asg ?_
    refine x_make ?_
    refine x_cons ?_
    refine x_cb ?_
    refine x_cons ?_
    refine y_comp ?_
    refine x_it ?_
    refine x_m rfl (s' := [none, some ((eP3 true .lst eI eI eB) stock11), some ((eQ false .lst eS) r3), none, none, none, none, some ((eQ false .lst (eQ false .lst eI)) r11), none, some ((eP4 false .tup eI eI (eQ false .tup eI) (eO eS)) view1), some (eI price1), some (eS r26), some ((eC_System false) o1), some ((eC_System ow1) o2), some ((eC_Machine true) o3), none, none, none]) rfl ?_
    refine x_itQ rfl rfl ?_
    refine y_qcomp (eM false kS eI) (v0 := ()) (fun (_ : Unit) (s : S) => s = [none, some ((eP3 true .lst eI eI eB) stock11), some ((eQ false .lst eS) r3), none, none, none, none, some ((eQ false .lst (eQ false .lst eI)) r11), none, some ((eP4 false .tup eI eI (eQ false .tup eI) (eO eS)) view1), some (eI price1), some (eS r26), some ((eC_System false) o1), some ((eC_System ow1) o2), some ((eC_Machine true) o3), none, none, none]) (s' := [none, some ((eP3 true .lst eI eI eB) stock11), some ((eQ false .lst eS) r3), none, none, none, none, some ((eQ false .lst (eQ false .lst eI)) r11), none, some ((eP4 false .tup eI eI (eQ false .tup eI) (eO eS)) view1), some (eI price1), some (eS r26), some ((eC_System false) o1), some ((eC_System ow1) o2), some ((eC_Machine true) o3), none, none, none]) ?_ rfl ?_ ?_
    · rfl
    · rintro row2 _ _ rfl
      refine q_step ?_
      refine y_nm rfl (s' := [none, some ((eP3 true .lst eI eI eB) stock11), some ((eQ false .lst eS) r3), none, none, none, none, some ((eQ false .lst (eQ false .lst eI)) r11), none, some ((eP4 false .tup eI eI (eQ false .tup eI) (eO eS)) view1), some (eI price1), some (eS r26), some ((eC_System false) o1), some ((eC_System ow1) o2), some ((eC_Machine true) o3), none, some ((eM false kS eI) row2), none]) rfl ?_
      refine t_yes ?_
      refine q_true ?_
      refine x_call ?_
      refine x_cons ?_
      refine x_vf rfl ((fun _ => rfl) _) ?_
      refine x_nil ?_
      refine x_pos rfl ?_
      refine x_callK _ (tk__law_turned_2 row2) ?_ (fun _ _ => trivial)
      rintro r28 _ ps rfl
      rw [(gb_all rfl : gb [none] ps [none, some ((eP3 true .lst eI eI eB) stock11), some ((eQ false .lst eS) r3), none, none, none, none, some ((eQ false .lst (eQ false .lst eI)) r11), none, some ((eP4 false .tup eI eI (eQ false .tup eI) (eO eS)) view1), some (eI price1), some (eS r26), some ((eC_System false) o1), some ((eC_System ow1) o2), some ((eC_Machine true) o3), none, some ((eM false kS eI) row2), none] = _)]
      exact q_rtw rfl ⟨rfl, rfl⟩
    rintro ys2 _ _ rfl
    rw [show wipeD [none, some ((eP3 true .lst eI eI eB) stock11), some ((eQ false .lst eS) r3), none, none, none, none, some ((eQ false .lst (eQ false .lst eI)) r11), none, some ((eP4 false .tup eI eI (eQ false .tup eI) (eO eS)) view1), some (eI price1), some (eS r26), some ((eC_System false) o1), some ((eC_System ow1) o2), some ((eC_Machine true) o3), none, none, none] [15, 16] = [none, some ((eP3 true .lst eI eI eB) stock11), some ((eQ false .lst eS) r3), none, none, none, none, some ((eQ false .lst (eQ false .lst eI)) r11), none, some ((eP4 false .tup eI eI (eQ false .tup eI) (eO eS)) view1), some (eI price1), some (eS r26), some ((eC_System false) o1), some ((eC_System ow1) o2), some ((eC_Machine true) o3), none, none, none] from rfl]
    refine x_nil ?_
    refine x_some (t_tupL (fun _ => rfl)) ?_
    refine x_nil ?_
    refine x_pos rfl ?_
    refine x_mkK (e := eC_Machine true) (by decide) ?_ fun o4 => ?_
    · exact tk_Machine_init _
    refine y_asgN rfl (s' := [none, some ((eP3 true .lst eI eI eB) stock11), some ((eQ false .lst eS) r3), none, none, none, none, some ((eQ false .lst (eQ false .lst eI)) r11), none, some ((eP4 false .tup eI eI (eQ false .tup eI) (eO eS)) view1), some (eI price1), some (eS r26), some ((eC_System false) o1), some ((eC_Machine true) o4), some ((eC_Machine true) o3), none, none, none]) rfl ?_
    refine c_seq ?_
    refine c_if ?_
    refine x_or ?_
    refine x_not ?_
    refine x_b ?_
    refine x_call ?_
    refine x_cons ?_
    refine x_call ?_
    refine x_cons ?_
    refine x_v rfl ((rdC_Machine true) _) (s' := [none, some ((eP3 true .lst eI eI eB) stock11), some ((eQ false .lst eS) r3), none, none, none, none, some ((eQ false .lst (eQ false .lst eI)) r11), none, some ((eP4 false .tup eI eI (eQ false .tup eI) (eO eS)) view1), some (eI price1), some (eS r26), some ((eC_System false) o1), some ((eC_Machine true) o4), some ((eC_Machine false) o3), none, none, none]) rfl ?_
    refine x_nil ?_
    refine x_pos rfl ?_
    refine x_callK _ (tk_machine_text o3) ?_ (fun _ _ => trivial)
    rintro r29 _ ps rfl
    rw [(gb_all rfl : gb [none] ps [none, some ((eP3 true .lst eI eI eB) stock11), some ((eQ false .lst eS) r3), none, none, none, none, some ((eQ false .lst (eQ false .lst eI)) r11), none, some ((eP4 false .tup eI eI (eQ false .tup eI) (eO eS)) view1), some (eI price1), some (eS r26), some ((eC_System false) o1), some ((eC_Machine true) o4), some ((eC_Machine false) o3), none, none, none] = _)]
    refine x_cons ?_
    refine x_vf rfl ((fun _ => rfl) _) ?_
    refine x_nil ?_
    refine x_pos rfl ?_
    refine x_callK _ (tk__law_is r29 r26) ?_ (fun _ _ => trivial)
    rintro r30 _ ps rfl
    rw [(gb_all rfl : gb [none, none] ps [none, some ((eP3 true .lst eI eI eB) stock11), some ((eQ false .lst eS) r3), none, none, none, none, some ((eQ false .lst (eQ false .lst eI)) r11), none, some ((eP4 false .tup eI eI (eQ false .tup eI) (eO eS)) view1), some (eI price1), some (eS r26), some ((eC_System false) o1), some ((eC_Machine true) o4), some ((eC_Machine false) o3), none, none, none] = _)]
    refine x_blc ?_
    refine x_orJ (fun (_ : Bool) (s : S) => ∃ ow2 : Bool, s = [none, some ((eP3 true .lst eI eI eB) stock11), some ((eQ false .lst eS) r3), none, none, none, none, some ((eQ false .lst (eQ false .lst eI)) r11), none, some ((eP4 false .tup eI eI (eQ false .tup eI) (eO eS)) view1), some (eI price1), some (eS r26), some ((eC_System false) o1), some ((eC_Machine ow2) o4), some ((eC_Machine false) o3), none, none, none]) (fun _ => ?_) ⟨_, rfl⟩ ?_
    · refine x_not ?_
      refine x_b ?_
      refine x_call ?_
      refine x_cons ?_
      refine x_call ?_
      refine x_cons ?_
      refine x_v rfl ((rdC_Machine true) _) (s' := [none, some ((eP3 true .lst eI eI eB) stock11), some ((eQ false .lst eS) r3), none, none, none, none, some ((eQ false .lst (eQ false .lst eI)) r11), none, some ((eP4 false .tup eI eI (eQ false .tup eI) (eO eS)) view1), some (eI price1), some (eS r26), some ((eC_System false) o1), some ((eC_Machine false) o4), some ((eC_Machine false) o3), none, none, none]) rfl ?_
      refine x_nil ?_
      refine x_pos rfl ?_
      refine x_callK _ (tk_machine_text o4) ?_ (fun _ _ => trivial)
      rintro r33 _ ps rfl
      rw [(gb_all rfl : gb [none] ps [none, some ((eP3 true .lst eI eI eB) stock11), some ((eQ false .lst eS) r3), none, none, none, none, some ((eQ false .lst (eQ false .lst eI)) r11), none, some ((eP4 false .tup eI eI (eQ false .tup eI) (eO eS)) view1), some (eI price1), some (eS r26), some ((eC_System false) o1), some ((eC_Machine false) o4), some ((eC_Machine false) o3), none, none, none] = _)]
      refine x_cons ?_
      refine x_vf rfl ((fun _ => rfl) _) ?_
      refine x_nil ?_
      refine x_pos rfl ?_
      refine x_callK _ (tk__law_is r33 r26) ?_ (fun _ _ => trivial)
      rintro r34 _ ps rfl
      rw [(gb_all rfl : gb [none, none] ps [none, some ((eP3 true .lst eI eI eB) stock11), some ((eQ false .lst eS) r3), none, none, none, none, some ((eQ false .lst (eQ false .lst eI)) r11), none, some ((eP4 false .tup eI eI (eQ false .tup eI) (eO eS)) view1), some (eI price1), some (eS r26), some ((eC_System false) o1), some ((eC_Machine false) o4), some ((eC_Machine false) o3), none, none, none] = _)]
      refine x_blc ?_
      exact q_rt ⟨rfl, ⟨_, rfl⟩⟩
    rintro c2 _ ⟨ow2, rfl⟩
    refine q_if (fun _ => ?_) (fun _ => ?_)
    · refine c_seq ?_
      refine c_ret ?_
      refine x_c ?_
      exact q_rt rfl
    · refine c_skip ?_
      refine c_seq ?_
      refine c_if ?_
      refine x_not ?_
      refine x_b ?_
      refine x_call ?_
      refine x_cons ?_
      refine x_call ?_
      refine x_cons ?_
      refine x_vf rfl ((fun _ => rfl) _) ?_
      refine x_nil ?_
      refine x_pos rfl ?_
      refine x_callK _ (tk_view_text view1) ?_ (fun _ _ => trivial)
      rintro r35 _ ps rfl
      rw [(gb_all rfl : gb [none] ps [none, some ((eP3 true .lst eI eI eB) stock11), some ((eQ false .lst eS) r3), none, none, none, none, some ((eQ false .lst (eQ false .lst eI)) r11), none, some ((eP4 false .tup eI eI (eQ false .tup eI) (eO eS)) view1), some (eI price1), some (eS r26), some ((eC_System false) o1), some ((eC_Machine ow2) o4), some ((eC_Machine false) o3), none, none, none] = _)]
      refine x_cons ?_
      refine x_call ?_
      refine x_cons ?_
      refine x_vf rfl ((fun _ => rfl) _) ?_
      refine x_nil ?_
      refine x_pos rfl ?_
      refine x_callK _ (tk__law_view_text view1) ?_ (fun _ _ => trivial)
      rintro r36 _ ps rfl
      rw [(gb_all rfl : gb [none] ps [none, some ((eP3 true .lst eI eI eB) stock11), some ((eQ false .lst eS) r3), none, none, none, none, some ((eQ false .lst (eQ false .lst eI)) r11), none, some ((eP4 false .tup eI eI (eQ false .tup eI) (eO eS)) view1), some (eI price1), some (eS r26), some ((eC_System false) o1), some ((eC_Machine ow2) o4), some ((eC_Machine false) o3), none, none, none] = _)]
      refine x_nil ?_
      refine x_pos rfl ?_
      refine x_callK _ (tk__law_is r35 r36) ?_ (fun _ _ => trivial)
      rintro r37 _ ps rfl
      rw [(gb_all rfl : gb [none, none] ps [none, some ((eP3 true .lst eI eI eB) stock11), some ((eQ false .lst eS) r3), none, none, none, none, some ((eQ false .lst (eQ false .lst eI)) r11), none, some ((eP4 false .tup eI eI (eQ false .tup eI) (eO eS)) view1), some (eI price1), some (eS r26), some ((eC_System false) o1), some ((eC_Machine ow2) o4), some ((eC_Machine false) o3), none, none, none] = _)]
      refine x_blc ?_
      refine q_if (fun _ => ?_) (fun _ => ?_)
      · refine c_seq ?_
        refine c_ret ?_
        refine x_c ?_
        exact q_rt rfl
      · refine c_skip ?_
        refine c_seq ?_
        refine c_if ?_
        refine x_not ?_
        refine x_b ?_
        refine x_call ?_
        refine x_cons ?_
        refine x_call ?_
        refine x_cons ?_
        refine x_call ?_
        refine x_cons ?_
        refine x_vf rfl ((fun _ => rfl) _) ?_
        refine x_nil ?_
        refine x_pos rfl ?_
        refine x_callK _ (tk_first_view o1) ?_ (fun _ _ => trivial)
        rintro r38 _ ps rfl
        rw [(gb_all rfl : gb [none] ps [none, some ((eP3 true .lst eI eI eB) stock11), some ((eQ false .lst eS) r3), none, none, none, none, some ((eQ false .lst (eQ false .lst eI)) r11), none, some ((eP4 false .tup eI eI (eQ false .tup eI) (eO eS)) view1), some (eI price1), some (eS r26), some ((eC_System false) o1), some ((eC_Machine ow2) o4), some ((eC_Machine false) o3), none, none, none] = _)]
        refine x_nil ?_
        refine x_pos rfl ?_
        refine x_callK _ (tk_view_text_2 r38) ?_ (fun _ _ => trivial)
        rintro r39 _ ps rfl
        rw [(gb_all rfl : gb [none] ps [none, some ((eP3 true .lst eI eI eB) stock11), some ((eQ false .lst eS) r3), none, none, none, none, some ((eQ false .lst (eQ false .lst eI)) r11), none, some ((eP4 false .tup eI eI (eQ false .tup eI) (eO eS)) view1), some (eI price1), some (eS r26), some ((eC_System false) o1), some ((eC_Machine ow2) o4), some ((eC_Machine false) o3), none, none, none] = _)]
        refine x_cons ?_
        refine x_op ?_
        refine x_op ?_
        refine x_c ?_
        refine x_join ?_
        refine x_c ?_
        refine x_joinK ?_
        refine y_comp ?_
        refine x_it ?_
        refine x_op ?_
        refine x_m rfl (s' := [none, some ((eP3 true .lst eI eI eB) stock11), some ((eQ false .lst eS) r3), none, none, none, none, none, none, some ((eP4 false .tup eI eI (eQ false .tup eI) (eO eS)) view1), some (eI price1), some (eS r26), some ((eC_System false) o1), some ((eC_Machine ow2) o4), some ((eC_Machine false) o3), none, none, none]) rfl ?_
        refine x_c ?_
        refine x_optI (eQ false .lst eI) (t_subQ rfl (fun _ => rfl)) fun x2 => ?_
        refine x_itQ rfl rfl ?_
        refine y_qcomp eS (v0 := ()) (fun (_ : Unit) (s : S) => s = [none, some ((eP3 true .lst eI eI eB) stock11), some ((eQ false .lst eS) r3), none, none, none, none, none, none, some ((eP4 false .tup eI eI (eQ false .tup eI) (eO eS)) view1), some (eI price1), some (eS r26), some ((eC_System false) o1), some ((eC_Machine ow2) o4), some ((eC_Machine false) o3), none, none, none]) (s' := [none, some ((eP3 true .lst eI eI eB) stock11), some ((eQ false .lst eS) r3), none, none, none, none, none, none, some ((eP4 false .tup eI eI (eQ false .tup eI) (eO eS)) view1), some (eI price1), some (eS r26), some ((eC_System false) o1), some ((eC_Machine ow2) o4), some ((eC_Machine false) o3), none, none, none]) ?_ rfl ?_ ?_
        · rfl
        · rintro way1 _ _ rfl
          refine q_step ?_
          refine y_nm rfl (s' := [none, some ((eP3 true .lst eI eI eB) stock11), some ((eQ false .lst eS) r3), none, none, none, none, none, none, some ((eP4 false .tup eI eI (eQ false .tup eI) (eO eS)) view1), some (eI price1), some (eS r26), some ((eC_System false) o1), some ((eC_Machine ow2) o4), some ((eC_Machine false) o3), none, none, some (eI way1)]) rfl ?_
          refine t_yes ?_
          refine q_true ?_
          refine x_cb ?_
          refine x_cons ?_
          refine x_vf rfl ((fun _ => rfl) _) ?_
          refine x_nil ?_
          refine x_optI eS t_strI fun text2 => ?_
          exact q_rtw rfl ⟨rfl, rfl⟩
        rintro ys3 _ _ rfl
        rw [show wipeD [none, some ((eP3 true .lst eI eI eB) stock11), some ((eQ false .lst eS) r3), none, none, none, none, none, none, some ((eP4 false .tup eI eI (eQ false .tup eI) (eO eS)) view1), some (eI price1), some (eS r26), some ((eC_System false) o1), some ((eC_Machine ow2) o4), some ((eC_Machine false) o3), none, none, none] [15, 17] = [none, some ((eP3 true .lst eI eI eB) stock11), some ((eQ false .lst eS) r3), none, none, none, none, none, none, some ((eP4 false .tup eI eI (eQ false .tup eI) (eO eS)) view1), some (eI price1), some (eS r26), some ((eC_System false) o1), some ((eC_Machine ow2) o4), some ((eC_Machine false) o3), none, none, none] from rfl]
        refine x_optI eS (t_join rfl) fun text3 => ?_
        refine x_optI eS t_addS fun text4 => ?_
        refine x_c ?_
        refine x_optI eS t_addS fun text5 => ?_
        refine x_nil ?_
        refine x_pos rfl ?_
        refine x_callK _ (tk__law_is r39 text5) ?_ (fun _ _ => trivial)
        rintro r40 _ ps rfl
        rw [(gb_all rfl : gb [none, none] ps [none, some ((eP3 true .lst eI eI eB) stock11), some ((eQ false .lst eS) r3), none, none, none, none, none, none, some ((eP4 false .tup eI eI (eQ false .tup eI) (eO eS)) view1), some (eI price1), some (eS r26), some ((eC_System false) o1), some ((eC_Machine ow2) o4), some ((eC_Machine false) o3), none, none, none] = _)]
        refine x_blc ?_
        refine q_if (fun _ => ?_) (fun _ => ?_)
        · refine c_seq ?_
          refine c_ret ?_
          refine x_c ?_
          exact q_rt rfl
        · refine c_skip ?_
          refine c_seq ?_
          refine c_asg ?_
          refine x_op ?_
          refine x_op ?_
          refine x_c ?_
          refine x_cb ?_
          refine x_cons ?_
          refine x_vf rfl ((fun _ => rfl) _) ?_
          refine x_nil ?_
          refine x_optI eS t_strI fun text6 => ?_
          refine x_optI eS t_addS fun text7 => ?_
          refine x_c ?_
          refine x_optI eS t_addS fun text8 => ?_
          refine y_asgN rfl (s' := [none, some ((eP3 true .lst eI eI eB) stock11), some ((eQ false .lst eS) r3), none, none, none, none, none, none, some ((eP4 false .tup eI eI (eQ false .tup eI) (eO eS)) view1), some (eI price1), some (eS text8), some ((eC_System false) o1), some ((eC_Machine ow2) o4), some ((eC_Machine false) o3), none, none, none]) rfl ?_
          refine c_seq ?_
          refine c_ret ?_
          refine x_call ?_
          refine x_cons ?_
          refine x_call ?_
          refine x_cons ?_
          refine x_call ?_
          refine x_cons ?_
          refine x_m rfl (s' := [none, some ((eP3 true .lst eI eI eB) stock11), some ((eQ false .lst eS) r3), none, none, none, none, none, none, some ((eP4 false .tup eI eI (eQ false .tup eI) (eO eS)) view1), none, some (eS text8), some ((eC_System false) o1), some ((eC_Machine ow2) o4), some ((eC_Machine false) o3), none, none, none]) rfl ?_
          refine x_nil ?_
          refine x_pos rfl ?_
          refine x_callK _ (tk_renting price1) ?_ (fun _ _ => trivial)
          rintro r41 _ ps rfl
          rw [(gb_all rfl : gb [none] ps [none, some ((eP3 true .lst eI eI eB) stock11), some ((eQ false .lst eS) r3), none, none, none, none, none, none, some ((eP4 false .tup eI eI (eQ false .tup eI) (eO eS)) view1), none, some (eS text8), some ((eC_System false) o1), some ((eC_Machine ow2) o4), some ((eC_Machine false) o3), none, none, none] = _)]
          refine x_nil ?_
          refine x_pos rfl ?_
          refine x_callK _ (tk_system_text_2 r41) ?_ (fun _ _ => trivial)
          rintro r42 _ ps rfl
          rw [(gb_all rfl : gb [none] ps [none, some ((eP3 true .lst eI eI eB) stock11), some ((eQ false .lst eS) r3), none, none, none, none, none, none, some ((eP4 false .tup eI eI (eQ false .tup eI) (eO eS)) view1), none, some (eS text8), some ((eC_System false) o1), some ((eC_Machine ow2) o4), some ((eC_Machine false) o3), none, none, none] = _)]
          refine x_cons ?_
          refine x_m rfl (s' := [none, some ((eP3 true .lst eI eI eB) stock11), some ((eQ false .lst eS) r3), none, none, none, none, none, none, some ((eP4 false .tup eI eI (eQ false .tup eI) (eO eS)) view1), none, none, some ((eC_System false) o1), some ((eC_Machine ow2) o4), some ((eC_Machine false) o3), none, none, none]) rfl ?_
          refine x_nil ?_
          refine x_pos rfl ?_
          refine x_callK _ (tk__law_is r42 text8) ?_ (fun _ _ => trivial)
          rintro r43 _ ps rfl
          rw [(gb_all rfl : gb [none, none] ps [none, some ((eP3 true .lst eI eI eB) stock11), some ((eQ false .lst eS) r3), none, none, none, none, none, none, some ((eP4 false .tup eI eI (eQ false .tup eI) (eO eS)) view1), none, none, some ((eC_System false) o1), some ((eC_Machine ow2) o4), some ((eC_Machine false) o3), none, none, none] = _)]
          exact q_rt rfl
end LawP

set_option maxHeartbeats 4000000
namespace LawP
open PySem L2 DL
section
variable {P : Program} {w : World} {K : PySem.W.Frag} {mg : Str → Option Value} {base : Heap}
theorem sc__law_cell : FnScope ["script", "k"] ["script", "k"] (defScope st__law_cell) := ⟨rfl, rfl, rfl, by decide +kernel, rfl, by decide +kernel, by decide +kernel⟩
theorem ok__law_cell (T : Tp K mg fa fn) : OkF P w K mg base (NN K) 1 (He.ga K "_law_cell") 2 F__law_cell :=
  T.ok (at_ := (fun K => He.ga K "_law_cell")) 0 rfl sc__law_cell rfl rfl rfl (fun _ _ _ _ _ _ us hl => match us, hl with | [_, _], _ => rfl) fun cdv A outer s H E Φ =>
  show qSs K (NN K) _ _ _ _ M__law_cell from
  (ss_cons (s_if (t_cmp c_lt (e_v (v_ 1)) (e_B Φ (cr_len Φ).up (T.free 7) (a_e (e_v (v_ 0)) a_nil)))
  (ss_cons (s_ret (e_T Φ cr_int.up (T.free 30) (a_e (e_sub2 Φ (e_m (v_ 0)) (e_m (v_ 1))) a_nil)))
  ss_nil)
  ss_nil)
  (ss_cons (s_ret e_int)
  ss_nil))
theorem sc__law_stock : FnScope ["script", "k", "number"] ["script", "k"] (defScope st__law_stock) := ⟨rfl, rfl, rfl, by decide +kernel, rfl, by decide +kernel, by decide +kernel⟩
theorem ok__law_stock (T : Tp K mg fa fn) : OkF P w K mg base (NN K) 2 (He.ga K "_law_stock") 2 F__law_stock :=
  T.ok (at_ := (fun K => He.ga K "_law_stock")) 1 rfl sc__law_stock rfl rfl rfl (fun _ _ _ _ _ _ us hl => match us, hl with | [_, _], _ => rfl) fun cdv A outer s H E Φ =>
  show qSs K (NN K) _ _ _ _ M__law_stock from
  (ss_cons (s_set 2 Φ rfl (e_B Φ cr_abs.up (T.free 29) (a_e (c_call Φ (ok__law_cell T) (T.glo 28) (a_e (e_m (v_ 0)) (a_e (e_v (v_ 1)) a_nil))) a_nil)))
  (ss_cons (s_if (t_cmp c_ge (e_v (v_ 2)) (e_pow e_int e_int))
  (ss_cons (s_ret (e_lst (a_e (e_m (v_ 2)) (a_e e_int (a_e e_bl a_nil)))))
  ss_nil)
  ss_nil)
  (ss_cons (s_ret (e_lst (a_e (e_add Φ (e_mulA (e_m (v_ 2)) e_int) (e_m (v_ 1))) (a_e e_int (a_e e_bl a_nil)))))
  ss_nil)))
theorem sc__law_draw : FnScope ["stock", "many", "number", "mixed"] ["stock", "many"] (defScope st__law_draw) := ⟨rfl, rfl, rfl, by decide +kernel, rfl, by decide +kernel, by decide +kernel⟩
theorem ok__law_draw (T : Tp K mg fa fn) : OkF P w K mg base (NN K) 1 (He.ga K "_law_draw") 2 F__law_draw :=
  T.ok (at_ := (fun K => He.ga K "_law_draw")) 2 rfl sc__law_draw rfl rfl rfl (fun _ _ _ _ _ _ us hl => match us, hl with | [_, _], _ => rfl) fun cdv A outer s H E Φ =>
  show qSs K (NN K) _ _ _ _ M__law_draw from
  (ss_cons (s_set 2 Φ rfl (e_subS Φ (v_ 0) e_int))
  (ss_cons (s_if (t_e (e_subS Φ (v_ 0) e_int))
  (ss_cons (s_setS Φ (v_ 0) e_int (e_div (e_v (v_ 2)) (e_v (v_ 1))))
  (ss_cons (s_ret (e_mod (e_T Φ cr_int.up (T.free 30) (a_e (e_m (v_ 2)) a_nil)) (e_m (v_ 1))))
  ss_nil))
  ss_nil)
  (ss_cons (s_setS Φ (v_ 0) e_int (e_add Φ (e_subS Φ (v_ 0) e_int) e_int))
  (ss_cons (s_set 3 Φ rfl (e_mod (e_T Φ cr_int.up (T.free 30) (a_e (e_add Φ (e_add Φ (e_mulA (e_m (v_ 2)) e_int) (e_mulA (e_subS Φ (v_ 0) e_int) e_int)) e_int) a_nil)) e_int))
  (ss_cons (s_set 3 Φ rfl (e_mod (e_T Φ cr_int.up (T.free 30) (a_e (e_mulA (e_v (v_ 3)) (e_add Φ (e_div (e_v (v_ 3)) e_int) e_int)) a_nil)) e_int))
  (ss_cons (s_set 3 Φ rfl (e_mod (e_T Φ cr_int.up (T.free 30) (a_e (e_mulA (e_v (v_ 3)) (e_add Φ (e_add Φ (e_div (e_v (v_ 3)) e_int) e_int) (e_subS Φ (v_ 0) e_int))) a_nil)) e_int))
  (ss_cons (s_ret (e_mod (e_T Φ cr_int.up (T.free 30) (a_e (e_div (e_m (v_ 3)) e_int) a_nil)) (e_m (v_ 1))))
  ss_nil)))))))
theorem sc__law_word : FnScope ["stock", "letters", "word", "k"] ["stock"] (defScope st__law_word) := ⟨rfl, rfl, rfl, by decide +kernel, rfl, by decide +kernel, by decide +kernel⟩
theorem ok__law_word (T : Tp K mg fa fn) : OkF P w K mg base (NN K) 2 (He.ga K "_law_word") 1 F__law_word :=
  T.ok (at_ := (fun K => He.ga K "_law_word")) 3 rfl sc__law_word rfl rfl rfl (fun _ _ _ _ _ _ us hl => match us, hl with | [_], _ => rfl) fun cdv A outer s H E Φ =>
  show qSs K (NN K) _ _ _ _ M__law_word from
  (ss_cons (s_set 1 Φ rfl e_str)
  (ss_cons (s_set 2 Φ rfl e_str)
  (ss_cons (s_for Φ (i_rng1 Φ (T.free 32) (a_e (e_add Φ e_int (c_call Φ (ok__law_draw T) (T.glo 1) (a_l (v_ 0) (a_e e_int a_nil)))) a_nil)) (g_name 3 Φ rfl)
  (ss_cons (s_set 2 Φ rfl (e_add Φ (e_m (v_ 2)) (e_sub2 Φ (e_v (v_ 1)) (c_call Φ (ok__law_draw T) (T.glo 1) (a_l (v_ 0) (a_e e_int a_nil))))))
  ss_nil))
  (ss_cons (s_ret (e_m (v_ 2)))
  ss_nil))))
theorem sc__law_names : FnScope ["stock", "many", "names", "k", "longer", "name"] ["stock", "many"] (defScope st__law_names) := ⟨rfl, rfl, rfl, by decide +kernel, rfl, by decide +kernel, by decide +kernel⟩
theorem ok__law_names (T : Tp K mg fa fn) : OkF P w K mg base (NN K) 3 (He.ga K "_law_names") 2 F__law_names :=
  T.ok (at_ := (fun K => He.ga K "_law_names")) 4 rfl sc__law_names rfl rfl rfl (fun _ _ _ _ _ _ us hl => match us, hl with | [_, _], _ => rfl) fun cdv A outer s H E Φ =>
  show qSs K (NN K) _ _ _ _ M__law_names from
  (ss_cons (s_set 2 Φ rfl (e_lst a_nil))
  (ss_cons (s_for Φ (i_rng1 Φ (T.free 32) (a_e (e_m (v_ 1)) a_nil)) (g_name 3 Φ rfl)
  (ss_cons (s_set 4 Φ rfl (c_call Φ (ok__law_draw T) (T.glo 1) (a_l (v_ 0) (a_e e_int a_nil))))
  (ss_cons (s_set 5 Φ rfl (c_call Φ (ok__law_word T) (T.glo 31) (a_l (v_ 0) a_nil)))
  (ss_cons (s_if (t_w (w_and (t_cmpL (c_neX Φ) (v_ 2) (e_lst a_nil)) (w_and1 (t_cmp (c_eqX Φ) (e_m (v_ 4)) e_int))))
  (ss_cons (s_set 5 Φ rfl (e_slice Φ (e_add Φ (e_subS Φ (v_ 2) (e_neg e_int)) (e_m (v_ 5))) p_none (p_some e_int)))
  ss_nil)
  ss_nil)
  (ss_cons (s_if (t_cmpS (c_nin Φ) (e_v (v_ 5)) (v_ 2))
  (ss_cons (s_app Φ.K (v_ 2) (e_m (v_ 5)))
  ss_nil)
  ss_nil)
  ss_nil)))))
  (ss_cons (s_ret (e_m (v_ 2)))
  ss_nil)))
theorem sc__law_moves : FnScope ["stock", "posts", "most", "moves", "a", ".0", "b"] ["stock", "posts", "most"] (defScope st__law_moves) := ⟨rfl, rfl, rfl, by decide +kernel, rfl, by decide +kernel, by decide +kernel⟩
theorem ok__law_moves (T : Tp K mg fa fn) : OkF P w K mg base (NN K) 2 (He.ga K "_law_moves") 3 F__law_moves :=
  T.ok (at_ := (fun K => He.ga K "_law_moves")) 5 rfl sc__law_moves rfl rfl rfl (fun _ _ _ _ _ _ us hl => match us, hl with | [_, _, _], _ => rfl) fun cdv A outer s H E Φ =>
  show qSs K (NN K) _ _ _ _ M__law_moves from
  (ss_cons (s_set 3 Φ rfl (e_lst a_nil))
  (ss_cons (s_for Φ (i_rng1 Φ (T.free 32) (a_e (e_v (v_ 1)) a_nil)) (g_name 4 Φ rfl)
  (ss_cons (s_app Φ.K (v_ 3) (e_T Φ (cr_tup Φ) (T.free 18) (a_e (e_lc [(".0", 5), ("b", 6)] Φ (i_rng1 Φ (T.free 32) (a_e (e_v (v_ 1)) a_nil)) (gw_nm 6 (Φ.blk _)) ts_nil (e_mulA (c_call (Φ.blk _) (ok__law_draw T) (T.glo 1) (a_l (v_ 0) (a_e (e_add (Φ.blk _) (e_v (v_ 2)) e_int) a_nil))) (e_T (Φ.blk _) cr_int.up (T.free 30) (a_e (e_cmp (c_neX (Φ.blk _)) (e_v (v_ 4)) (e_v (v_ 6))) a_nil)))) a_nil)))
  ss_nil))
  (ss_cons (s_ret (e_T Φ (cr_tup Φ) (T.free 18) (a_e (e_m (v_ 3)) a_nil)))
  ss_nil)))
theorem sc__law_prices : FnScope ["stock", "posts", "most", "sure", "prices", "b", "price"] ["stock", "posts", "most"] (defScope st__law_prices) := ⟨rfl, rfl, rfl, by decide +kernel, rfl, by decide +kernel, by decide +kernel⟩
theorem ok__law_prices (T : Tp K mg fa fn) : OkF P w K mg base (NN K) 2 (He.ga K "_law_prices") 3 F__law_prices :=
  T.ok (at_ := (fun K => He.ga K "_law_prices")) 6 rfl sc__law_prices rfl rfl rfl (fun _ _ _ _ _ _ us hl => match us, hl with | [_, _, _], _ => rfl) fun cdv A outer s H E Φ =>
  show qSs K (NN K) _ _ _ _ M__law_prices from
  (ss_cons (s_set 3 Φ rfl (c_call Φ (ok__law_draw T) (T.glo 1) (a_l (v_ 0) (a_e (e_v (v_ 1)) a_nil))))
  (ss_cons (s_set 4 Φ rfl (e_lst a_nil))
  (ss_cons (s_for Φ (i_rng1 Φ (T.free 32) (a_e (e_v (v_ 1)) a_nil)) (g_name 5 Φ rfl)
  (ss_cons (s_set 6 Φ rfl (c_call Φ (ok__law_draw T) (T.glo 1) (a_l (v_ 0) (a_e (e_add Φ (e_v (v_ 2)) e_int) a_nil))))
  (ss_cons (s_if (t_cmp c_le (e_v (v_ 6)) (e_v (v_ 2)))
  (ss_cons (s_app Φ.K (v_ 4) (e_m (v_ 6)))
  ss_nil)
  (ss_cons (s_app Φ.K (v_ 4) e_non)
  ss_nil))
  ss_nil)))
  (ss_cons (s_if (t_cmpL (c_eqX Φ) (v_ 4) (e_mulA (e_lst (a_e e_non a_nil)) (e_m (v_ 1))))
  (ss_cons (s_setS Φ (v_ 4) (e_v (v_ 3)) (c_call Φ (ok__law_draw T) (T.glo 1) (a_l (v_ 0) (a_e (e_add Φ (e_m (v_ 2)) e_int) a_nil))))
  ss_nil)
  ss_nil)
  (ss_cons (s_ret (e_T Φ (cr_tup Φ) (T.free 18) (a_e (e_m (v_ 4)) a_nil)))
  ss_nil)))))
theorem sc__law_requests : FnScope ["stock", "names", "posts", "most", "requests", "name"] ["stock", "names", "posts", "most"] (defScope st__law_requests) := ⟨rfl, rfl, rfl, by decide +kernel, rfl, by decide +kernel, by decide +kernel⟩
theorem ok__law_requests (T : Tp K mg fa fn) : OkF P w K mg base (NN K) 3 (He.ga K "_law_requests") 4 F__law_requests :=
  T.ok (at_ := (fun K => He.ga K "_law_requests")) 7 rfl sc__law_requests rfl rfl rfl (fun _ _ _ _ _ _ us hl => match us, hl with | [_, _, _, _], _ => rfl) fun cdv A outer s H E Φ =>
  show qSs K (NN K) _ _ _ _ M__law_requests from
  (ss_cons (s_set 4 Φ rfl e_d0)
  (ss_cons (s_for Φ (i_seq (e_m (v_ 1)) Φ.K) (g_name 5 Φ rfl)
  (ss_cons (s_setS Φ (v_ 4) (e_v (v_ 5)) (c_call Φ (ok__law_prices T) (T.glo 33) (a_l (v_ 0) (a_e (e_v (v_ 2)) (a_e (e_v (v_ 3)) a_nil)))))
  ss_nil))
  (ss_cons (s_ret (e_m (v_ 4)))
  ss_nil)))
theorem sc__law_turns : FnScope ["stock", "names", "states", "turns", "state", "sure", "row", "name"] ["stock", "names", "states"] (defScope st__law_turns) := ⟨rfl, rfl, rfl, by decide +kernel, rfl, by decide +kernel, by decide +kernel⟩
theorem ok__law_turns (T : Tp K mg fa fn) : OkF P w K mg base (NN K) 2 (He.ga K "_law_turns") 3 F__law_turns :=
  T.ok (at_ := (fun K => He.ga K "_law_turns")) 8 rfl sc__law_turns rfl rfl rfl (fun _ _ _ _ _ _ us hl => match us, hl with | [_, _, _], _ => rfl) fun cdv A outer s H E Φ =>
  show qSs K (NN K) _ _ _ _ M__law_turns from
  (ss_cons (s_set 3 Φ rfl (e_lst a_nil))
  (ss_cons (s_for Φ (i_rng1 Φ (T.free 32) (a_e (e_v (v_ 2)) a_nil)) (g_name 4 Φ rfl)
  (ss_cons (s_set 5 Φ rfl (c_call Φ (ok__law_draw T) (T.glo 1) (a_l (v_ 0) (a_e (e_B Φ (cr_len Φ).up (T.free 7) (a_e (e_v (v_ 1)) a_nil)) a_nil))))
  (ss_cons (s_set 6 Φ rfl e_d0)
  (ss_cons (s_for Φ (i_seq (e_v (v_ 1)) Φ.K) (g_name 7 Φ rfl)
  (ss_cons (s_if (t_cmp c_gt (c_call Φ (ok__law_draw T) (T.glo 1) (a_l (v_ 0) (a_e e_int a_nil))) e_int)
  (ss_cons (s_setS Φ (v_ 6) (e_v (v_ 7)) (c_call Φ (ok__law_draw T) (T.glo 1) (a_l (v_ 0) (a_e (e_v (v_ 2)) a_nil))))
  ss_nil)
  ss_nil)
  ss_nil))
  (ss_cons (s_if (t_cmpL (c_eqX Φ) (v_ 6) e_d0)
  (ss_cons (s_setS Φ (v_ 6) (e_sub2 Φ (e_v (v_ 1)) (e_v (v_ 5))) (c_call Φ (ok__law_draw T) (T.glo 1) (a_l (v_ 0) (a_e (e_v (v_ 2)) a_nil))))
  ss_nil)
  ss_nil)
  (ss_cons (s_app Φ.K (v_ 3) (e_m (v_ 6)))
  ss_nil))))))
  (ss_cons (s_ret (e_T Φ (cr_tup Φ) (T.free 18) (a_e (e_m (v_ 3)) a_nil)))
  ss_nil)))
theorem sc__law_ways : FnScope ["moves", "row", "ways", "c", "a", "b", ".0"] ["moves"] (defScope st__law_ways) := ⟨rfl, rfl, rfl, by decide +kernel, rfl, by decide +kernel, by decide +kernel⟩
theorem ok__law_ways (T : Tp K mg fa fn) : OkF P w K mg base (NN K) 1 (He.ga K "_law_ways") 1 F__law_ways :=
  T.ok (at_ := (fun K => He.ga K "_law_ways")) 9 rfl sc__law_ways rfl rfl rfl (fun _ _ _ _ _ _ us hl => match us, hl with | [_], _ => rfl) fun cdv A outer s H E Φ =>
  show qSs K (NN K) _ _ _ _ M__law_ways from
  (ss_cons (s_setLc 2 [(".0", 6), ("row", 1)] Φ rfl (i_seq (e_v (v_ 0)) Φ.K) (gw_nm 1 (Φ.blk _)) ts_nil (e_T (Φ.blk _) (cr_lst (Φ.blk _)) (T.free 34) (a_e (e_v (v_ 1)) a_nil)))
  (ss_cons (s_for Φ (i_rng1 Φ (T.free 32) (a_e (e_B Φ (cr_len Φ).up (T.free 7) (a_e (e_v (v_ 0)) a_nil)) a_nil)) (g_name 3 Φ rfl)
  (ss_cons (s_for Φ (i_rng1 Φ (T.free 32) (a_e (e_B Φ (cr_len Φ).up (T.free 7) (a_e (e_v (v_ 0)) a_nil)) a_nil)) (g_name 4 Φ rfl)
  (ss_cons (s_for Φ (i_rng1 Φ (T.free 32) (a_e (e_B Φ (cr_len Φ).up (T.free 7) (a_e (e_v (v_ 0)) a_nil)) a_nil)) (g_name 5 Φ rfl)
  (ss_alias 1 Φ rfl (v_ 2) (qq_v (v_ 4)) (z_set Φ (v_ 1) (qq_v (v_ 5)) (qq_min Φ (T.free 35) (qq_al Φ (v_ 1) (qq_v (v_ 5))) (qq_add Φ (qq_s2 Φ (v_ 2) (qq_v (v_ 4)) (qq_v (v_ 3))) (qq_s2 Φ (v_ 2) (qq_v (v_ 3)) (qq_v (v_ 5))))))
  ss_nil))
  ss_nil))
  ss_nil))
  (ss_cons (s_ret (e_m (v_ 2)))
  ss_nil)))
theorem sc__law_offsets : FnScope ["stock", "ways", "base", "offsets", "b", "least", ".0", "post", "a", "offset"] ["stock", "ways"] (defScope st__law_offsets) := ⟨rfl, rfl, rfl, by decide +kernel, rfl, by decide +kernel, by decide +kernel⟩
theorem ok__law_offsets (T : Tp K mg fa fn) : OkF P w K mg base (NN K) 2 (He.ga K "_law_offsets") 2 F__law_offsets :=
  T.ok (at_ := (fun K => He.ga K "_law_offsets")) 10 rfl sc__law_offsets rfl rfl rfl (fun _ _ _ _ _ _ us hl => match us, hl with | [_, _], _ => rfl) fun cdv A outer s H E Φ =>
  show qSs K (NN K) _ _ _ _ M__law_offsets from
  (ss_cons (s_set 2 Φ rfl (e_lc [(".0", 6), ("post", 7)] Φ (i_seq (e_v (v_ 1)) Φ.K) (gw_nm 7 (Φ.blk _)) ts_nil (c_call (Φ.blk _) (ok__law_draw T) (T.glo 1) (a_l (v_ 0) (a_e e_int a_nil)))))
  (ss_cons (s_set 3 Φ rfl (e_lst a_nil))
  (ss_cons (s_for Φ (i_rng1 Φ (T.free 32) (a_e (e_B Φ (cr_len Φ).up (T.free 7) (a_e (e_v (v_ 1)) a_nil)) a_nil)) (g_name 4 Φ rfl)
  (ss_cons (s_app Φ.K (v_ 3) (e_B Φ (cr_min1 Φ).up (T.free 35) (a_e (e_lc [(".0", 6), ("a", 8)] Φ (i_rng1 Φ (T.free 32) (a_e (e_B Φ (cr_len Φ).up (T.free 7) (a_e (e_v (v_ 1)) a_nil)) a_nil)) (gw_nm 8 (Φ.blk _)) ts_nil (e_add (Φ.blk _) (e_sub2 (Φ.blk _) (e_v (v_ 2)) (e_v (v_ 8))) (e_sub2 (Φ.blk _) (e_sub2 (Φ.blk _) (e_v (v_ 1)) (e_v (v_ 8))) (e_v (v_ 4))))) a_nil)))
  ss_nil))
  (ss_cons (s_set 5 Φ rfl (e_B Φ (cr_min1 Φ).up (T.free 35) (a_e (e_v (v_ 3)) a_nil)))
  (ss_cons (s_ret (e_T Φ (cr_tup Φ) (T.free 18) (a_e (e_lc [(".0", 6), ("offset", 9)] Φ (i_seq (e_m (v_ 3)) Φ.K) (gw_nm 9 (Φ.blk _)) ts_nil (e_sub (e_v (v_ 9)) (e_v (v_ 5)))) a_nil)))
  ss_nil)))))
theorem sc__law_item : FnScope ["item"] ["item"] (defScope st__law_item) := ⟨rfl, rfl, rfl, by decide +kernel, rfl, by decide +kernel, by decide +kernel⟩
theorem ok__law_item (T : Tp K mg fa fn) : OkF P w K mg base (NN K) 1 (He.ga K "_law_item") 1 F__law_item :=
  T.ok (at_ := (fun K => He.ga K "_law_item")) 11 rfl sc__law_item rfl rfl rfl (fun _ _ _ _ _ _ us hl => match us, hl with | [_], _ => rfl) fun cdv A outer s H E Φ =>
  show qSs K (NN K) _ _ _ _ M__law_item from
  (ss_cons (s_if (t_cmp c_is (e_v (v_ 0)) e_non)
  (ss_cons (s_ret e_str)
  ss_nil)
  ss_nil)
  (ss_cons (s_ret (e_T Φ cr_str.up (T.free 26) (a_e (e_m (v_ 0)) a_nil)))
  ss_nil))
theorem sc__law_system_text : FnScope ["moves", "requests", "text", "row", "name", ".0", "step", "item"] ["moves", "requests"] (defScope st__law_system_text) := ⟨rfl, rfl, rfl, by decide +kernel, rfl, by decide +kernel, by decide +kernel⟩
theorem ok__law_system_text (T : Tp K mg fa fn) : OkF P w K mg base (NN K) 2 (He.ga K "_law_system_text") 2 F__law_system_text :=
  T.ok (at_ := (fun K => He.ga K "_law_system_text")) 12 rfl sc__law_system_text rfl rfl rfl (fun _ _ _ _ _ _ us hl => match us, hl with | [_, _], _ => rfl) fun cdv A outer s H E Φ =>
  show qSs K (NN K) _ _ _ _ M__law_system_text from
  (ss_cons (s_set 2 Φ rfl e_str)
  (ss_cons (s_for Φ (i_seq (e_m (v_ 0)) Φ.K) (g_name 3 Φ rfl)
  (ss_cons (s_set 2 Φ rfl (e_add Φ (e_add Φ (e_add Φ (e_m (v_ 2)) e_str) (e_join Φ e_str (e_lc [(".0", 5), ("step", 6)] Φ (i_seq (e_m (v_ 3)) Φ.K) (gw_nm 6 (Φ.blk _)) ts_nil (e_T (Φ.blk _) cr_str.up (T.free 26) (a_e (e_v (v_ 6)) a_nil))))) e_str))
  ss_nil))
  (ss_cons (s_for Φ (i_seq (e_B Φ (cr_srt Φ) (T.free 37) (a_e (e_v (v_ 1)) a_nil)) Φ.K) (g_name 4 Φ rfl)
  (ss_cons (s_set 2 Φ rfl (e_add Φ (e_add Φ (e_add Φ (e_add Φ (e_add Φ (e_m (v_ 2)) e_str) (e_v (v_ 4))) e_str) (e_join Φ e_str (e_lc [(".0", 5), ("item", 7)] Φ (i_seq (e_sub2 Φ (e_v (v_ 1)) (e_v (v_ 4))) Φ.K) (gw_nm 7 (Φ.blk _)) ts_nil (c_call (Φ.blk _) (ok__law_item T) (T.glo 36) (a_e (e_v (v_ 7)) a_nil))))) e_str))
  ss_nil))
  (ss_cons (s_ret (e_m (v_ 2)))
  ss_nil))))
theorem sc_is_integer : FnScope ["thing"] ["thing"] (defScope st_is_integer) := ⟨rfl, rfl, rfl, by decide +kernel, rfl, by decide +kernel, by decide +kernel⟩
theorem ok_is_integer (T : Tp K mg fa fn) : OkF P w K mg base (NN K) 1 (He.ga K "is_integer") 1 F_is_integer :=
  T.ok (at_ := (fun K => He.ga K "is_integer")) 13 rfl sc_is_integer rfl rfl rfl (fun _ _ _ _ _ _ us hl => match us, hl with | [_], _ => rfl) fun cdv A outer s H E Φ =>
  show qSs K (NN K) _ _ _ _ M_is_integer from
  (ss_cons (s_ret (e_and (e_isi .int Φ (T.free 46) (T.free 30) (e_v (v_ 0))) (e_one (e_not (e_isi .bool Φ (T.free 46) (T.free 53) (e_v (v_ 0)))))))
  ss_nil)
theorem sc_is_number : FnScope ["thing", "low", "high"] ["thing", "low", "high"] (defScope st_is_number) := ⟨rfl, rfl, rfl, by decide +kernel, rfl, by decide +kernel, by decide +kernel⟩
theorem ok_is_number (T : Tp K mg fa fn) : OkF P w K mg base (NN K) 2 (He.ga K "is_number") 3 F_is_number :=
  T.ok (at_ := (fun K => He.ga K "is_number")) 14 rfl sc_is_number rfl rfl rfl (fun _ _ _ _ _ _ us hl => match us, hl with | [_, _, _], _ => rfl) fun cdv A outer s H E Φ =>
  show qSs K (NN K) _ _ _ _ M_is_number from
  (ss_cons (s_ret (e_and (c_call Φ (ok_is_integer T) (T.glo 52) (a_e (e_v (v_ 0)) a_nil)) (e_one (e_chn c_le c_le (e_m (v_ 1)) (e_v (v_ 0)) (e_m (v_ 2))))))
  ss_nil)
theorem sc_are_moves : FnScope ["moves", "post", "row", ".0", "step"] ["moves"] (defScope st_are_moves) := ⟨rfl, rfl, rfl, by decide +kernel, rfl, by decide +kernel, by decide +kernel⟩
theorem ok_are_moves (T : Tp K mg fa fn) : OkF P w K mg base (NN K) 3 (He.ga K "are_moves") 1 F_are_moves :=
  T.ok (at_ := (fun K => He.ga K "are_moves")) 15 rfl sc_are_moves rfl rfl rfl (fun _ _ _ _ _ _ us hl => match us, hl with | [_], _ => rfl) fun cdv A outer s H E Φ =>
  show qSs K (NN K) _ _ _ _ M_are_moves from
  (ss_cons (s_if (t_w (w_or (t_not (t_e (e_isi .tuple Φ (T.free 46) (T.free 18) (e_v (v_ 0))))) (w_or1 (t_not (t_chn c_le c_le e_int (e_B Φ (cr_len Φ).up (T.free 7) (a_e (e_v (v_ 0)) a_nil)) (e_gint Φ (T.int 47)))))))
  (ss_cons (s_ret e_bl)
  ss_nil)
  ss_nil)
  (ss_cons (s_for Φ (i_enum Φ (T.free 51) (a_e (e_v (v_ 0)) a_nil)) (g_tup 2 Φ (gs_cons (g_name 1 Φ rfl) (gs_cons (g_name 2 Φ rfl) gs_nil)))
  (ss_cons (s_if (t_w (w_or (t_not (t_e (e_isi .tuple Φ (T.free 46) (T.free 18) (e_v (v_ 2))))) (w_or1 (t_cmp (c_neX Φ) (e_B Φ (cr_len Φ).up (T.free 7) (a_e (e_v (v_ 2)) a_nil)) (e_B Φ (cr_len Φ).up (T.free 7) (a_e (e_v (v_ 0)) a_nil))))))
  (ss_cons (s_ret e_bl)
  ss_nil)
  ss_nil)
  (ss_cons (s_if (t_w (w_or (t_not (t_e (e_B Φ (cr_allR Φ).up (T.free 50) (a_e (e_lc [(".0", 3), ("step", 4)] Φ (i_seq (e_v (v_ 2)) Φ.K) (gw_nm 4 (Φ.blk _)) ts_nil (c_call (Φ.blk _) (ok_is_number T) (T.glo 49) (a_e (e_v (v_ 4)) (a_e e_int (a_e (e_gint (Φ.blk _) (T.int 48)) a_nil))))) a_nil)))) (w_or1 (t_cmp (c_neX Φ) (e_sub2 Φ (e_v (v_ 2)) (e_m (v_ 1))) e_int))))
  (ss_cons (s_ret e_bl)
  ss_nil)
  ss_nil)
  ss_nil)))
  (ss_cons (s_ret e_bl)
  ss_nil)))
theorem sc_is_name : FnScope ["thing", ".0", "sign"] ["thing"] (defScope st_is_name) := ⟨rfl, rfl, rfl, by decide +kernel, rfl, by decide +kernel, by decide +kernel⟩
theorem ok_is_name (T : Tp K mg fa fn) : OkF P w K mg base (NN K) 1 (He.ga K "is_name") 1 F_is_name :=
  T.ok (at_ := (fun K => He.ga K "is_name")) 16 rfl sc_is_name rfl rfl rfl (fun _ _ _ _ _ _ us hl => match us, hl with | [_], _ => rfl) fun cdv A outer s H E Φ =>
  show qSs K (NN K) _ _ _ _ M_is_name from
  (ss_cons (s_if (t_w (w_or (t_not (t_e (e_isi .str Φ (T.free 46) (T.free 26) (e_v (v_ 0))))) (w_or1 (t_not (t_chn c_le c_le e_int (e_B Φ (cr_len Φ).up (T.free 7) (a_e (e_v (v_ 0)) a_nil)) e_int)))))
  (ss_cons (s_ret e_bl)
  ss_nil)
  ss_nil)
  (ss_cons (s_ret (e_B Φ (cr_allR Φ).up (T.free 50) (a_e (e_lc [(".0", 1), ("sign", 2)] Φ (i_seq (e_m (v_ 0)) Φ.K) (gw_nm 2 (Φ.blk _)) ts_nil (e_chn c_le c_le e_str (e_v (v_ 2)) e_str)) a_nil)))
  ss_nil))
theorem sc_are_prices : FnScope ["row", "posts", ".0", "item"] ["row", "posts"] (defScope st_are_prices) := ⟨rfl, rfl, rfl, by decide +kernel, rfl, by decide +kernel, by decide +kernel⟩
theorem ok_are_prices (T : Tp K mg fa fn) : OkF P w K mg base (NN K) 3 (He.ga K "are_prices") 2 F_are_prices :=
  T.ok (at_ := (fun K => He.ga K "are_prices")) 17 rfl sc_are_prices rfl rfl rfl (fun _ _ _ _ _ _ us hl => match us, hl with | [_, _], _ => rfl) fun cdv A outer s H E Φ =>
  show qSs K (NN K) _ _ _ _ M_are_prices from
  (ss_cons (s_if (t_w (w_or (t_not (t_e (e_isi .tuple Φ (T.free 46) (T.free 18) (e_v (v_ 0))))) (w_or1 (t_cmp (c_neX Φ) (e_B Φ (cr_len Φ).up (T.free 7) (a_e (e_v (v_ 0)) a_nil)) (e_m (v_ 1))))))
  (ss_cons (s_ret e_bl)
  ss_nil)
  ss_nil)
  (ss_cons (s_if (t_not (t_e (e_B Φ (cr_allR Φ).up (T.free 50) (a_e (e_lc [(".0", 2), ("item", 3)] Φ (i_seq (e_v (v_ 0)) Φ.K) (gw_nm 3 (Φ.blk _)) ts_nil (e_or (e_cmp c_is (e_v (v_ 3)) e_non) (e_one (c_call (Φ.blk _) (ok_is_number T) (T.glo 49) (a_e (e_v (v_ 3)) (a_e e_int (a_e (e_gint (Φ.blk _) (T.int 48)) a_nil))))))) a_nil))))
  (ss_cons (s_ret e_bl)
  ss_nil)
  ss_nil)
  (ss_cons (s_ret (e_B Φ (cr_anyR Φ).up (T.free 57) (a_e (e_lc [(".0", 2), ("item", 3)] Φ (i_seq (e_m (v_ 0)) Φ.K) (gw_nm 3 (Φ.blk _)) ts_nil (e_cmp c_isN (e_v (v_ 3)) e_non)) a_nil)))
  ss_nil)))
theorem sc_are_requests : FnScope ["requests", "posts", "name"] ["requests", "posts"] (defScope st_are_requests) := ⟨rfl, rfl, rfl, by decide +kernel, rfl, by decide +kernel, by decide +kernel⟩
theorem ok_are_requests (T : Tp K mg fa fn) : OkF P w K mg base (NN K) 4 (He.ga K "are_requests") 2 F_are_requests :=
  T.ok (at_ := (fun K => He.ga K "are_requests")) 18 rfl sc_are_requests rfl rfl rfl (fun _ _ _ _ _ _ us hl => match us, hl with | [_, _], _ => rfl) fun cdv A outer s H E Φ =>
  show qSs K (NN K) _ _ _ _ M_are_requests from
  (ss_cons (s_if (t_w (w_or (t_not (t_e (e_isi .dict Φ (T.free 46) (T.free 10) (e_v (v_ 0))))) (w_or1 (t_not (t_chn c_le c_le e_int (e_B Φ (cr_len Φ).up (T.free 7) (a_e (e_v (v_ 0)) a_nil)) (e_gint Φ (T.int 54)))))))
  (ss_cons (s_ret e_bl)
  ss_nil)
  ss_nil)
  (ss_cons (s_forK Φ (v_ 0) (g_name 2 Φ rfl)
  (ss_cons (s_if (t_w (w_or (t_not (t_e (c_call Φ (ok_is_name T) (T.glo 55) (a_e (e_v (v_ 2)) a_nil)))) (w_or1 (t_not (t_e (c_call Φ (ok_are_prices T) (T.glo 56) (a_e (e_sub2 Φ (e_v (v_ 0)) (e_v (v_ 2))) (a_e (e_v (v_ 1)) a_nil))))))))
  (ss_cons (s_ret e_bl)
  ss_nil)
  ss_nil)
  ss_nil))
  (ss_cons (s_ret e_bl)
  ss_nil)))
theorem sc_least_ways : FnScope ["moves", "posts", "ways", "c", "a", "b", ".0", "row"] ["moves"] (defScope st_least_ways) := ⟨rfl, rfl, rfl, by decide +kernel, rfl, by decide +kernel, by decide +kernel⟩
theorem ok_least_ways (T : Tp K mg fa fn) : OkF P w K mg base (NN K) 1 (He.ga K "least_ways") 1 F_least_ways :=
  T.ok (at_ := (fun K => He.ga K "least_ways")) 19 rfl sc_least_ways rfl rfl rfl (fun _ _ _ _ _ _ us hl => match us, hl with | [_], _ => rfl) fun cdv A outer s H E Φ =>
  show qSs K (NN K) _ _ _ _ M_least_ways from
  (ss_cons (s_set 1 Φ rfl (e_B Φ (cr_len Φ).up (T.free 7) (a_e (e_v (v_ 0)) a_nil)))
  (ss_cons (s_setLc 2 [(".0", 6), ("row", 7)] Φ rfl (i_seq (e_m (v_ 0)) Φ.K) (gw_nm 7 (Φ.blk _)) ts_nil (e_T (Φ.blk _) (cr_lst (Φ.blk _)) (T.free 34) (a_e (e_v (v_ 7)) a_nil)))
  (ss_cons (s_for Φ (i_rng1 Φ (T.free 32) (a_e (e_v (v_ 1)) a_nil)) (g_name 3 Φ rfl)
  (ss_cons (s_for Φ (i_rng1 Φ (T.free 32) (a_e (e_v (v_ 1)) a_nil)) (g_name 4 Φ rfl)
  (ss_cons (s_for Φ (i_rng1 Φ (T.free 32) (a_e (e_v (v_ 1)) a_nil)) (g_name 5 Φ rfl)
  (ss_cons (s_set2 Φ (v_ 2) (qq_v (v_ 4)) (qq_v (v_ 5)) (e_B Φ (cr_min2 Φ) (T.free 35) (a_e (e_q (qq_s2 Φ (v_ 2) (qq_v (v_ 4)) (qq_v (v_ 5)))) (a_e (e_add Φ (e_q (qq_s2 Φ (v_ 2) (qq_v (v_ 4)) (qq_v (v_ 3)))) (e_q (qq_s2 Φ (v_ 2) (qq_v (v_ 3)) (qq_v (v_ 5))))) a_nil))))
  ss_nil))
  ss_nil))
  ss_nil))
  (ss_cons (s_ret (e_T Φ (cr_tup Φ) (T.free 18) (a_e (e_lc [(".0", 6), ("row", 7)] Φ (i_seq (e_m (v_ 2)) Φ.K) (gw_nm 7 (Φ.blk _)) ts_nil (e_T (Φ.blk _) (cr_tup (Φ.blk _)) (T.free 18) (a_e (e_v (v_ 7)) a_nil))) a_nil)))
  ss_nil))))
theorem sc_System_init : FnScope ["self", "moves", "requests", ".0", "name"] ["self", "moves", "requests"] (defScope st_System_init) := ⟨rfl, rfl, rfl, by decide +kernel, rfl, by decide +kernel, by decide +kernel⟩
theorem ok_System_init (T : Tp K mg fa fn) : OkF P w K mg base (NN K) 5 (He.ma K (He.ga K "System") "__init__") 3 F_System_init :=
  T.ok (at_ := (fun K => He.ma K (He.ga K "System") "__init__")) 20 rfl sc_System_init rfl rfl rfl (fun _ _ _ _ _ _ us hl => match us, hl with | [_, _, _], _ => rfl) fun cdv A outer s H E Φ =>
  show qSs K (NN K) _ _ _ _ M_System_init from
  (ss_cons (s_if (t_not (t_e (c_call Φ (ok_are_moves T) (T.glo 38) (a_e (e_v (v_ 1)) a_nil))))
  (ss_cons s_dead
  ss_nil)
  ss_nil)
  (ss_cons (s_if (t_not (t_e (c_call Φ (ok_are_requests T) (T.glo 39) (a_e (e_v (v_ 2)) (a_e (e_B Φ (cr_len Φ).up (T.free 7) (a_e (e_v (v_ 1)) a_nil)) a_nil)))))
  (ss_cons s_dead
  ss_nil)
  ss_nil)
  (ss_cons (s_setF 6 0 Φ (v_ 0) (e_v (v_ 1)) ⟨rfl, T.cls 11⟩ rfl (T.noat 40))
  (ss_cons (s_setF 6 5 Φ (v_ 0) (e_B Φ (cr_len Φ).up (T.free 7) (a_e (e_v (v_ 1)) a_nil)) ⟨rfl, T.cls 11⟩ rfl (T.noat 41))
  (ss_cons (s_setF 6 3 Φ (v_ 0) (e_T Φ (cr_tup Φ) (T.free 18) (a_e (e_B Φ (cr_srt Φ) (T.free 37) (a_e (e_v (v_ 2)) a_nil)) a_nil)) ⟨rfl, T.cls 11⟩ rfl (T.noat 42))
  (ss_cons (s_setF 6 11 Φ (v_ 0) (e_dc [(".0", 3), ("name", 4)] Φ (i_seq (e_fldS 6 3 Φ (v_ 0) ⟨rfl, T.cls 11⟩ rfl (T.noat 42)) Φ.K) (gw_nm 4 (Φ.blk _)) ts_nil (e_v (v_ 4)) (e_sub2 (Φ.blk _) (e_v (v_ 2)) (e_v (v_ 4)))) ⟨rfl, T.cls 11⟩ rfl (T.noat 43))
  (ss_cons (s_setF 6 12 Φ (v_ 0) (c_call Φ (ok_least_ways T) (T.glo 44) (a_e (e_m (v_ 1)) a_nil)) ⟨rfl, T.cls 11⟩ rfl (T.noat 45))
  ss_nil)))))))
theorem sc__law_turned : FnScope ["row", "other", "name"] ["row"] (defScope st__law_turned) := ⟨rfl, rfl, rfl, by decide +kernel, rfl, by decide +kernel, by decide +kernel⟩
theorem ok__law_turned (T : Tp K mg fa fn) : OkF P w K mg base (NN K) 1 (He.ga K "_law_turned") 1 F__law_turned :=
  T.ok (at_ := (fun K => He.ga K "_law_turned")) 21 rfl sc__law_turned rfl rfl rfl (fun _ _ _ _ _ _ us hl => match us, hl with | [_], _ => rfl) fun cdv A outer s H E Φ =>
  show qSs K (NN K) _ _ _ _ M__law_turned from
  (ss_cons (s_set 1 Φ rfl e_d0)
  (ss_cons (s_for Φ (i_rev Φ (T.free 58) (e_T Φ (cr_lst Φ) (T.free 34) (a_e (e_v (v_ 0)) a_nil))) (g_name 2 Φ rfl)
  (ss_cons (s_setS Φ (v_ 1) (e_v (v_ 2)) (e_sub2 Φ (e_v (v_ 0)) (e_v (v_ 2))))
  ss_nil))
  (ss_cons (s_ret (e_v (v_ 1)))
  ss_nil)))
theorem sc_System_has : FnScope ["self", "name"] ["self", "name"] (defScope st_System_has) := ⟨rfl, rfl, rfl, by decide +kernel, rfl, by decide +kernel, by decide +kernel⟩
theorem ok_System_has (T : Tp K mg fa fn) : OkF P w K mg base (NN K) 2 (He.ma K (He.ga K "System") "has") 2 F_System_has :=
  T.ok (at_ := (fun K => He.ma K (He.ga K "System") "has")) 22 rfl sc_System_has rfl rfl rfl (fun _ _ _ _ _ _ us hl => match us, hl with | [_, _], _ => rfl) fun cdv A outer s H E Φ =>
  show qSs K (NN K) _ _ _ _ M_System_has from
  (ss_cons (s_ret (e_and (c_call Φ (ok_is_name T) (T.glo 55) (a_e (e_v (v_ 1)) a_nil)) (e_one (e_cmp (c_in Φ) (e_v (v_ 1)) (e_fld 6 11 Φ (e_v (v_ 0)) ⟨rfl, T.cls 11⟩ rfl (T.noat 43))))))
  ss_nil)
theorem sc_System_served : FnScope ["self", "name", "post"] ["self", "name", "post"] (defScope st_System_served) := ⟨rfl, rfl, rfl, by decide +kernel, rfl, by decide +kernel, by decide +kernel⟩
theorem ok_System_served (T : Tp K mg fa fn) : OkF P w K mg base (NN K) 3 (He.ma K (He.ga K "System") "served") 3 F_System_served :=
  T.ok (at_ := (fun K => He.ma K (He.ga K "System") "served")) 23 rfl sc_System_served rfl rfl rfl (fun _ _ _ _ _ _ us hl => match us, hl with | [_, _, _], _ => rfl) fun cdv A outer s H E Φ =>
  show qSs K (NN K) _ _ _ _ M_System_served from
  (ss_cons (s_if (t_not (t_e (c_meth 6 13 Φ (ok_System_has T) ⟨rfl, T.cls 11⟩ (T.meth 61) rfl (e_v (v_ 0)) (a_e (e_v (v_ 1)) a_nil))))
  (ss_cons s_dead
  ss_nil)
  ss_nil)
  (ss_cons (s_if (t_not (t_e (c_call Φ (ok_is_number T) (T.glo 49) (a_e (e_v (v_ 2)) (a_e e_int (a_e (e_sub (e_fld 6 5 Φ (e_v (v_ 0)) ⟨rfl, T.cls 11⟩ rfl (T.noat 41)) e_int) a_nil))))))
  (ss_cons s_dead
  ss_nil)
  ss_nil)
  (ss_cons (s_ret (e_sub2 Φ (e_sub2 Φ (e_fld 6 11 Φ (e_v (v_ 0)) ⟨rfl, T.cls 11⟩ rfl (T.noat 43)) (e_m (v_ 1))) (e_m (v_ 2))))
  ss_nil)))
theorem sc_item_text : FnScope ["item"] ["item"] (defScope st_item_text) := ⟨rfl, rfl, rfl, by decide +kernel, rfl, by decide +kernel, by decide +kernel⟩
theorem ok_item_text (T : Tp K mg fa fn) : OkF P w K mg base (NN K) 1 (He.ga K "item_text") 1 F_item_text :=
  T.ok (at_ := (fun K => He.ga K "item_text")) 24 rfl sc_item_text rfl rfl rfl (fun _ _ _ _ _ _ us hl => match us, hl with | [_], _ => rfl) fun cdv A outer s H E Φ =>
  show qSs K (NN K) _ _ _ _ M_item_text from
  (ss_cons (s_if (t_cmp c_is (e_v (v_ 0)) e_non)
  (ss_cons (s_ret e_str)
  ss_nil)
  ss_nil)
  (ss_cons (s_ret (e_T Φ cr_str.up (T.free 26) (a_e (e_m (v_ 0)) a_nil)))
  ss_nil))
theorem sc_system_text : FnScope ["system", "lines", "row", "name", "items", ".0", "step", "post", "line"] ["system"] (defScope st_system_text) := ⟨rfl, rfl, rfl, by decide +kernel, rfl, by decide +kernel, by decide +kernel⟩
theorem ok_system_text (T : Tp K mg fa fn) : OkF P w K mg base (NN K) 4 (He.ga K "system_text") 1 F_system_text :=
  T.ok (at_ := (fun K => He.ga K "system_text")) 25 rfl sc_system_text rfl rfl rfl (fun _ _ _ _ _ _ us hl => match us, hl with | [_], _ => rfl) fun cdv A outer s H E Φ =>
  show qSs K (NN K) _ _ _ _ M_system_text from
  (ss_cons (s_set 1 Φ rfl (e_lst a_nil))
  (ss_cons (s_for Φ (i_seq (e_fld 6 0 Φ (e_v (v_ 0)) ⟨rfl, T.cls 11⟩ rfl (T.noat 40)) Φ.K) (g_name 2 Φ rfl)
  (ss_cons (s_app Φ.K (v_ 1) (e_join Φ e_str (e_add Φ (e_lst (a_e e_str a_nil)) (e_lc [(".0", 5), ("step", 6)] Φ (i_seq (e_m (v_ 2)) Φ.K) (gw_nm 6 (Φ.blk _)) ts_nil (e_T (Φ.blk _) cr_str.up (T.free 26) (a_e (e_v (v_ 6)) a_nil))))))
  ss_nil))
  (ss_cons (s_for Φ (i_seq (e_fld 6 3 Φ (e_v (v_ 0)) ⟨rfl, T.cls 11⟩ rfl (T.noat 42)) Φ.K) (g_name 3 Φ rfl)
  (ss_cons (s_setLc 4 [(".0", 5), ("post", 7)] Φ rfl (i_rng1 Φ (T.free 32) (a_e (e_fld 6 5 Φ (e_v (v_ 0)) ⟨rfl, T.cls 11⟩ rfl (T.noat 41)) a_nil)) (gw_nm 7 (Φ.blk _)) ts_nil (c_call (Φ.blk _) (ok_item_text T) (T.glo 60) (a_e (c_meth 6 4 (Φ.blk _) (ok_System_served T) ⟨rfl, T.cls 11⟩ (T.meth 59) rfl (e_v (v_ 0)) (a_e (e_v (v_ 3)) (a_e (e_v (v_ 7)) a_nil))) a_nil)))
  (ss_cons (s_app Φ.K (v_ 1) (e_join Φ e_str (e_add Φ (e_lst (a_e e_str (a_e (e_m (v_ 3)) a_nil))) (e_m (v_ 4)))))
  ss_nil)))
  (ss_cons (s_ret (e_join Φ e_str (e_lc [(".0", 5), ("line", 8)] Φ (i_seq (e_m (v_ 1)) Φ.K) (gw_nm 8 (Φ.blk _)) ts_nil (e_add (Φ.blk _) (e_v (v_ 8)) e_str))))
  ss_nil))))
theorem sc__law_is : FnScope ["text", "due"] ["text", "due"] (defScope st__law_is) := ⟨rfl, rfl, rfl, by decide +kernel, rfl, by decide +kernel, by decide +kernel⟩
theorem ok__law_is (T : Tp K mg fa fn) : OkF P w K mg base (NN K) 1 (He.ga K "_law_is") 2 F__law_is :=
  T.ok (at_ := (fun K => He.ga K "_law_is")) 26 rfl sc__law_is rfl rfl rfl (fun _ _ _ _ _ _ us hl => match us, hl with | [_, _], _ => rfl) fun cdv A outer s H E Φ =>
  show qSs K (NN K) _ _ _ _ M__law_is from
  (ss_cons (s_ret (e_and (e_isi .str Φ (T.free 46) (T.free 26) (e_v (v_ 0))) (e_one (e_cmp (c_eqX Φ) (e_v (v_ 0)) (e_m (v_ 1))))))
  ss_nil)
theorem sc__law_machine_text : FnScope ["turns", "text", "row", ".0", "name"] ["turns"] (defScope st__law_machine_text) := ⟨rfl, rfl, rfl, by decide +kernel, rfl, by decide +kernel, by decide +kernel⟩
theorem ok__law_machine_text (T : Tp K mg fa fn) : OkF P w K mg base (NN K) 1 (He.ga K "_law_machine_text") 1 F__law_machine_text :=
  T.ok (at_ := (fun K => He.ga K "_law_machine_text")) 27 rfl sc__law_machine_text rfl rfl rfl (fun _ _ _ _ _ _ us hl => match us, hl with | [_], _ => rfl) fun cdv A outer s H E Φ =>
  show qSs K (NN K) _ _ _ _ M__law_machine_text from
  (ss_cons (s_set 1 Φ rfl e_str)
  (ss_cons (s_for Φ (i_seq (e_m (v_ 0)) Φ.K) (g_name 2 Φ rfl)
  (ss_cons (s_set 1 Φ rfl (e_add Φ (e_add Φ (e_add Φ (e_m (v_ 1)) e_str) (e_join Φ e_str (e_lc [(".0", 3), ("name", 4)] Φ (i_seq (e_B Φ (cr_srt Φ) (T.free 37) (a_e (e_v (v_ 2)) a_nil)) Φ.K) (gw_nm 4 (Φ.blk _)) ts_nil (e_add (Φ.blk _) (e_add (Φ.blk _) (e_v (v_ 4)) e_str) (e_T (Φ.blk _) cr_str.up (T.free 26) (a_e (e_sub2 (Φ.blk _) (e_v (v_ 2)) (e_v (v_ 4))) a_nil)))))) e_str))
  ss_nil))
  (ss_cons (s_ret (e_m (v_ 1)))
  ss_nil)))
theorem sc_are_turns : FnScope ["turns", "row", "name"] ["turns"] (defScope st_are_turns) := ⟨rfl, rfl, rfl, by decide +kernel, rfl, by decide +kernel, by decide +kernel⟩
theorem ok_are_turns (T : Tp K mg fa fn) : OkF P w K mg base (NN K) 3 (He.ga K "are_turns") 1 F_are_turns :=
  T.ok (at_ := (fun K => He.ga K "are_turns")) 28 rfl sc_are_turns rfl rfl rfl (fun _ _ _ _ _ _ us hl => match us, hl with | [_], _ => rfl) fun cdv A outer s H E Φ =>
  show qSs K (NN K) _ _ _ _ M_are_turns from
  (ss_cons (s_if (t_w (w_or (t_not (t_e (e_isi .tuple Φ (T.free 46) (T.free 18) (e_v (v_ 0))))) (w_or1 (t_not (t_chn c_le c_le e_int (e_B Φ (cr_len Φ).up (T.free 7) (a_e (e_v (v_ 0)) a_nil)) (e_gint Φ (T.int 66)))))))
  (ss_cons (s_ret e_bl)
  ss_nil)
  ss_nil)
  (ss_cons (s_for Φ (i_seq (e_v (v_ 0)) Φ.K) (g_name 1 Φ rfl)
  (ss_cons (s_if (t_w (w_or (t_not (t_e (e_isi .dict Φ (T.free 46) (T.free 10) (e_v (v_ 1))))) (w_or1 (t_cmp (c_eqX Φ) (e_B Φ (cr_len Φ).up (T.free 7) (a_e (e_v (v_ 1)) a_nil)) e_int))))
  (ss_cons (s_ret e_bl)
  ss_nil)
  ss_nil)
  (ss_cons (s_forK Φ (v_ 1) (g_name 2 Φ rfl)
  (ss_cons (s_if (t_w (w_or (t_not (t_e (c_call Φ (ok_is_name T) (T.glo 55) (a_e (e_v (v_ 2)) a_nil)))) (w_or1 (t_not (t_e (c_call Φ (ok_is_number T) (T.glo 49) (a_e (e_sub2 Φ (e_v (v_ 1)) (e_v (v_ 2))) (a_e e_int (a_e (e_sub (e_B Φ (cr_len Φ).up (T.free 7) (a_e (e_v (v_ 0)) a_nil)) e_int) a_nil)))))))))
  (ss_cons (s_ret e_bl)
  ss_nil)
  ss_nil)
  ss_nil))
  ss_nil)))
  (ss_cons (s_ret e_bl)
  ss_nil)))
theorem sc_copied_turns : FnScope ["turns", ".0", "row", "name"] ["turns"] (defScope st_copied_turns) := ⟨rfl, rfl, rfl, by decide +kernel, rfl, by decide +kernel, by decide +kernel⟩
theorem ok_copied_turns (T : Tp K mg fa fn) : OkF P w K mg base (NN K) 1 (He.ga K "copied_turns") 1 F_copied_turns :=
  T.ok (at_ := (fun K => He.ga K "copied_turns")) 29 rfl sc_copied_turns rfl rfl rfl (fun _ _ _ _ _ _ us hl => match us, hl with | [_], _ => rfl) fun cdv A outer s H E Φ =>
  show qSs K (NN K) _ _ _ _ M_copied_turns from
  (ss_cons (s_ret (e_T Φ (cr_tup Φ) (T.free 18) (a_e (e_lc [(".0", 1), ("row", 2)] Φ (i_seq (e_m (v_ 0)) Φ.K) (gw_nm 2 (Φ.blk _)) ts_nil (e_dc [(".0", 1), ("name", 3)] (Φ.blk _) (i_seq (e_B (Φ.blk _) (cr_srt (Φ.blk _)) (T.free 37) (a_e (e_v (v_ 2)) a_nil)) (Φ.blk _).K) (gw_nm 3 ((Φ.blk _).blk _)) ts_nil (e_v (v_ 3)) (e_sub2 ((Φ.blk _).blk _) (e_v (v_ 2)) (e_v (v_ 3))))) a_nil)))
  ss_nil)
theorem sc_Machine_init : FnScope ["self", "turns"] ["self", "turns"] (defScope st_Machine_init) := ⟨rfl, rfl, rfl, by decide +kernel, rfl, by decide +kernel, by decide +kernel⟩
theorem ok_Machine_init (T : Tp K mg fa fn) : OkF P w K mg base (NN K) 4 (He.ma K (He.ga K "Machine") "__init__") 2 F_Machine_init :=
  T.ok (at_ := (fun K => He.ma K (He.ga K "Machine") "__init__")) 30 rfl sc_Machine_init rfl rfl rfl (fun _ _ _ _ _ _ us hl => match us, hl with | [_, _], _ => rfl) fun cdv A outer s H E Φ =>
  show qSs K (NN K) _ _ _ _ M_Machine_init from
  (ss_cons (s_if (t_not (t_e (c_call Φ (ok_are_turns T) (T.glo 62) (a_e (e_v (v_ 1)) a_nil))))
  (ss_cons s_dead
  ss_nil)
  ss_nil)
  (ss_cons (s_setF 7 14 Φ (v_ 0) (e_B Φ (cr_len Φ).up (T.free 7) (a_e (e_v (v_ 1)) a_nil)) ⟨rfl, T.cls 19⟩ rfl (T.noat 63))
  (ss_cons (s_setF 7 15 Φ (v_ 0) (c_call Φ (ok_copied_turns T) (T.glo 64) (a_e (e_m (v_ 1)) a_nil)) ⟨rfl, T.cls 19⟩ rfl (T.noat 65))
  ss_nil)))
theorem sc_Machine_turns : FnScope ["self"] ["self"] (defScope st_Machine_turns) := ⟨rfl, rfl, rfl, by decide +kernel, rfl, by decide +kernel, by decide +kernel⟩
theorem ok_Machine_turns (T : Tp K mg fa fn) : OkF P w K mg base (NN K) 2 (pgA K (He.ma K (He.ga K "Machine") "turns")) 1 F_Machine_turns :=
  T.ok (at_ := (fun K => pgA K (He.ma K (He.ga K "Machine") "turns"))) 31 rfl sc_Machine_turns rfl rfl rfl (fun _ _ _ _ _ _ us hl => match us, hl with | [_], _ => rfl) fun cdv A outer s H E Φ =>
  show qSs K (NN K) _ _ _ _ M_Machine_turns from
  (ss_cons (s_ret (c_call Φ (ok_copied_turns T) (T.glo 64) (a_e (e_fld 7 15 Φ (e_v (v_ 0)) ⟨rfl, T.cls 19⟩ rfl (T.noat 65)) a_nil)))
  ss_nil)
theorem sc_machine_text : FnScope ["machine", "lines", "row", "words", ".0", "name"] ["machine"] (defScope st_machine_text) := ⟨rfl, rfl, rfl, by decide +kernel, rfl, by decide +kernel, by decide +kernel⟩
theorem ok_machine_text (T : Tp K mg fa fn) : OkF P w K mg base (NN K) 4 (He.ga K "machine_text") 1 F_machine_text :=
  T.ok (at_ := (fun K => He.ga K "machine_text")) 32 rfl sc_machine_text rfl rfl rfl (fun _ _ _ _ _ _ us hl => match us, hl with | [_], _ => rfl) fun cdv A outer s H E Φ =>
  show qSs K (NN K) _ _ _ _ M_machine_text from
  (ss_cons (s_set 1 Φ rfl (e_lst a_nil))
  (ss_cons (s_for Φ (i_seq (c_prop 7 Φ (ok_Machine_turns T) ⟨rfl, T.cls 19⟩ (T.prop 67) (e_v (v_ 0))) Φ.K) (g_name 2 Φ rfl)
  (ss_cons (s_setLc 3 [(".0", 4), ("name", 5)] Φ rfl (i_seq (e_B Φ (cr_srt Φ) (T.free 37) (a_e (e_v (v_ 2)) a_nil)) Φ.K) (gw_nm 5 (Φ.blk _)) ts_nil (e_add (Φ.blk _) (e_add (Φ.blk _) (e_v (v_ 5)) e_str) (e_T (Φ.blk _) cr_str.up (T.free 26) (a_e (e_sub2 (Φ.blk _) (e_v (v_ 2)) (e_v (v_ 5))) a_nil))))
  (ss_cons (s_app Φ.K (v_ 1) (e_add Φ (e_join Φ e_str (e_add Φ (e_lst (a_e e_str a_nil)) (e_m (v_ 3)))) e_str))
  ss_nil)))
  (ss_cons (s_ret (e_join Φ e_str (e_m (v_ 1))))
  ss_nil)))
theorem sc_hint_text : FnScope ["hint"] ["hint"] (defScope st_hint_text) := ⟨rfl, rfl, rfl, by decide +kernel, rfl, by decide +kernel, by decide +kernel⟩
theorem ok_hint_text (T : Tp K mg fa fn) : OkF P w K mg base (NN K) 1 (He.ga K "hint_text") 1 F_hint_text :=
  T.ok (at_ := (fun K => He.ga K "hint_text")) 33 rfl sc_hint_text rfl rfl rfl (fun _ _ _ _ _ _ us hl => match us, hl with | [_], _ => rfl) fun cdv A outer s H E Φ =>
  show qSs K (NN K) _ _ _ _ M_hint_text from
  (ss_cons (s_if (t_cmp c_is (e_v (v_ 0)) e_non)
  (ss_cons (s_ret e_str)
  ss_nil)
  ss_nil)
  (ss_cons (s_ret (e_m (v_ 0)))
  ss_nil))
theorem sc_view_text : FnScope ["view", "state", "post", "offsets", "hint", "written", ".0", "offset"] ["view"] (defScope st_view_text) := ⟨rfl, rfl, rfl, by decide +kernel, rfl, by decide +kernel, by decide +kernel⟩
theorem ok_view_text (T : Tp K mg fa fn) : OkF P w K mg base (NN K) 2 (He.ga K "view_text") 1 F_view_text :=
  T.ok (at_ := (fun K => He.ga K "view_text")) 34 rfl sc_view_text rfl rfl rfl (fun _ _ _ _ _ _ us hl => match us, hl with | [_], _ => rfl) fun cdv A outer s H E Φ =>
  show qSs K (NN K) _ _ _ _ M_view_text from
  (ss_cons (s_tset (e_m (v_ 0)) (g_tup 4 Φ (gs_cons (g_name 1 Φ rfl) (gs_cons (g_name 2 Φ rfl) (gs_cons (g_name 3 Φ rfl) (gs_cons (g_name 4 Φ rfl) gs_nil))))))
  (ss_cons (s_set 5 Φ rfl (e_join Φ e_str (e_lc [(".0", 6), ("offset", 7)] Φ (i_seq (e_m (v_ 3)) Φ.K) (gw_nm 7 (Φ.blk _)) ts_nil (e_T (Φ.blk _) cr_str.up (T.free 26) (a_e (e_v (v_ 7)) a_nil)))))
  (ss_cons (s_ret (e_fstr (j_cons (e_fmt (e_m (v_ 1))) (j_cons e_str (j_cons (e_fmt (e_m (v_ 2))) (j_cons e_str (j_cons (e_fmt (e_m (v_ 5))) (j_cons e_str (j_cons (e_fmt (c_call Φ (ok_hint_text T) (T.glo 68) (a_e (e_m (v_ 4)) a_nil))) j_nil)))))))))
  ss_nil)))
theorem sc__law_view_text : FnScope ["view", "offsets", ".0", "offset"] ["view"] (defScope st__law_view_text) := ⟨rfl, rfl, rfl, by decide +kernel, rfl, by decide +kernel, by decide +kernel⟩
theorem ok__law_view_text (T : Tp K mg fa fn) : OkF P w K mg base (NN K) 2 (He.ga K "_law_view_text") 1 F__law_view_text :=
  T.ok (at_ := (fun K => He.ga K "_law_view_text")) 35 rfl sc__law_view_text rfl rfl rfl (fun _ _ _ _ _ _ us hl => match us, hl with | [_], _ => rfl) fun cdv A outer s H E Φ =>
  show qSs K (NN K) _ _ _ _ M__law_view_text from
  (ss_cons (s_set 1 Φ rfl (e_join Φ e_str (e_lc [(".0", 2), ("offset", 3)] Φ (i_seq (e_sub2 Φ (e_v (v_ 0)) e_int) Φ.K) (gw_nm 3 (Φ.blk _)) ts_nil (e_T (Φ.blk _) cr_str.up (T.free 26) (a_e (e_v (v_ 3)) a_nil)))))
  (ss_cons (s_ret (e_add Φ (e_add Φ (e_add Φ (e_add Φ (e_add Φ (e_add Φ (e_T Φ cr_str.up (T.free 26) (a_e (e_sub2 Φ (e_v (v_ 0)) e_int) a_nil)) e_str) (e_T Φ cr_str.up (T.free 26) (a_e (e_sub2 Φ (e_v (v_ 0)) e_int) a_nil))) e_str) (e_m (v_ 1))) e_str) (c_call Φ (ok__law_item T) (T.glo 36) (a_e (e_sub2 Φ (e_v (v_ 0)) e_int) a_nil))))
  ss_nil))
theorem sc_first_offsets : FnScope ["system"] ["system"] (defScope st_first_offsets) := ⟨rfl, rfl, rfl, by decide +kernel, rfl, by decide +kernel, by decide +kernel⟩
theorem ok_first_offsets (T : Tp K mg fa fn) : OkF P w K mg base (NN K) 1 (He.ga K "first_offsets") 1 F_first_offsets :=
  T.ok (at_ := (fun K => He.ga K "first_offsets")) 36 rfl sc_first_offsets rfl rfl rfl (fun _ _ _ _ _ _ us hl => match us, hl with | [_], _ => rfl) fun cdv A outer s H E Φ =>
  show qSs K (NN K) _ _ _ _ M_first_offsets from
  (ss_cons (s_ret (e_sub2 Φ (e_fld 6 12 Φ (e_v (v_ 0)) ⟨rfl, T.cls 11⟩ rfl (T.noat 45)) e_int))
  ss_nil)
theorem sc_first_view : FnScope ["system"] ["system"] (defScope st_first_view) := ⟨rfl, rfl, rfl, by decide +kernel, rfl, by decide +kernel, by decide +kernel⟩
theorem ok_first_view (T : Tp K mg fa fn) : OkF P w K mg base (NN K) 2 (He.ga K "first_view") 1 F_first_view :=
  T.ok (at_ := (fun K => He.ga K "first_view")) 37 rfl sc_first_view rfl rfl rfl (fun _ _ _ _ _ _ us hl => match us, hl with | [_], _ => rfl) fun cdv A outer s H E Φ =>
  show qSs K (NN K) _ _ _ _ M_first_view from
  (ss_cons (s_ret (e_tup (a_e e_int (a_e e_int (a_e (c_call Φ (ok_first_offsets T) (T.glo 69) (a_e (e_v (v_ 0)) a_nil)) (a_e e_non a_nil))))))
  ss_nil)
theorem sc_renting : FnScope ["price"] ["price"] (defScope st_renting) := ⟨rfl, rfl, rfl, by decide +kernel, rfl, by decide +kernel, by decide +kernel⟩
theorem ok_renting (T : Tp K mg fa fn) : OkF P w K mg base (NN K) 7 (He.ga K "renting") 1 F_renting :=
  T.ok (at_ := (fun K => He.ga K "renting")) 38 rfl sc_renting rfl rfl rfl (fun _ _ _ _ _ _ us hl => match us, hl with | [_], _ => rfl) fun cdv A outer s H E Φ =>
  show qSs K (NN K) _ _ _ _ M_renting from
  (ss_cons (s_if (t_not (t_e (c_call Φ (ok_is_number T) (T.glo 49) (a_e (e_v (v_ 0)) (a_e e_int (a_e e_int a_nil))))))
  (ss_cons s_dead
  ss_nil)
  ss_nil)
  (ss_cons (s_ret (c_make 6 Φ (ok_System_init T) ⟨rfl, T.cls 11⟩ (T.mkr 12) (T.glo 13) (a_e (e_tup (a_e (e_tup (a_e e_int (a_e (e_m (v_ 0)) a_nil))) (a_e (e_tup (a_e e_int (a_e e_int a_nil))) a_nil))) (a_e (e_disp (pp_cons e_str (e_tup (a_e e_int (a_e e_int a_nil))) (pp_cons e_str (e_tup (a_e e_int (a_e e_non a_nil))) pp_nil))) a_nil))))
  ss_nil))
theorem sc_law : FnScope ["script", "stock", "names", "posts", "moves", "requests", "turns", "ways", "hint", "view", "price", "due", "system", "other", "machine", ".0", "row", "way"] ["script"] (defScope st_law) := ⟨rfl, rfl, rfl, by decide +kernel, rfl, by decide +kernel, by decide +kernel⟩
theorem law_ok (T : Tp K mg fa fn) : ∃ fd, (∀ (s : Shared) (us : List Value), us.length = 1 → BindsTo s fd ⟨us, []⟩ ((["script"] : List Str).zip us)) ∧ ∀ base : Heap, FnOk P w K mg base (L2.CX P w) 8 (He.ga K "law") fd ["script"] (SpD K (NN K) 1 F_law) :=
  T.okL (at_ := (fun K => He.ga K "law")) 39 rfl sc_law rfl rfl rfl (fun _ _ _ _ _ _ us hl => match us, hl with | [_], _ => rfl) fun base cdv A outer s H E Φ =>
  show qSs K (NN K) _ _ _ _ M_law from
  (ss_cons (s_set 1 Φ rfl (c_call Φ (ok__law_stock T) (T.glo 0) (a_e (e_v (v_ 0)) (a_e e_int a_nil))))
  (ss_cons (s_set 2 Φ rfl (c_call Φ (ok__law_names T) (T.glo 2) (a_l (v_ 1) (a_e (e_add Φ e_int (c_call Φ (ok__law_draw T) (T.glo 1) (a_l (v_ 1) (a_e e_int a_nil)))) a_nil))))
  (ss_cons (s_set 3 Φ rfl (e_add Φ e_int (c_call Φ (ok__law_draw T) (T.glo 1) (a_l (v_ 1) (a_e e_int a_nil)))))
  (ss_cons (s_set 4 Φ rfl (c_call Φ (ok__law_moves T) (T.glo 3) (a_l (v_ 1) (a_e (e_v (v_ 3)) (a_e e_int a_nil)))))
  (ss_cons (s_set 5 Φ rfl (c_call Φ (ok__law_requests T) (T.glo 4) (a_l (v_ 1) (a_e (e_v (v_ 2)) (a_e (e_v (v_ 3)) (a_e e_int a_nil))))))
  (ss_cons (s_set 1 Φ rfl (c_call Φ (ok__law_stock T) (T.glo 0) (a_e (e_v (v_ 0)) (a_e e_int a_nil))))
  (ss_cons (s_set 6 Φ rfl (c_call Φ (ok__law_turns T) (T.glo 5) (a_l (v_ 1) (a_e (e_v (v_ 2)) (a_e (e_add Φ e_int (c_call Φ (ok__law_draw T) (T.glo 1) (a_l (v_ 1) (a_e e_int a_nil)))) a_nil)))))
  (ss_cons (s_set 1 Φ rfl (c_call Φ (ok__law_stock T) (T.glo 0) (a_e (e_v (v_ 0)) (a_e e_int a_nil))))
  (ss_cons (s_set 7 Φ rfl (c_call Φ (ok__law_ways T) (T.glo 6) (a_e (e_v (v_ 4)) a_nil)))
  (ss_cons (s_set 8 Φ rfl (e_sub2 Φ (e_add Φ (e_v (v_ 2)) (e_lst (a_e e_non a_nil))) (c_call Φ (ok__law_draw T) (T.glo 1) (a_l (v_ 1) (a_e (e_add Φ (e_B Φ (cr_len Φ).up (T.free 7) (a_e (e_v (v_ 2)) a_nil)) e_int) a_nil)))))
  (ss_cons (s_set 9 Φ rfl (e_tup (a_e (c_call Φ (ok__law_draw T) (T.glo 1) (a_l (v_ 1) (a_e e_int a_nil))) (a_e (c_call Φ (ok__law_draw T) (T.glo 1) (a_l (v_ 1) (a_e (e_m (v_ 3)) a_nil))) (a_e (c_call Φ (ok__law_offsets T) (T.glo 8) (a_l (v_ 1) (a_e (e_v (v_ 7)) a_nil))) (a_e (e_m (v_ 8)) a_nil))))))
  (ss_cons (s_set 10 Φ rfl (e_add Φ e_int (c_call Φ (ok__law_draw T) (T.glo 1) (a_e (c_call Φ (ok__law_stock T) (T.glo 0) (a_e (e_m (v_ 0)) (a_e e_int a_nil))) (a_e e_int a_nil)))))
  (ss_cons (s_set 11 Φ rfl (c_call Φ (ok__law_system_text T) (T.glo 9) (a_e (e_v (v_ 4)) (a_e (e_v (v_ 5)) a_nil))))
  (ss_cons (s_set 12 Φ rfl (c_make 6 Φ (ok_System_init T) ⟨rfl, T.cls 11⟩ (T.mkr 12) (T.glo 13) (a_e (e_v (v_ 4)) (a_e (e_T Φ cr_dct (T.free 10) (a_e (e_v (v_ 5)) a_nil)) a_nil))))
  (ss_cons (s_set 13 Φ rfl (c_make 6 Φ (ok_System_init T) ⟨rfl, T.cls 11⟩ (T.mkr 12) (T.glo 13) (a_e (e_m (v_ 4)) (a_e (c_call Φ (ok__law_turned T) (T.glo 14) (a_e (e_m (v_ 5)) a_nil)) a_nil))))
  (ss_cons (s_if (t_w (w_or (t_not (t_e (c_call Φ (ok__law_is T) (T.glo 16) (a_e (c_call Φ (ok_system_text T) (T.glo 15) (a_e (e_v (v_ 12)) a_nil)) (a_e (e_v (v_ 11)) a_nil))))) (w_or1 (t_not (t_e (c_call Φ (ok__law_is T) (T.glo 16) (a_e (c_call Φ (ok_system_text T) (T.glo 15) (a_e (e_v (v_ 13)) a_nil)) (a_e (e_v (v_ 11)) a_nil))))))))
  (ss_cons (s_ret e_bl)
  ss_nil)
  ss_nil)
  (ss_cons (s_set 11 Φ rfl (c_call Φ (ok__law_machine_text T) (T.glo 17) (a_e (e_v (v_ 6)) a_nil)))
  (ss_cons (s_set 14 Φ rfl (c_make 7 Φ (ok_Machine_init T) ⟨rfl, T.cls 19⟩ (T.mkr 20) (T.glo 21) (a_e (e_T Φ (cr_tup Φ) (T.free 18) (a_e (e_lc [(".0", 15), ("row", 16)] Φ (i_seq (e_v (v_ 6)) Φ.K) (gw_nm 16 (Φ.blk _)) ts_nil (e_T (Φ.blk _) cr_dct (T.free 10) (a_e (e_v (v_ 16)) a_nil))) a_nil)) a_nil)))
  (ss_cons (s_set 13 Φ rfl (c_make 7 Φ (ok_Machine_init T) ⟨rfl, T.cls 19⟩ (T.mkr 20) (T.glo 21) (a_e (e_T Φ (cr_tup Φ) (T.free 18) (a_e (e_lc [(".0", 15), ("row", 16)] Φ (i_seq (e_m (v_ 6)) Φ.K) (gw_nm 16 (Φ.blk _)) ts_nil (c_call (Φ.blk _) (ok__law_turned T) (T.glo 14) (a_e (e_v (v_ 16)) a_nil))) a_nil)) a_nil)))
  (ss_cons (s_if (t_w (w_or (t_not (t_e (c_call Φ (ok__law_is T) (T.glo 16) (a_e (c_call Φ (ok_machine_text T) (T.glo 22) (a_e (e_v (v_ 14)) a_nil)) (a_e (e_v (v_ 11)) a_nil))))) (w_or1 (t_not (t_e (c_call Φ (ok__law_is T) (T.glo 16) (a_e (c_call Φ (ok_machine_text T) (T.glo 22) (a_e (e_v (v_ 13)) a_nil)) (a_e (e_v (v_ 11)) a_nil))))))))
  (ss_cons (s_ret e_bl)
  ss_nil)
  ss_nil)
  (ss_cons (s_if (t_not (t_e (c_call Φ (ok__law_is T) (T.glo 16) (a_e (c_call Φ (ok_view_text T) (T.glo 23) (a_e (e_v (v_ 9)) a_nil)) (a_e (c_call Φ (ok__law_view_text T) (T.glo 24) (a_e (e_v (v_ 9)) a_nil)) a_nil)))))
  (ss_cons (s_ret e_bl)
  ss_nil)
  ss_nil)
  (ss_cons (s_if (t_not (t_e (c_call Φ (ok__law_is T) (T.glo 16) (a_e (c_call Φ (ok_view_text T) (T.glo 23) (a_e (c_call Φ (ok_first_view T) (T.glo 25) (a_e (e_v (v_ 12)) a_nil)) a_nil)) (a_e (e_add Φ (e_add Φ e_str (e_join Φ e_str (e_lc [(".0", 15), ("way", 17)] Φ (i_seq (e_sub2 Φ (e_m (v_ 7)) e_int) Φ.K) (gw_nm 17 (Φ.blk _)) ts_nil (e_T (Φ.blk _) cr_str.up (T.free 26) (a_e (e_v (v_ 17)) a_nil))))) e_str) a_nil)))))
  (ss_cons (s_ret e_bl)
  ss_nil)
  ss_nil)
  (ss_cons (s_set 11 Φ rfl (e_add Φ (e_add Φ e_str (e_T Φ cr_str.up (T.free 26) (a_e (e_v (v_ 10)) a_nil))) e_str))
  (ss_cons (s_ret (c_call Φ (ok__law_is T) (T.glo 16) (a_e (c_call Φ (ok_system_text T) (T.glo 15) (a_e (c_call Φ (ok_renting T) (T.glo 27) (a_e (e_m (v_ 10)) a_nil)) a_nil)) (a_e (e_m (v_ 11)) a_nil))))
  ss_nil))))))))))))))))))))))))
end
end LawP

set_option maxHeartbeats 0
namespace LawP
open PySem PySem.Spec PyProof.Rows L2 DL
abbrev RR : PySem.W.OpenRow := PySem.W.OpenLaw.row PySem.Challenge.rw_hintslie_k85_texts_by_hand
abbrev qv : Program := PySem.W.view RR.prog [56]
abbrev hk : PySem.W.Hook := hookQ 6 fa fn
def ob (s : PySem.W.SharedT) : AlQ := obsQG 6 fa fn (HandSHeadRun.getT s)
theorem ob_eq (s : PySem.W.SharedT) : ob s = hk.obs s.abs := obsQG_eq (HandSHeadRun.getT_eq s)
def loose0 : List PySem.Str := ["_wall", "__name__", "item_text", "system_text", "machine_text", "hint_text", "view_text", "is_integer", "is_number", "is_name", "HintError", "BadSystem"]
def loose1 : List PySem.Str := ["NoPost", "NoRequest", "BadMachine", "BadNumber", "MOST_POSTS", "MOST_REQUESTS", "MOST_PRICE", "are_moves", "are_prices", "are_requests", "least_ways", "System"]
def loose2 : List PySem.Str := ["renting", "MOST_STATES", "are_turns", "copied_turns", "Machine", "first_offsets", "first_view", "_law_cell", "_law_stock", "_law_draw", "_law_word", "_law_names"]
def loose3 : List PySem.Str := ["_law_moves", "_law_prices", "_law_requests", "_law_turns", "_law_item", "_law_system_text", "_law_machine_text", "_law_view_text", "_law_ways", "_law_offsets", "_law_turned", "_law_is"]
def loose : List PySem.Str := loose0 ++ loose1 ++ loose2 ++ loose3
theorem run (w : World) : HandSHeadRun.RunEq RR qv hk ob 6000 loose w := by
  intro os
  kernel_rfl
end LawP

set_option maxHeartbeats 1000000
/-! U1: dice, words, names, and what is drawn of a system. -/
namespace LawP
open PySem L2 DL TL
theorem log2_small {n k : Nat} (h : n < 2 ^ k) (hk : 0 < k) : n.log2 < k := by
  by_cases h0 : n = 0
  · subst h0; simpa using hk
  · exact (Nat.log2_lt h0).mpr h
theorem mulG_of {i j : Int} (h1 : i.natAbs < 2 ^ 200) (h2 : j.natAbs < 2 ^ 200) : mulG i j = true := by
  have a := log2_small h1 (by decide)
  have b := log2_small h2 (by decide)
  unfold mulG
  exact decide_eq_true (by omega)
theorem divG_of {j : Int} (h0 : 0 < j) (h1 : j.natAbs < 2 ^ 200) : divG j = true := by
  have a := log2_small h1 (by decide)
  unfold divG
  rw [decide_eq_true h0, decide_eq_true (show j.natAbs.log2 < 9000 by omega)]
  rfl
theorem mul_eq {i j : Int} (h1 : i.natAbs < 2 ^ 200) (h2 : j.natAbs < 2 ^ 200) : mulO i j = some (i * j) := by
  unfold mulO
  rw [if_pos (mulG_of h1 h2)]
theorem div_eq {i j : Int} (h0 : 0 < j) (h1 : j.natAbs < 2 ^ 200) : divO i j = some (i / j) := by
  unfold divO
  rw [if_pos (divG_of h0 h1)]
theorem mod_eq {i j : Int} (h0 : 0 < j) : modO i j = some (i % j) := by
  unfold modO
  rw [if_pos h0]
theorem na {a : Int} {p : Nat} (h0 : 0 ≤ a) (h : a < 2 ^ p) : a.natAbs < 2 ^ p := by
  have : (a.natAbs : Int) < ((2 ^ p : Nat) : Int) := by rw [Int.natAbs_of_nonneg h0]; exact_mod_cast h
  exact_mod_cast this
theorem na200 {a : Int} {p : Nat} (h0 : 0 ≤ a) (h : a < 2 ^ p) (hp : p ≤ 200) : a.natAbs < 2 ^ 200 := Nat.lt_of_lt_of_le (na h0 h) (Nat.pow_le_pow_right (by decide) hp)
/-- dice that were thrown n times at most -/
def SK (n : Nat) (s : Int × Int × Bool) : Prop := 0 ≤ s.1 ∧ (s.2.2 = true ∨ s.1 < 2 ^ 66) ∧ 0 ≤ s.2.1 ∧ s.2.1 ≤ n
theorem SK.mono {n m : Nat} {s : Int × Int × Bool} (h : SK n s) (hm : n ≤ m) : SK m s := ⟨h.1, h.2.1, h.2.2.1, by have := h.2.2.2; omega⟩
theorem draw {n : Nat} {s : Int × Int × Bool} {m : Int} (h : SK n s) (hn : n < 2 ^ 39) (hm : 0 < m) (hm2 : m < 2 ^ 60) : Wr (T__law_draw s m) fun r => (0 ≤ r.1 ∧ r.1 < m) ∧ SK (n + 1) r.2 := by
  obtain ⟨a, b, c⟩ := s
  obtain ⟨ha, hc, hb, hbn⟩ := h
  simp only at ha hc hb hbn
  unfold T__law_draw
  refine w_v (w_if (fun hc1 => ?_) fun hc1 => ?_)
  · simp only at hc1
    subst hc1
    refine w_o (div_eq hm (na200 (p := 60) (by omega) hm2 (by decide))) (w_v (w_o (mod_eq hm) (w_rt ⟨⟨Int.emod_nonneg _ (by omega), Int.emod_lt_of_pos _ hm⟩, Int.ediv_nonneg ha (by omega), .inl rfl, hb, ?_⟩)))
    show b ≤ ((n + 1 : Nat) : Int)
    omega
  · simp only at hc1
    subst hc1
    have ha2 : a < 2 ^ 66 := hc.resolve_left (by simp)
    have hx0 : 0 ≤ (a * 48271 + (b + 1) * 69997 + 30103) % 2147483647 := Int.emod_nonneg _ (by decide)
    have hx1 : (a * 48271 + (b + 1) * 69997 + 30103) % 2147483647 < 2147483647 := Int.emod_lt_of_pos _ (by decide)
    refine w_v (w_o (mul_eq (na200 ha ha2 (by decide)) (by decide)) (w_o (mul_eq (na200 (p := 41) (show (0 : Int) ≤ b + 1 by omega) (show b + 1 < 2 ^ 41 by omega) (by decide)) (by decide)) (w_o (mod_eq (by decide)) ?_)))
    simp only
    generalize hx : (a * 48271 + (b + 1) * 69997 + 30103) % 2147483647 = x at hx0 hx1 ⊢
    have hd : 0 ≤ x / 1009 ∧ x / 1009 < 2147483647 := by omega
    refine w_o (div_eq (by decide) (by decide)) (w_o (mul_eq (na200 (p := 32) (by omega) (by omega) (by decide)) (na200 (p := 33) (by omega) (by omega) (by decide))) (w_o (mod_eq (by decide)) ?_))
    have hy0 : 0 ≤ x * (x / 1009 + 69621) % 2147483629 := Int.emod_nonneg _ (by decide)
    have hy1 : x * (x / 1009 + 69621) % 2147483629 < 2147483629 := Int.emod_lt_of_pos _ (by decide)
    generalize hy : x * (x / 1009 + 69621) % 2147483629 = y at hy0 hy1 ⊢
    refine w_o (div_eq (by decide) (by decide)) (w_o (mul_eq (na200 (p := 32) (by omega) (by omega) (by decide)) (na200 (p := 42) (by omega) (by omega) (by decide))) (w_o (mod_eq (by decide)) (w_o (div_eq (by decide) (by decide)) (w_o (mod_eq hm) (w_rt ⟨⟨Int.emod_nonneg _ (by omega), Int.emod_lt_of_pos _ hm⟩, ha, .inr ha2, ?_, ?_⟩)))))
    · show 0 ≤ b + 1
      omega
    · show b + 1 ≤ ((n + 1 : Nat) : Int)
      omega
theorem cell {ns : List Int} {k : Int} (h0 : 0 ≤ k) : Wr (T__law_cell ns k) fun _ => True := by
  unfold T__law_cell
  refine w_if (fun h => ?_) fun _ => w_rt trivial
  exact w_o (atI_of h0 (by simpa using h)) (w_rt trivial)
theorem stock {ns : List Int} {k : Int} (h0 : 0 ≤ k) (hk : k < 10) : Wr (T__law_stock ns k) (SK 0) := by
  unfold T__law_stock
  refine w_call (cell h0) fun r _ => w_v ?_
  have hp : powO 10 18 = some 1000000000000000000 := by
    unfold powO
    rw [if_pos (by decide)]
    rfl
  have ha : 0 ≤ absZ r := by unfold absZ; split <;> omega
  refine w_o hp (w_if (fun h => w_rt ⟨ha, .inl rfl, Int.le_refl _, Int.le_refl _⟩) fun h => ?_)
  have h : absZ r < 1000000000000000000 := by simpa using h
  refine w_o (mul_eq (na200 (p := 60) ha (by omega) (by decide)) (by decide)) (w_rt ⟨?_, .inr ?_, Int.le_refl _, Int.le_refl _⟩)
  · show 0 ≤ absZ r * 64 + k
    omega
  · show absZ r * 64 + k < 2 ^ 66
    omega
/-! ### texts as lists of signs -/
def sL (l : List Nat) : Str := ⟨l.toArray⟩
def lit (x : Str) : List Nat := x.cps.toList
theorem str_sL (x : Str) : x = sL (lit x) := by cases x with | mk a => simp [sL, lit]
theorem lit_sL (l : List Nat) : lit (sL l) = l := by simp [lit, sL]
theorem sL_inj {a b : List Nat} (h : sL a = sL b) : a = b := by rw [← lit_sL a, ← lit_sL b, h]
theorem sL_app (a b : List Nat) : sL a ++ sL b = sL (a ++ b) := by
  show Str.mk (a.toArray ++ b.toArray) = Str.mk (a ++ b).toArray
  rw [List.append_toArray]
theorem sL_len (a : List Nat) : (sL a).length = a.length := by
  show (a.toArray).size = _
  simp
theorem cat_eq {a b : List Nat} (h : a.length + b.length ≤ 16777216) : catS (sL a) (sL b) = some (sL (a ++ b)) := by
  unfold catS
  rw [sL_len, sL_len, sL_app, if_pos (by exact h)]
def Low (l : List Nat) : Prop := ∀ c ∈ l, 97 ≤ c ∧ c ≤ 122
def Nam (l : List Nat) : Prop := 1 ≤ l.length ∧ l.length ≤ 8 ∧ Low l
def NamS (x : Str) : Prop := ∃ l, x = sL l ∧ Nam l
theorem Low.app {a b : List Nat} (h : Low a) (h' : Low b) : Low (a ++ b) := fun c hc => (List.mem_append.mp hc).elim (h c) (h' c)
theorem Low.take {a : List Nat} (h : Low a) (n : Nat) : Low (a.take n) := fun c hc => h c (List.mem_of_mem_take hc)
theorem NamS.ok {x : Str} (h : NamS x) : PyData.strOk x = true := by
  obtain ⟨l, rfl, _, _, h3⟩ := h
  unfold PyData.strOk sL
  simp only [List.all_toArray, List.all_eq_true, decide_eq_true_eq]
  intro c hc
  have := h3 c hc
  show c < 1114112
  omega
abbrev abc : Str := "abcdefghijklmnopqrstuvwxyz"
theorem abc_at : ∀ k : Fin 26, atI abc.cps.toList (k.val : Int) = some (97 + k.val) := by decide +kernel
theorem abc_len : abc.length = 26 := by decide +kernel
theorem chr_abc {v : Int} (h0 : 0 ≤ v) (h1 : v < 26) : chrAt abc v = some (sL [97 + v.toNat]) := by
  have h := abc_at ⟨v.toNat, by omega⟩
  have e : ((v.toNat : Nat) : Int) = v := by omega
  simp only [e] at h
  unfold chrAt
  rw [if_pos (show abc.length ≤ lim by rw [abc_len]; decide), h]
  rfl
theorem word {n : Nat} {s : Int × Int × Bool} (h : SK n s) (hn : n < 2 ^ 38) : Wr (T__law_word s) fun r => NamS r.1 ∧ SK (n + 9) r.2 := by
  unfold T__law_word
  refine w_call (draw (m := 8) h (by omega) (by decide) (by decide)) ?_
  rintro ⟨v, s1⟩ ⟨⟨v0, v1⟩, h1⟩
  simp only at v0 v1 h1
  refine w_o (rng1_eq (by omega) (by omega)) (w_for (fun k q => SK (n + 1 + k) q.1 ∧ ∃ l, q.2 = sL l ∧ l.length = k ∧ Low l) ⟨h1, [], rfl, rfl, fun c hc => by cases hc⟩ ?_ ?_)
  · rintro i x ⟨s2, w⟩ hx ⟨h2, l, hw, hl, hlow⟩
    obtain ⟨hi, _⟩ := rngL_get hx
    simp only at h2 hw
    subst hw
    unfold L__law_word_1
    refine w_call (draw (m := 26) h2 (by omega) (by decide) (by decide)) ?_
    rintro ⟨u, s3⟩ ⟨⟨u0, u1⟩, h3⟩
    refine w_o (chr_abc u0 u1) (w_o (cat_eq (by simp; omega)) (w_nx ⟨h3, _, rfl, by simp [hl], hlow.app fun c hc => ?_⟩))
    have : c = 97 + u.toNat := by simpa using hc
    simp only at u0 u1
    omega
  · rintro ⟨s2, w⟩ ⟨h2, l, hw, hl, hlow⟩
    rw [rngL_len] at h2 hl
    exact w_rt ⟨⟨l, hw, by omega, by omega, hlow⟩, h2.mono (by omega)⟩
/-! ### names -/
theorem toPs_str : ∀ ls : List Str, toP.toPs (ls.map eS) = some (ls.map PyData.str)
  | [] => rfl
  | x :: r => by
    have := toPs_str r
    simp [toP.toPs, toP, this]
theorem ne_nil {o o' : Bool} {ls : List Str} (h : ∀ x ∈ ls, PyData.strOk x = true) : boolO (flat2 fNeX (eQ o .lst eS ls) (eQ o' .lst eS [])) = some (!ls.isEmpty) := by
  have := DL.ne_nil (o := o) (o' := o') h
  show boolO (flat2 fNeX (.bx o .lst (ls.map .str)) (.bx o' .lst [])) = _
  rw [this]
  rfl
theorem cut8 {l : List Nat} (h : l.length ≤ 16777216) : cutSO (sL l) none (some 8) = some (sL (l.take 8)) := by
  unfold cutSO
  rw [if_pos (show (sL l).length ≤ lim by rw [sL_len]; exact h)]
  have : cutS (sL l) none (some 8) = sL (l.take 8) := by
    unfold cutS sL
    simp [HT.sIx]
    rw [show (Str.mk l.toArray).length = l.length from sL_len l]
    omega
  rw [this]
theorem at_last {α : Type} {ls : List α} {x : α} (h : ls.getLast? = some x) : atI ls (-1) = some x := by
  have hn : ls ≠ [] := fun z => by subst z; cases h
  have hl : 0 < ls.length := List.length_pos_iff.mpr hn
  have e1 : ixN ls.length (-1) = some (ls.length - 1) := by
    unfold ixN
    rw [if_neg (by decide), if_pos (by omega)]
    congr 1
    omega
  unfold atI
  rw [e1]
  rw [List.getLast?_eq_getElem?] at h
  exact h
def NmI (ls : List Str) : Prop := ls.Nodup ∧ ∀ x ∈ ls, NamS x
theorem names {n : Nat} {s : Int × Int × Bool} {m : Int} (h : SK n s) (hn : n < 2 ^ 36) (h0 : 0 < m) (h1 : m ≤ 50) : Wr (T__law_names s m) fun r => (r.1 ≠ [] ∧ (r.1.length : Int) ≤ m ∧ NmI r.1) ∧ SK (n + 500) r.2 := by
  unfold T__law_names
  refine w_o (rng1_eq (by omega) (by omega)) (w_for (fun k q => SK (n + 10 * k) q.1 ∧ q.2.length ≤ k ∧ (0 < k → q.2 ≠ []) ∧ NmI q.2) ⟨h.mono (by omega), by simp, fun z => absurd z (by decide), List.nodup_nil, fun x hx => by cases hx⟩ ?_ ?_)
  · rintro i x ⟨s2, ls⟩ hx ⟨h2, hl, hne, nd, hN⟩
    obtain ⟨hi, _⟩ := rngL_get hx
    simp only at h2 hl hne nd hN
    unfold L__law_names_1
    refine w_call (draw (m := 3) h2 (by omega) (by decide) (by decide)) ?_
    rintro ⟨v, s3⟩ ⟨⟨v0, v1⟩, h3⟩
    refine w_call (word h3 (by omega)) ?_
    rintro ⟨w, s4⟩ ⟨hw, h4⟩
    simp only at v0 v1 h3 hw h4 ⊢
    refine w_o (ne_nil fun x hx => (hN x hx).ok) ?_
    refine w_call (R := fun c => c = true → ls ≠ []) ?_ fun c hc => ?_
    · refine w_if (fun hb => w_rt fun _ z => ?_) fun _ => w_rt fun z => by cases z
      subst z
      simp at hb
    refine w_c NamS ?_ fun nm hnm => ?_
    · refine w_if (fun hc1 => ?_) fun _ => w_nx hw
      obtain ⟨x, hx⟩ : ∃ x, ls.getLast? = some x := by
        cases h : ls.getLast? with
        | none => exact absurd (List.getLast?_eq_none_iff.mp h) (hc hc1)
        | some x => exact ⟨x, rfl⟩
      obtain ⟨lx, rfl, hlx⟩ := hN x (List.mem_of_getLast? hx)
      obtain ⟨lw, rfl, hlw⟩ := hw
      refine w_o (at_last hx) (w_o (cat_eq (by have := hlx.2.1; have := hlw.2.1; omega)) (w_o (cut8 (by have := hlx.2.1; have := hlw.2.1; simp; omega)) (w_nx ⟨_, rfl, ?_, ?_, (hlx.2.2.app hlw.2.2).take 8⟩)))
      · have := hlx.1; simp; omega
      · simp; omega
    refine w_c (fun q => q.length ≤ i + 1 ∧ q ≠ [] ∧ NmI q) ?_ fun q hq => w_nx ⟨h4.mono (by omega), hq.1, fun _ => hq.2.1, hq.2.2⟩
    refine w_if (fun hm => ?_) fun hm => w_nx ⟨by omega, fun z => ?_, nd, hN⟩
    · have hm : nm ∉ ls := by simpa using hm
      refine w_o (app_eq (by unfold lim; omega)) (w_nx ⟨by simp; omega, by simp, ?_, fun x hx => ?_⟩)
      · rw [List.nodup_append]
        exact ⟨nd, by simp, fun a ha b hb => by
          have : b = nm := by simpa using hb
          subst this
          exact fun z => hm (z ▸ ha)⟩
      · rcases List.mem_append.mp hx with hx | hx
        · exact hN x hx
        · have : x = nm := by simpa using hx
          exact this ▸ hnm
    · subst z
      simp at hm
  · rintro ⟨s2, ls⟩ ⟨h2, hl, hne, nd, hN⟩
    rw [rngL_len] at h2 hl hne
    exact w_rt ⟨⟨hne (by omega), by simp only at hl ⊢; omega, nd, hN⟩, h2.mono (by omega)⟩
/-! ### moves -/
def RowOk (p a : Nat) (r : List Int) : Prop := r.length = p ∧ (∀ x, r[a]? = some x → x = 0) ∧ ∀ x ∈ r, 0 ≤ x ∧ x ≤ 9
def MovesOk (p : Nat) (m : List (List Int)) : Prop := m.length = p ∧ ∀ i r, m[i]? = some r → RowOk p i r
theorem mem_app1 {α : Type} {P : α → Prop} {l : List α} {y : α} (h : ∀ x ∈ l, P x) (hy : P y) : ∀ x ∈ l ++ [y], P x := fun x hx => by
  rcases List.mem_append.mp hx with hx | hx
  · exact h x hx
  · have : x = y := by simpa using hx
    exact this ▸ hy
theorem get_app1 {α : Type} {l : List α} {y x : α} {i : Nat} (h : (l ++ [y])[i]? = some x) : l[i]? = some x ∨ (i = l.length ∧ x = y) := by
  by_cases hlt : i < l.length
  · rw [List.getElem?_append_left hlt] at h
    exact .inl h
  · rw [List.getElem?_append_right (by omega)] at h
    have hj := (List.getElem?_eq_some_iff.mp h).1
    have : i - l.length = 0 := by simp at hj; omega
    rw [this] at h
    exact .inr ⟨by omega, by simpa using h.symm⟩
theorem moves {n : Nat} {s : Int × Int × Bool} {p : Int} (h : SK n s) (hn : n < 2 ^ 35) (hp0 : 0 ≤ p) (hp : p ≤ 6) : Wr (T__law_moves s p 9) fun r => MovesOk p.toNat r.1 ∧ SK (n + 36) r.2 := by
  unfold T__law_moves
  refine w_o (rng1_eq (by omega) (by omega)) (w_for (fun k q => SK (n + 6 * k) q.1 ∧ q.2.length = k ∧ ∀ i r, q.2[i]? = some r → RowOk p.toNat i r) ⟨h, rfl, fun i r z => by simp at z⟩ ?_ ?_)
  · rintro a x ⟨s2, m⟩ hx ⟨h2, hl, hr⟩
    obtain ⟨hi, rfl⟩ := rngL_get hx
    simp only at h2 hl hr
    unfold L__law_moves_1
    refine w_o (rng1_eq (by omega) (by omega)) ?_
    refine w_call (w_comp (fun k acc q => SK (n + 6 * a + k) q ∧ acc.length = k ∧ (∀ x, acc[a]? = some x → x = 0) ∧ ∀ x ∈ acc, 0 ≤ x ∧ x ≤ 9) (by rw [rngL_len]; unfold lim; omega) ⟨h2, rfl, fun x z => by simp at z, fun x z => by cases z⟩ ?_) ?_
    · rintro b y acc q hy ⟨h3, hl3, h03, h93⟩
      obtain ⟨hb, rfl⟩ := rngL_get hy
      unfold C__law_moves_2
      refine w_call (draw (m := 10) h3 (by omega) (by decide) (by decide)) ?_
      rintro ⟨v, s3⟩ ⟨⟨v0, v1⟩, h4⟩
      simp only at v0 v1 h4
      refine w_o (mul_eq (na200 (p := 10) v0 (by omega) (by decide)) (by split <;> decide)) (w_rt ⟨h4.mono (by omega), by simp [hl3], fun x hx => ?_, mem_app1 h93 ?_⟩)
      · rcases get_app1 hx with hx | ⟨e, rfl⟩
        · exact h03 x hx
        · have : (0 : Int) + (a : Nat) = 0 + (b : Nat) := by omega
          simp [this]
      · split <;> (simp only; omega)
    · rintro ⟨r, s3⟩ ⟨h3, hl3, h03, h93⟩
      rw [rngL_len] at h3 hl3
      simp only at h3 hl3 h03 h93
      refine w_o (app_eq (by unfold lim; omega)) (w_nx ⟨h3.mono (by omega), by simp [hl], fun i q hq => ?_⟩)
      rcases get_app1 hq with hq | ⟨e, rfl⟩
      · exact hr i q hq
      · rw [e, hl]
        exact ⟨hl3, h03, h93⟩
  · rintro ⟨s2, m⟩ ⟨h2, hl, hr⟩
    rw [rngL_len] at h2 hl
    exact w_rt ⟨⟨hl, hr⟩, h2.mono (by omega)⟩
end LawP

set_option maxHeartbeats 1000000
/-! U2: prices, requests, turns. -/
namespace LawP
open PySem L2 DL TL
def PricesOk (p : Nat) (r : List (Option Int)) : Prop := r.length = p ∧ (∃ i, some i ∈ r) ∧ ∀ i, some i ∈ r → 0 ≤ i ∧ i ≤ 9
def pO : Option Int → PyData
  | none => .none
  | some i => .int i
theorem toPs_O : ∀ r : List (Option Int), toP.toPs (r.map (eO eI)) = some (r.map pO)
  | [] => rfl
  | none :: r => by simp [toP.toPs, toP, eO, pO, toPs_O r]
  | some i :: r => by simp [toP.toPs, toP, eO, pO, toPs_O r]
theorem lay_O : ∀ r : List (Option Int), PyData.canLayAll0 (r.map pO) = true ∧ PyData.depthAll (r.map pO) = 0
  | [] => by simp [PyData.canLayAll0, PyData.depthAll]
  | none :: r => by simp [PyData.canLayAll0, PyData.canLay0, PyData.depthAll, PyData.depth, pO, lay_O r]
  | some i :: r => by simp [PyData.canLayAll0, PyData.canLay0, PyData.depthAll, PyData.depth, pO, lay_O r]
theorem eqv_nones : ∀ r : List (Option Int), PyData.eqvAll (r.map pO) ((List.replicate r.length none).map pO) = r.all (·.isNone)
  | [] => by simp [PyData.eqvAll]
  | none :: r => by simp [PyData.eqvAll, PyData.eqv, pO, List.replicate_succ] ; have := eqv_nones r; simpa [pO] using this
  | some i :: r => by simp [PyData.eqvAll, PyData.eqv, pO, List.replicate_succ]
theorem eq_nones {o o' : Bool} {r : List (Option Int)} {n : Nat} (hn : n = r.length) : boolO (flat2 fEqX (eQ o .lst (eO eI) r) (eQ o' .lst eN (List.replicate n ()))) = some (r.all (·.isNone)) := by
  subst hn
  have e0 : eQ o' .lst eN (List.replicate r.length ()) = .bx o' .lst ((List.replicate r.length (none : Option Int)).map (eO eI)) := by
    unfold eQ
    simp [eO]
  rw [e0]
  show boolO (flat2 fEqX (.bx o .lst (r.map (eO eI))) _) = _
  have e : fEq (.bx o .lst (r.map (eO eI))) (.bx o' .lst ((List.replicate r.length none).map (eO eI))) = some (.bl (r.all (·.isNone))) := by
    unfold fEq eqB
    simp only [toP, toPs_O, Option.map_some]
    obtain ⟨h1, h2⟩ := lay_O r
    obtain ⟨h3, h4⟩ := lay_O (List.replicate r.length none)
    have hs : (SeqAt.shaped (.list (r.map pO)) && SeqAt.shaped (.list ((List.replicate r.length none).map pO))) = true := by
      simp only [SeqAt.shaped, PyData.canLay0, PyData.depth, h1, h2, h3, h4]
      decide
    rw [if_pos hs]
    simp only [PyData.eqv, eqv_nones, Option.map_some]
  have e2 : flat2 fEqX (.bx o .lst (r.map (eO eI))) (.bx o' .lst ((List.replicate r.length none).map (eO eI))) = some (.bl (r.all (·.isNone))) := by
    show ((eqS false (.bx o .lst (r.map (eO eI))) (.bx o' .lst ((List.replicate r.length none).map (eO eI)))).orElse fun _ => (fEq (.bx o .lst (r.map (eO eI))) (.bx o' .lst ((List.replicate r.length none).map (eO eI)))).orElse fun _ => eq0 false (.bx o .lst (r.map (eO eI))) (.bx o' .lst ((List.replicate r.length none).map (eO eI)))).bind _ = _
    rw [e]
    rfl
  rw [e2]
  rfl
theorem rep_eq {n : Int} (h0 : 0 ≤ n) (h : n < 1000) : repO [()] n = some (List.replicate n.toNat ()) := by
  unfold repO
  rw [if_pos ⟨by omega, by omega, by simp [lim]; omega⟩]
  unfold repL
  simp
theorem prices {n : Nat} {s : Int × Int × Bool} {p : Int} (h : SK n s) (hn : n < 2 ^ 35) (hp0 : 0 < p) (hp : p ≤ 6) : Wr (T__law_prices s p 9) fun r => PricesOk p.toNat r.1 ∧ SK (n + 8) r.2 := by
  unfold T__law_prices
  refine w_call (draw (m := p) h (by omega) hp0 (by omega)) ?_
  rintro ⟨v, s1⟩ ⟨⟨v0, v1⟩, h1⟩
  simp only at v0 v1 h1
  refine w_o (rng1_eq (by omega) (by omega)) (w_for (fun k q => SK (n + 1 + k) q.1 ∧ q.2.length = k ∧ ∀ i, some i ∈ q.2 → 0 ≤ i ∧ i ≤ 9) ⟨h1, rfl, fun i z => by simp at z⟩ ?_ ?_)
  · rintro b x ⟨s2, r⟩ hx ⟨h2, hl, hr⟩
    obtain ⟨hi, _⟩ := rngL_get hx
    simp only at h2 hl hr
    unfold L__law_prices_1
    refine w_call (draw (m := 12) h2 (by omega) (by decide) (by decide)) ?_
    rintro ⟨w, s3⟩ ⟨⟨w0, w1⟩, h3⟩
    simp only at w0 w1 h3
    have hlim : r.length < lim := by unfold lim; omega
    refine w_c (fun q => q.length = b + 1 ∧ ∀ i, some i ∈ q → 0 ≤ i ∧ i ≤ 9) ?_ fun q hq => w_nx ⟨h3.mono (by omega), hq.1, hq.2⟩
    refine w_if (fun hw => w_o (app_eq hlim) (w_nx ⟨by simp [hl], fun i hi => ?_⟩)) fun hw => w_o (app_eq hlim) (w_nx ⟨by simp [hl], fun i hi => ?_⟩)
    · rcases List.mem_append.mp hi with hi | hi
      · exact hr i hi
      · have : i = w := by simpa using hi
        have hw : w ≤ 9 := by simpa using hw
        omega
    · rcases List.mem_append.mp hi with hi | hi
      · exact hr i hi
      · simp at hi
  · rintro ⟨s2, r⟩ ⟨h2, hl, hr⟩
    rw [rngL_len] at h2 hl
    simp only at h2 hl hr
    refine w_o (rep_eq (by omega) (by omega)) (w_o (eq_nones (by omega)) ?_)
    refine w_c (fun q => SK (n + 8) q.1 ∧ PricesOk p.toNat q.2) ?_ fun q hq => w_rt ⟨hq.2, hq.1⟩
    refine w_if (fun hall => ?_) fun hall => w_nx ⟨h2.mono (by omega), hl, ?_, hr⟩
    · refine w_call (draw (m := 10) h2 (by omega) (by decide) (by decide)) ?_
      rintro ⟨w, s3⟩ ⟨⟨w0, w1⟩, h3⟩
      simp only at w0 w1 h3
      refine w_o (set_eq v0 (by omega)) (w_nx ⟨h3.mono (by omega), by simp [hl], ⟨w, List.mem_of_getElem? (i := v.toNat) (by rw [List.getElem?_set_self (by omega)])⟩, fun j hj => ?_⟩)
      rcases List.mem_or_eq_of_mem_set hj with hj | hj
      · exact hr j hj
      · cases hj; omega
    · obtain ⟨x, hx, hn⟩ := List.all_eq_false.mp hall
      cases x with
      | none => simp at hn
      | some i => exact ⟨i, hx⟩
def ReqOk (p : Nat) (ns : List Str) (q : List (Str × List (Option Int))) : Prop := q.map (·.1) = ns ∧ ∀ x ∈ q, PricesOk p x.2
theorem take_succ' {α : Type} {l : List α} {i : Nat} {y : α} (h : l[i]? = some y) : l.take (i + 1) = l.take i ++ [y] := by rw [List.take_add_one, h]; rfl
theorem nodup_take {α : Type} {l : List α} (nd : l.Nodup) {i : Nat} {y : α} (h : l[i]? = some y) : y ∉ l.take i := fun z => by
  have hi := (List.getElem?_eq_some_iff.mp h).1
  obtain ⟨j, hj, e⟩ := List.mem_iff_getElem.mp z
  have hji : j < i := by simp at hj; omega
  rw [List.getElem_take] at e
  have : l[i]'hi = y := (List.getElem?_eq_some_iff.mp h).2
  have := (List.getElem_inj nd).mp (e.trans this.symm)
  omega
theorem requests {n : Nat} {s : Int × Int × Bool} {p : Int} {ns : List Str} (h : SK n s) (hn : n < 2 ^ 34) (hp0 : 0 < p) (hp : p ≤ 6) (hl5 : ns.length ≤ 50) (nd : ns.Nodup) : Wr (T__law_requests s ns p 9) fun r => ReqOk p.toNat ns r.1 ∧ SK (n + 400) r.2 := by
  unfold T__law_requests
  refine w_for (fun k q => SK (n + 8 * k) q.1 ∧ q.2.map (·.1) = ns.take k ∧ ∀ x ∈ q.2, PricesOk p.toNat x.2) ⟨h, rfl, fun x z => by cases z⟩ ?_ ?_
  · rintro i y ⟨s2, q⟩ hy ⟨h2, hk, hr⟩
    have hi := (List.getElem?_eq_some_iff.mp hy).1
    simp only at h2 hk hr
    unfold L__law_requests_1
    refine w_call (prices h2 (by omega) hp0 hp) ?_
    rintro ⟨r, s3⟩ ⟨h3, h4⟩
    have hlen : q.length = i := by
      have := congrArg List.length hk
      simp at this
      omega
    refine w_o (put_eq (by unfold lim; omega)) (w_nx ⟨h4.mono (by omega), ?_, ?_⟩)
    · show (putL q y r).map (·.1) = _
      rw [putL_new (by rw [hk]; exact nodup_take nd hy), List.map_append, hk, take_succ' hy]
      rfl
    · show ∀ x ∈ putL q y r, _
      rw [putL_new (by rw [hk]; exact nodup_take nd hy)]
      exact mem_app1 hr h3
  · rintro ⟨s2, q⟩ ⟨h2, hk, hr⟩
    rw [List.take_length] at hk
    exact w_rt ⟨⟨hk, hr⟩, h2.mono (by omega)⟩
/-- the turns of a state -/
def TurnOk (st : Int) (ns : List Str) (q : List (Str × Int)) : Prop := (q.map (·.1)).Nodup ∧ (∀ x ∈ q, x.1 ∈ ns ∧ 0 ≤ x.2 ∧ x.2 < st) ∧ q.length ≤ ns.length ∧ q ≠ []
theorem turns {n : Nat} {s : Int × Int × Bool} {st : Int} {ns : List Str} (h : SK n s) (hn : n < 2 ^ 33) (hs0 : 0 < st) (hs4 : st ≤ 4) (hl5 : ns.length ≤ 50) (hne : ns ≠ []) (nd : ns.Nodup) : Wr (T__law_turns s ns st) fun r => (r.1.length = st.toNat ∧ ∀ q ∈ r.1, TurnOk st ns q) ∧ SK (n + 500) r.2 := by
  unfold T__law_turns
  have hpos : 0 < ns.length := List.length_pos_iff.mpr hne
  refine w_o (rng1_eq (by omega) (by omega)) (w_for (fun k q => SK (n + 110 * k) q.1 ∧ q.2.length = k ∧ ∀ x ∈ q.2, TurnOk st ns x) ⟨h, rfl, fun x z => by cases z⟩ ?_ ?_)
  · rintro i x ⟨s2, ts⟩ hx ⟨h2, hl, ht⟩
    obtain ⟨hi, _⟩ := rngL_get hx
    simp only at h2 hl ht
    unfold L__law_turns_1
    refine w_call (draw (m := (ns.length : Int)) h2 (by omega) (by omega) (by omega)) ?_
    rintro ⟨v, s3⟩ ⟨⟨v0, v1⟩, h3⟩
    simp only at v0 v1 h3
    refine w_for (fun k q => SK (n + 110 * i + 1 + 2 * k) q.1 ∧ (∀ x ∈ q.2, x.1 ∈ ns.take k ∧ 0 ≤ x.2 ∧ x.2 < st) ∧ (q.2.map (·.1)).Nodup ∧ q.2.length ≤ k) ⟨h3, (fun x z => by cases z), List.nodup_nil, Nat.le_refl _⟩ ?_ ?_
    · rintro j y ⟨s4, q⟩ hy ⟨h4, hq, hnd, hle⟩
      have hj := (List.getElem?_eq_some_iff.mp hy).1
      simp only at h4 hq hnd hle
      have up : ∀ x ∈ q, x.1 ∈ ns.take (j + 1) ∧ 0 ≤ x.2 ∧ x.2 < st := fun x hx => ⟨by rw [take_succ' hy]; exact List.mem_append_left _ (hq x hx).1, (hq x hx).2⟩
      unfold L__law_turns_2
      refine w_call (draw (m := 3) h4 (by omega) (by decide) (by decide)) ?_
      rintro ⟨w, s5⟩ ⟨⟨w0, w1⟩, h5⟩
      simp only at w0 w1 h5
      refine w_c (fun q => SK (n + 110 * i + 1 + 2 * (j + 1)) q.1 ∧ (∀ x ∈ q.2, x.1 ∈ ns.take (j + 1) ∧ 0 ≤ x.2 ∧ x.2 < st) ∧ (q.2.map (·.1)).Nodup ∧ q.2.length ≤ j + 1) ?_ fun q hq => w_nx hq
      refine w_if (fun hw => ?_) fun _ => w_nx ⟨h5.mono (by omega), up, hnd, by simp only; omega⟩
      refine w_call (draw (m := st) h5 (by omega) hs0 (by omega)) ?_
      rintro ⟨u, s6⟩ ⟨⟨u0, u1⟩, h6⟩
      simp only at u0 u1 h6
      have hnew : y ∉ q.map (·.1) := fun hz => by
        obtain ⟨p, hp, e⟩ := List.mem_map.mp hz
        exact nodup_take nd hy (e ▸ (hq p hp).1)
      refine w_o (put_eq (by unfold lim; omega)) ?_
      rw [putL_new hnew]
      refine w_nx ⟨h6.mono (by omega), mem_app1 up ⟨by rw [take_succ' hy]; simp, u0, u1⟩, ?_, by simp; omega⟩
      rw [List.map_append, List.nodup_append]
      exact ⟨hnd, by simp, fun a ha b hb => by
        have : b = y := by simpa using hb
        subst this
        exact fun z => hnew (z ▸ ha)⟩
    · rintro ⟨s4, q⟩ ⟨h4, hq, hnd, hle⟩
      simp only [List.take_length] at h4 hq hnd hle
      refine w_c (fun q => SK (n + 110 * (i + 1)) q.1 ∧ TurnOk st ns q.2) ?_ ?_
      · refine w_if (fun he => ?_) fun he => w_nx ⟨h4.mono (by omega), hnd, hq, hle, fun z => by subst z; simp at he⟩
        have hq0 : q = [] := by simpa using he
        subst hq0
        refine w_call (draw (m := st) h4 (by omega) hs0 (by omega)) ?_
        rintro ⟨u, s6⟩ ⟨⟨u0, u1⟩, h6⟩
        simp only at u0 u1 h6
        refine w_o (atI_of v0 (by omega)) (w_o (put_eq (by decide)) (w_nx ⟨h6.mono (by omega), ?_⟩))
        exact ⟨by simp [putL], fun x hx => by
          have : x = (ns[v.toNat]'(by omega), u) := by simpa [putL] using hx
          subst this
          exact ⟨List.getElem_mem _, u0, u1⟩, by simp [putL]; omega, by simp [putL]⟩
      · rintro ⟨s5, q5⟩ ⟨h5, hq5⟩
        exact w_o (app_eq (by unfold lim; omega)) (w_nx ⟨h5, by simp [hl], mem_app1 ht hq5⟩)
  · rintro ⟨s2, ts⟩ ⟨h2, hl, ht⟩
    rw [rngL_len] at h2 hl
    exact w_rt ⟨⟨hl, ht⟩, h2.mono (by omega)⟩
end LawP

set_option maxHeartbeats 1000000
/-! U3: what the judges say of right things; ways. -/
namespace LawP
open PySem L2 DL TL
theorem is_integer_i (x : Int) : T_is_integer (.int x) = .rt true := by
  unfold T_is_integer
  rfl
theorem is_integer_n : T_is_integer .non = .rt false := by
  unfold T_is_integer
  rfl
theorem le_i (x y : Int) : boolO (flat2 fLe (eI x) (eI y)) = some (decide (x ≤ y)) := rfl
theorem is_number_i (x lo hi : Int) : T_is_number (.int x) lo hi = .rt (decide (lo ≤ x) && decide (x ≤ hi)) := by
  unfold T_is_number
  rw [show rd (.int x) = .int x from rfl, is_integer_i]
  simp only [callT_rt, if_true]
  rw [show boolO (flat2 fLe (eI lo) (eD (.int x))) = some (decide (lo ≤ x)) from rfl, show boolO (flat2 fLe (eD (.int x)) (eI hi)) = some (decide (x ≤ hi)) from rfl]
  simp only [bindO_some]
  by_cases h : lo ≤ x
  · simp [h]
  · simp [h]
theorem num_ok {x lo hi : Int} (h1 : lo ≤ x) (h2 : x ≤ hi) : T_is_number (.int x) lo hi = .rt true := by
  rw [is_number_i, decide_eq_true h1, decide_eq_true h2]
  rfl
theorem lt_of_small {n : Nat} (h : n < 1000000) : n < lim := Nat.lt_of_lt_of_le h (by decide)
/-- a sign -/
theorem sign_ok {c : Nat} (h : 97 ≤ c ∧ c ≤ 122) : (!strLt ⟨#[c]⟩ "a") = true ∧ (!strLt "z" ⟨#[c]⟩) = true := by
  have e1 : strLt ⟨#[c]⟩ "a" = decide (c < 97) := by
    show decide ([c] < [97]) = _
    congr 1
    simp [List.cons_lt_cons_iff]
  have e2 : strLt "z" ⟨#[c]⟩ = decide (122 < c) := by
    show decide ([122] < [c]) = _
    congr 1
    simp [List.cons_lt_cons_iff]
  rw [e1, e2]
  simp
  omega
theorem len_str {l : List Nat} (h : l.length ≤ 16777216) : intO (flat1 lenD (.str (sL l))) = some (l.length : Int) := by
  have hz : (sL l).length ≤ lim := by rw [sL_len]; exact h
  have : lenD (.str (sL l)) = some (.int l.length) := by
    show (if (sL l).length ≤ lim then some (D.int (sL l).length) else none) = _
    rw [if_pos hz, sL_len]
  simp [flat1, this, sv, intO]
theorem is_name_ok {x : Str} (h : NamS x) : T_is_name (.str x) = .rt true := by
  obtain ⟨l, rfl, h1, h8, hw⟩ := h
  unfold T_is_name
  rw [show rd (.str (sL l)) = .str (sL l) from rfl, show isiO .str (.str (sL l)) = some true from rfl]
  simp only [bindO_some, Bool.not_true, Bool.false_eq_true, if_false]
  rw [show eD (D.str (sL l)) = .str (sL l) from rfl, len_str (by omega)]
  simp only [bindO_some, callT_rt, decide_eq_true (show (1 : Int) ≤ l.length by omega), decide_eq_true (show (l.length : Int) ≤ 8 by omega), Bool.and_self, Bool.not_true, Bool.false_eq_true, if_false]
  rw [show rd (.str (sL l)) = .str (sL l) from rfl, show itemsD (.str (sL l)) = some (l.map fun c => .str ⟨#[c]⟩) by simp [itemsD, sL]]
  simp only [bindO_some]
  rw [compG_map (fun _ => true) (by rw [List.length_map]; exact lt_of_small (by omega)) fun d hd => ?_]
  · simp
  · obtain ⟨c, hc, rfl⟩ := List.mem_map.mp hd
    obtain ⟨g1, g2⟩ := sign_ok (hw c hc)
    unfold C_is_name_1
    rw [show rd (.str ⟨#[c]⟩) = .str ⟨#[c]⟩ from rfl, show boolO (flat2 fLe (eS "a") (eD (.str ⟨#[c]⟩))) = some (!strLt ⟨#[c]⟩ "a") from rfl, show boolO (flat2 fLe (eD (.str ⟨#[c]⟩)) (eS "z")) = some (!strLt "z" ⟨#[c]⟩) from rfl, g1, g2]
    rfl
theorem len_q {o : Bool} {k : BK} {α : Type} {e : α → D} {xs : List α} (hk : sqk k = true) : intO (flat1 lenD (eQ o k e xs)) = some (xs.length : Int) := by
  rw [t_lenQ hk]
  rfl
theorem enumL_get {α : Type} {x : Int × α} : ∀ {xs : List α} {k i : Nat}, (enumL k xs)[i]? = some x → ∃ y, xs[i]? = some y ∧ x = (((k + i : Nat) : Int), y)
  | [], k, i, h => by cases h
  | y :: r, k, 0, h => by
    have : ((k : Int), y) = x := by simpa [enumL] using h
    exact ⟨y, rfl, by rw [← this]; rfl⟩
  | y :: r, k, i + 1, h => by
    have h : (enumL (k + 1) r)[i]? = some x := by simpa [enumL] using h
    obtain ⟨z, h1, h2⟩ := enumL_get h
    refine ⟨z, by simpa using h1, ?_⟩
    rw [h2, show k + 1 + i = k + (i + 1) by omega]
theorem all_true {α : Type} (l : List α) : ((l.map fun _ => true).all id) = true := by simp
theorem sub_q {o : Bool} {r : List Int} {i : Int} {k : BK} (hk : sqk k = true) (h0 : 0 ≤ i) (h : i < r.length) : subV (eQ o k eI r) (eI i) = some (.int (r[i.toNat]'(by omega))) := t_subQ hk (fun _ => rfl) _ (atI_of h0 h)
theorem are_moves_ok {p : Nat} {m : List (List Int)} (h : MovesOk p m) (h1 : 1 ≤ p) (h6 : p ≤ 6) : T_are_moves (eQ false .tup (eQ false .tup eI) m) = .rt true := by
  obtain ⟨hl, hr⟩ := h
  have key : Wr (T_are_moves (eQ false .tup (eQ false .tup eI) m)) fun b => b = true := by
    unfold T_are_moves
    rw [show rd (eQ false .tup (eQ false .tup eI) m) = eQ false .tup (eQ false .tup eI) m from rfl]
    refine w_o (show isiO .tuple _ = some true from rfl) (w_call (R := fun c => c = false) (w_iff rfl (w_o (len_q rfl) (w_rt ?_))) fun c hc => w_iff hc ?_)
    · rw [decide_eq_true (show (1 : Int) ≤ m.length by omega), decide_eq_true (show (m.length : Int) ≤ 6 by omega)]
      rfl
    · have e : enumDO (eQ false .tup (eQ false .tup eI) m) = some ((enumL 0 m).map fun z => (z.1, eQ false .tup eI z.2)) := by
        have : ∀ (k : Nat) (xs : List (List Int)), enumL k (xs.map (eQ false .tup eI)) = (enumL k xs).map fun z => (z.1, eQ false .tup eI z.2) := by
          intro k xs
          induction xs generalizing k with
          | nil => rfl
          | cons y r ih => simp [enumL, ih]
        show some (enumL 0 (m.map (eQ false .tup eI))) = _
        rw [this]
      refine w_o e (w_for (fun _ _ => True) trivial (fun i z v hz _ => ?_) fun _ _ => w_rt rfl)
      rw [List.getElem?_map] at hz
      obtain ⟨z', hz', rfl⟩ := Option.map_eq_some_iff.mp hz
      obtain ⟨r, h3, rfl⟩ := enumL_get hz'
      obtain ⟨hlr, h0, h9⟩ := hr i r h3
      have him : i < m.length := (List.getElem?_eq_some_iff.mp h3).1
      unfold L_are_moves_1
      simp only
      rw [show rd (eQ false .tup eI r) = eQ false .tup eI r from rfl]
      refine w_o (show isiO .tuple _ = some true from rfl) (w_call (R := fun c => c = false) (w_iff rfl (w_o (len_q rfl) (w_o (len_q rfl) (w_rt ?_)))) fun c hc => w_iff hc ?_)
      · rw [decide_eq_true (show (r.length : Int) = m.length by omega)]
        rfl
      refine w_o (show itemsD (rd (eQ false .tup eI r)) = some (r.map eI) from rfl) ?_
      refine w_eq (compG_map (fun _ => true) (by rw [List.length_map]; exact lt_of_small (by omega)) fun d hd => ?_) ?_
      · obtain ⟨x, hx, rfl⟩ := List.mem_map.mp hd
        have := h9 x hx
        unfold C_are_moves_2
        rw [show rd (eI x) = .int x from rfl, num_ok this.1 this.2]
        rfl
      simp only
      refine w_call (R := fun c => c = false) (w_iff (by rw [all_true]; rfl) (w_o (sub_q rfl (by omega) (by omega)) ?_)) fun c hc => w_iff hc (w_nx trivial)
      have hz0 : (r[((0 + i : Nat) : Int).toNat]'(by omega)) = 0 := h0 _ (by
        rw [List.getElem?_eq_getElem (by omega)]
        congr 2
        omega)
      rw [hz0]
      refine w_o (show boolO _ = some (!decide ((0 : Int) = 0)) from rfl) (w_rt rfl)
  obtain ⟨v, e, rfl⟩ := wr_iff.mp key
  exact e
theorem price_ok {x : Option Int} (h : ∀ i, x = some i → 0 ≤ i ∧ i ≤ 9) : C_are_prices_1 (eO eI x) () = .rt (true, ()) := by
  unfold C_are_prices_1
  cases x with
  | none => rfl
  | some i =>
    obtain ⟨h0, h9⟩ := h i rfl
    rw [show rd (eO eI (some i)) = .int i from rfl, show DL.isNon (.int i) = false from rfl, num_ok h0 h9]
    rfl
theorem are_prices_ok {p : Nat} {r : List (Option Int)} (h : PricesOk p r) (h6 : p ≤ 6) {P : Int} (hP : P = p) : T_are_prices (eQ false .tup (eO eI) r) P = .rt true := by
  obtain ⟨hl, ⟨i0, hi0⟩, h9⟩ := h
  have hlim : r.length < lim := lt_of_small (by omega)
  have key : Wr (T_are_prices (eQ false .tup (eO eI) r) P) fun b => b = true := by
    unfold T_are_prices
    rw [show rd (eQ false .tup (eO eI) r) = eQ false .tup (eO eI) r from rfl]
    refine w_o (show isiO .tuple _ = some true from rfl) (w_call (R := fun c => c = false) (w_iff rfl (w_o (len_q rfl) (w_rt ?_))) fun c hc => w_iff hc ?_)
    · rw [decide_eq_true (show (r.length : Int) = P by omega)]
      rfl
    refine w_o (show itemsD (rd (eQ false .tup (eO eI) r)) = some (r.map (eO eI)) from rfl) ?_
    refine w_eq (compG_map (fun _ => true) (by rw [List.length_map]; exact hlim) fun d hd => ?_) ?_
    · obtain ⟨x, hx, rfl⟩ := List.mem_map.mp hd
      exact price_ok fun i e => h9 i (e ▸ hx)
    refine w_iff (by rw [all_true]; rfl) (w_o (show itemsD (rd (eQ false .tup (eO eI) r)) = some (r.map (eO eI)) from rfl) (w_o (mapO_eq (by rw [List.length_map]; exact hlim)) (w_rt ?_)))
    simp only [List.any_eq_true, List.mem_map, id]
    exact ⟨_, ⟨_, ⟨_, hi0, rfl⟩, rfl⟩, rfl⟩
  obtain ⟨v, e, rfl⟩ := wr_iff.mp key
  exact e
theorem sub_m {o : Bool} {α : Type} {e e' : α → D} {q : List (Str × α)} {y : Str} {v : α} (hr : ∀ x, rd (e x) = e' x) (h : lookM q y = some v) : subV (eM o kS e q) (eS y) = some (e' v) := t_subM kS_inj hr (ev := eS) (fun _ => rfl) v h
theorem are_requests_ok {p : Nat} {ns : List Str} {q : List (Str × List (Option Int))} (h : ReqOk p ns q) (nd : ns.Nodup) (hN : ∀ x ∈ ns, NamS x) (hne : ns ≠ []) (h5 : ns.length ≤ 5) (h6 : p ≤ 6) {P : Int} (hP : P = p) : T_are_requests (eM false kS (eQ false .tup (eO eI)) q) P = .rt true := by
  obtain ⟨hk, hq⟩ := h
  have hpos : 0 < ns.length := List.length_pos_iff.mpr hne
  have hl : q.length = ns.length := by rw [← hk, List.length_map]
  have key : Wr (T_are_requests (eM false kS (eQ false .tup (eO eI)) q) P) fun b => b = true := by
    unfold T_are_requests
    rw [show rd (eM false kS (eQ false .tup (eO eI)) q) = eM false kS (eQ false .tup (eO eI)) q from rfl]
    refine w_o (show isiO .dict _ = some true from rfl) (w_call (R := fun c => c = false) (w_iff rfl (w_o (v := (q.length : Int)) (by rw [t_lenM]; rfl) (w_rt ?_))) fun c hc => w_iff hc ?_)
    · rw [decide_eq_true (show (1 : Int) ≤ q.length by omega), decide_eq_true (show (q.length : Int) ≤ 5 by omega)]
      rfl
    refine w_o (v := ns.map eS) ?_ (w_forK (fun _ _ => True) trivial (fun i z v hz _ => ?_) fun _ _ => w_rt rfl)
    · show some ((q.map fun p => kS p.1).map keyD) = _
      rw [keys_M (ev := eS) (fun _ => rfl), hk]
    rw [List.getElem?_map] at hz
    obtain ⟨y, hy, rfl⟩ := Option.map_eq_some_iff.mp hz
    have hym := List.mem_of_getElem? hy
    obtain ⟨r, h1, h2⟩ := lookM_some (m := q) (by rw [hk]; exact hym)
    unfold L_are_requests_1
    rw [show rd (eS y) = .str y from rfl]
    refine w_eq (is_name_ok (hN y hym)) (w_call (R := fun c => c = false) (w_iff rfl ?_) fun c hc => w_iff hc (w_nx trivial))
    refine w_o (sub_m (fun _ => rfl) h1) (w_eq (are_prices_ok (hq _ h2) h6 hP) (w_rt rfl))
  obtain ⟨v, e, rfl⟩ := wr_iff.mp key
  exact e
/-! ### ways -/
def Sq (p : Nat) (w : List (List Int)) : Prop := w.length = p ∧ ∀ r ∈ w, r.length = p ∧ ∀ x ∈ r, 0 ≤ x ∧ x ≤ 9
def gt (w : List (List Int)) (a b : Nat) : Int := (w.getD a []).getD b 0
def rlx (w : List (List Int)) (c a b : Nat) : List (List Int) := w.set a ((w.getD a []).set b (if gt w a c + gt w c b < gt w a b then gt w a c + gt w c b else gt w a b))
def fwB (p : Nat) (w : List (List Int)) (c a : Nat) : List (List Int) := (List.range p).foldl (fun w b => rlx w c a b) w
def fwA (p : Nat) (w : List (List Int)) (c : Nat) : List (List Int) := (List.range p).foldl (fun w a => fwB p w c a) w
def fw (p : Nat) (w : List (List Int)) : List (List Int) := (List.range p).foldl (fun w c => fwA p w c) w
theorem Sq.row {p : Nat} {w : List (List Int)} (h : Sq p w) {a : Nat} (ha : a < p) : ∃ r, w[a]? = some r ∧ w.getD a [] = r ∧ r.length = p ∧ ∀ x ∈ r, 0 ≤ x ∧ x ≤ 9 := by
  have hl : a < w.length := by rw [h.1]; exact ha
  have e : w[a]? = some w[a] := by simp [hl]
  obtain ⟨h1, h2⟩ := h.2 w[a] (List.getElem_mem hl)
  exact ⟨w[a], e, by rw [List.getD_eq_getElem?_getD, e]; rfl, h1, h2⟩
theorem Sq.gt {p : Nat} {w : List (List Int)} (h : Sq p w) {a b : Nat} (ha : a < p) (hb : b < p) : 0 ≤ gt w a b ∧ gt w a b ≤ 9 := by
  obtain ⟨r, h1, h2, h3, h4⟩ := h.row ha
  have e : r[b]? = some (r[b]'(by omega)) := by simp [h3, hb]
  unfold LawP.gt
  rw [h2, List.getD_eq_getElem?_getD, e]
  exact h4 _ (List.getElem_mem _)
theorem Sq.rlx {p : Nat} {w : List (List Int)} (h : Sq p w) {c a b : Nat} (hc : c < p) (ha : a < p) (hb : b < p) : Sq p (rlx w c a b) := by
  obtain ⟨r, h1, h2, h3, h4⟩ := h.row ha
  have g1 := h.gt ha hb
  have g2 := h.gt ha hc
  have g3 := h.gt hc hb
  unfold LawP.rlx
  refine ⟨by rw [List.length_set]; exact h.1, fun q hq => ?_⟩
  rcases List.mem_or_eq_of_mem_set hq with hq | rfl
  · exact h.2 q hq
  · rw [h2]
    refine ⟨by rw [List.length_set]; exact h3, fun x hx => ?_⟩
    rcases List.mem_or_eq_of_mem_set hx with hx | rfl
    · exact h4 x hx
    · split <;> omega
theorem foldl_inv {α β : Type} (P : β → Prop) (f : β → α → β) : ∀ (l : List α) (b : β), P b → (∀ b a, a ∈ l → P b → P (f b a)) → P (l.foldl f b)
  | [], b, h, _ => h
  | a :: l, b, h, st => foldl_inv P f l (f b a) (st b a List.mem_cons_self h) fun b x hx hb => st b x (List.mem_cons_of_mem _ hx) hb
theorem Sq.fwB {p : Nat} {w : List (List Int)} (h : Sq p w) {c a : Nat} (hc : c < p) (ha : a < p) : Sq p (fwB p w c a) := foldl_inv (Sq p) _ _ _ h fun b x hx hb => hb.rlx hc ha (by simpa using hx)
theorem Sq.fwA {p : Nat} {w : List (List Int)} (h : Sq p w) {c : Nat} (hc : c < p) : Sq p (fwA p w c) := foldl_inv (Sq p) _ _ _ h fun b x hx hb => hb.fwB hc (by simpa using hx)
theorem Sq.fw {p : Nat} {w : List (List Int)} (h : Sq p w) : Sq p (fw p w) := foldl_inv (Sq p) _ _ _ h fun b x hx hb => hb.fwA (by simpa using hx)
theorem MovesOk.sq {p : Nat} {m : List (List Int)} (h : MovesOk p m) : Sq p m := ⟨h.1, fun r hr => by
  obtain ⟨i, hi, rfl⟩ := List.mem_iff_getElem.mp hr
  have := h.2 i m[i] (by simp [hi])
  exact ⟨this.1, this.2.2⟩⟩
/-- a loop over a range that folds -/
theorem for_fold {σ ρ β : Type} {f : Int → σ → Rc σ σ ρ} {g : σ → Nat → σ} (I : σ → Prop) (p : Nat) {v : σ} (h0 : I v) (st : ∀ i v, i < p → I v → f (i : Nat) v = .nx (g v i) ∧ I (g v i)) : (forT f (rngL 0 p) v : Rc σ β ρ) = .nx ((List.range p).foldl g v) ∧ I ((List.range p).foldl g v) := by
  have key : ∀ (l : List Nat) (v : σ), (∀ i ∈ l, i < p) → I v → (forT f (l.map fun k => (0 : Int) + (k : Nat)) v : Rc σ β ρ) = .nx (l.foldl g v) ∧ I (l.foldl g v) := by
    intro l
    induction l with
    | nil => intro v _ h; exact ⟨rfl, h⟩
    | cons i l ih =>
      intro v hl hv
      obtain ⟨h1, h2⟩ := st i v (hl i List.mem_cons_self) hv
      have h3 := ih (g v i) (fun j hj => hl j (List.mem_cons_of_mem _ hj)) h2
      simp only [List.map_cons, List.foldl_cons]
      unfold forT
      rw [show (0 : Int) + (i : Nat) = (i : Nat) from Int.zero_add _, h1]
      exact h3
  exact key (List.range p) v (fun i hi => by simpa using hi) h0
theorem qat2_w {p : Nat} {w : List (List Int)} (h : Sq p w) {a b : Nat} (ha : a < p) (hb : b < p) : qat2 w (some (a : Int)) (some (b : Int)) = some (gt w a b) := by
  obtain ⟨r, h1, h2, h3, _⟩ := h.row ha
  have e1 : atI w (a : Int) = some r := by
    rw [atI_of (by omega) (by have := h.1; omega)]
    rw [List.getElem?_eq_getElem (by have := h.1; omega)] at h1
    exact h1
  have e2 : atI r (b : Int) = some (gt w a b) := by
    rw [atI_of (by omega) (by omega)]
    unfold LawP.gt
    rw [h2, List.getD_eq_getElem?_getD]
    simp [show b < r.length by omega]
  rw [qat2_s, e1, Option.bind_some, e2]
section
variable {p : Nat} {m w : List (List Int)} {a b c : Nat}
theorem lw3 (hw : Sq p w) (hc : c < p) (ha : a < p) (hb : b < p) : L_least_ways_3 (c : Int) (a : Int) (b : Int) w = .nx (rlx w c a b) := by
  obtain ⟨r, h1, h2, h3, _⟩ := hw.row ha
  unfold L_least_ways_3
  rw [qat2_w hw ha hb, qat2_w hw ha hc, qat2_w hw hc hb, bindO_some, bindO_some, bindO_some]
  have : ∀ v, set2O w (some (a : Int)) (some (b : Int)) v = some (w.set a (r.set b v)) := fun v => by
    unfold set2O
    rw [Option.bind_some, Option.bind_some, ixN_of (n := w.length) (v := (a : Int)) (by omega) (by have := hw.1; omega), Option.bind_some, Int.toNat_natCast, h1, Option.bind_some, ixN_of (n := r.length) (v := (b : Int)) (by omega) (by omega), Option.map_some, Int.toNat_natCast]
  rw [this, bindO_some]
  unfold rlx
  rw [h2]
theorem lw2 (hp : p ≤ 6) (hw : Sq p w) (hc : c < p) (ha : a < p) : L_least_ways_2 (p : Int) (c : Int) (a : Int) w = .nx (fwB p w c a) := by
  unfold L_least_ways_2
  rw [rng1_nat (by omega), bindO_some, (for_fold (f := L_least_ways_3 (c : Int) (a : Int)) (g := fun w b => rlx w c a b) (Sq p) p hw fun b w hb hw => ⟨lw3 hw hc ha hb, hw.rlx hc ha hb⟩).1, bindC_nx]
  rfl
theorem lw1 (hp : p ≤ 6) (hw : Sq p w) (hc : c < p) : L_least_ways_1 (p : Int) (c : Int) w = .nx (fwA p w c) := by
  unfold L_least_ways_1
  rw [rng1_nat (by omega), bindO_some, (for_fold (f := L_least_ways_2 (p : Int) (c : Int)) (g := fun w a => fwB p w c a) (Sq p) p hw fun a w ha hw => ⟨lw2 hp hw hc ha, hw.fwB hc ha⟩).1, bindC_nx]
  rfl
theorem least_ways_eq (hp : p ≤ 6) (h : MovesOk p m) : T_least_ways m = .rt (fw p m) := by
  have hl : m.length = p := h.1
  have hf : (fw p m).length < lim := by rw [(h.sq.fw).1]; exact lt_of_small (by omega)
  unfold T_least_ways
  rw [hl, bindV_eq, mapO_eq (by rw [hl]; exact lt_of_small (by omega)), List.map_id', bindO_some, rng1_nat (by omega), bindO_some, (for_fold (f := L_least_ways_1 (p : Int)) (g := fun w c => fwA p w c) (Sq p) p h.sq fun c w hc hw => ⟨lw1 hp hw hc, hw.fwA hc⟩).1, bindC_nx]
  rw [show (List.range p).foldl (fun w c => fwA p w c) m = fw p m from rfl, mapO_eq hf, List.map_id', bindO_some]
theorem aw3 (hw : Sq p w) (hc : c < p) (ha : a < p) (hb : b < p) : L__law_ways_3 (c : Int) (a : Int) (b : Int) w = .nx (rlx w c a b) := by
  obtain ⟨r, h1, h2, h3, _⟩ := hw.row ha
  have e2 : atI r (b : Int) = some (gt w a b) := by
    rw [atI_of (by omega) (by omega)]
    unfold LawP.gt
    rw [h2, List.getD_eq_getElem?_getD]
    simp [show b < r.length by omega]
  have : aliasO w (some (a : Int)) (some (b : Int)) (fun row => qmn (qrow row (some (b : Int))) (qadd (qat2 w (some (a : Int)) (some (c : Int))) (qat2 w (some (c : Int)) (some (b : Int))))) = some (rlx w c a b) := by
    unfold aliasO
    rw [Option.bind_some, Option.bind_some, ixN_of (n := w.length) (v := (a : Int)) (by omega) (by have := hw.1; omega), Option.bind_some, Int.toNat_natCast, h1, Option.bind_some, qat2_w hw ha hc, qat2_w hw hc hb]
    dsimp only
    rw [qrow_s, e2, qadd_s, qmn_s, Option.bind_some, ixN_of (n := r.length) (v := (b : Int)) (by omega) (by omega), Option.map_some, Int.toNat_natCast]
    unfold rlx
    rw [h2]
  unfold L__law_ways_3
  rw [this, bindO_some]
theorem aw2 (hp : p ≤ 6) (hm : m.length = p) (hw : Sq p w) (hc : c < p) (ha : a < p) : L__law_ways_2 m (c : Int) (a : Int) w = .nx (fwB p w c a) := by
  unfold L__law_ways_2
  rw [hm, rng1_nat (by omega), bindO_some, (for_fold (f := L__law_ways_3 (c : Int) (a : Int)) (g := fun w b => rlx w c a b) (Sq p) p hw fun b w hb hw => ⟨aw3 hw hc ha hb, hw.rlx hc ha hb⟩).1, bindC_nx]
  rfl
theorem aw1 (hp : p ≤ 6) (hm : m.length = p) (hw : Sq p w) (hc : c < p) : L__law_ways_1 m (c : Int) w = .nx (fwA p w c) := by
  unfold L__law_ways_1
  rw [hm, rng1_nat (by omega), bindO_some, (for_fold (f := L__law_ways_2 m (c : Int)) (g := fun w a => fwB p w c a) (Sq p) p hw fun a w ha hw => ⟨aw2 hp hm hw hc ha, hw.fwB hc ha⟩).1, bindC_nx]
  rfl
theorem law_ways_eq (hp : p ≤ 6) (h : MovesOk p m) : T__law_ways m = .rt (fw p m) := by
  have hl : m.length = p := h.1
  unfold T__law_ways
  rw [hl, mapO_eq (by rw [hl]; exact lt_of_small (by omega)), List.map_id', bindO_some, rng1_nat (by omega), bindO_some, (for_fold (f := L__law_ways_1 m) (g := fun w c => fwA p w c) (Sq p) p h.sq fun c w hc hw => ⟨aw1 hp hl hw hc, hw.fwA hc⟩).1, bindC_nx]
  rfl
end
end LawP

set_option maxHeartbeats 1000000
/-! U4: systems and machines made; sorted names. -/
namespace LawP
open PySem L2 DL TL
theorem leS_antisymm {a b : Str} (h1 : leS a b = true) (h2 : leS b a = true) : a = b := by
  unfold leS strLt at h1 h2
  have h1 : ¬ b.cps.toList < a.cps.toList := by simpa using h1
  have h2 : ¬ a.cps.toList < b.cps.toList := by simpa using h2
  have e : a.cps.toList = b.cps.toList := List.le_antisymm h1 h2
  cases a with | mk x =>
  cases b with | mk y =>
  congr 1
  exact Array.toList_inj.mp e
theorem sorted_eq : ∀ {l m : List Str}, l.Perm m → l.Pairwise (fun a b => leS a b = true) → m.Pairwise (fun a b => leS a b = true) → l = m
  | [], m, h, _, _ => h.nil_eq
  | a :: l, [], h, _, _ => absurd h.symm.nil_eq (by simp)
  | a :: l, b :: m, h, hl, hm => by
    rw [List.pairwise_cons] at hl hm
    have e : a = b := by
      have ha : a ∈ b :: m := h.mem_iff.mp List.mem_cons_self
      have hb : b ∈ a :: l := h.mem_iff.mpr List.mem_cons_self
      rcases List.mem_cons.mp ha with ha | ha
      · exact ha
      rcases List.mem_cons.mp hb with hb | hb
      · exact hb.symm
      exact leS_antisymm (hl.1 b hb) (hm.1 a ha)
    subst e
    rw [sorted_eq ((List.perm_cons a).mp h) hl.2 hm.2]
theorem sortS_congr {l m : List Str} (h : l.Perm m) : sortS l = sortS m := sorted_eq ((sortS_perm l).trans (h.trans (sortS_perm m).symm)) (sortS_pw l) (sortS_pw m)
theorem sortS_idem (l : List Str) : sortS (sortS l) = sortS l := sortS_congr (sortS_perm l)
theorem sortS_nodup {ls : List Str} (h : ls.Nodup) : (sortS ls).Nodup := (sortS_perm ls).symm.nodup h
theorem sortS_len (ls : List Str) : (sortS ls).length = ls.length := (sortS_perm ls).length_eq
theorem sortSO_eq {l : List Str} (h : l.length < 64) : sortSO l = some (sortS l) := by
  unfold sortSO
  rw [if_pos h]
/-- what stands under a name -/
def at_ {α : Type} (q : List (Str × α)) (d : α) (y : Str) : α := (lookM q y).getD d
theorem look_at {α : Type} {q : List (Str × α)} {d : α} {y : Str} (h : y ∈ q.map (·.1)) : lookM q y = some (at_ q d y) ∧ (y, at_ q d y) ∈ q := by
  obtain ⟨v, h1, h2⟩ := lookM_some h
  unfold at_
  rw [h1]
  exact ⟨rfl, h2⟩
/-- the dict with its names in order -/
def inOrder {α : Type} (q : List (Str × α)) (d : α) : List (Str × α) := (sortS (q.map (·.1))).map fun y => (y, at_ q d y)
theorem dcompT_eq {α : Type} {f : Str → Fn (Str × α)} {g : Str → α} : ∀ (l : List Str) (acc : List (Str × α)), (∀ y ∈ l, f y = .rt (y, g y)) → (acc.map (·.1) ++ l).Nodup → dcompT f l acc = .rt (acc ++ l.map fun y => (y, g y))
  | [], acc, _, _ => by
    unfold dcompT
    simp
  | y :: l, acc, h, nd => by
    have hnew : y ∉ acc.map (·.1) := fun z => by
      rw [List.nodup_append] at nd
      exact nd.2.2 y z y List.mem_cons_self rfl
    unfold dcompT
    rw [h y List.mem_cons_self]
    simp only []
    rw [putL_new hnew, dcompT_eq l (acc ++ [(y, g y)]) (fun z hz => h z (List.mem_cons_of_mem _ hz)) (by simpa using nd)]
    simp
theorem dcompG_eq {α : Type} {f : Str → Fn (Str × α)} {g : Str → α} {l : List Str} (hl : l.length < 64) (h : ∀ y ∈ l, f y = .rt (y, g y)) (nd : l.Nodup) : dcompG f l = .rt (l.map fun y => (y, g y)) := by
  unfold dcompG
  rw [if_pos (lt_of_small (by omega)), dcompT_eq l [] h (by simpa using nd)]
  rfl
theorem keys_inOrder {α : Type} (q : List (Str × α)) (d : α) : (inOrder q d).map (·.1) = sortS (q.map (·.1)) := by
  unfold inOrder
  rw [List.map_map]
  exact List.map_id' _
theorem at_inOrder {α : Type} {q : List (Str × α)} {d : α} (nd : (q.map (·.1)).Nodup) {y : Str} (hy : y ∈ q.map (·.1)) : at_ (inOrder q d) d y = at_ q d y := by
  have h : lookM (inOrder q d) y = some (at_ q d y) := lookM_mem (by rw [keys_inOrder]; exact sortS_nodup nd) (List.mem_map.mpr ⟨y, (sortS_perm _).mem_iff.mpr hy, rfl⟩)
  show (lookM (inOrder q d) y).getD d = _
  rw [h]
  rfl
theorem inOrder_idem {α : Type} {q : List (Str × α)} {d : α} (nd : (q.map (·.1)).Nodup) : inOrder (inOrder q d) d = inOrder q d := by
  show (sortS ((inOrder q d).map (·.1))).map _ = _
  rw [keys_inOrder, sortS_idem]
  unfold inOrder
  refine List.map_congr_left fun y hy => ?_
  have := at_inOrder (d := d) nd ((sortS_perm _).mem_iff.mp hy)
  unfold inOrder at this
  rw [this]
theorem look_perm {α : Type} {q q' : List (Str × α)} (h : q.Perm q') (nd : (q.map (·.1)).Nodup) {y : Str} {d : α} (hy : y ∈ q.map (·.1)) : at_ q' d y = at_ q d y := by
  obtain ⟨h1, h2⟩ := look_at (d := d) hy
  have nd' : (q'.map (·.1)).Nodup := (h.map (·.1)).nodup nd
  have h3 := lookM_mem nd' (h.mem_iff.mp h2)
  show (lookM q' y).getD d = _
  rw [h3]
  rfl
theorem inOrder_perm {α : Type} {q q' : List (Str × α)} (h : q.Perm q') (nd : (q.map (·.1)).Nodup) (d : α) : inOrder q' d = inOrder q d := by
  show (sortS (q'.map (·.1))).map _ = (sortS (q.map (·.1))).map _
  rw [sortS_congr (h.map (·.1)).symm]
  refine List.map_congr_left fun y hy => ?_
  rw [look_perm h nd ((sortS_perm _).mem_iff.mp hy)]
/-- a system -/
def sysOf (p : Nat) (m : List (List Int)) (q : List (Str × List (Option Int))) : O_System := ⟨m, p, sortS (q.map (·.1)), inOrder q [], fw p m⟩
def ReqsOk (p : Nat) (ns : List Str) (q : List (Str × List (Option Int))) : Prop := ReqOk p ns q ∧ ns.Nodup ∧ (∀ x ∈ ns, NamS x) ∧ ns ≠ [] ∧ ns.length ≤ 5
theorem system_eq {p : Nat} {m : List (List Int)} {ns : List Str} {q : List (Str × List (Option Int))} (hm : MovesOk p m) (h1 : 1 ≤ p) (h6 : p ≤ 6) (hq : ReqsOk p ns q) : T_System_init m q = .rt (sysOf p m q) := by
  obtain ⟨hr, nd, hN, hne, h5⟩ := hq
  have hl : m.length = p := hm.1
  have hk : q.map (·.1) = ns := hr.1
  unfold T_System_init
  rw [are_moves_ok hm h1 h6]
  simp only [callT_rt, Bool.not_true, Bool.false_eq_true, if_false, bindV_eq]
  rw [hl, are_requests_ok hr nd hN hne h5 h6 rfl]
  simp only [callT_rt, Bool.not_true, Bool.false_eq_true, if_false]
  rw [sortSO_eq (by rw [hk]; omega)]
  simp only [bindO_some]
  rw [dcompG_eq (g := at_ q []) (by rw [sortS_len, hk]; omega) (fun y hy => ?_) (sortS_nodup (by rw [hk]; exact nd)), least_ways_eq h6 hm]
  · rfl
  · unfold C_System_init_1
    rw [(look_at (d := []) ((sortS_perm _).mem_iff.mp hy)).1]
    rfl
theorem ReqsOk.rev {p : Nat} {ns : List Str} {q : List (Str × List (Option Int))} (h : ReqsOk p ns q) : ReqsOk p ns.reverse q.reverse := by
  obtain ⟨⟨hk, hr⟩, nd, hN, hne, h5⟩ := h
  exact ⟨⟨by rw [List.map_reverse, hk], fun x hx => hr x (by simpa using hx)⟩, (List.reverse_perm ns).symm.nodup nd, fun x hx => hN x (by simpa using hx), by simpa using hne, by simpa using h5⟩
theorem sysOf_rev {p : Nat} {m : List (List Int)} {q : List (Str × List (Option Int))} (nd : (q.map (·.1)).Nodup) : sysOf p m q.reverse = sysOf p m q := by
  unfold sysOf
  rw [inOrder_perm (List.reverse_perm q).symm nd, List.map_reverse, sortS_congr (List.reverse_perm _)]
/-- a dict turned about -/
theorem turned_w {α : Type} {f : Str → List (Str × α) → Rc (List (Str × α)) (List (Str × α)) (List (Str × α))} {q : List (Str × α)} (nd : (q.map (·.1)).Nodup) (hl : q.length < 1000) (hf : ∀ y o v, lookM q y = some v → y ∉ o.map (·.1) → o.length < 1000 → f y o = .nx (o ++ [(y, v)])) : (bindC (forT f (q.map (·.1)).reverse []) fun o => .rt o : Fn (List (Str × α))) = .rt q.reverse := by
  have key : ∀ (r : List (Str × α)) (o : List (Str × α)), (o ++ r).Perm q.reverse → o.length + r.length < 1000 → (forT (β := Empty) f (r.map (·.1)) o) = .nx (o ++ r) := by
    intro r
    induction r with
    | nil => intro o _ _; simp [forT]
    | cons p r ih =>
      intro o h hlen
      have hp : (o ++ p :: r).Perm q := h.trans (List.reverse_perm q)
      have nd2 : ((o ++ p :: r).map (·.1)).Nodup := (hp.map (·.1)).symm.nodup nd
      have hlook : lookM q p.1 = some p.2 := lookM_mem nd (hp.mem_iff.mp (by simp))
      have hnew : p.1 ∉ o.map (·.1) := fun z => by
        rw [List.map_append, List.nodup_append] at nd2
        exact nd2.2.2 p.1 z p.1 (by simp) rfl
      simp only [List.map_cons]
      unfold forT
      simp only [List.length_cons] at hlen
      rw [hf p.1 o p.2 hlook hnew (by omega)]
      simp only []
      rw [ih (o ++ [p]) (by simpa using h) (by simp; omega)]
      simp
  rw [← List.map_reverse, key q.reverse [] (by simp) (by simpa using hl)]
  rfl
theorem turned_eq {q : List (Str × List (Option Int))} (nd : (q.map (·.1)).Nodup) (hl : q.length < 1000) : T__law_turned q = .rt q.reverse := by
  unfold T__law_turned
  refine turned_w nd hl fun y o v h1 h2 h3 => ?_
  unfold L__law_turned_1
  rw [h1]
  simp only [bindO_some]
  rw [put_eq (lt_of_small (by omega)), putL_new h2]
  rfl
theorem turned2_eq {q : List (Str × Int)} (nd : (q.map (·.1)).Nodup) (hl : q.length < 1000) : T__law_turned_2 q = .rt q.reverse := by
  unfold T__law_turned_2
  refine turned_w nd hl fun y o v h1 h2 h3 => ?_
  unfold L__law_turned_2_1
  rw [h1]
  simp only [bindO_some]
  rw [put_eq (lt_of_small (by omega)), putL_new h2]
  rfl
/-- a machine -/
def TurnsOk (st : Nat) (ts : List (List (Str × Int))) : Prop := ts.length = st ∧ ∀ q ∈ ts, (q.map (·.1)).Nodup ∧ (∀ x ∈ q, NamS x.1 ∧ 0 ≤ x.2 ∧ x.2 < st) ∧ q.length ≤ 5 ∧ q ≠ []
theorem are_turns_ok {st : Nat} {ts : List (List (Str × Int))} (h : TurnsOk st ts) (h1 : 1 ≤ st) (h4 : st ≤ 4) : T_are_turns (eQ false .tup (eM false kS eI) ts) = .rt true := by
  obtain ⟨hl, hq⟩ := h
  have key : Wr (T_are_turns (eQ false .tup (eM false kS eI) ts)) fun b => b = true := by
    unfold T_are_turns
    rw [show rd (eQ false .tup (eM false kS eI) ts) = eQ false .tup (eM false kS eI) ts from rfl]
    refine w_o (show isiO .tuple _ = some true from rfl) (w_call (R := fun c => c = false) (w_iff rfl (w_o (len_q rfl) (w_rt ?_))) fun c hc => w_iff hc ?_)
    · rw [decide_eq_true (show (1 : Int) ≤ ts.length by omega), decide_eq_true (show (ts.length : Int) ≤ 4 by omega)]
      rfl
    refine w_o (show itemsD (rd (eQ false .tup (eM false kS eI) ts)) = some (ts.map (eM false kS eI)) from rfl) (w_for (fun _ _ => True) trivial (fun i z v hz _ => ?_) fun _ _ => w_rt rfl)
    rw [List.getElem?_map] at hz
    obtain ⟨q, hq0, rfl⟩ := Option.map_eq_some_iff.mp hz
    obtain ⟨nd, hx, h5, hne⟩ := hq q (List.mem_of_getElem? hq0)
    have hpos : 0 < q.length := List.length_pos_iff.mpr hne
    unfold L_are_turns_1
    rw [show rd (eM false kS eI q) = eM false kS eI q from rfl]
    refine w_o (show isiO .dict _ = some true from rfl) (w_call (R := fun c => c = false) (w_iff rfl (w_o (v := (q.length : Int)) (by rw [t_lenM]; rfl) (w_rt ?_))) fun c hc => w_iff hc ?_)
    · rw [decide_eq_false (show ¬ (q.length : Int) = 0 by omega)]
    refine w_o (v := (q.map (·.1)).map eS) ?_ (w_forK (fun _ _ => True) trivial (fun j w v hw _ => ?_) fun _ _ => w_nx trivial)
    · show some ((q.map fun p => kS p.1).map keyD) = _
      rw [keys_M (ev := eS) (fun _ => rfl)]
    rw [List.getElem?_map] at hw
    obtain ⟨y, hy, rfl⟩ := Option.map_eq_some_iff.mp hw
    obtain ⟨u, g1, g2⟩ := lookM_some (List.mem_of_getElem? hy)
    obtain ⟨hn, u0, u1⟩ := hx _ g2
    unfold L_are_turns_2
    rw [show rd (eS y) = .str y from rfl, show rd (eM false kS eI q) = eM false kS eI q from rfl, show rd (eQ false .tup (eM false kS eI) ts) = eQ false .tup (eM false kS eI) ts from rfl]
    refine w_eq (is_name_ok hn) (w_call (R := fun c => c = false) (w_iff rfl ?_) fun c hc => w_iff hc (w_nx trivial))
    refine w_o (sub_m (fun _ => rfl) g1) (w_o (len_q rfl) (w_eq (num_ok u0 (by simp only at u1; omega)) (w_rt rfl)))
  obtain ⟨v, e, rfl⟩ := wr_iff.mp key
  exact e
theorem copied_eq {ts : List (List (Str × Int))} (hl : ts.length < 1000) (h : ∀ q ∈ ts, (q.map (·.1)).Nodup ∧ q.length ≤ 5) : T_copied_turns ts = .rt (ts.map fun q => inOrder q 0) := by
  unfold T_copied_turns
  rw [compG_map (fun q => inOrder q 0) (lt_of_small (by omega)) fun q hq => ?_]
  · rfl
  obtain ⟨nd, h5⟩ := h q hq
  unfold C_copied_turns_1
  rw [sortSO_eq (by rw [List.length_map]; omega)]
  simp only [bindO_some]
  rw [dcompG_eq (g := at_ q 0) (by rw [sortS_len, List.length_map]; omega) (fun y hy => ?_) (sortS_nodup nd)]
  · rfl
  · unfold C_copied_turns_2
    rw [(look_at (d := 0) ((sortS_perm _).mem_iff.mp hy)).1]
    rfl
theorem inOrder_len {α : Type} (q : List (Str × α)) (d : α) : (inOrder q d).length = q.length := by
  unfold inOrder
  rw [List.length_map, sortS_len, List.length_map]
def macOf (ts : List (List (Str × Int))) : O_Machine := ⟨ts.length, ts.map fun q => inOrder q 0⟩
theorem machine_eq {st : Nat} {ts : List (List (Str × Int))} (h : TurnsOk st ts) (h1 : 1 ≤ st) (h4 : st ≤ 4) : T_Machine_init ts = .rt (macOf ts) := by
  unfold T_Machine_init
  rw [are_turns_ok h h1 h4]
  simp only [callT_rt, Bool.not_true, Bool.false_eq_true, if_false, bindV_eq]
  rw [copied_eq (by have := h.1; omega) fun q hq => ⟨(h.2 q hq).1, (h.2 q hq).2.2.1⟩]
  rfl
theorem TurnsOk.rev {st : Nat} {ts : List (List (Str × Int))} (h : TurnsOk st ts) : TurnsOk st (ts.map List.reverse) := by
  refine ⟨by rw [List.length_map]; exact h.1, fun q hq => ?_⟩
  obtain ⟨q, hq2, rfl⟩ := List.mem_map.mp hq
  obtain ⟨nd, hx, h5, hne⟩ := h.2 q hq2
  exact ⟨by rw [List.map_reverse]; exact (List.reverse_perm _).symm.nodup nd, fun x hx' => hx x (by simpa using hx'), by simpa using h5, by simpa using hne⟩
theorem macOf_rev {st : Nat} {ts : List (List (Str × Int))} (h : TurnsOk st ts) : macOf (ts.map List.reverse) = macOf ts := by
  unfold macOf
  rw [List.length_map, List.map_map]
  congr 1
  exact List.map_congr_left fun q hq => inOrder_perm (List.reverse_perm q).symm (h.2 q hq).1 0
theorem turnsM_eq {st : Nat} {ts : List (List (Str × Int))} (h : TurnsOk st ts) (h4 : st ≤ 4) : T_Machine_turns (macOf ts) = .rt (ts.map fun q => inOrder q 0) := by
  unfold T_Machine_turns macOf
  rw [copied_eq (by rw [List.length_map]; have := h.1; omega) fun q hq => ?_]
  · simp only [callT_rt, List.map_map]
    congr 1
    exact List.map_congr_left fun q hq => inOrder_idem (h.2 q hq).1
  · obtain ⟨q, hq2, rfl⟩ := List.mem_map.mp hq
    obtain ⟨nd, _, h5, _⟩ := h.2 q hq2
    exact ⟨by rw [keys_inOrder]; exact sortS_nodup nd, by rw [inOrder_len]; exact h5⟩
end LawP

set_option maxHeartbeats 1000000
/-! U5: texts. -/
namespace LawP
open PySem L2 DL TL
def iT (i : Int) : List Nat := lit (toString i)
def oT : Option Int → List Nat
  | none => [45]
  | some i => iT i
theorem iT_small : ∀ k : Fin 1000, (iT (k.val : Int)).length ≤ 3 := by decide +kernel
theorem iT_le {i : Int} (h0 : 0 ≤ i) (h : i < 1000) : (iT i).length ≤ 3 := by
  have := iT_small ⟨i.toNat, by omega⟩
  rwa [show ((⟨i.toNat, by omega⟩ : Fin 1000).val : Int) = i from by simp; omega] at this
theorem strI_eq {i : Int} (h0 : 0 ≤ i) (h : i < 1000) : strI i = some (sL (iT i)) := by
  have hz : i.natAbs.log2 < 1920 := Nat.lt_of_lt_of_le (log2_small (k := 10) (by omega) (by decide)) (by decide)
  unfold strI
  rw [if_pos hz]
  unfold iT
  rw [← str_sL]
def jn (sep : List Nat) : List (List Nat) → List Nat
  | [] => []
  | [a] => a
  | a :: b :: r => a ++ sep ++ jn sep (b :: r)
theorem sjoin_jn (sep : List Nat) : ∀ xs : List (List Nat), PySem.Str.join (sL sep) (xs.map sL) = sL (jn sep xs)
  | [] => rfl
  | [a] => rfl
  | a :: b :: r => by
    have ih := sjoin_jn sep (b :: r)
    show sL a ++ sL sep ++ PySem.Str.join (sL sep) ((b :: r).map sL) = _
    rw [ih, sL_app, sL_app]
    rfl
theorem join_jn (sep : List Nat) (xs : List (List Nat)) : PySem.Txt.join (sL sep) (xs.map sL) = sL (jn sep xs) := by
  rw [← sjoin_jn]
  exact StrLaws.glued_eq_join _ _
theorem jn_cons {sep a : List Nat} {r : List (List Nat)} (h : r ≠ []) : jn sep (a :: r) = a ++ sep ++ jn sep r := by
  cases r with
  | nil => exact absurd rfl h
  | cons b r => rfl
theorem jn_nil : ∀ r : List (List Nat), jn [] r = r.flatten
  | [] => rfl
  | [a] => by simp [jn]
  | a :: b :: r => by
    have := jn_nil (b :: r)
    show a ++ [] ++ jn [] (b :: r) = _
    rw [this]
    simp
theorem jn_len (sep : List Nat) (B : Nat) : ∀ r : List (List Nat), (∀ w ∈ r, w.length ≤ B) → (jn sep r).length ≤ r.length * (B + sep.length)
  | [], _ => by simp [jn]
  | [a], h => by
    have := h a List.mem_cons_self
    simp [jn]
    omega
  | a :: b :: r, h => by
    have ih := jn_len sep B (b :: r) fun w hw => h w (List.mem_cons_of_mem _ hw)
    have := h a List.mem_cons_self
    show (a ++ sep ++ jn sep (b :: r)).length ≤ _
    rw [List.length_append, List.length_append, List.length_cons, Nat.add_mul, Nat.one_mul]
    omega
theorem sum_le (B : Nat) : ∀ r : List (List Nat), (∀ w ∈ r, w.length ≤ B) → ((r.map sL).map (·.length)).sum ≤ r.length * B
  | [], _ => by simp
  | a :: r, h => by
    have ih := sum_le B r fun w hw => h w (List.mem_cons_of_mem _ hw)
    have := h a List.mem_cons_self
    simp only [List.map_cons, List.sum_cons, List.length_cons, Nat.add_mul, Nat.one_mul, sL_len] at ih ⊢
    omega
/-- words put together -/
theorem join_eq {sep : List Nat} {r : List (List Nat)} (B : Nat) (h : ∀ w ∈ r, w.length ≤ B) (hl : r.length * B + r.length * sep.length ≤ 16777216) : joinO (sL sep) (r.map sL) = some (sL (jn sep r)) := by
  have := sum_le B r h
  unfold joinO
  rw [if_pos (by rw [sL_len, List.length_map]; omega), join_jn]
theorem mapmap {α : Type} {f : α → List Nat} {l : List α} : (l.map fun x => sL (f x)) = (l.map f).map sL := by rw [List.map_map]; rfl
theorem fmt_eq {l : List Nat} (h : l.length ≤ 16777216) : fmtO (sL l) = some (sL l) := by
  unfold fmtO
  rw [if_pos (show (sL l).length ≤ lim by rw [sL_len]; exact h)]
theorem jcat_eq {a b : List Nat} (h : a.length + b.length ≤ 16777216) : jcat (sL a) (sL b) = some (sL (a ++ b)) := by
  unfold jcat
  rw [sL_app, sL_len, List.length_append, if_pos (by exact h)]
theorem lS (x : Str) : x = sL (lit x) := str_sL x
abbrev sp : List Nat := [32]
theorem item_eq {x : Option Int} (h : ∀ i, x = some i → 0 ≤ i ∧ i ≤ 9) : T_item_text x = .rt (sL (oT x)) := by
  unfold T_item_text
  cases x with
  | none => rfl
  | some i =>
    obtain ⟨h0, h9⟩ := h i rfl
    rw [caseO_some, strI_eq h0 (by omega)]
    rfl
theorem law_item_eq {x : Option Int} (h : ∀ i, x = some i → 0 ≤ i ∧ i ≤ 9) : T__law_item x = .rt (sL (oT x)) := by
  unfold T__law_item
  cases x with
  | none => rfl
  | some i =>
    obtain ⟨h0, h9⟩ := h i rfl
    rw [caseO_some, strI_eq h0 (by omega)]
    rfl
theorem oT_le {x : Option Int} (h : ∀ i, x = some i → 0 ≤ i ∧ i ≤ 9) : (oT x).length ≤ 3 := by
  cases x with
  | none => simp [oT]
  | some i =>
    obtain ⟨h0, h9⟩ := h i rfl
    exact iT_le h0 (by omega)
def lineP (r : List Int) : List Nat := lit "post" ++ [32] ++ jn [32] (r.map iT)
def lineR (y : Str) (r : List (Option Int)) : List Nat := lit "request" ++ [32] ++ (lit y ++ [32] ++ jn [32] (r.map oT))
def sysT (m : List (List Int)) (q : List (Str × List (Option Int))) : List Nat := ((m.map lineP ++ (sortS (q.map (·.1))).map fun y => lineR y (at_ q [] y)).map fun l => l ++ [10]).flatten
theorem lit_post : (lit "post").length = 4 := by decide +kernel
theorem lit_req : (lit "request").length = 7 := by decide +kernel
theorem words_le {r : List Int} (h : ∀ x ∈ r, 0 ≤ x ∧ x ≤ 9) : ∀ w ∈ r.map iT, w.length ≤ 3 := fun w hw => by
  obtain ⟨x, hx, rfl⟩ := List.mem_map.mp hw
  exact iT_le (h x hx).1 (by have := (h x hx).2; omega)
theorem lineP_le {r : List Int} (h : ∀ x ∈ r, 0 ≤ x ∧ x ≤ 9) (hl : r.length ≤ 6) : (lineP r).length ≤ 40 := by
  have := jn_len [32] 3 (r.map iT) (words_le h)
  unfold lineP
  rw [List.length_append, List.length_append, lit_post]
  rw [List.length_map] at this
  simp at this ⊢
  omega
theorem NamS.len {x : Str} (h : NamS x) : 1 ≤ (lit x).length ∧ (lit x).length ≤ 8 := by
  obtain ⟨l, rfl, h1, h8, _⟩ := h
  rw [lit_sL]
  exact ⟨h1, h8⟩
theorem owords_le {r : List (Option Int)} (h : ∀ i, some i ∈ r → 0 ≤ i ∧ i ≤ 9) : ∀ w ∈ r.map oT, w.length ≤ 3 := fun w hw => by
  obtain ⟨x, hx, rfl⟩ := List.mem_map.mp hw
  exact oT_le fun i e => h i (e ▸ hx)
theorem lineR_le {y : Str} {r : List (Option Int)} (hy : NamS y) (h : ∀ i, some i ∈ r → 0 ≤ i ∧ i ≤ 9) (hl : r.length ≤ 6) : (lineR y r).length ≤ 60 := by
  have := jn_len [32] 3 (r.map oT) (owords_le h)
  have := hy.len
  unfold lineR
  rw [List.length_append, List.length_append, lit_req, List.length_append, List.length_append]
  rw [List.length_map] at *
  simp at *
  omega
theorem flat_le (B : Nat) : ∀ r : List (List Nat), (∀ w ∈ r, w.length ≤ B) → r.flatten.length ≤ r.length * B
  | [], _ => by simp
  | a :: r, h => by
    have ih := flat_le B r fun w hw => h w (List.mem_cons_of_mem _ hw)
    have := h a List.mem_cons_self
    rw [List.flatten_cons, List.length_append, List.length_cons, Nat.add_mul, Nat.one_mul]
    omega
/-- lines, one behind another -/
theorem for_text {α ρ : Type} {f : α → Str → Rc Str Str ρ} (g : α → List Nat) (B : Nat) : ∀ (l : List α) (t : List Nat), (∀ x ∈ l, ∀ t : List Nat, t.length + B ≤ 1000000 → f x (sL t) = .nx (sL (t ++ g x)) ∧ (g x).length ≤ B) → t.length + l.length * B + B ≤ 1000000 → forT (β := Empty) f l (sL t) = .nx (sL (t ++ (l.map g).flatten))
  | [], t, _, _ => by simp [forT]
  | x :: l, t, h, hl => by
    simp only [List.length_cons, Nat.add_mul, Nat.one_mul] at hl
    obtain ⟨h1, h2⟩ := h x List.mem_cons_self t (by omega)
    unfold forT
    rw [h1]
    simp only []
    rw [for_text g B l (t ++ g x) (fun y hy => h y (List.mem_cons_of_mem _ hy)) (by rw [List.length_append]; omega)]
    simp
/-- lines, in a list -/
theorem for_lines {α ρ : Type} {f : α → List Str → Rc (List Str) (List Str) ρ} (g : α → List Nat) : ∀ (l : List α) (t : List (List Nat)), (∀ x ∈ l, ∀ t : List Str, t.length < 1000 → f x t = .nx (t ++ [sL (g x)])) → t.length + l.length < 1000 → forT (β := Empty) f l (t.map sL) = .nx ((t ++ l.map g).map sL)
  | [], t, _, _ => by simp [forT]
  | x :: l, t, h, hl => by
    simp only [List.length_cons] at hl
    unfold forT
    rw [h x List.mem_cons_self (t.map sL) (by rw [List.length_map]; omega)]
    simp only []
    have := for_lines g l (t ++ [g x]) (fun y hy => h y (List.mem_cons_of_mem _ hy)) (by simp; omega)
    rw [List.map_append] at this
    rw [show t.map sL ++ [sL (g x)] = t.map sL ++ [g x].map sL from rfl, this]
    simp
section
variable {p : Nat} {m : List (List Int)} {ns : List Str} {q : List (Str × List (Option Int))}
theorem str_comp {f : Int → Unit → Rc Unit Empty (Str × Unit)} (hf : ∀ x, 0 ≤ x → x < 1000 → f x () = .rt (sL (iT x), ())) {r : List Int} (h : ∀ x ∈ r, 0 ≤ x ∧ x < 1000) (hl : r.length < 1000) : compG f r () = .rt ((r.map iT).map sL, ()) := by
  rw [compG_map (fun x => sL (iT x)) (lt_of_small (by omega)) fun x hx => hf x (h x hx).1 (h x hx).2, mapmap]
theorem at_row (hq : ReqsOk p ns q) {y : Str} (hy : y ∈ ns) : PricesOk p (at_ q [] y) := hq.1.2 _ (look_at (d := []) (by rw [hq.1.1]; exact hy)).2
theorem law_system_text_eq (hm : MovesOk p m) (h1 : 1 ≤ p) (h6 : p ≤ 6) (hq : ReqsOk p ns q) : T__law_system_text m q = .rt (sL (sysT m q)) := by
  have hl : m.length = p := hm.1
  have hk : q.map (·.1) = ns := hq.1.1
  have hml : (sortS (q.map (·.1))).length ≤ 5 := by rw [sortS_len, hk]; exact hq.2.2.2.2
  have e1 : forT (β := Empty) (ρ := Str) L__law_system_text_1 m (sL []) = .nx (sL ([] ++ (m.map fun r => lineP r ++ [10]).flatten)) := by
    refine for_text (fun r => lineP r ++ [10]) 41 m [] (fun r hr t ht => ?_) (by simp; omega)
    obtain ⟨hrl, hr9⟩ := hm.sq.2 r hr
    refine ⟨?_, by have := lineP_le hr9 (by omega); simp; omega⟩
    have hw := words_le hr9
    have hj := jn_len [32] 3 (r.map iT) hw
    rw [List.length_map] at hj
    simp only [List.length_singleton] at hj
    unfold L__law_system_text_1
    rw [lS "post ", cat_eq (by rw [show (lit "post ").length = 5 by decide +kernel]; omega), bindO_some, str_comp (fun x h0 h1 => by unfold C__law_system_text_2; rw [strI_eq h0 h1]; rfl) (fun x hx => ⟨(hr9 x hx).1, by have := (hr9 x hx).2; omega⟩) (by omega), callT_rt]
    dsimp only
    rw [lS " ", show lit " " = [32] by decide +kernel, join_eq 3 hw (by rw [List.length_map]; simp; omega), bindO_some, cat_eq (by rw [List.length_append, show (lit "post ").length = 5 by decide +kernel]; omega), bindO_some, lS "\n", show lit "\n" = [10] by decide +kernel, cat_eq (by rw [List.length_append, List.length_append, show (lit "post ").length = 5 by decide +kernel]; simp; omega), bindO_some]
    congr 2
    unfold lineP
    rw [show lit "post " = lit "post" ++ [32] by decide +kernel]
    simp
  have e2 : ∀ t : List Nat, t.length ≤ 1000 → forT (β := Empty) (ρ := Str) (L__law_system_text_3 q) (sortS (q.map (·.1))) (sL t) = .nx (sL (t ++ ((sortS (q.map (·.1))).map fun y => lineR y (at_ q [] y) ++ [10]).flatten)) := fun t ht => by
    refine for_text (fun y => lineR y (at_ q [] y) ++ [10]) 61 _ t (fun y hy t ht => ?_) (by omega)
    have hyn : y ∈ ns := by rw [← hk]; exact (sortS_perm _).mem_iff.mp hy
    obtain ⟨hrl, _, hr9⟩ := at_row hq hyn
    have hN := hq.2.2.1 y hyn
    refine ⟨?_, by have := lineR_le hN hr9 (by omega); simp; omega⟩
    have hw := owords_le hr9
    have hj := jn_len [32] 3 ((at_ q [] y).map oT) hw
    rw [List.length_map] at hj
    simp only [List.length_singleton] at hj
    have hN8 := hN.len
    have lr : (lit "request ").length = 8 := by decide +kernel
    unfold L__law_system_text_3
    rw [lS "request ", cat_eq (by rw [lr]; omega), bindO_some, lS y, cat_eq (by rw [List.length_append, lr]; omega), bindO_some, lS " ", show lit " " = [32] by decide +kernel, cat_eq (by rw [List.length_append, List.length_append, lr]; simp; omega), bindO_some, ← lS y, (look_at (d := []) (by rw [hk]; exact hyn)).1, bindO_some]
    rw [compG_map (fun x => sL (oT x)) (lt_of_small (by omega)) fun x hx => (by unfold C__law_system_text_4; rw [law_item_eq fun i e => hr9 i (e ▸ hx)]; rfl), mapmap, callT_rt]
    dsimp only
    rw [join_eq 3 hw (by rw [List.length_map]; simp; omega), bindO_some, cat_eq (by rw [List.length_append, List.length_append, List.length_append, lr]; simp; omega), bindO_some, lS "\n", show lit "\n" = [10] by decide +kernel, cat_eq (by rw [List.length_append, List.length_append, List.length_append, List.length_append, lr]; simp; omega), bindO_some]
    congr 2
    unfold lineR
    rw [show lit "request " = lit "request" ++ [32] by decide +kernel]
    simp
  unfold T__law_system_text
  rw [show ("" : Str) = sL [] by decide +kernel, e1, bindC_nx, sortSO_eq (by rw [hk]; have := hq.2.2.2.2; omega), bindO_some, List.nil_append]
  have hlen : ((m.map fun r => lineP r ++ [10]).flatten).length ≤ 1000 := by
    have := flat_le 41 (m.map fun r => lineP r ++ [10]) fun w hw => by
      obtain ⟨r, hr, rfl⟩ := List.mem_map.mp hw
      have := lineP_le (hm.sq.2 r hr).2 (by have := (hm.sq.2 r hr).1; omega)
      simp; omega
    rw [List.length_map] at this
    omega
  rw [e2 _ hlen, bindC_nx]
  congr 2
  unfold sysT
  rw [List.map_append, List.flatten_append, List.map_map, List.map_map]
  rfl
theorem has_eq (hq : ReqsOk p ns q) {y : Str} (hy : y ∈ ns) : T_System_has (sysOf p m q) y = .rt true := by
  unfold T_System_has
  rw [show eS y = .str y from rfl, is_name_ok (hq.2.2.1 y hy), callT_rt]
  have : keyM (sysOf p m q).prices y = true := by
    unfold keyM
    show decide (y ∈ (inOrder q []).map (·.1)) = true
    rw [keys_inOrder]
    exact decide_eq_true ((sortS_perm _).mem_iff.mpr (by rw [hq.1.1]; exact hy))
  rw [this]
  rfl
theorem served_eq (hq : ReqsOk p ns q) {y : Str} (hy : y ∈ ns) {z : Int} (z0 : 0 ≤ z) (zp : z < p) : ∃ x, (at_ q [] y)[z.toNat]? = some x ∧ T_System_served (sysOf p m q) y z = .rt x := by
  have hr := at_row hq hy
  have hz : z.toNat < (at_ q [] y).length := by have := hr.1; omega
  refine ⟨_, List.getElem?_eq_getElem hz, ?_⟩
  unfold T_System_served
  rw [has_eq hq hy, callN_rt]
  simp only [Bool.not_true, Bool.false_eq_true, if_false]
  rw [show eI z = .int z from rfl, show (sysOf p m q).posts = (p : Int) from rfl, num_ok z0 (by omega), callT_rt]
  simp only [Bool.not_true, Bool.false_eq_true, if_false]
  have hk : y ∈ q.map (·.1) := by rw [hq.1.1]; exact hy
  have nd : (q.map (·.1)).Nodup := by rw [hq.1.1]; exact hq.2.1
  have e1 : lookM (sysOf p m q).prices y = some (at_ q [] y) := lookM_mem (by show ((inOrder q []).map (·.1)).Nodup; rw [keys_inOrder]; exact sortS_nodup nd) (List.mem_map.mpr ⟨y, (sortS_perm _).mem_iff.mpr hk, rfl⟩)
  rw [e1, bindO_some, atI_of z0 (by omega), bindO_some]
theorem rngL_map {α : Type} {f : Int → α} {l : List α} (h : ∀ i (hi : i < l.length), f (i : Nat) = l[i]) : (rngL 0 l.length).map f = l := by
  apply List.ext_getElem
  · rw [List.length_map, rngL_len]
  · intro i h1 h2
    have hx : (rngL 0 l.length)[i]'(by rw [rngL_len]; exact h2) = (i : Nat) := by
      have := (rngL_get (List.getElem?_eq_getElem (by rw [rngL_len]; exact h2) : (rngL 0 l.length)[i]? = _)).2
      rw [this]
      exact Int.zero_add _
    rw [List.getElem_map, hx, h i h2]
theorem system_text_eq (hm : MovesOk p m) (h1 : 1 ≤ p) (h6 : p ≤ 6) (hq : ReqsOk p ns q) : T_system_text (sysOf p m q) = .rt (sL (sysT m q)) := by
  have hl : m.length = p := hm.1
  have hk : q.map (·.1) = ns := hq.1.1
  have hml : (sortS (q.map (·.1))).length ≤ 5 := by rw [sortS_len, hk]; exact hq.2.2.2.2
  have e1 : forT (β := Empty) (ρ := Str) L_system_text_1 m (([] : List (List Nat)).map sL) = .nx (([] ++ m.map lineP).map sL) := by
    refine for_lines lineP m [] (fun r hr t ht => ?_) (by simp; omega)
    obtain ⟨hrl, hr9⟩ := hm.sq.2 r hr
    have hw := words_le hr9
    unfold L_system_text_1
    rw [str_comp (fun x h0 h1 => by unfold C_system_text_2; rw [strI_eq h0 h1]; rfl) (fun x hx => ⟨(hr9 x hx).1, by have := (hr9 x hx).2; omega⟩) (by omega), callT_rt]
    dsimp only
    rw [catL_eq (by simp; unfold lim; omega), bindO_some]
    rw [show [("post" : Str)] ++ (r.map iT).map sL = (lit "post" :: r.map iT).map sL by rw [List.map_cons, ← lS "post"]; rfl, lS " ", show lit " " = [32] by decide +kernel]
    rw [join_eq 4 (fun w hw' => by
      rcases List.mem_cons.mp hw' with rfl | hw'
      · rw [lit_post]; omega
      · have := hw w hw'; omega) (by simp; omega), bindO_some, app_eq (lt_of_small (by omega)), bindO_some]
    rw [jn_cons (by intro z; have h := congrArg List.length z; rw [List.length_map, List.length_nil] at h; omega)]
    rfl
  have e2 : forT (β := Empty) (ρ := Str) (L_system_text_3 (sysOf p m q)) (sortS (q.map (·.1))) ((m.map lineP).map sL) = .nx ((m.map lineP ++ (sortS (q.map (·.1))).map fun y => lineR y (at_ q [] y)).map sL) := by
    refine for_lines (fun y => lineR y (at_ q [] y)) _ _ (fun y hy t ht => ?_) (by rw [List.length_map]; omega)
    have hyn : y ∈ ns := by rw [← hk]; exact (sortS_perm _).mem_iff.mp hy
    obtain ⟨hrl, _, hr9⟩ := at_row hq hyn
    have hN := hq.2.2.1 y hyn
    have hw := owords_le hr9
    unfold L_system_text_3
    rw [show (sysOf p m q).posts = (p : Int) from rfl, rng1_nat (by omega), bindO_some]
    have ec : compG (C_system_text_4 (sysOf p m q) y) (rngL 0 p) () = .rt (((at_ q [] y).map oT).map sL, ()) := by
      rw [compG_map (fun z => sL (oT ((at_ q [] y).getD z.toNat none))) (by rw [rngL_len]; exact lt_of_small (by omega)) fun z hz => ?_]
      · congr 2
        rw [List.map_map, ← hrl]
        have := rngL_map (f := fun z => sL (oT ((at_ q [] y).getD z.toNat none))) (l := (at_ q [] y).map (sL ∘ oT)) fun i hi => by
          rw [List.length_map] at hi
          simp [List.getD_eq_getElem?_getD, hi]
        rw [List.length_map] at this
        exact this
      · obtain ⟨i, hi, rfl⟩ := List.mem_iff_getElem.mp hz
        rw [rngL_len] at hi
        have hx : (rngL 0 p)[i]'(by rw [rngL_len]; exact hi) = (i : Nat) := by
          have := (rngL_get (List.getElem?_eq_getElem (by rw [rngL_len]; exact hi) : (rngL 0 p)[i]? = _)).2
          rw [this]
          exact Int.zero_add _
        rw [hx]
        obtain ⟨x, g1, g2⟩ := served_eq (m := m) hq hyn (z := (i : Nat)) (by omega) (by omega)
        unfold C_system_text_4
        rw [g2, callN_rt, item_eq fun j e => hr9 j (e ▸ List.mem_of_getElem? g1), callT_rt, List.getD_eq_getElem?_getD, g1]
        rfl
    rw [ec, callT_rt]
    dsimp only
    rw [catL_eq (by simp; unfold lim; omega), bindO_some]
    have hN8 := hN.len
    rw [show [("request" : Str), y] ++ ((at_ q [] y).map oT).map sL = (lit "request" :: lit y :: (at_ q [] y).map oT).map sL by rw [List.map_cons, List.map_cons, ← lS "request", ← lS y]; rfl, lS " ", show lit " " = [32] by decide +kernel]
    rw [join_eq 8 (fun w hw' => by
      rcases List.mem_cons.mp hw' with rfl | hw'
      · rw [lit_req]; omega
      rcases List.mem_cons.mp hw' with rfl | hw'
      · omega
      · have := hw w hw'; omega) (by simp; omega), bindO_some, app_eq (lt_of_small (by omega)), bindO_some]
    rw [jn_cons (by simp), jn_cons (by intro z; have h := congrArg List.length z; rw [List.length_map, List.length_nil] at h; omega)]
    rfl
  unfold T_system_text
  rw [show (sysOf p m q).moves = m from rfl, show (sysOf p m q).names = sortS (q.map (·.1)) from rfl, show ([] : List Str) = ([] : List (List Nat)).map sL from rfl, e1, bindC_nx, List.nil_append, e2, bindC_nx]
  have hB : ∀ w ∈ m.map lineP ++ (sortS (q.map (·.1))).map fun y => lineR y (at_ q [] y), w.length ≤ 60 := fun w hw => by
    rcases List.mem_append.mp hw with hw | hw
    · obtain ⟨r, hr, rfl⟩ := List.mem_map.mp hw
      have := lineP_le (hm.sq.2 r hr).2 (by have := (hm.sq.2 r hr).1; omega)
      omega
    · obtain ⟨y, hy, rfl⟩ := List.mem_map.mp hw
      have hyn : y ∈ ns := by rw [← hk]; exact (sortS_perm _).mem_iff.mp hy
      obtain ⟨hrl, _, hr9⟩ := at_row hq hyn
      exact lineR_le (hq.2.2.1 y hyn) hr9 (by omega)
  have hlen : (m.map lineP ++ (sortS (q.map (·.1))).map fun y => lineR y (at_ q [] y)).length ≤ 11 := by
    rw [List.length_append, List.length_map, List.length_map]; omega
  generalize hls : (m.map lineP ++ (sortS (q.map (·.1))).map fun y => lineR y (at_ q [] y)) = ls at hB hlen
  have ec : compG C_system_text_5 (ls.map sL) () = .rt (((ls.map fun l => l ++ [10])).map sL, ()) := by
    have := compG_map (f := C_system_text_5) (l := ls.map sL) (fun s => sL (lit s ++ [10])) (by rw [List.length_map]; exact lt_of_small (by omega)) fun s hs => by
      obtain ⟨l, hl2, rfl⟩ := List.mem_map.mp hs
      unfold C_system_text_5
      rw [lS "\n", show lit "\n" = [10] by decide +kernel, cat_eq (by have := hB l hl2; simp; omega), bindO_some, lit_sL]
    rw [this, List.map_map, List.map_map]
    congr 2
  rw [ec, callT_rt]
  dsimp only
  rw [show ("" : Str) = sL [] by decide +kernel, join_eq 61 (fun w hw => by
    obtain ⟨l, hl2, rfl⟩ := List.mem_map.mp hw
    have := hB l hl2
    simp; omega) (by rw [List.length_map]; simp; omega), bindO_some, jn_nil]
  unfold sysT
  rw [hls]
end
end LawP

set_option maxHeartbeats 1000000
/-! U6: texts of machines and views; renting; the law. -/
namespace LawP
open PySem L2 DL TL
def wordM (q : List (Str × Int)) (y : Str) : List Nat := lit y ++ [58] ++ iT (at_ q 0 y)
def lineM (q : List (Str × Int)) : List Nat := lit "state" ++ [32] ++ jn [32] ((sortS (q.map (·.1))).map (wordM q)) ++ [10]
def macT (ts : List (List (Str × Int))) : List Nat := (ts.map lineM).flatten
section
variable {st : Nat} {ts : List (List (Str × Int))}
theorem wordM_le (h : TurnsOk st ts) (h4 : st ≤ 4) {q : List (Str × Int)} (hq : q ∈ ts) : ∀ w ∈ (sortS (q.map (·.1))).map (wordM q), w.length ≤ 12 := fun w hw => by
  obtain ⟨y, hy, rfl⟩ := List.mem_map.mp hw
  obtain ⟨nd, hx, h5, hne⟩ := h.2 q hq
  obtain ⟨hN, v0, v1⟩ := hx _ (look_at (d := 0) ((sortS_perm _).mem_iff.mp hy)).2
  have := hN.len
  have := iT_le (i := at_ q 0 y) v0 (by simp only at v1; omega)
  unfold wordM
  simp only at *
  simp
  omega
theorem lineM_le (h : TurnsOk st ts) (h4 : st ≤ 4) {q : List (Str × Int)} (hq : q ∈ ts) : (jn [32] ((sortS (q.map (·.1))).map (wordM q))).length ≤ 65 ∧ (lineM q).length ≤ 100 := by
  have := jn_len [32] 12 _ (wordM_le h h4 hq)
  have h5 := (h.2 q hq).2.2.1
  rw [List.length_map, sortS_len, List.length_map] at this
  simp only [List.length_singleton] at this
  refine ⟨by omega, ?_⟩
  unfold lineM
  rw [List.length_append, List.length_append, List.length_append, show (lit "state").length = 5 by decide +kernel]
  simp only [List.length_singleton]
  omega
theorem law_machine_text_eq (h : TurnsOk st ts) (h4 : st ≤ 4) : T__law_machine_text ts = .rt (sL (macT ts)) := by
  have hl := h.1
  have e1 : forT (β := Empty) (ρ := Str) L__law_machine_text_1 ts (sL []) = .nx (sL ([] ++ (ts.map lineM).flatten)) := by
    refine for_text lineM 100 ts [] (fun q hq t ht => ?_) (by simp; omega)
    obtain ⟨nd, hx, h5, hne⟩ := h.2 q hq
    obtain ⟨hj, hL⟩ := lineM_le h h4 hq
    refine ⟨?_, hL⟩
    have l6 : (lit "state ").length = 6 := by decide +kernel
    unfold L__law_machine_text_1
    rw [lS "state ", cat_eq (by rw [l6]; omega), bindO_some, sortSO_eq (by rw [List.length_map]; omega), bindO_some]
    rw [compG_map (fun y => sL (wordM q y)) (by rw [sortS_len, List.length_map]; exact lt_of_small (by omega)) fun y hy => ?_, mapmap, callT_rt]
    · dsimp only
      rw [lS " ", show lit " " = [32] by decide +kernel, join_eq 12 (wordM_le h h4 hq) (by rw [List.length_map, sortS_len, List.length_map]; simp only [List.length_singleton]; omega), bindO_some, cat_eq (by rw [List.length_append, l6]; omega), bindO_some, lS "\n", show lit "\n" = [10] by decide +kernel, cat_eq (by rw [List.length_append, List.length_append, l6]; simp only [List.length_singleton]; omega), bindO_some]
      congr 2
      unfold lineM
      rw [show lit "state " = lit "state" ++ [32] by decide +kernel]
      simp
    · obtain ⟨g1, g2⟩ := look_at (d := 0) ((sortS_perm _).mem_iff.mp hy)
      obtain ⟨hN, v0, v1⟩ := hx _ g2
      have hN8 := hN.len
      simp only at v0 v1 hN8
      have h3 := iT_le (i := at_ q 0 y) v0 (by omega)
      unfold C__law_machine_text_2
      rw [lS y, lS ":", show lit ":" = [58] by decide +kernel, cat_eq (by simp only [List.length_singleton]; omega), bindO_some, ← lS y, g1, bindO_some, strI_eq v0 (by omega), bindO_some, cat_eq (by rw [List.length_append]; simp only [List.length_singleton]; omega), bindO_some]
      rfl
  unfold T__law_machine_text
  rw [show ("" : Str) = sL [] by decide +kernel, e1, bindC_nx]
  rfl
theorem machine_text_eq (h : TurnsOk st ts) (h4 : st ≤ 4) : T_machine_text (macOf ts) = .rt (sL (macT ts)) := by
  have hl := h.1
  have e1 : forT (β := Empty) (ρ := Str) L_machine_text_1 (ts.map fun q => inOrder q 0) (([] : List (List Nat)).map sL) = .nx (([] ++ (ts.map lineM)).map sL) := by
    have := for_lines (ρ := Str) (f := L_machine_text_1) lineM (ts.map fun q => inOrder q 0) [] (fun q' hq' t ht => ?_) (by rw [List.length_map]; simp; omega)
    · rw [this, List.map_map]
      congr 2
      simp only [List.nil_append]
      refine List.map_congr_left fun q hq => ?_
      have nd := (h.2 q hq).1
      show lineM (inOrder q 0) = lineM q
      unfold lineM
      rw [keys_inOrder, sortS_idem]
      congr 3
      refine List.map_congr_left fun y hy => ?_
      unfold wordM
      rw [at_inOrder nd ((sortS_perm _).mem_iff.mp hy)]
    · obtain ⟨q, hq, rfl⟩ := List.mem_map.mp hq'
      obtain ⟨nd, hx, h5, hne⟩ := h.2 q hq
      have hpos : 0 < q.length := List.length_pos_iff.mpr hne
      have ew : (sortS (q.map (·.1))).map (wordM (inOrder q 0)) = (sortS (q.map (·.1))).map (wordM q) := by
        refine List.map_congr_left fun y hy => ?_
        unfold wordM
        rw [at_inOrder nd ((sortS_perm _).mem_iff.mp hy)]
      have hw := wordM_le h h4 hq
      have hj := (lineM_le h h4 hq).1
      unfold L_machine_text_1
      rw [keys_inOrder, sortSO_eq (by rw [sortS_len, List.length_map]; omega), sortS_idem, bindO_some]
      rw [compG_map (fun y => sL (wordM (inOrder q 0) y)) (by rw [sortS_len, List.length_map]; exact lt_of_small (by omega)) fun y hy => ?_, mapmap, callT_rt]
      · dsimp only
        rw [catL_eq (by simp only [List.length_map, sortS_len, List.length_singleton]; unfold lim; omega), bindO_some, ew]
        rw [show [("state" : Str)] ++ ((sortS (q.map (·.1))).map (wordM q)).map sL = (lit "state" :: (sortS (q.map (·.1))).map (wordM q)).map sL by rw [List.map_cons, ← lS "state"]; rfl, lS " ", show lit " " = [32] by decide +kernel]
        have l5 : (lit "state").length = 5 := by decide +kernel
        rw [join_eq 12 (fun w hw' => by
          rcases List.mem_cons.mp hw' with rfl | hw'
          · rw [l5]; omega
          · exact hw w hw') (by rw [List.length_cons, List.length_map, sortS_len, List.length_map]; simp only [List.length_singleton]; omega), bindO_some]
        rw [jn_cons (by intro z; have h := congrArg List.length z; rw [List.length_map, sortS_len, List.length_map, List.length_nil] at h; omega)]
        rw [lS "\n", show lit "\n" = [10] by decide +kernel, cat_eq (by rw [List.length_append, List.length_append, l5]; simp only [List.length_singleton]; omega), bindO_some, app_eq (lt_of_small (by omega)), bindO_some]
        unfold lineM
        rw [keys_inOrder, sortS_idem, ew]
      · have hk := (sortS_perm _).mem_iff.mp hy
        have hk2 : y ∈ (inOrder q 0).map (·.1) := by rw [keys_inOrder]; exact hy
        obtain ⟨g1, _⟩ := look_at (d := 0) hk2
        obtain ⟨_, g2⟩ := look_at (d := 0) hk
        have ea := at_inOrder (d := 0) nd hk
        obtain ⟨hN, v0, v1⟩ := hx _ g2
        have hN8 := hN.len
        simp only at v0 v1 hN8
        have h3 := iT_le (i := at_ q 0 y) v0 (by omega)
        unfold C_machine_text_2
        rw [lS y, lS ":", show lit ":" = [58] by decide +kernel, cat_eq (by simp only [List.length_singleton]; omega), bindO_some, ← lS y, g1, bindO_some, ea, strI_eq v0 (by omega), bindO_some, cat_eq (by rw [List.length_append]; simp only [List.length_singleton]; omega), bindO_some]
        unfold wordM
        rw [ea]
  unfold T_machine_text
  rw [turnsM_eq h h4, callN_rt, show ([] : List Str) = ([] : List (List Nat)).map sL from rfl, e1, bindC_nx, List.nil_append, show ("" : Str) = sL [] by decide +kernel, join_eq 100 (fun w hw => by
    obtain ⟨q, hq, rfl⟩ := List.mem_map.mp hw
    exact (lineM_le h h4 hq).2) (by rw [List.length_map]; simp; omega), bindO_some, jn_nil]
  rfl
end
/-! ### views -/
def OffOk (p : Nat) (r : List Int) : Prop := r.length = p ∧ ∀ x ∈ r, 0 ≤ x ∧ x < 1000
theorem leastI_spec : ∀ {l : List Int}, l ≠ [] → ∃ v, leastI l = some v ∧ v ∈ l ∧ ∀ x ∈ l, v ≤ x
  | [], h => absurd rfl h
  | [a], _ => ⟨a, rfl, by simp, fun x hx => by
    have : x = a := by simpa using hx
    omega⟩
  | a :: b :: r, _ => by
    obtain ⟨v, h1, h2, h3⟩ := leastI_spec (l := b :: r) (by simp)
    refine ⟨if v < a then v else a, ?_, ?_, fun x hx => ?_⟩
    · show (leastI (b :: r)).map _ = _
      rw [h1]
      rfl
    · split
      · exact List.mem_cons_of_mem _ h2
      · exact List.mem_cons_self
    · rcases List.mem_cons.mp hx with rfl | hx
      · split <;> omega
      · have := h3 x hx
        split <;> omega
theorem offsets {n p : Nat} {s : Int × Int × Bool} {w : List (List Int)} (h : SK n s) (hn : n < 2 ^ 34) (hw : Sq p w) (h1 : 1 ≤ p) (h6 : p ≤ 6) : Wr (T__law_offsets s w) fun r => OffOk p r.1 ∧ SK (n + 6) r.2 := by
  have hl := hw.1
  unfold T__law_offsets
  refine w_call (w_comp (fun k acc q => SK (n + k) q ∧ acc.length = k ∧ ∀ x ∈ acc, 0 ≤ x ∧ x < 60) (by exact lt_of_small (by omega)) ⟨h, rfl, fun x z => by cases z⟩ ?_) ?_
  · rintro i r acc q hr ⟨h2, hla, ha⟩
    have hi := (List.getElem?_eq_some_iff.mp hr).1
    unfold C__law_offsets_1
    refine w_call (draw (m := 60) h2 (by omega) (by decide) (by decide)) ?_
    rintro ⟨v, s3⟩ ⟨hv, h3⟩
    exact w_rt ⟨h3, by simp [hla], mem_app1 ha hv⟩
  · rintro ⟨base, s2⟩ ⟨h2, hlb, hb⟩
    simp only at h2 hlb hb
    rw [hl] at h2 hlb
    dsimp only
    rw [hl]
    refine w_o (rng1_nat (by omega)) (w_for (fun k q => q.1 = base ∧ q.2.length = k ∧ ∀ x ∈ q.2, 0 ≤ x ∧ x < 100) ⟨rfl, rfl, fun x z => by cases z⟩ ?_ ?_)
    · rintro b x ⟨bs, os⟩ hx ⟨e, hlo, ho⟩
      obtain ⟨hb2, rfl⟩ := rngL_get hx
      simp only at e hlo ho
      subst e
      unfold L__law_offsets_2
      dsimp only
      rw [hl]
      refine w_o (rng1_nat (by omega)) (w_call (w_comp (fun k acc q => q = bs ∧ acc.length = k ∧ ∀ x ∈ acc, 0 ≤ x ∧ x < 100) (by rw [rngL_len]; exact lt_of_small (by omega)) ⟨rfl, rfl, fun x z => by cases z⟩ ?_) ?_)
      · rintro a y acc q hy ⟨e, hla, ha⟩
        obtain ⟨ha2, rfl⟩ := rngL_get hy
        subst e
        obtain ⟨r, g1, g2, g3, g4⟩ := hw.row ha2
        unfold C__law_offsets_3
        have b1 : ((0 : Int) + (a : Nat)).toNat < q.length := by omega
        have r1 : ((0 : Int) + (b : Nat)).toNat < r.length := by omega
        have m1 := hb _ (List.getElem_mem b1)
        have m2 := g4 _ (List.getElem_mem r1)
        have ew : atI w ((0 : Int) + (a : Nat)) = some r := by
          rw [atI_of (by omega) (by omega), ← g1]
          rw [List.getElem?_eq_getElem (by omega)]
          congr 2
          omega
        refine w_o (atI_of (by omega) (by omega)) (w_o ew (w_o (atI_of (by omega) (by omega)) (w_rt ⟨rfl, by simp [hla], mem_app1 ha ?_⟩)))
        dsimp only
        omega
      · rintro ⟨ys, bs2⟩ ⟨e, hly, hy⟩
        simp only at e hly hy
        subst e
        rw [rngL_len] at hly
        obtain ⟨v, k1, k2, k3⟩ := leastI_spec (l := ys) (by intro z; subst z; simp at hly; omega)
        exact w_o k1 (w_o (app_eq (lt_of_small (by omega))) (w_nx ⟨rfl, by simp [hlo], mem_app1 ho (hy v k2)⟩))
    · rintro ⟨bs, os⟩ ⟨e, hlo, ho⟩
      rw [rngL_len] at hlo
      simp only at hlo ho
      obtain ⟨v, k1, k2, k3⟩ := leastI_spec (l := os) (by intro z; subst z; simp at hlo; omega)
      refine w_o k1 (w_o (mapO_eq (lt_of_small (by show os.length < 1000000; omega))) (w_rt ⟨⟨by simp [hlo], fun x hx => ?_⟩, h2.mono (by omega)⟩))
      obtain ⟨y, hy, rfl⟩ := List.mem_map.mp hx
      have := k3 y hy
      have := ho y hy
      have := ho v k2
      omega
def viewT (a b : Int) (r : List Int) (h : List Nat) : List Nat := iT a ++ [32] ++ iT b ++ [32] ++ jn [44] (r.map iT) ++ [32] ++ h
def hintT : Option Str → List Nat
  | none => [45]
  | some x => lit x
theorem offw_le {p : Nat} {r : List Int} (h : OffOk p r) : ∀ w ∈ r.map iT, w.length ≤ 3 := fun w hw => by
  obtain ⟨x, hx, rfl⟩ := List.mem_map.mp hw
  exact iT_le (h.2 x hx).1 (h.2 x hx).2
section
variable {p : Nat} {a b : Int} {r : List Int}
theorem view_text_eq (hr : OffOk p r) (h6 : p ≤ 6) (a0 : 0 ≤ a) (a1 : a < 1000) (b0 : 0 ≤ b) (b1 : b < 1000) {hint : Option Str} (hh : ∀ x, hint = some x → NamS x) : T_view_text (a, b, r, hint) = .rt (sL (viewT a b r (hintT hint))) ∧ T__law_view_text (a, b, r, hint) = .rt (sL (viewT a b r (hintT hint))) := by
  have hl := hr.1
  have ha := iT_le a0 a1
  have hb := iT_le b0 b1
  have hw := offw_le hr
  have hj := jn_len [44] 3 (r.map iT) hw
  rw [List.length_map] at hj
  simp only [List.length_singleton] at hj
  have hh8 : (hintT hint).length ≤ 8 := by
    cases hint with
    | none => simp [hintT]
    | some x => exact (hh x rfl).len.2
  have e1 : T_hint_text hint = .rt (sL (hintT hint)) := by
    unfold T_hint_text
    cases hint with
    | none => rfl
    | some x => rw [caseO_some]; unfold hintT; rw [← lS x]
  have e2 : T__law_item_2 hint = .rt (sL (hintT hint)) := by
    unfold T__law_item_2
    cases hint with
    | none => rfl
    | some x => rw [caseO_some]; unfold hintT; rw [← lS x]
  constructor
  · unfold T_view_text
    dsimp only
    rw [str_comp (fun x h0 h1 => by unfold C_view_text_1; rw [strI_eq h0 h1]; rfl) hr.2 (by omega), callT_rt]
    dsimp only
    rw [lS ",", show lit "," = [44] by decide +kernel, join_eq 3 hw (by rw [List.length_map]; simp only [List.length_singleton]; omega), bindO_some, strI_eq a0 a1, bindO_some, show Str.empty = sL [] from rfl, jcat_eq (by simp only [List.length_nil]; omega), bindO_some, lS " ", show lit " " = [32] by decide +kernel, jcat_eq (by simp only [List.length_append, List.length_singleton, List.length_nil]; omega), bindO_some, strI_eq b0 b1, bindO_some, jcat_eq (by simp only [List.length_append, List.length_singleton, List.length_nil]; omega), bindO_some, jcat_eq (by simp only [List.length_append, List.length_singleton, List.length_nil]; omega), bindO_some, fmt_eq (by omega), bindO_some, jcat_eq (by simp only [List.length_append, List.length_singleton, List.length_nil]; omega), bindO_some, jcat_eq (by simp only [List.length_append, List.length_singleton, List.length_nil]; omega), bindO_some, e1, callT_rt, fmt_eq (by omega), bindO_some, jcat_eq (by simp only [List.length_append, List.length_singleton, List.length_nil]; omega), bindO_some]
    rfl
  · unfold T__law_view_text
    dsimp only
    rw [str_comp (fun x h0 h1 => by unfold C__law_view_text_1; rw [strI_eq h0 h1]; rfl) hr.2 (by omega), callT_rt]
    dsimp only
    rw [lS ",", show lit "," = [44] by decide +kernel, join_eq 3 hw (by rw [List.length_map]; simp only [List.length_singleton]; omega), bindO_some, strI_eq a0 a1, bindO_some, lS " ", show lit " " = [32] by decide +kernel, cat_eq (by simp only [List.length_append, List.length_singleton, List.length_nil]; omega), bindO_some, strI_eq b0 b1, bindO_some, cat_eq (by simp only [List.length_append, List.length_singleton, List.length_nil]; omega), bindO_some, cat_eq (by simp only [List.length_append, List.length_singleton, List.length_nil]; omega), bindO_some, cat_eq (by simp only [List.length_append, List.length_singleton, List.length_nil]; omega), bindO_some, cat_eq (by simp only [List.length_append, List.length_singleton, List.length_nil]; omega), bindO_some, e2, callT_rt, cat_eq (by simp only [List.length_append, List.length_singleton, List.length_nil]; omega), bindO_some]
    rfl
theorem view_text2_eq (hr : OffOk p r) (h6 : p ≤ 6) (a0 : 0 ≤ a) (a1 : a < 1000) (b0 : 0 ≤ b) (b1 : b < 1000) : T_view_text_2 (a, b, r, ()) = .rt (sL (viewT a b r [45])) := by
  have hl := hr.1
  have ha := iT_le a0 a1
  have hb := iT_le b0 b1
  have hw := offw_le hr
  have hj := jn_len [44] 3 (r.map iT) hw
  rw [List.length_map] at hj
  simp only [List.length_singleton] at hj
  have e1 : T_hint_text none = .rt (sL [45]) := rfl
  unfold T_view_text_2
  dsimp only
  rw [str_comp (fun x h0 h1 => by unfold C_view_text_2_1; rw [strI_eq h0 h1]; rfl) hr.2 (by omega), callT_rt]
  dsimp only
  rw [lS ",", show lit "," = [44] by decide +kernel, join_eq 3 hw (by rw [List.length_map]; simp only [List.length_singleton]; omega), bindO_some, strI_eq a0 a1, bindO_some, show Str.empty = sL [] from rfl, jcat_eq (by simp only [List.length_nil]; omega), bindO_some, lS " ", show lit " " = [32] by decide +kernel, jcat_eq (by simp only [List.length_append, List.length_singleton, List.length_nil]; omega), bindO_some, strI_eq b0 b1, bindO_some, jcat_eq (by simp only [List.length_append, List.length_singleton, List.length_nil]; omega), bindO_some, jcat_eq (by simp only [List.length_append, List.length_singleton, List.length_nil]; omega), bindO_some, fmt_eq (by omega), bindO_some, jcat_eq (by simp only [List.length_append, List.length_singleton, List.length_nil]; omega), bindO_some, jcat_eq (by simp only [List.length_append, List.length_singleton, List.length_nil]; omega), bindO_some, e1, callT_rt, fmt_eq (by simp only [List.length_singleton]; omega), bindO_some, jcat_eq (by simp only [List.length_append, List.length_singleton, List.length_nil]; omega), bindO_some]
  rfl
end
theorem law_is_eq (x y : Str) : T__law_is x y = .rt (decide (x = y)) := by
  unfold T__law_is
  rfl
end LawP

set_option maxHeartbeats 1000000
/-! U7: renting, the law. -/
namespace LawP
open PySem L2 DL TL
def rentM (c : Int) : List (List Int) := [[0, c], [0, 0]]
def rentQ : List (Str × List (Option Int)) := [("day", [some 1, some 0]), ("over", [some 0, none])]
theorem nam_day : NamS "day" := ⟨[100, 97, 121], by decide +kernel, by decide, by decide, by unfold Low; decide⟩
theorem nam_over : NamS "over" := ⟨[111, 118, 101, 114], by decide +kernel, by decide, by decide, by unfold Low; decide⟩
theorem rentM_ok {c : Int} (h1 : 1 ≤ c) (h9 : c ≤ 9) : MovesOk 2 (rentM c) := by
  refine ⟨rfl, fun i r hr => ?_⟩
  match i, hr with
  | 0, hr =>
    have : r = [0, c] := by simpa [rentM] using hr.symm
    subst this
    exact ⟨rfl, fun x hx => by simpa using hx.symm, fun x hx => by
      rcases List.mem_cons.mp hx with rfl | hx
      · decide
      · have : x = c := by simpa using hx
        omega⟩
  | 1, hr =>
    have : r = [0, 0] := by simpa [rentM] using hr.symm
    subst this
    exact ⟨rfl, fun x hx => by simpa using hx.symm, by decide⟩
  | i + 2, hr => simp [rentM] at hr
theorem rentQ_ok : ReqsOk 2 ["day", "over"] rentQ := by
  refine ⟨⟨rfl, fun x hx => ?_⟩, by decide +kernel, fun x hx => ?_, by simp, by decide⟩
  · rcases List.mem_cons.mp hx with rfl | hx
    · refine ⟨rfl, ⟨1, by simp⟩, fun i hi => ?_⟩
      have : i = 1 ∨ i = 0 := by simpa using hi
      omega
    · have : x = (("over", [some 0, none]) : Str × List (Option Int)) := by simpa using hx
      subst this
      refine ⟨rfl, ⟨0, by simp⟩, fun i hi => ?_⟩
      have : i = 0 := by simpa using hi
      omega
  · rcases List.mem_cons.mp hx with rfl | hx
    · exact nam_day
    · have : x = "over" := by simpa using hx
      subst this
      exact nam_over
theorem renting_eq {c : Int} (h1 : 1 ≤ c) (h9 : c ≤ 9) : T_renting c = .rt (sysOf 2 (rentM c) rentQ) := by
  unfold T_renting
  rw [show eI c = .int c from rfl, num_ok h1 h9, callT_rt]
  simp only [Bool.not_true, Bool.false_eq_true, if_false]
  show callN (T_System_init (rentM c) rentQ) _ = _
  rw [system_eq (rentM_ok h1 h9) (by decide) (by decide) rentQ_ok, callN_rt]
theorem text2_eq (x : O_System) : T_system_text_2 x = T_system_text x := rfl
theorem rent_text : ∀ k : Fin 10, sysT (rentM (k.val : Int)) rentQ = lit "post 0 " ++ iT (k.val : Int) ++ lit "\npost 0 0\nrequest day 1 0\nrequest over 0 -\n" := by decide +kernel
theorem law_true (ns : List Int) : T_law ns = .rt true := by
  have key : Wr (T_law ns) fun b => b = true := by
    unfold T_law
    refine w_call (stock (by decide) (by decide)) fun s0 hs0 => ?_
    refine w_call (draw (m := 5) hs0 (by decide) (by decide) (by decide)) ?_
    rintro ⟨v, s1⟩ ⟨⟨v0, v1⟩, h1⟩
    simp only at v0 v1 h1
    refine w_call (names h1 (by omega) (by omega) (by omega)) ?_
    rintro ⟨nl, s2⟩ ⟨⟨hne, hlen, nd, hN⟩, h2⟩
    simp only at hne hlen nd hN h2
    have hpos : 0 < nl.length := List.length_pos_iff.mpr hne
    refine w_call (draw (m := 6) h2 (by omega) (by decide) (by decide)) ?_
    rintro ⟨u, s3⟩ ⟨⟨u0, u1⟩, h3⟩
    simp only at u0 u1 h3
    refine w_v ?_
    obtain ⟨p, hp⟩ : ∃ p : Nat, p = (1 + u).toNat := ⟨_, rfl⟩
    refine w_call (moves (p := 1 + u) h3 (by omega) (by omega) (by omega)) ?_
    rintro ⟨m, s4⟩ ⟨hm, h4⟩
    simp only at hm h4
    rw [← hp] at hm
    refine w_call (requests (p := 1 + u) h4 (by omega) (by omega) (by omega) (by omega) nd) ?_
    rintro ⟨q, s5⟩ ⟨hq, h5⟩
    simp only at hq h5
    rw [← hp] at hq
    have p1 : 1 ≤ p := by omega
    have p6 : p ≤ 6 := by omega
    have hQ : ReqsOk p nl q := ⟨hq, nd, hN, hne, by omega⟩
    have ndq : (q.map (·.1)).Nodup := by rw [hq.1]; exact nd
    have hlq : q.length ≤ 5 := by
      have := congrArg List.length hq.1
      rw [List.length_map] at this
      omega
    refine w_call (stock (by decide) (by decide)) fun s6 hs6 => ?_
    refine w_call (draw (m := 4) hs6 (by decide) (by decide) (by decide)) ?_
    rintro ⟨t, s7⟩ ⟨⟨t0, t1⟩, h7⟩
    simp only at t0 t1 h7
    refine w_call (turns (st := 1 + t) h7 (by omega) (by omega) (by omega) (by omega) hne nd) ?_
    rintro ⟨ts, s8⟩ ⟨⟨htl, ht⟩, h8⟩
    simp only at htl ht h8
    obtain ⟨st, hst⟩ : ∃ st : Nat, st = (1 + t).toNat := ⟨_, rfl⟩
    have hT : TurnsOk st ts := ⟨by omega, fun row hrow => by
      obtain ⟨g1, g2, g3, g4⟩ := ht row hrow
      exact ⟨g1, fun x hx => ⟨hN _ (g2 x hx).1, (g2 x hx).2.1, by have := (g2 x hx).2.2; omega⟩, by omega, g4⟩⟩
    have st1 : 1 ≤ st := by omega
    have st4 : st ≤ 4 := by omega
    refine w_call (stock (by decide) (by decide)) fun s9 hs9 => ?_
    refine w_eq (law_ways_eq p6 hm) ?_
    have hsq := hm.sq.fw
    refine w_o (catL_eq (by simp only [List.length_map, List.length_singleton]; unfold lim; omega)) ?_
    refine w_call (draw (m := (nl.length : Int) + 1) hs9 (by omega) (by omega) (by omega)) ?_
    rintro ⟨hi, s10⟩ ⟨⟨hi0, hi1⟩, h10⟩
    simp only at hi0 hi1 h10
    have hxl : hi.toNat < (nl.map (fun y => some y) ++ ([()] : List Unit).map fun _ => (none : Option Str)).length := by
      simp only [List.length_append, List.length_map, List.length_singleton]
      omega
    refine w_o (atI_of hi0 (by omega)) ?_
    have hhint : ∀ x, (nl.map (fun y => some y) ++ ([()] : List Unit).map fun _ => (none : Option Str))[hi.toNat] = some x → NamS x := fun x hx => by
      have hmem := List.getElem_mem hxl
      rw [hx] at hmem
      have : x ∈ nl := by simpa using hmem
      exact hN x this
    generalize (nl.map (fun y => some y) ++ ([()] : List Unit).map fun _ => (none : Option Str))[hi.toNat] = hint at hhint ⊢
    refine w_call (draw (m := 4) h10 (by omega) (by decide) (by decide)) ?_
    rintro ⟨va, s11⟩ ⟨⟨va0, va1⟩, h11⟩
    simp only at va0 va1 h11
    refine w_call (draw (m := 1 + u) h11 (by omega) (by omega) (by omega)) ?_
    rintro ⟨vb, s12⟩ ⟨⟨vb0, vb1⟩, h12⟩
    simp only at vb0 vb1 h12
    refine w_call (offsets h12 (by omega) hsq p1 p6) ?_
    rintro ⟨os, s13⟩ ⟨hos, h13⟩
    simp only at hos h13
    refine w_v (w_call (stock (by decide) (by decide)) fun s14 hs14 => ?_)
    refine w_call (draw (m := 9) hs14 (by decide) (by decide) (by decide)) ?_
    rintro ⟨c, s15⟩ ⟨⟨c0, c1⟩, h15⟩
    simp only at c0 c1 h15
    refine w_v (w_eq (law_system_text_eq hm p1 p6 hQ) ?_)
    refine w_eqN (system_eq hm p1 p6 hQ) (w_eq (turned_eq ndq (by omega)) (w_eqN (system_eq hm p1 p6 hQ.rev) ?_))
    rw [sysOf_rev ndq]
    refine w_eq (system_text_eq hm p1 p6 hQ) (w_eq (law_is_eq _ _) (w_call (R := fun b => b = false) (w_iff (by simp) (w_eq (system_text_eq hm p1 p6 hQ) (w_eq (law_is_eq _ _) (w_rt (by simp))))) fun b hb => w_iff hb ?_))
    refine w_eq (law_machine_text_eq hT st4) (w_o (mapO_eq (lt_of_small (by have := hT.1; omega))) ?_)
    rw [List.map_id']
    refine w_eqN (machine_eq hT st1 st4) (w_eq (compG_map (fun row => row.reverse) (lt_of_small (by have := hT.1; omega)) fun row hrow => ?_) ?_)
    · unfold C_law_1
      obtain ⟨g1, _, g3, _⟩ := hT.2 row hrow
      rw [turned2_eq g1 (by omega)]
      rfl
    refine w_eqN (machine_eq hT.rev st1 st4) ?_
    rw [show (ts.map fun row => row.reverse) = ts.map List.reverse from rfl, macOf_rev hT]
    refine w_eq (machine_text_eq hT st4) (w_eq (law_is_eq _ _) (w_call (R := fun b => b = false) (w_iff (by simp) (w_eq (machine_text_eq hT st4) (w_eq (law_is_eq _ _) (w_rt (by simp))))) fun b hb => w_iff hb ?_))
    obtain ⟨e1, e2⟩ := view_text_eq (a := va) (b := vb) hos p6 va0 (by omega) vb0 (by omega) hhint
    refine w_eq e1 (w_eq e2 (w_eq (law_is_eq _ _) (w_iff (by simp) ?_)))
    obtain ⟨w0, g1, _, g3, g4⟩ := hsq.row (a := 0) (by omega)
    have ew : atI (fw p m) 0 = some w0 := by
      rw [atI_of (by decide) (by have := hsq.1; omega), ← g1]
      exact (List.getElem?_eq_getElem (by have := hsq.1; omega)).symm
    have how : OffOk p w0 := ⟨g3, fun x hx => by have := g4 x hx; omega⟩
    have efv : T_first_view (sysOf p m q) = .rt (0, 0, w0, ()) := by
      unfold T_first_view T_first_offsets
      rw [show (sysOf p m q).ways = fw p m from rfl, ew]
      rfl
    have hw0 := offw_le how
    have hj0 := jn_len [44] 3 (w0.map iT) hw0
    rw [List.length_map] at hj0
    simp only [List.length_singleton] at hj0
    refine w_eq efv (w_eq (view_text2_eq how p6 (by decide) (by decide) (by decide) (by decide)) (w_o ew (w_eq (str_comp (fun x h0 h1 => by unfold C_law_2; rw [strI_eq h0 h1]; rfl) how.2 (by omega)) ?_)))
    dsimp only
    rw [lS ",", show lit "," = [44] by decide +kernel, lS "0 0 ", lS " -"]
    have l4 : (lit "0 0 ").length = 4 := by decide +kernel
    have l2 : (lit " -").length = 2 := by decide +kernel
    refine w_o (join_eq 3 hw0 (by rw [List.length_map]; simp only [List.length_singleton]; omega)) (w_o (cat_eq (by omega)) (w_o (cat_eq (by rw [List.length_append]; omega)) (w_eq (law_is_eq _ _) (w_iff ?_ ?_))))
    · have : viewT 0 0 w0 [45] = lit "0 0 " ++ jn [44] (w0.map iT) ++ lit " -" := by
        unfold viewT
        rw [show lit "0 0 " = iT 0 ++ [32] ++ iT 0 ++ [32] by decide +kernel, show lit " -" = [32] ++ [45] by decide +kernel]
        simp
      rw [this]
      simp
    have c3 := iT_le (i := 1 + c) (by omega) (by omega)
    refine w_o (strI_eq (by omega) (by omega)) ?_
    rw [lS "post 0 ", lS "\npost 0 0\nrequest day 1 0\nrequest over 0 -\n"]
    have l7 : (lit "post 0 ").length = 7 := by decide +kernel
    have l44 : (lit "\npost 0 0\nrequest day 1 0\nrequest over 0 -\n").length ≤ 100 := by decide +kernel
    refine w_o (cat_eq (by omega)) (w_o (cat_eq (by rw [List.length_append]; omega)) ?_)
    refine w_eq (renting_eq (c := 1 + c) (by omega) (by omega)) ?_
    rw [text2_eq]
    refine w_eq (system_text_eq (rentM_ok (by omega) (by omega)) (by decide) (by decide) rentQ_ok) (w_eq (law_is_eq _ _) (w_rt ?_))
    have := rent_text ⟨(1 + c).toNat, by omega⟩
    rw [show ((⟨(1 + c).toNat, by omega⟩ : Fin 10).val : Int) = 1 + c from by simp; omega] at this
    rw [this]
    simp
  obtain ⟨v, e, rfl⟩ := wr_iff.mp key
  exact e
theorem says : Says 63 F_law := fun ns _ _ => by
  have h := (tk_law ns).h
  rw [law_true] at h
  obtain ⟨d, ps, h1, h2⟩ := h
  refine ⟨ps, ?_⟩
  rw [show scrD ns = eQ false .scr eI ns from rfl, h1, h2]
end LawP

set_option maxHeartbeats 0
open PySem PySem.W PySem.Calls PyProof.Rows
theorem PySem.Challenge.cw_hintslie_k85_texts_by_hand_holds : PySem.Challenge.rw_hintslie_k85_texts_by_hand.Holds := by
  w_on; o_law
  refine HandSHeadRun.head_any (r := OpenLaw.row PySem.Challenge.rw_hintslie_k85_texts_by_hand) (q := LawP.qv) (H := LawP.hk) (ob := LawP.ob) (M := 6000) (loose := LawP.loose) (d := HandSHeadRun.topDef (OpenLaw.row PySem.Challenge.rw_hintslie_k85_texts_by_hand).prog 56) (kwd := []) LawP.ob_eq
    (by kernel_rfl) (fun s => by kernel_rfl) LawP.run (by kernel_rfl) (by kernel_rfl) (by kernel_rfl) (by rfl) (by first | assumption | decide +kernel) (by decide +kernel) ⟨rfl, rfl, rfl, rfl, rfl, by decide +kernel⟩ ?hw ?hc
  case hw => w_witness2
  case hc =>
    refine DL.walk_DL (l := PySem.Challenge.rw_hintslie_k85_texts_by_hand) (n := 63) (k := 8) (x := "script") (F := LawP.F_law) rfl (by decide) (by kernel_rfl) ⟨rfl, by decide, by decide⟩ LawP.says ?F
    intro w mg fa h Y G hmg0
    obtain ⟨K, KX, c⟩ := Y
    have hmg : mg ("law" : PySem.Str) = some (.ref fa) := by
      have e : (HandSHeadRun.topDef (OpenLaw.row PySem.Challenge.rw_hintslie_k85_texts_by_hand).prog 56).name = ("law" : PySem.Str) := by kernel_rfl
      rw [← e]
      exact hmg0
    have T : DL.Tp K mg LawP.fa LawP.fn := ⟨c, h, KX, G⟩
    have ef : fa = He.ga K "law" := by
      have := hmg.symm.trans (T.glo 70)
      simpa using this
    subst ef
    obtain ⟨fd, hb, hF⟩ := LawP.law_ok (P := (PySem.Challenge.rw_hintslie_k85_texts_by_hand).prog) (w := w) T
    exact ⟨K, fd, LawP.NN K, KX, fun s u => hb s [u] rfl, fun base _ _ => hF base⟩

